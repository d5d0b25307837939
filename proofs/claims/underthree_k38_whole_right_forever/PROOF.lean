import PyProof.Rows.All
import Wide.All
import OpenK.AllK
import Wide.FinOn
import KE.KStateDown
import Lean
import HandS.Base
import HandS.Call
import HandS.Ends
import HandS.More
import HandS.Words
import HandS.WordsExc
import HandS.Defaults
import HandS.ExcInit
import HandS.ExcField
import HandS.TryMany
import HandS.Head0
import HandS.Head1
import HandS.Head2
import HandS.HeadEnd
import HandS.HeadHook1
import HandS.HeadHook2
import PySem.Challenge.RW_underthree_k38_whole_right_forever
import KE.GoesEnum
import KE.KRevSl
import HandS.List
import HandS.Comp
import HandS.Iter
import HandS.Walk
import HandS.WordsList
import HandS.Exc
import HandS.ExcOwn
import HandS.TryOnly
import HandS.CallSlots
import HandS.IsInst
import HandS.Deep
import HandS.TupMul
import HandS.TupAny
import HandS.Conv
import HandS.Flow
import HandS.Style
import HandS.Sort
import HandS.SortInts
set_option Elab.async false
set_option linter.all false
set_option maxRecDepth 100000
set_option maxHeartbeats 0
/-! the plain mathematics of programs on words -/
namespace U3

abbrev Row := List Nat
structure Prog where
  regs : Nat
  phases : List (List Row × Option Nat)
abbrev Wd := List Nat
/-- what the registers hold -/
abbrev Rg := Nat → Option Wd
def setR (s : Rg) (r : Nat) (w : Option Wd) : Rg := fun k => if k = r then w else s k
def cat2 : Option Wd → Option Wd → Option Wd
  | some a, some b => some (a ++ b)
  | _, _ => none
def made (s : Rg) : Row → Option Wd
  | [_, b] => s b
  | [_, b, c] => cat2 (s b) (s c)
  | _ => none
def doRow (s : Rg) (row : Row) : Rg := setR s (row.headD 0) (made s row)
def doRows (s : Rg) (rows : List Row) : Rg := rows.foldl doRow s
/-- the phase of the step v + 1 -/
def phaseAt (p : Prog) (v : Nat) : List Row × Option Nat := p.phases.getD (v % p.phases.length) ([], none)
def stepSt (p : Prog) (v : Nat) (s : Rg) : Rg := doRows (setR s 0 (some [v])) (phaseAt p v).1
/-- behind v steps -/
def stAt (p : Prog) : Nat → Rg
  | 0 => fun _ => none
  | v + 1 => stepSt p v (stAt p v)
/-- what is told in step v + 1 -/
def tellAt (p : Prog) (v : Nat) : Option Wd := (phaseAt p v).2.bind (stAt p (v + 1))

/-! ### the words' elements -/
def Sound (v : Nat) (s : Rg) : Prop := ∀ r w, s r = some w → w ≠ [] ∧ ∀ x ∈ w, x < v
theorem Sound.set {v : Nat} {s : Rg} (h : Sound v s) {r : Nat} {o : Option Wd} (ho : ∀ w, o = some w → w ≠ [] ∧ ∀ x ∈ w, x < v) : Sound v (setR s r o) := by
  intro k w e
  unfold setR at e
  split at e
  · exact ho w e
  · exact h k w e
theorem Sound.mono {v v' : Nat} {s : Rg} (h : Sound v s) (l : v ≤ v') : Sound v' s := fun r w e => ⟨(h r w e).1, fun x hx => Nat.lt_of_lt_of_le ((h r w e).2 x hx) l⟩
theorem cat2_some {a b : Option Wd} {w : Wd} (h : cat2 a b = some w) : ∃ x y, a = some x ∧ b = some y ∧ w = x ++ y := by
  cases a with
  | none => simp [cat2] at h
  | some x => cases b with
    | none => simp [cat2] at h
    | some y => simp [cat2] at h; exact ⟨x, y, rfl, rfl, h.symm⟩
theorem Sound.made {v : Nat} {s : Rg} (h : Sound v s) (row : Row) : ∀ w, made s row = some w → w ≠ [] ∧ ∀ x ∈ w, x < v := by
  intro w e
  unfold U3.made at e
  split at e
  · exact h _ w e
  · obtain ⟨x, y, ha, hb, rfl⟩ := cat2_some e
    obtain ⟨n1, l1⟩ := h _ _ ha
    obtain ⟨n2, l2⟩ := h _ _ hb
    refine ⟨by simp [n1], fun z hz => ?_⟩
    rcases List.mem_append.mp hz with q | q
    · exact l1 z q
    · exact l2 z q
  · cases e
theorem Sound.row {v : Nat} {s : Rg} (h : Sound v s) (row : Row) : Sound v (doRow s row) := h.set (h.made row)
theorem Sound.rows {v : Nat} : ∀ (rows : List Row) {s : Rg}, Sound v s → Sound v (doRows s rows)
  | [], _, h => h
  | r :: rs, _, h => Sound.rows rs (h.row r)
theorem Sound.step {v : Nat} {s : Rg} (p : Prog) (h : Sound v s) : Sound (v + 1) (stepSt p v s) :=
  Sound.rows _ ((h.mono (Nat.le_succ v)).set fun w e => by cases e; simp)
theorem sound_at (p : Prog) : ∀ v, Sound v (stAt p v)
  | 0 => fun r w e => by cases e
  | v + 1 => (sound_at p v).step p
theorem sound_tell {p : Prog} {v : Nat} {w : Wd} (h : tellAt p v = some w) : w ≠ [] ∧ ∀ x ∈ w, x < v + 1 := by
  unfold tellAt at h
  cases e : (phaseAt p v).2 with
  | none => rw [e] at h; cases h
  | some r =>
    rw [e] at h
    exact sound_at p (v + 1) r w h

/-! ### a round later -/
def Later (P : Nat) (s t : Rg) : Prop := ∀ r w, s r = some w → t r = some (w.map (· + P))
theorem Later.set {P : Nat} {s t : Rg} (h : Later P s t) {r : Nat} {a b : Option Wd} (hab : ∀ w, a = some w → b = some (w.map (· + P))) : Later P (setR s r a) (setR t r b) := by
  intro k w e
  unfold setR at e ⊢
  split
  · rename_i hk
    rw [if_pos hk] at e
    exact hab w e
  · rename_i hk
    rw [if_neg hk] at e
    exact h k w e
theorem Later.made {P : Nat} {s t : Rg} (h : Later P s t) (row : Row) : ∀ w, made s row = some w → made t row = some (w.map (· + P)) := by
  intro w e
  unfold U3.made at e ⊢
  split at e
  · exact h _ w e
  · obtain ⟨x, y, ha, hb, rfl⟩ := cat2_some e
    simp only [h _ _ ha, h _ _ hb, cat2, List.map_append]
  · cases e
theorem Later.rows {P : Nat} : ∀ (rows : List Row) {s t : Rg}, Later P s t → Later P (doRows s rows) (doRows t rows)
  | [], _, _, h => h
  | r :: rs, _, _, h => Later.rows rs (h.set (h.made r))
theorem phase_later (p : Prog) (v : Nat) : phaseAt p (v + p.phases.length) = phaseAt p v := by
  unfold phaseAt
  rw [Nat.add_mod_right]
theorem later_at (p : Prog) : ∀ v, Later p.phases.length (stAt p v) (stAt p (v + p.phases.length))
  | 0 => fun r w e => by cases e
  | v + 1 => by
    have e : v + 1 + p.phases.length = (v + p.phases.length) + 1 := by omega
    rw [e]
    show Later _ (stepSt p v _) (stepSt p (v + p.phases.length) _)
    unfold stepSt
    rw [phase_later]
    refine Later.rows _ ((later_at p v).set fun w e => ?_)
    cases e
    rfl
theorem tell_later {p : Prog} {v : Nat} {w : Wd} (h : tellAt p v = some w) : tellAt p (v + p.phases.length) = some (w.map (· + p.phases.length)) := by
  unfold tellAt at h ⊢
  rw [phase_later]
  cases e : (phaseAt p v).2 with
  | none => rw [e] at h; cases h
  | some r =>
    rw [e] at h
    have q := later_at p (v + 1) r w h
    have e2 : v + p.phases.length + 1 = v + 1 + p.phases.length := by omega
    show stAt p (v + p.phases.length + 1) r = _
    rw [e2]
    exact q

/-! ### what is due -/
def due (width step : Nat) : Wd := List.range' (step - width) width
/-- at the step (from 1 on) what is due is told -/
def right (p : Prog) (width step : Nat) : Bool := tellAt p (step - 1) == some (due width step)
theorem map_range (a n P : Nat) : (List.range' a n).map (· + P) = List.range' (a + P) n := by
  have : (fun x => x + P) = (fun x => P + x) := by funext x; omega
  rw [this, List.map_add_range', Nat.add_comm]
theorem right_later {p : Prog} {width step : Nat} (hw : 1 ≤ step) (hws : width ≤ step) (h : right p width step = true) : right p width (step + p.phases.length) = true := by
  unfold right at h ⊢
  have h1 := tell_later (beq_iff_eq.mp h)
  have e : step - 1 + p.phases.length = step + p.phases.length - 1 := by omega
  rw [e] at h1
  rw [h1]
  unfold due
  rw [map_range]
  have e2 : step - width + p.phases.length = step + p.phases.length - width := by omega
  rw [e2]
  exact beq_self_eq_true _
theorem right_laters {p : Prog} {width step : Nat} (hw : 1 ≤ step) (hws : width ≤ step) (h : right p width step = true) : ∀ k, right p width (step + k * p.phases.length) = true
  | 0 => by simpa using h
  | k + 1 => by
    have q := right_later (by omega) (by omega) (right_laters hw hws h k)
    have e : step + k * p.phases.length + p.phases.length = step + (k + 1) * p.phases.length := by
      rw [Nat.succ_mul]; omega
    rw [e] at q
    exact q

/-! ### spans -/
def spanW (w : Wd) : Option (Nat × Nat) := if w = List.range' (w.headD 0) w.length then some (w.headD 0, w.headD 0 + w.length) else none
def met : Option (Nat × Nat) → Option (Nat × Nat) → Option (Nat × Nat)
  | some (a, b), some (c, d) => if b = c then some (a, d) else none
  | _, _ => none
theorem spanW_some {w : Wd} {a b : Nat} (h : spanW w = some (a, b)) : w = List.range' a w.length ∧ b = a + w.length := by
  unfold spanW at h
  split at h
  · rename_i e
    simp only [Option.some.injEq, Prod.mk.injEq] at h
    obtain ⟨rfl, rfl⟩ := h
    exact ⟨e, rfl⟩
  · cases h
theorem spanW_range {a n : Nat} (hn : 0 < n) : spanW (List.range' a n) = some (a, a + n) := by
  cases n with
  | zero => omega
  | succ n =>
    unfold spanW
    have e : (List.range' a (n + 1)).headD 0 = a := by simp [List.range'_succ]
    rw [e, List.length_range', if_pos rfl]
theorem range'_split {a n m : Nat} {x y : Wd} (h : x ++ y = List.range' a (n + m)) (hx : x.length = n) : x = List.range' a n ∧ y = List.range' (a + n) m := by
  have e := List.range'_append (s := a) (m := n) (n := m) (step := 1)
  rw [Nat.one_mul] at e
  rw [← e] at h
  exact List.append_inj h (by simp [hx])
theorem spanW_cat {x y : Wd} (hx : x ≠ []) (hy : y ≠ []) : spanW (x ++ y) = met (spanW x) (spanW y) := by
  have lx : 0 < x.length := List.length_pos_iff.mpr hx
  have ly : 0 < y.length := List.length_pos_iff.mpr hy
  cases e : spanW (x ++ y) with
  | some ab =>
    obtain ⟨a, b⟩ := ab
    obtain ⟨h1, h2⟩ := spanW_some e
    rw [List.length_append] at h1 h2
    obtain ⟨e1, e2⟩ := range'_split h1 rfl
    rw [e1, e2, spanW_range lx, spanW_range ly]
    simp only [met, List.length_range', if_pos]
    rw [h2, Nat.add_assoc]
  | none =>
    cases ex : spanW x with
    | none => rfl
    | some ab =>
      cases ey : spanW y with
      | none => rfl
      | some cd =>
        obtain ⟨a, b⟩ := ab
        obtain ⟨c, d⟩ := cd
        obtain ⟨h1, h2⟩ := spanW_some ex
        obtain ⟨h3, h4⟩ := spanW_some ey
        show none = if b = c then some (a, d) else none
        by_cases hbc : b = c
        · exfalso
          subst hbc
          have e1 := List.range'_append (s := a) (m := x.length) (n := y.length) (step := 1)
          rw [Nat.one_mul] at e1
          have : x ++ y = List.range' a (x.length + y.length) := by
            rw [← e1, ← h2, ← h1, ← h3]
          rw [this, spanW_range (by omega)] at e
          cases e
        · rw [if_neg hbc]
theorem take_cat (N : Nat) (a b : Wd) : (a.take N ++ b.take N).take N = (a ++ b).take N := by
  rw [List.take_append, List.take_append, List.take_take, List.take_take, List.length_take]
  congr 1
  · rw [Nat.min_self]
  · congr 1
    omega
/-- a word of elements below S, cut behind S + 1 -/
theorem spanW_take {w : Wd} {S N : Nat} (hw : w ≠ []) (hS : ∀ x ∈ w, x < S) (hN : S < N) : spanW (w.take N) = spanW w := by
  by_cases hl : w.length ≤ N
  · rw [List.take_of_length_le hl]
  · have key : ∀ u : Wd, (∀ x ∈ u, x < S) → N ≤ u.length → spanW u = none := by
      intro u hu hl
      cases e : spanW u with
      | none => rfl
      | some ab =>
        exfalso
        obtain ⟨a, b⟩ := ab
        obtain ⟨h1, _⟩ := spanW_some e
        have hm : a + u.length - 1 ∈ u := by
          rw [h1]
          rw [List.mem_range'_1]
          rw [← h1]
          omega
        have := hu _ hm
        omega
    rw [key w hS (by omega), key (w.take N) (fun x hx => hS x (List.mem_of_mem_take hx)) (by rw [List.length_take]; omega)]
theorem span_due {w : Wd} {width step : Nat} (hw : 1 ≤ width) (hs : width ≤ step) : (spanW w = some (step - width, step)) ↔ w = due width step := by
  constructor
  · intro h
    obtain ⟨h1, h2⟩ := spanW_some h
    have : w.length = width := by omega
    rw [this] at h1
    exact h1
  · intro h
    rw [h]
    unfold due
    rw [spanW_range hw]
    congr 2
    omega
theorem take_due {w : Wd} {width step N : Nat} (hs : width < N) : (w.take N = due width step) ↔ w = due width step := by
  constructor
  · intro h
    have hl : (w.take N).length = width := by rw [h]; simp [due]
    rw [List.length_take] at hl
    rw [List.take_of_length_le (by omega)] at h
    exact h
  · intro h
    have hl : w.length = width := by rw [h]; simp [due]
    rw [List.take_of_length_le (by omega)]
    exact h
end U3


namespace U3
/-! ### the wrong steps -/
/-- the asked steps up to n -/
def asked (width hop n : Nat) : List Nat := (List.range ((n + hop - width) / hop)).map fun j => width + j * hop
def wrongs (p : Prog) (width hop n : Nat) : List Nat := (asked width hop n).filter fun s => !right p width s
theorem asked_count {width hop n j : Nat} (hh : 1 ≤ hop) : j < (n + hop - width) / hop ↔ width + j * hop ≤ n := by
  rw [Nat.lt_div_iff_mul_lt (by omega)]
  omega
theorem mem_asked {width hop n s : Nat} (hh : 1 ≤ hop) : s ∈ asked width hop n ↔ width ≤ s ∧ s ≤ n ∧ hop ∣ (s - width) := by
  unfold asked
  simp only [List.mem_map, List.mem_range, asked_count hh]
  constructor
  · rintro ⟨j, h1, rfl⟩
    exact ⟨by omega, h1, ⟨j, by rw [Nat.mul_comm hop j]; omega⟩⟩
  · rintro ⟨h1, h2, k, hk⟩
    refine ⟨k, ?_, ?_⟩
    · rw [Nat.mul_comm k hop]; omega
    · rw [Nat.mul_comm k hop]; omega
theorem mem_wrongs {p : Prog} {width hop n s : Nat} (hh : 1 ≤ hop) : s ∈ wrongs p width hop n ↔ width ≤ s ∧ s ≤ n ∧ hop ∣ (s - width) ∧ right p width s = false := by
  unfold wrongs
  rw [List.mem_filter, mem_asked hh]
  simp only [Bool.not_eq_true', and_assoc]
theorem asked_prefix {width hop m n : Nat} (hmn : m ≤ n) : ∃ r, asked width hop n = asked width hop m ++ r := by
  unfold asked
  have h : (m + hop - width) / hop ≤ (n + hop - width) / hop := Nat.div_le_div_right (by omega)
  obtain ⟨k, hk⟩ := Nat.exists_eq_add_of_le h
  rw [hk, List.range_add, List.map_append]
  exact ⟨_, rfl⟩
/-- a wrong step of any later round has one a round earlier -/
theorem wrong_first {p : Prog} {width hop L m n : Nat} (hw : 1 ≤ width) (hh : 1 ≤ hop) (hL : 1 ≤ L) (hP : p.phases.length ∣ L) (hhL : hop ∣ L) (hm : m = width + L - 1) (hmn : m ≤ n) : (wrongs p width hop n).head? = (wrongs p width hop m).head? := by
  obtain ⟨r, hr⟩ := asked_prefix (width := width) (hop := hop) hmn
  have e : wrongs p width hop n = wrongs p width hop m ++ r.filter fun s => !right p width s := by
    unfold wrongs
    rw [hr, List.filter_append]
  cases hq : wrongs p width hop m with
  | cons a t => rw [e, hq]; rfl
  | nil =>
    have key : ∀ s, s ∈ wrongs p width hop n → False := by
      intro s
      induction s using Nat.strongRecOn with
      | _ s ih =>
        intro hs
        obtain ⟨h1, h2, h3, h4⟩ := (mem_wrongs hh).mp hs
        by_cases hsm : s ≤ m
        · have : s ∈ wrongs p width hop m := (mem_wrongs hh).mpr ⟨h1, hsm, h3, h4⟩
          rw [hq] at this
          cases this
        · refine ih (s - L) (by omega) ((mem_wrongs hh).mpr ⟨by omega, by omega, ?_, ?_⟩)
          · have : s - L - width = (s - width) - L := by omega
            rw [this]
            exact Nat.dvd_sub h3 hhL
          · cases hc : right p width (s - L) with
            | false => rfl
            | true =>
              obtain ⟨k, hk⟩ := hP
              have q := right_laters (p := p) (width := width) (step := s - L) (by omega) (by omega) hc k
              have e3 : s - L + k * p.phases.length = s := by
                rw [Nat.mul_comm]
                omega
              rw [e3, h4] at q
              cases q
    cases hz : wrongs p width hop n with
    | nil => rfl
    | cons a t => exact (key a (by rw [hz]; exact List.mem_cons_self)).elim
theorem wrongs_nil {p : Prog} {width hop L m n : Nat} (hw : 1 ≤ width) (hh : 1 ≤ hop) (hL : 1 ≤ L) (hP : p.phases.length ∣ L) (hhL : hop ∣ L) (hm : m = width + L - 1) (hmn : m ≤ n) : (wrongs p width hop n = []) ↔ (wrongs p width hop m = []) := by
  have h := wrong_first hw hh hL hP hhL hm hmn
  rw [← List.head?_eq_none_iff, ← List.head?_eq_none_iff, h]

/-! ### the round -/
/-- the law's own search -/
theorem lcm_found {P hop k : Nat} (hP : 1 ≤ P) (hh : 1 ≤ hop) (hd : hop ∣ P * (k + 1)) (hn : ∀ j, j < k → ¬ hop ∣ P * (j + 1)) : P * (k + 1) = Nat.lcm P hop := by
  have h1 : Nat.lcm P hop ∣ P * (k + 1) := Nat.lcm_dvd (Nat.dvd_mul_right _ _) hd
  obtain ⟨j, hj⟩ := Nat.dvd_lcm_left P hop
  have hpos : 0 < Nat.lcm P hop := Nat.lcm_pos (by omega) (by omega)
  have hj0 : j ≠ 0 := by
    rintro rfl
    rw [hj] at hpos
    simp at hpos
  have hle : Nat.lcm P hop ≤ P * (k + 1) := Nat.le_of_dvd (Nat.mul_pos (by omega) (by omega)) h1
  by_cases hjk : j - 1 < k
  · exfalso
    refine hn (j - 1) hjk ?_
    have : j - 1 + 1 = j := by omega
    rw [this, ← hj]
    exact Nat.dvd_lcm_right P hop
  · have hge : P * (k + 1) ≤ P * j := Nat.mul_le_mul_left P (by omega)
    omega
/-- some multiple does: it is looked for no longer than that -/
theorem lcm_bound {P hop k : Nat} (hP : 1 ≤ P) (hh : 1 ≤ hop) (hn : ∀ j, j < k → ¬ hop ∣ P * (j + 1)) : k < hop := by
  cases Nat.lt_or_ge k hop with
  | inl h => exact h
  | inr h =>
    exfalso
    refine hn (hop - 1) (by omega) ?_
    have : hop - 1 + 1 = hop := by omega
    rw [this]
    exact Nat.dvd_mul_left _ _
/-- the program's own: many // one * hop, one the greatest common divisor -/
theorem lcm_said {P hop : Nat} : P / Nat.gcd P hop * hop = Nat.lcm P hop := by
  unfold Nat.lcm
  exact Nat.div_mul_right_comm (Nat.gcd_dvd_left P hop) hop
end U3


namespace U3
open PySem PySem.Spec PyProof.Rows L2
/-! ### the text -/
def top (i : Nat) : Stmt := PySem.Challenge.pw_underthree_k38_whole_right_forever.main.body.getD i (.Pass ⟨0, 0, 0, 0⟩)
abbrev s_is_integer : Stmt := top 7
abbrev s_is_number : Stmt := top 8
abbrev s_is_program : Stmt := top 10
abbrev s_program_fault : Stmt := top 11
abbrev s_phase_fault : Stmt := top 12
abbrev s_is_kept_in : Stmt := top 13
abbrev s_row_stands : Stmt := top 14
abbrev s_judged_steady : Stmt := top 16
abbrev s_judged_kinds : Stmt := top 17
abbrev s_whole_round : Stmt := top 18
abbrev s_spans_met : Stmt := top 19
abbrev s_unroll : Stmt := top 20
abbrev s_told_list : Stmt := top 21
abbrev s_first_wrong : Stmt := top 22
abbrev s_round_of : Stmt := top 24
abbrev s_told_spans : Stmt := top 25
abbrev s_right_forever : Stmt := top 26
abbrev s_wrong_step : Stmt := top 27
abbrev s_wrong_told : Stmt := top 28
abbrev s_lets_wrong : Stmt := top 29
abbrev s_law_pool : Stmt := top 31
abbrev s_law_draw : Stmt := top 32
abbrev s_law_chords : Stmt := top 33
abbrev s_law_chain : Stmt := top 34
abbrev s_law_hopper : Stmt := top 35
abbrev s_law_ready : Stmt := top 36
abbrev s_law_line : Stmt := top 37
abbrev s_law_edited : Stmt := top 38
abbrev s_law_edit : Stmt := top 39
abbrev s_law_spoil : Stmt := top 40
abbrev s_law_renamed : Stmt := top 41
abbrev s_law_machine : Stmt := top 42
abbrev s_law_round : Stmt := top 43
abbrev s_law_wrong : Stmt := top 44
abbrev s_law_span : Stmt := top 45
abbrev s_law_same : Stmt := top 46
abbrev s_law_bad : Stmt := top 47
abbrev s_law_sparse : Stmt := top 48
abbrev s_law_random : Stmt := top 49
abbrev s_law_scene : Stmt := top 50
abbrev s_law_telling : Stmt := top 51
abbrev s_law_paper : Stmt := top 52
abbrev s_law_call : Stmt := top 53
abbrev s_law_papers : Stmt := top 54
abbrev s_law_refusals : Stmt := top 55
abbrev s_law : Stmt := top 56
abbrev s_initP : Stmt := inClass (top 4) 0
abbrev s_initN : Stmt := inClass (top 5) 0
/-! ### the head: facts by names -/
def d_is_integer : He.DefD := ⟨("is_integer", none), "is_integer", "is_integer", defArgs s_is_integer, defBody s_is_integer, defScope s_is_integer, [], []⟩
def d_is_number : He.DefD := ⟨("is_number", none), "is_number", "is_number", defArgs s_is_number, defBody s_is_number, defScope s_is_number, [], []⟩
def d_is_program : He.DefD := ⟨("is_program", none), "is_program", "is_program", defArgs s_is_program, defBody s_is_program, defScope s_is_program, [], []⟩
def d_program_fault : He.DefD := ⟨("program_fault", none), "program_fault", "program_fault", defArgs s_program_fault, defBody s_program_fault, defScope s_program_fault, [], []⟩
def d_phase_fault : He.DefD := ⟨("phase_fault", none), "phase_fault", "phase_fault", defArgs s_phase_fault, defBody s_phase_fault, defScope s_phase_fault, [], []⟩
def d_is_kept_in : He.DefD := ⟨("_is_kept_in", none), "_is_kept_in", "_is_kept_in", defArgs s_is_kept_in, defBody s_is_kept_in, defScope s_is_kept_in, [], []⟩
def d_row_stands : He.DefD := ⟨("_row_stands", none), "_row_stands", "_row_stands", defArgs s_row_stands, defBody s_row_stands, defScope s_row_stands, [], []⟩
def d_judged_steady : He.DefD := ⟨("judged_steady", none), "judged_steady", "judged_steady", defArgs s_judged_steady, defBody s_judged_steady, defScope s_judged_steady, [], []⟩
def d_judged_kinds : He.DefD := ⟨("judged_kinds", none), "judged_kinds", "judged_kinds", defArgs s_judged_kinds, defBody s_judged_kinds, defScope s_judged_kinds, [], []⟩
def d_whole_round : He.DefD := ⟨("whole_round", none), "whole_round", "whole_round", defArgs s_whole_round, defBody s_whole_round, defScope s_whole_round, [], []⟩
def d_spans_met : He.DefD := ⟨("spans_met", none), "spans_met", "spans_met", defArgs s_spans_met, defBody s_spans_met, defScope s_spans_met, [], []⟩
def d_unroll : He.DefD := ⟨("unroll", none), "unroll", "unroll", defArgs s_unroll, defBody s_unroll, defScope s_unroll, [], []⟩
def d_told_list : He.DefD := ⟨("told_list", none), "told_list", "told_list", defArgs s_told_list, defBody s_told_list, defScope s_told_list, [], []⟩
def d_first_wrong : He.DefD := ⟨("first_wrong", none), "first_wrong", "first_wrong", defArgs s_first_wrong, defBody s_first_wrong, defScope s_first_wrong, [], []⟩
def d_round_of : He.DefD := ⟨("round_of", none), "round_of", "round_of", defArgs s_round_of, defBody s_round_of, defScope s_round_of, [], []⟩
def d_told_spans : He.DefD := ⟨("told_spans", none), "told_spans", "told_spans", defArgs s_told_spans, defBody s_told_spans, defScope s_told_spans, [], []⟩
def d_right_forever : He.DefD := ⟨("right_forever", none), "right_forever", "right_forever", defArgs s_right_forever, defBody s_right_forever, defScope s_right_forever, [], []⟩
def d_wrong_step : He.DefD := ⟨("wrong_step", none), "wrong_step", "wrong_step", defArgs s_wrong_step, defBody s_wrong_step, defScope s_wrong_step, [], []⟩
def d_wrong_told : He.DefD := ⟨("wrong_told", none), "wrong_told", "wrong_told", defArgs s_wrong_told, defBody s_wrong_told, defScope s_wrong_told, [], []⟩
def d_lets_wrong : He.DefD := ⟨("lets_wrong", none), "lets_wrong", "lets_wrong", defArgs s_lets_wrong, defBody s_lets_wrong, defScope s_lets_wrong, [], []⟩
def d_law_pool : He.DefD := ⟨("_law_pool", none), "_law_pool", "_law_pool", defArgs s_law_pool, defBody s_law_pool, defScope s_law_pool, [], []⟩
def d_law_draw : He.DefD := ⟨("_law_draw", none), "_law_draw", "_law_draw", defArgs s_law_draw, defBody s_law_draw, defScope s_law_draw, [], []⟩
def d_law_chords : He.DefD := ⟨("_law_chords", none), "_law_chords", "_law_chords", defArgs s_law_chords, defBody s_law_chords, defScope s_law_chords, [], []⟩
def d_law_chain : He.DefD := ⟨("_law_chain", none), "_law_chain", "_law_chain", defArgs s_law_chain, defBody s_law_chain, defScope s_law_chain, [], []⟩
def d_law_hopper : He.DefD := ⟨("_law_hopper", none), "_law_hopper", "_law_hopper", defArgs s_law_hopper, defBody s_law_hopper, defScope s_law_hopper, [], []⟩
def d_law_ready : He.DefD := ⟨("_law_ready", none), "_law_ready", "_law_ready", defArgs s_law_ready, defBody s_law_ready, defScope s_law_ready, [], []⟩
def d_law_line : He.DefD := ⟨("_law_line", none), "_law_line", "_law_line", defArgs s_law_line, defBody s_law_line, defScope s_law_line, [], []⟩
def d_law_edited : He.DefD := ⟨("_law_edited", none), "_law_edited", "_law_edited", defArgs s_law_edited, defBody s_law_edited, defScope s_law_edited, [], []⟩
def d_law_edit : He.DefD := ⟨("_law_edit", none), "_law_edit", "_law_edit", defArgs s_law_edit, defBody s_law_edit, defScope s_law_edit, [], []⟩
def d_law_spoil : He.DefD := ⟨("_law_spoil", none), "_law_spoil", "_law_spoil", defArgs s_law_spoil, defBody s_law_spoil, defScope s_law_spoil, [], []⟩
def d_law_renamed : He.DefD := ⟨("_law_renamed", none), "_law_renamed", "_law_renamed", defArgs s_law_renamed, defBody s_law_renamed, defScope s_law_renamed, [], []⟩
def d_law_machine : He.DefD := ⟨("_law_machine", none), "_law_machine", "_law_machine", defArgs s_law_machine, defBody s_law_machine, defScope s_law_machine, [], []⟩
def d_law_round : He.DefD := ⟨("_law_round", none), "_law_round", "_law_round", defArgs s_law_round, defBody s_law_round, defScope s_law_round, [], []⟩
def d_law_wrong : He.DefD := ⟨("_law_wrong", none), "_law_wrong", "_law_wrong", defArgs s_law_wrong, defBody s_law_wrong, defScope s_law_wrong, [], []⟩
def d_law_span : He.DefD := ⟨("_law_span", none), "_law_span", "_law_span", defArgs s_law_span, defBody s_law_span, defScope s_law_span, [], []⟩
def d_law_same : He.DefD := ⟨("_law_same", none), "_law_same", "_law_same", defArgs s_law_same, defBody s_law_same, defScope s_law_same, [], []⟩
def d_law_bad : He.DefD := ⟨("_law_bad", none), "_law_bad", "_law_bad", defArgs s_law_bad, defBody s_law_bad, defScope s_law_bad, [], []⟩
def d_law_sparse : He.DefD := ⟨("_law_sparse", none), "_law_sparse", "_law_sparse", defArgs s_law_sparse, defBody s_law_sparse, defScope s_law_sparse, [], []⟩
def d_law_random : He.DefD := ⟨("_law_random", none), "_law_random", "_law_random", defArgs s_law_random, defBody s_law_random, defScope s_law_random, [], []⟩
def d_law_scene : He.DefD := ⟨("_law_scene", none), "_law_scene", "_law_scene", defArgs s_law_scene, defBody s_law_scene, defScope s_law_scene, [], []⟩
def d_law_telling : He.DefD := ⟨("_law_telling", none), "_law_telling", "_law_telling", defArgs s_law_telling, defBody s_law_telling, defScope s_law_telling, [], []⟩
def d_law_paper : He.DefD := ⟨("_law_paper", none), "_law_paper", "_law_paper", defArgs s_law_paper, defBody s_law_paper, defScope s_law_paper, [], []⟩
def d_law_call : He.DefD := ⟨("_law_call", none), "_law_call", "_law_call", defArgs s_law_call, defBody s_law_call, defScope s_law_call, [], []⟩
def d_law_papers : He.DefD := ⟨("_law_papers", none), "_law_papers", "_law_papers", defArgs s_law_papers, defBody s_law_papers, defScope s_law_papers, [], []⟩
def d_law_refusals : He.DefD := ⟨("_law_refusals", none), "_law_refusals", "_law_refusals", defArgs s_law_refusals, defBody s_law_refusals, defScope s_law_refusals, [], []⟩
def d_law : He.DefD := ⟨("law", none), "law", "law", defArgs s_law, defBody s_law, defScope s_law, [], []⟩
def d_initP : He.DefD := ⟨("InvalidPaper", some "__init__"), "__init__", "InvalidPaper.__init__", defArgs s_initP, defBody s_initP, defScope s_initP, [], []⟩
def d_initN : He.DefD := ⟨("NotUsable", some "__init__"), "__init__", "NotUsable.__init__", defArgs s_initN, defBody s_initN, defScope s_initN, [], []⟩
def fn1 : List He.DefD := [d_is_integer, d_is_number, d_is_program, d_program_fault, d_phase_fault, d_is_kept_in, d_row_stands, d_judged_steady, d_judged_kinds, d_whole_round, d_spans_met, d_unroll, d_told_list, d_first_wrong, d_round_of, d_told_spans, d_right_forever, d_wrong_step, d_wrong_told, d_lets_wrong, d_law_pool, d_law_draw, d_law_chords, d_law_chain]
def fn2 : List He.DefD := [d_law_hopper, d_law_ready, d_law_line, d_law_edited, d_law_edit, d_law_spoil, d_law_renamed, d_law_machine, d_law_round, d_law_wrong, d_law_span, d_law_same, d_law_bad, d_law_sparse, d_law_random, d_law_scene, d_law_telling, d_law_paper, d_law_call, d_law_papers, d_law_refusals, d_law, d_initP, d_initN]
def fn : List He.DefD := fn1 ++ fn2
def fa1 : List He.Fa := [.glo "is_integer", .glo "is_number", .glo "is_program", .glo "program_fault", .glo "phase_fault", .glo "_is_kept_in", .glo "_row_stands", .glo "judged_steady", .glo "judged_kinds", .glo "whole_round", .glo "spans_met", .glo "unroll", .glo "told_list", .glo "first_wrong", .glo "round_of", .glo "told_spans", .glo "right_forever", .glo "wrong_step", .glo "wrong_told", .glo "lets_wrong", .glo "_law_pool", .glo "_law_draw", .glo "_law_chords", .glo "_law_chain", .glo "_law_hopper"]
def fa2 : List He.Fa := [.glo "_law_ready", .glo "_law_line", .glo "_law_edited", .glo "_law_edit", .glo "_law_spoil", .glo "_law_renamed", .glo "_law_machine", .glo "_law_round", .glo "_law_wrong", .glo "_law_span", .glo "_law_same", .glo "_law_bad", .glo "_law_sparse", .glo "_law_random", .glo "_law_scene", .glo "_law_telling", .glo "_law_paper", .glo "_law_call", .glo "_law_papers", .glo "_law_refusals", .glo "law", .glo "InvalidPaper", .glo "NotUsable"]
def fa3 : List He.Fa := [.free "bool", .free "enumerate", .free "int", .free "isinstance", .free "len", .free "list", .free "max", .free "min", .free "range", .free "sorted", .free "str", .free "tuple"]
def fa : List He.Fa := fa1 ++ (fa2 ++ fa3)
def loose1 : List PySem.Str := ["UnderError", "PaperError", "AskError", "InvalidPaper", "NotUsable", "is_integer", "is_number", "is_program", "program_fault", "phase_fault", "_is_kept_in", "_row_stands", "judged_steady", "judged_kinds", "whole_round", "spans_met", "unroll", "told_list", "first_wrong", "round_of", "told_spans", "right_forever", "wrong_step", "wrong_told", "lets_wrong", "_law_pool"]
def loose2 : List PySem.Str := ["_law_draw", "_law_chords", "_law_chain", "_law_hopper", "_law_ready", "_law_line", "_law_edited", "_law_edit", "_law_spoil", "_law_renamed", "_law_machine", "_law_round", "_law_wrong", "_law_span", "_law_same", "_law_bad", "_law_sparse", "_law_random", "_law_scene", "_law_telling", "_law_paper", "_law_call", "_law_papers", "_law_refusals"]
def loose : List PySem.Str := loose1 ++ loose2
/-! ### the classes -/
/-- what is asked of an own exception class C with the two fields -/
def oexB (K : PySem.W.Frag) (C : Addr) : Bool := match K.lookup C with
  | some ⟨.type "type", _, .cls cd, sl⟩ => (match cd.mro, sl.toList with
    | .ref C' :: bm, [_, _, _, _, some (.builtin n), _] => C' == C && n == "ValueError.__new__" && !cd.hasDel && cd.hasDict && PySem.HandSPX.refsVE bm
    | _, _ => false)
  | _ => false
def excB (K : PySem.W.Frag) (x : Str) : Bool :=
  oexB K (He.ga K x) &&
  (He.eqO (PySem.W.findIn K (.ref (He.ga K x)) "__setattr__") (some (some (.builtin "object.__setattr__"))) &&
  (decide (PySem.W.subIn K (.ref (He.ga K x)) (.type "BaseException") = some true) &&
  (decide (PySem.W.typeIn K (.ref (He.ga K x)) = some (.type "type")) &&
  (PySem.W.keepIn K (.ref (He.ga K x)) &&
  (L2.xfB K (He.ga K x) &&
  (He.eqO (PySem.W.findIn K (.ref (He.ga K x)) "word") (some none) &&
  (He.eqO (PySem.W.findIn K (.ref (He.ga K x)) "at") (some none) &&
  (He.eqO (PySem.W.findIn K (.ref (He.ga K x)) "__init__") (some (some (.ref (He.ma K (He.ga K x) "__init__")))) &&
  decide (PySem.W.typeIn K (.ref (He.ma K (He.ga K x) "__init__")) = some (.type "function"))))))))))
def exmB (K : PySem.W.Frag) (x y : Str) (b : Bool) : Bool := decide (PySem.W.exmOne K (.ref (He.ga K x)) (.ref (He.ga K y)) = some b)
def exB (K : PySem.W.Frag) : Bool := excB K "NotUsable" && (excB K "InvalidPaper" && (exmB K "NotUsable" "NotUsable" true && (exmB K "InvalidPaper" "NotUsable" false && exmB K "InvalidPaper" "InvalidPaper" true)))
abbrev AlY : Type := He.AlD × Bool
def obsY (n : Nat) (g : Addr → Option Obj) : AlY := (He.obsD fa fn (He.frG g (He.asD g n)), exB (He.frG g (He.asD g n)))
def SaysY (K : PySem.W.Frag) : Prop := He.SaysD fa fn K ∧ exB K = true
def hookY (n : Nat) : PySem.W.Hook where
  α := AlY
  obs := fun s => obsY n s.heap.get?
  val := fun _ => (He.valD fn, true)
  says := fun _ h => ∃ K : PySem.W.Frag, K.In h ∧ SaysY K
  of := fun _ _ e => ⟨_, He.frG_in, congrArg Prod.fst e, congrArg Prod.snd e⟩
  keeps := fun _ _ _ ⟨K, hK, c⟩ k => ⟨K, PySem.W.Frag.In.keeps hK k, c⟩
abbrev R : PySem.W.OpenRow := PySem.W.OpenLaw.row PySem.Challenge.rw_underthree_k38_whole_right_forever
abbrev hk : PySem.W.Hook := hookY 4
def ob (s : PySem.W.SharedT) : AlY := obsY 4 (HandSHeadRun.getT s)
theorem ob_eq (s : PySem.W.SharedT) : ob s = hk.obs s.abs := by
  have e : HandSHeadRun.getT s = s.abs.heap.get? := funext (HandSHeadRun.getT_eq s)
  unfold ob
  rw [e]
  rfl
theorem run (w : World) : HandSHeadRun.RunEq R (PySem.W.view R.prog [56]) hk ob 12000 loose w := by
  intro os
  kernel_rfl
end U3


namespace U3
open PySem PySem.Spec PyProof.Rows L2
/-! ### rules of the layer that this program wants besides -/
section
variable {X : Cx}
/-- x in t, t a tuple of data of any depth -/
def rInT (K : PySem.W.Frag) : R2 := fun x y H Q => ∃ d ds, Dp K H x d ∧ Dp K H y (.tuple ds) ∧ SeqAt.shaped d = true ∧ SeqAt.shaped (.tuple ds) = true ∧ Q (.bl (ds.any fun z => PyData.eqv z d)) H
theorem op_inT (hu : X.A.units + 65 < cLine) : OpR X (compareOp .In) (rInT X.K) := by
  intro pins s σ H x y v u Q I rx ry h
  obtain ⟨d, ds, hd, he, sd, se, q⟩ := h
  obtain ⟨as, r1⟩ := Dp.reads I d x v hd rx
  obtain ⟨bs, r2⟩ := Dp.reads I (.tuple ds) y u he ry
  exact SeqAt.in_tuple_reads r2 r1 (SeqAt.canLay_of_shaped (d := .list ds) (by simpa [SeqAt.shaped, PyData.canLay0, PyData.depth] using se)) (SeqAt.canLay_of_shaped sd) (room_in_shaped sd hu) ⟨.bl _, H, I, rfl, q⟩
end
/-! enumerate(tuple) -/
/-- the tuple at a, each item in a new pair -/
def IteT (K : PySem.W.Frag) (a : Addr) : It :=
  ⟨fun i H => ∃ (xs : List V) (x : V), SqT K H a xs ∧ xs[i]? = some x, fun i H v H' => ∃ T x, v = .ref T ∧ H T = none ∧ H' = upd H T (.tup [.int (i : Nat), x]) ∧ ∀ xs, SqT K H a xs → xs[i]? = some x, fun i H => ∃ xs : List V, SqT K H a xs ∧ xs.length ≤ i⟩
theorem enumT_ne {h : Heap} {e it a : Addr} {i : Int} {old : Value} {its : Array Value} (he : IsEnum h e it i old) (p : h.IsTuple a its) : e ≠ a := by
  intro z
  subst z
  obtain ⟨o, ho, hc, _⟩ := p
  have he' : h.get? e = some _ := he
  rw [ho] at he'
  have z := Option.some.inj he'
  rw [z] at hc
  exact absurd hc (by simp)
theorem turn_enumT {P : Program} {w : World} {K : PySem.W.Frag} {elts : List Expr} {kk : Nat} {tpos : Pos} (a e it : Addr) :
    Turn P w K (.Tuple elts kk tpos) (IteT K a) [e, it] e (fun i h => (∃ old, IsEnum h e it ((i : Nat) : Int) old) ∧ h.IsTupleIter it a i ∧ e ≠ it ∧ a ≠ it) where
  mem := by simp
  obj := fun i h st b hb => by
    obtain ⟨⟨old, he⟩, ⟨o, ho, hc, hd⟩, _⟩ := st
    have e' : b = e ∨ b = it := by simpa using hb
    rcases e' with z | z
    · rw [z]; exact ⟨_, he, fun v q => nomatch q⟩
    · rw [z]; exact ⟨o, ho, fun v q => by rw [hd] at q; cases q⟩
  keep := fun i h h' st k => let ⟨⟨old, he⟩, hi, hne⟩ := st; ⟨⟨old, k e (by simp) _ he⟩, hi.at fun o q => k it (by simp) o q, hne⟩
  item := by
    intro X hP hw hK hc i pins s σ H E I hf st hg
    subst hP hw hK
    obtain ⟨⟨old, he⟩, hit, hne, hna⟩ := st
    obtain ⟨xs, x, hq, hx⟩ := hg
    obtain ⟨its, rv, p, hz⟩ := I.tuple hq
    have p : s.heap.IsTuple a its.toArray := p
    obtain ⟨u, hu, ru⟩ := rv.get hx
    have hel : e < s.heap.objs.size := Heap.lt_size he
    have hil : it < s.heap.objs.size := by obtain ⟨_, q, _⟩ := hit; exact Heap.lt_size q
    have hea := enumT_ne he p
    have hlt : i < its.toArray.size := by
      have : its[i]? = some u := hu
      obtain ⟨h1, _⟩ := List.getElem?_eq_some_iff.mp this
      simpa using h1
    refine wpAny_pyNext_enum_itemD (D := Draws.tuple (A := X.A.in1) (I.ok.hd hc) it a hna its.toArray) he ⟨hit, p⟩ hlt hne (by simp [hne, hea]) fun y h' tk hy ho hst hT hsz hk => ?_
    have ey : y = u := by
      have q1 : its.toArray[i]? = some y := hy
      have q2 : its.toArray[i]? = some u := by simpa using hu
      rw [q1] at q2
      exact Option.some.inj q2
    subst ey
    obtain ⟨hit', _⟩ := hst
    refine ⟨_, rfl, wpAny_letOwnedTupleGo_enum (s := { s with heap := h', toks := tk + 1 }) ho fun h'' he' sb => ?_⟩
    have hT2 : h''.get? s.heap.objs.size = some { cls := .type "tuple", data := .seq #[.int i tk, y] } := (sb.2 _ (Nat.ne_of_gt hel)).trans hT
    have new : ObjOk X.prog X.w (upd H s.heap.objs.size (.tup [.int (i : Nat), x])) h'' s.heap.objs.size (.tup [.int (i : Nat), x]) :=
      ⟨by show 2 ≤ sizeLine; decide, [.int i tk, y], .cons ⟨_, rfl⟩ (.cons ru .nil), ⟨_, hT2, rfl, _, rfl⟩⟩
    have I1 : Inv X pins σ (upd H s.heap.objs.size (.tup [.int (i : Nat), x])) { s with heap := h'', toks := tk + 1 } :=
      I.turnedNew (ch := [e, it]) (fun b ob hb q => (sb.2 b (fun z => hb (by simp [z]))).trans (hk b ob (fun z => hb (by simp [z])) (fun z => hb (by simp [z])) q)) hf (Nat.le_refl _) new
    refine ⟨.ref s.heap.objs.size, _, I1, rfl, ⟨_, x, rfl, I.hok.fresh (Nat.le_refl _), rfl, fun ys hy => by rw [I.tuple_inj hy hq]; exact hx⟩, ⟨⟨y, ?_⟩, hit'.at fun o q => (sb.2 it (Ne.symm hne)).trans q, hne, hna⟩, fun b hb => ?_⟩
    · have e1 : ((i + 1 : Nat) : Int) = (i : Int) + 1 := by omega
      rw [e1]; exact he'
    · have hb' : b < s.heap.objs.size := by
        have e' : b = e ∨ b = it := by simpa using hb
        rcases e' with z | z
        · rw [z]; exact hel
        · rw [z]; exact hil
      rw [upd_ne (Nat.ne_of_lt hb')]
      exact (hf b hb).1
  done := by
    intro X hP hw hK hc i pins s σ H E I hf st hg
    subst hP hw hK
    obtain ⟨⟨old, he⟩, hit, hne, hna⟩ := st
    obtain ⟨xs, hq, hx⟩ := hg
    obtain ⟨its, rv, p, hz⟩ := I.tuple hq
    have p : s.heap.IsTuple a its.toArray := p
    obtain ⟨f0, f1, f2, f3, f4, f5⟩ := hf it (by simp)
    have hl := rv.length
    have hT : s.TypeIs (.ref e) "enumerate" := ⟨_, he, rfl⟩
    have hh : X.A.in1.handled = none := I.ok.hd hc
    unfold pyNext
    refine wpAny_bind (wpAny_attempt (wpAny_callSpecial?_slot (name := Str.ofString "__next__") hT F.slot_enumerate_next
      (wpAny_call_entry F.slot_enumerate_next hT F.entry_enumerate_next ?_ (F.args_enumerate_next_1 _))))
    show wpAny _ _ (field (.ref e) 2 >>= _) _ _ _
    refine wpAny_bind (wpAny_field he rfl (x := .ref it) rfl ?_)
    refine wpAny_bind (wpAny_nextOf_tuple_end hh hit p (by simp; omega) fun h' x he' hx' => ?_)
    obtain ⟨o, ho, hcl⟩ := hx'
    refine wpAny_bind (wpAny_isInstance (T := "StopIteration") (b := true) ⟨o, ho, hcl⟩ isSubtype_stop ?_)
    exact wpAny_pure ⟨rfl, I.turned (t' := s.toks) (fun b o hb q => he' b o hb q) f0 f1 f3 f4 f5⟩
  self := fun A i s Q E st h => let ⟨⟨_, he⟩, _⟩ := st; wpAny_pyIter_enum he h

set_option maxHeartbeats 1000000 in
theorem meets_enumerate_newB1 {v : Value} {o : Obj} {H : Heap → Prop} (B : Begins v o H) :
    Meets (Builtin.«enumerate.__new__» ⟨[.type "enumerate", v], []⟩) (fun _ R s => H s.heap ∧
      R (.ok (.ret (.ref (s.heap.push o).objs.size))) { s with heap := (s.heap.push o).push { cls := .type "enumerate", data := .fields #[.none, .bool false, .ref s.heap.objs.size, rawInt 0, .none, .none] } }) :=
  .of_wp fun prog w A R s h => by
    obtain ⟨hp, g, d, tk, os⟩ := s; obtain ⟨h1, h⟩ := h
    have hsub := sub_enumerate
    have q1 : ∀ {A' : Around} {E : Value → Shared → Prop} {Q : Value → Shared → Prop}, Q (.ref hp.objs.size) ⟨hp.push o, g, d, tk, os⟩ → wpAny (model prog w) A' (pyIter v) Q E ⟨hp, g, d, tk, os⟩ :=
      fun q => B.iter prog w _ _ ⟨hp, g, d, tk, os⟩ _ h1 q
    wp_walk using q1
    refine wpAny_stack_any fun st => wpAny_pure ?_
    split
    · rename_i c _ _ _ _ _
      cases (c == Value.type "enumerate")
      · wp_walk using q1
        exact ⟨_, rfl, h⟩
      · wp_walk using q1
        exact ⟨_, rfl, h⟩
    · wp_walk using q1
      exact ⟨_, rfl, h⟩
section
variable {prog : Program} {w : World} {A : Around} {E : Value → Shared → Prop} {s : Shared}
/-- enumerate(v): its two new cells -/
theorem enum_begins1 {v : Value} {o : Obj} {H : Heap → Prop} {Q : Value → Shared → Prop} (B : Begins v o H) (h1 : H s.heap)
    (h : ∀ h', IsEnum h' (s.heap.objs.size + 1) s.heap.objs.size 0 .none → h'.get? s.heap.objs.size = some o → h'.objs.size = s.heap.objs.size + 2 →
      (∀ b o, s.heap.get? b = some o → h'.get? b = some o) → Q (.ref (s.heap.objs.size + 1)) { s with heap := h' }) :
    wpAny (model prog w) A (call (.type "enumerate") [v]) Q E s := by
  refine callType_new F.called_enumerate (by decide) (F.typeCall_enumerate_1 _) (F.newCall_enumerate_1 _) (fun obj => F.args_object_init_2 obj _) F.entry_enumerate_new
    (meets_enumerate_newB1 B) ⟨h1, ?_⟩
  have hz : (s.heap.push o).objs.size = s.heap.objs.size + 1 := Heap.size_push ..
  show _ ∧ _
  rw [hz]
  have he : IsEnum ((s.heap.push o).push { cls := .type "enumerate", data := .fields #[.none, .bool false, .ref s.heap.objs.size, rawInt 0, .none, .none] }) (s.heap.objs.size + 1) s.heap.objs.size 0 .none := by
    have := Heap.get?_push_size (s.heap.push o) (o := { cls := .type "enumerate", data := .fields #[.none, .bool false, .ref s.heap.objs.size, rawInt 0, .none, .none] }) rfl
    rw [hz] at this; exact this
  refine ⟨⟨_, he, rfl⟩, h _ he (Heap.get?_push_of_some _ (Heap.get?_push_size _ B.free)) (by rw [Heap.size_push, hz]) fun b o x => Heap.get?_push_of_some _ (Heap.get?_push_of_some _ x)⟩
end
def iEnumT (K : PySem.W.Frag) (ta : TA) : TI := fun σ H R => ta σ H fun vs H1 => ∃ a xs, vs = [.ref a] ∧ SqT K H1 a xs ∧ R (IteT K a) H1
theorem pi_enumT {X : Cx} {e : Expr} {ta : TA} {p pos tpos : Pos} {elts : List Expr} {kk : Nat} (hg : Gl X "enumerate") (hm : X.mg "enumerate" = none) (ha : PA X [e] ta) (hs : starEach [e] X.env = [(false, eval e X.env)] := by rfl) :
    PI X (.Tuple elts kk tpos) (.Call (.Name "enumerate" p) [e] [] pos) (iEnumT X.K ta) := by
  refine ⟨fun pins s σ H R I h => ?_⟩
  refine Call_ (ld_blt I hg hm boot_enumerate (PyProof.Rows.callWith_type1 (thn (ha.run pos pins s σ H _ I h) fun us s1 ⟨vs, H1, I1, r1, q1⟩ => ?_) hs rfl))
  obtain ⟨a, xs, ex, hq, q⟩ := q1
  subst ex
  cases r1 with
  | cons r rr =>
    cases rr
    cases r
    obtain ⟨its, rv, p', hz⟩ := I1.tuple hq
    have p' : s1.heap.IsTuple a its.toArray := p'
    have hal : a < s1.heap.objs.size := by obtain ⟨_, q, _⟩ := p'; exact Heap.lt_size q
    refine enum_begins1 (begins_tuple a its.toArray) p' fun h' he hit hsz hk => wpAny_pyIter_enum he ?_
    have I2 : Inv X pins σ H1 { s1 with heap := h' } := I1.kept (t' := s1.toks) hk
    refine ⟨s1.heap.objs.size + 1, [s1.heap.objs.size + 1, s1.heap.objs.size], _, _, H1, rfl, I2, turn_enumT a (s1.heap.objs.size + 1) s1.heap.objs.size, ⟨⟨.none, he⟩, ⟨_, hit, rfl, rfl⟩, Nat.succ_ne_self _, Nat.ne_of_lt hal⟩, fun b hb => ?_, q⟩
    have e' : b = s1.heap.objs.size + 1 ∨ b = s1.heap.objs.size := by simpa using hb
    have hle : s1.heap.objs.size ≤ b := by
      rcases e' with z | z
      · rw [z]; exact Nat.le_add_right _ _
      · rw [z]; exact Nat.le_refl _
    exact I1.fpOk hle (I1.hok.fresh hle)
theorem walk_enumT {K : PySem.W.Frag} {a : Addr} {xs : List V} : Walk (IteT K a) xs.length (fun H => SqT K H a xs) (YPair (fun i => some (.int (i : Nat))) (fun i => xs[i]?)) := by
  refine ⟨fun i _ hi q => ⟨xs, xs[i], q, by simp [hi]⟩, fun _ q => ⟨xs, q, Nat.le_refl _⟩, fun i H v H' _ q y => ?_⟩
  obtain ⟨T, x, h1, h2, h3, h4⟩ := y
  exact ⟨T, .int (i : Nat), x, h1, h2, h3, rfl, h4 xs q⟩

/-! tuple * int, the int from 0 on -/
theorem tuple_mul1 (l : Addr) (items : Array Value) (n : Nat) (dd : Option Addr) (sl : Array (Option Value)) (u : Tok) :
    Meets (Builtin.«tuple.__mul__» ⟨[.ref l, .int 1 u], []⟩) (fun _ R s => s.heap.get? l = some { cls := .type "tuple", dict := dd, data := .seq items n, slots := sl } ∧ R (.ok (.ret (Value.ref l))) s) :=
  .of_wp fun prog w A R s h => by
    obtain ⟨hp, g, d, tk, os⟩ := s
    obtain ⟨hl, h⟩ := h
    have f1 := AutoSeq1.idx_int
    have c1 : (items.isEmpty || (1 : Int) == 1) = true := by simp
    wp_walk using wpAny_loadPart' hl
    repeat (first
      | (refine wpAny_ite_true (decide_eq_true (by rw [c1])) ?_; wp_walk using wpAny_loadPart' hl)
      | (refine wpAny_ite_false (decide_eq_false (by decide)) ?_; wp_walk using wpAny_loadPart' hl))
    exact ⟨_, rfl, h⟩
theorem tuple_mul0 (l : Addr) (items : Array Value) (n : Nat) (dd : Option Addr) (sl : Array (Option Value)) (u : Tok) (hne : items.isEmpty = false) :
    Meets (Builtin.«tuple.__mul__» ⟨[.ref l, .int 0 u], []⟩) (fun _ R s => s.heap.get? l = some { cls := .type "tuple", dict := dd, data := .seq items n, slots := sl } ∧
      R (.ok (.ret (Value.ref s.heap.objs.size))) { s with heap := s.heap.push { cls := Value.type "tuple", data := Data.seq #[] }, toks := s.toks }) :=
  .of_wp fun prog w A R s h => by
    obtain ⟨hp, g, d, tk, os⟩ := s
    obtain ⟨hl, h⟩ := h
    have f1 := AutoSeq1.idx_int
    have c1 : (items.isEmpty || (0 : Int) == 1) = false := by rw [hne]; rfl
    have c2 : (decide ((0 : Int) ≤ 0) || items.isEmpty) = true := by simp
    wp_walk using wpAny_loadPart' hl
    repeat (first
      | (refine wpAny_ite_false (decide_eq_false (by rw [c1]; exact Bool.false_ne_true)) ?_; wp_walk using wpAny_loadPart' hl)
      | (refine wpAny_ite_true (decide_eq_true (by rw [c2])) ?_; wp_walk using wpAny_loadPart' hl)
      | (refine wpAny_ite_false (decide_eq_false (by decide)) ?_; wp_walk using wpAny_loadPart' hl))
    exact ⟨_, rfl, h⟩
end U3
namespace U3
open PySem PySem.Spec PyProof.Rows L2
section
variable {X : Cx}
/-- t * k, 0 ≤ k: nothing, t itself, or a new one -/
def rRepA (K : PySem.W.Frag) : R2 := fun x y H Q => ∃ l k xs, x = .ref l ∧ y = .int k ∧ SqT K H l xs ∧ xs ≠ [] ∧ 0 ≤ k ∧ k ≤ 1000 ∧ xs.length ≤ 1000 ∧
  (k = 1 → Q (.ref l) H) ∧ (k ≠ 1 → ∀ p, H p = none → Q (.ref p) (upd H p (.tup (List.replicate k.toNat xs).flatten)))
theorem op_repA : OpR X (binaryOp .Mult) (rRepA X.K) := by
  intro pins s σ H x y v u Q I rx ry h
  obtain ⟨l, k, xs, rfl, rfl, hT, hne, h0, h2, hz, q1, q⟩ := h
  by_cases hk2 : 2 ≤ k
  · exact op_repT pins s σ H _ _ v u Q I rx ry ⟨l, k, xs, rfl, rfl, hT, hne, hk2, h2, hz, q (by omega)⟩
  · cases rx
    obtain ⟨t, rfl⟩ := ry
    obtain ⟨its, r, ⟨⟨cls, dd, data, sl⟩, ho, hc, n, hd⟩, hs⟩ := I.tuple hT
    simp only at hc hd
    subst hc hd
    have hle : its.length = xs.length := r.length.symm
    have hn : its ≠ [] := fun e => hne (by
      rw [e] at hle
      exact List.eq_nil_of_length_eq_zero hle.symm)
    have hi : its.toArray.isEmpty = false := by
      cases its with
      | nil => exact absurd rfl hn
      | cons a b => rfl
    by_cases hk1 : k = 1
    · subst hk1
      refine wpAny_binaryOp_repeat_ref (T := "tuple") (U := "int") (by decide) ⟨_, ho, rfl⟩ (fun s' => typeIs_int s' 1 t) noFill_tuple_mul F.fills_int_mul F.slot_int_rmul repeat_tuple F.slot_int_index.lookup
        (call_meets F.slot_int_rmul (typeIs_int s 1 t) F.entry_int_rmul (F.args_int_rmul_2 _ _) (int_rmul_tuple 1 t l its.toArray n dd sl)
          ⟨ho, rfl, ⟨_, ho, rfl⟩, call_meets F.slot_tuple_mul ⟨_, ho, rfl⟩ F.entry_tuple_mul (F.args_tuple_mul_2 _ _) (tuple_mul1 l its.toArray n dd sl t) ⟨ho, ?_⟩⟩)
      exact ⟨.ref l, H, I, rfl, q1 rfl⟩
    · have hk0 : k = 0 := by omega
      subst hk0
      refine wpAny_binaryOp_repeat_ref (T := "tuple") (U := "int") (by decide) ⟨_, ho, rfl⟩ (fun s' => typeIs_int s' 0 t) noFill_tuple_mul F.fills_int_mul F.slot_int_rmul repeat_tuple F.slot_int_index.lookup
        (call_meets F.slot_int_rmul (typeIs_int s 0 t) F.entry_int_rmul (F.args_int_rmul_2 _ _) (int_rmul_tuple 0 t l its.toArray n dd sl)
          ⟨ho, rfl, ⟨_, ho, rfl⟩, call_meets F.slot_tuple_mul ⟨_, ho, rfl⟩ F.entry_tuple_mul (F.args_tuple_mul_2 _ _) (tuple_mul0 l its.toArray n dd sl t hi) ⟨ho, ?_⟩⟩)
      refine ⟨.ref s.heap.objs.size, _, I.laid (t' := s.toks) (o := .tup []) (fun b ob q => Heap.get?_push_of_some _ q) (Nat.le_refl _) ?_, rfl, ?_⟩
      · exact ⟨Nat.zero_le _, [], .nil, IsTup.new _ _⟩
      · exact q (by decide) _ (I.hok.fresh (Nat.le_refl _))

/-! xs[:0:-1] of two or three items -/
theorem pick_back : ∀ (its : List Value), its.length = 2 ∨ its.length = 3 → slicePick its.toArray none (some 0) (some (-1)) = (its.drop 1).reverse.toArray
  | [a, b], _ => by kernel_rfl
  | [a, b, c], _ => by kernel_rfl
  | [], h => by simp at h
  | [a], h => by simp at h
  | a :: b :: c :: d :: r, h => by simp at h
def tBackL (K : PySem.W.Frag) (te : TE) : TE := fun σ H Q => te σ H fun x H1 => ∃ a xs, x = .ref a ∧ SqL K H1 a xs ∧ (xs.length = 2 ∨ xs.length = 3) ∧ ∀ p, H1 p = none → Q (.ref p) (upd H1 p (.lst (xs.drop 1).reverse))
theorem pe_backL {e : Expr} {te : TE} {k k2 : Nat} {p0 p1 p2 p3 pos : Pos} (he : PE X e te) : PE X (.Subscript e (.Slice none (some (.Constant (.int 0) k2 p0)) (some (.UnaryOp .USub (.Constant (.int 1) k p1) p2)) p3) pos) (tBackL X.K te) := by
  refine ⟨fun pins s σ H Q I h => ?_⟩
  refine Subscript_ (thn (he.run pins s σ H _ I h) fun v s1 ⟨x, H1, I1, r1, q1⟩ => ?_)
  obtain ⟨a, xs, ex, hx, hlen2, q⟩ := q1
  subst ex
  cases r1
  have hst : PO X (some (.UnaryOp .USub (.Constant (.int 1) k p1) p2)) (tPart (tUn (rU fun i => .int (-i)) (tC (.int 1)))) := po_some (pe_un un_neg pe_int)
  have hhi : PO X (some (.Constant (.int 0) k2 p0)) (tPart (tC (.int 0))) := po_some pe_int
  refine wpAny_Slice (thn (po_none.run pins s1 σ H1 (fun o H2 => o = none ∧ H2 = H1) I1 ⟨rfl, rfl⟩) fun vl s2 ⟨l, H2, I2, pl, el, e2⟩ => ?_)
  subst el e2
  refine thn (hhi.run pins s2 σ H2 (fun o H3 => o = some 0 ∧ H3 = H2) I2 ⟨0, rfl, rfl, rfl⟩) fun vu s3 ⟨u, H3, I3, pu, eu, e3⟩ => ?_
  subst eu e3
  refine thn (hst.run pins s3 σ H3 (fun o H4 => o = some (-1) ∧ H4 = H3) I3 ⟨1, rfl, -1, rfl, rfl, rfl⟩) fun vs s4 ⟨o, H4, I4, ps, eo, e4⟩ => ?_
  subst eo e4
  have I5 : Inv X pins σ H4 { s4 with heap := s4.heap.push { cls := .type "slice", data := .fields #[vl, vu, vs] } } := I4.kept (t' := s4.toks) fun b ob q => Heap.get?_push_of_some _ q
  obtain ⟨its, r, ht, hz⟩ := I5.list hx
  have hlen := r.length
  show wpAny (model X.prog X.w) X.A (subscriptTail e (.Slice none (some (.Constant (.int 0) k2 p0)) (some (.UnaryOp .USub (.Constant (.int 1) k p1) p2)) p3) (.ref a) (.ref s4.heap.objs.size)) (EP X pins σ Q) X.xe { s4 with heap := s4.heap.push { cls := .type "slice", data := .fields #[vl, vu, vs] } }
  refine tail_any (ops := [.ref a, .ref s4.heap.objs.size]) ht.isList.typeIs (PySem.slot_list_getitem.lookup) ?_ (by with_unfolding_all rfl)
  refine wpAny_getItem_list_slice ht.isList (Heap.IsSliceOf.new _ vl vu vs) pl pu ps (by decide) ?_ (by rw [List.size_toArray]; omega)
  rw [pick_back its (by omega)]
  refine ⟨.ref _, _, I5.laid (t' := s4.toks) (o := .lst (xs.drop 1).reverse) (fun b ob q => Heap.get?_push_of_some _ q) (Nat.le_refl _) ?_, rfl, q _ (I5.hok.fresh (Nat.le_refl _))⟩
  exact ⟨by rw [List.length_reverse, List.length_drop]; omega, _, 0, (Vals.drop 1 r).reverse, Heap.get?_push_size _ rfl⟩

/-! f(k = v, ..), what is raised wished for at the caller's slots -/
def tCallK0 (sp : Sp) (gV : List V → List V → List V) (E : L2.St → XK) (tk : TA) : TE := fun σ H Q => tk σ H fun zs H1 => sp (gV [] zs) H1 Q (E σ)
variable {CX : CXT} {k : Nat} {f : Addr} {fd : FuncData} {ps ks : List Str} {sp : Sp} {E : L2.St → XK} {x : Str} {p pos : Pos} {kws : List Keyword} {tk : TA} {g : List Value → List Value → List Value} {gV : List V → List V → List V}
theorem pe_callK0 (F : FnOk X.prog X.w X.K X.mg X.base CX k f fd ps sp) (hr : Room k X.A) (hg : Gl X x) (hm : X.mg x = some (.ref f)) (hk : PySem.W.keepIn X.K (.ref f) = true) (hb : KBinds X.K fd ps ks g gV) (hx : ∀ σ, PassesAt CX X σ (E σ))
    (hkw : PK X kws tk) (hall : (backToKw pos (keywordEach kws X.env)).all (·.1.isSome) = true := by rfl) (hks : (backToKw pos (keywordEach kws X.env)).filterMap (·.1) = ks := by rfl)
    (hdb : (x == ("__debug__" : Str)) = false := by decide) (hpl : ((backTo pos (starEach [] X.env)).any (·.1) || (backToKw pos (keywordEach kws X.env)).any (·.1.isNone)) = false := by rfl) :
    PE X (.Call (.Name x p) [] kws pos) (tCallK0 sp gV E tk) := by
  refine ⟨fun pins s σ H Q I h => ?_⟩
  refine wpAny_Call_Name_kw (ld_glob I hg hm ?_ hdb)
  refine PySem.W.callWith_KW0 (h₀ := X.base) I.ok.mod.kin hk hall (thn (hkw.run pos pins s σ H _ I h) fun ws s2 ⟨zs, H2, I2, rz, q2⟩ => ⟨I2.kIn, ?_⟩) hpl
  rw [hks]
  have r2 := hb.rel .nil rz
  have hl : (g [] ws).length = ps.length := by rw [← r2.length]; exact F.len _ _ _ _ q2
  refine wpAny_call (codeAny_mono (F.run X.A X.stack s2 H2 ⟨[], ks.zip ws⟩ (g [] ws) (gV [] zs) Q (E σ) hr I2.env0 (hb.to s2 [] ws I2.kIn hl) r2 q2) fun r s' hq => ?_)
  cases r with
  | error e => exact hx σ pins H2 s2 e s' I2 hq
  | ok fl =>
    cases fl with
    | ret u => exact I2.after hq
    | next => exact False.elim hq
    | brk => exact False.elim hq
    | cont => exact False.elim hq
end

/-! several except clauses, each with the same name -/
/-- what the clauses wish of an exception of the body, one after the other; slot i is the name's -/
def wManyA (K : PySem.W.Frag) (i : Nat) (Wout : WX) (D : Ends) : List (Value × (Addr → Value → Option Addr → TS)) → WX
  | [] => Wout
  | (c, ts) :: r => fun cls d σ H => ∃ b, PySem.W.exmOne K cls c = some b ∧
      (b = true → ∀ a, H a = none → ts a cls d { nx := fun σ' H' => D.nx (σ'.set i none) H', rt := D.rt, bk := fun σ' H' => D.bk (σ'.set i none) H', ct := fun σ' H' => D.ct (σ'.set i none) H' } (σ.set i (some (.ref a))) H) ∧
      (b = false → wManyA K i Wout D r cls d σ H)
inductive HdsAs (X : Cx) (n : Str) : List ExceptHandler → List (Value × (Addr → Value → Option Addr → TS)) → Prop
  | nil : HdsAs X n [] []
  | cons {x : Str} {c : Value} {ts : Addr → Value → Option Addr → TS} {b₀ : Stmt} {suite : List Stmt} {np pos' : Pos} {hds : List ExceptHandler} {l : List (Value × (Addr → Value → Option Addr → TS))} (hc : Names X x c)
      (hsu : ∀ (a : Addr) (oe : Obj) (cls : Value) (d : Option Addr) (pn : List (Addr × Obj)), Zc cls d oe → (∃ vs, oe.data = .fields vs) → PSs (X.suite a ((a, oe) :: pn)) (b₀ :: suite) (ts a cls d)) (r : HdsAs X n hds l) :
      HdsAs X n (.ExceptHandler (some (.Name x np)) (some n) (b₀ :: suite) pos' :: hds) ((c, ts) :: l)
section
variable {X : Cx} {n : Str} {i : Nat} {body : List Stmt} {h₀ : ExceptHandler} {hds : List ExceptHandler} {l : List (Value × (Addr → Value → Option Addr → TS))} {pos : Pos} {tb : WX → TS} {Wout : WX}
theorem ps_try_manyA (hs : X.stack = X.env :: X.outer) (hf : X.env.frame = some X.env.locals) (hN : X.N.Nodup) (hi : X.N[i]? = some n) (hln : X.env.kindOf n = some .local) (tk : Takes X Wout)
    (hb : ∀ (W : WX) (pn : List (Addr × Obj)) (xe : Value → Shared → Prop), Takes (X.tr pn xe) W → PassesOwn (model X.prog X.w) X.A X.env xe → PSs (X.tr pn xe) body (tb W))
    (hh : HdsAs X n (h₀ :: hds) l) : PS X (.Try body (h₀ :: hds) [] [] pos) (fun D σ H => tb (wManyA X.K i Wout D l) D σ H) := by
  refine ⟨fun pins s σ H D I h => ?_⟩
  have ok := I.ok
  have hfr : X.A.frames = some (X.env :: X.outer) := by rw [ok.frames, hs]
  have hloc : Loc X.env.scope n := .inl hln
  refine wpAny_Try_except ?_
  refine wpAny_mono ((hb (wManyA X.K i Wout D l) (X.pn ++ pins) (fun e s₁ => wpAny (model X.prog X.w) X.A (noteFrame e X.env) (fun _ s₂ => wpAny (model X.prog X.w) X.A (setFlight e none) (fun _ s₃ =>
    wpAny (model X.prog X.w) X.A (handleBy e X.env (h₀ :: hds)) (SP X pins D) X.xe s₃) X.xe s₂) X.xe s₁) (fun u s' xx => ?_) PassesOwn.looking).run [] s σ H D (I.toTry _) h) (fun f s1 hsp => ?_) (fun e s1 he => he)
  · -- the catch
    obtain ⟨a, B, sI, pins', σ', H', cls, d, rfl, J', nb, up, sky, na, os, ag, w⟩ := xx
    have J : Inv X pins σ' H' sI := J'.ofTry ok
    have sky' : Sky B (X.env :: X.outer) a (Zc cls d) X.env.locals s'.heap := by rw [← hs]; exact sky
    show wpAny (model X.prog X.w) X.A (noteFrame (.ref a) X.env) _ _ _
    refine Sky.land Zc.steady hfr hf sky' fun h3 fl3 up3 => ?_
    have J3 : Inv X pins σ' H' { s' with heap := h3 } := J.landed nb fl3.1 (up.trans up3) os ag
    obtain ⟨oe3, vs3, he3, hz3, hd3⟩ := fl3.there
    have notFr : ∀ {h : Heap} {o : Obj} {vs : Array Value}, h.FunFrames B (X.env :: X.outer) → h.get? a = some o → o.data = .fields vs → a ∉ frs (X.env :: X.outer) := fun {h o vs} ff e dd hm => by
      obtain ⟨_, o', e', hnf⟩ := ff.mem hm
      rw [e] at e'; cases e'
      exact hnf _ dd
    have nfr := notFr fl3.2.2.1 he3 hd3
    have nL : a ≠ X.env.locals := fun z => nfr (List.mem_filterMap.mpr ⟨X.env, List.mem_cons_self, by rw [hf, z]⟩)
    have nF : a ∉ X.fs := fun hm => by
      obtain ⟨e, he, q⟩ := List.mem_filterMap.mp hm
      exact nfr (List.mem_filterMap.mpr ⟨e, List.mem_cons_of_mem _ he, q⟩)
    have S3 := J3.suite he3 hd3 na nL nF
    have go : ∀ {hds' : List ExceptHandler} {l' : List (Value × (Addr → Value → Option Addr → TS))}, HdsAs X n hds' l' → wManyA X.K i Wout D l' cls d σ' H' →
        wpAny (model X.prog X.w) X.A (handleBy (.ref a) X.env hds') (SP X pins D) X.xe { s' with heap := h3 } := by
      intro hds' l' hk
      induction hk with
      | nil =>
        intro w
        refine wpAny_handleBy_nil ?_
        obtain ⟨k1, k2, k3, oe, vs, T, oT, ts', he, hz, hd, h1, hr⟩ := id fl3
        unfold PySem.passOn
        refine wpAny_bind (wpAny_field he hd h1 ?_)
        rw [if_neg (show ¬ ((Value.ref T == Value.none) = true) from by simp)]
        have fin : wpAny (model X.prog X.w) X.A (setFlight (.ref a) X.env.frame) (fun _ s4 => wpAny (model X.prog X.w) X.A (throw (.ref a) : Sem Flow) (SP X pins D) X.xe s4) X.xe { s' with heap := h3 } := by
          rw [hf]
          refine HandSPX.setFlight_upZ fl3 fun h4 hh4 up4 => wpAny_throw (tk _ _ ?_)
          exact ⟨a, B, sI, pins, σ', H', cls, d, rfl, J, nb, (up.trans up3).trans up4, .inr (.inr (by rw [hs]; exact hh4)), na, os, ag, w⟩
        first
          | exact wpAny_bind (wpAny_pure (wpAny_bind fin))
          | exact wpAny_bind fin
      | @cons x c ts b₀ suite np pos' hds2 l2 hc hsu r ih =>
        intro w
        obtain ⟨b, hb1, hyes, hno⟩ := w
        refine wpAny_handleBy_cons (codeAny_handlers_test ?_) (by intro q; cases q)
        have LT : PySem.W.Looks (model X.prog X.w) h3 (typeOf (.ref a)) cls := fun A Q E s k q => wpAny_typeOf_ref (k _ _ he3) (by rw [hz3.1]; exact q)
        have LM := PySem.W.exm_one (M := model X.prog X.w) (J3.kIn) LT hb1
        have test : ∀ {Q : Value → Shared → Prop} {E : Value → Shared → Prop}, Q c { s' with heap := h3 } → wpAny (model X.prog X.w) (X.A.mark (some (.ref a))) (eval (.Name x np) X.env) Q E { s' with heap := h3 } := fun {Q E} q => by
          obtain ⟨hg, hdbg, hm | ⟨hm, hv, hnn⟩⟩ := hc
          · exact ld_glob (X := X.suite a ((a, oe3) :: (X.pn ++ pins))) S3 hg hm q hdbg
          · exact ld_blt (X := X.suite a ((a, oe3) :: (X.pn ++ pins))) S3 hg hm hv q hnn hdbg
        refine test (LM.here ?_)
        cases b with
        | true =>
          refine codeAny_handlers_suite_as ?_
          refine HandSPX.lands_againZ fl3 fun h4 fl4 up4 => ?_
          have J4 : Inv X pins σ' H' { s' with heap := h4 } := J.landed nb fl4.1 ((up.trans up3).trans up4) os ag
          obtain ⟨oe4, vs4, he4, hz4, hd4⟩ := fl4.there
          have S4 := J4.suite he4 hd4 na nL nF
          refine store_ok (X := X.suite a ((a, oe4) :: (X.pn ++ pins))) (v := .ref a) S4 hN hi hloc rfl (fun s5 S5 => ?_) (.inr hln)
          refine wpAny_mono ((hsu a oe4 cls d (X.pn ++ pins) hz4 ⟨_, hd4⟩).run [] s5 _ H' _ S5 (hyes rfl a na)) (fun f s6 hsp => ?_) (fun _ _ z => False.elim z)
          have end_ : ∀ {σ6 : L2.St} {H6 : Hp} {Q : Shared → Prop}, Inv (X.suite a ((a, oe4) :: (X.pn ++ pins))) [] σ6 H6 s6 → (∀ s7, Inv X pins (σ6.set i none) H6 s7 → Q s7) →
              wpAny (model X.prog X.w) X.A (do bindName X.env n .none; unbindBehindTheSuite X.env n pos') (fun _ s7 => Q s7) X.xe s6 := fun {σ6 H6 Q} S6 hq => gone_ok (S6.unsuite ok) hN hi hln hq
          cases f with
          | next =>
            obtain ⟨σ6, H6, S6, q6⟩ := hsp
            exact end_ S6 fun s7 J7 => ⟨_, _, J7, q6⟩
          | brk =>
            obtain ⟨σ6, H6, S6, q6⟩ := hsp
            exact end_ S6 fun s7 J7 => ⟨_, _, J7, q6⟩
          | cont =>
            obtain ⟨σ6, H6, S6, q6⟩ := hsp
            exact end_ S6 fun s7 J7 => ⟨_, _, J7, q6⟩
          | ret u =>
            obtain ⟨v6, σ6, H6, S6, r6, q6⟩ := hsp
            exact end_ S6 fun s7 J7 => ⟨_, _, _, J7, r6, q6⟩
        | false =>
          show wpAny _ X.A (handleBy (.ref a) X.env hds2) _ _ _
          exact ih (hno rfl)
    exact go hh w
  · cases f with
    | next =>
      obtain ⟨σ', H', J', q⟩ := hsp
      exact wpAny_execs_nil ⟨σ', H', J'.ofTry ok, q⟩
    | brk =>
      obtain ⟨σ', H', J', q⟩ := hsp
      exact ⟨σ', H', J'.ofTry ok, q⟩
    | cont =>
      obtain ⟨σ', H', J', q⟩ := hsp
      exact ⟨σ', H', J'.ofTry ok, q⟩
    | ret u =>
      obtain ⟨v, σ', H', J', r, q⟩ := hsp
      exact ⟨v, σ', H', J'.ofTry ok, r, q⟩
end
end U3


namespace U3
open PySem PySem.Spec PyProof.Rows L2
/-! ### what the top has left -/
def fdA (K : PySem.W.Frag) (f : Addr) : FuncData := match K.lookup f with
  | some ⟨_, _, .func fd, _⟩ => fd
  | _ => default
abbrev FnP (K : PySem.W.Frag) (x : Str) (st : Stmt) (f : Addr) (fd : FuncData) : Prop := FunD K x x (defArgs st) (defBody st) (defScope st) [] [] f fd
structure Txt (K : PySem.W.Frag) (mg : Str → Option Value) : Prop where
  says : SaysY K
  ns : ∃ h : Heap, K.In h ∧ h.Ns mainGlobals mg
section
variable {K : PySem.W.Frag} {mg : Str → Option Value}
theorem Txt.fact (T : Txt K mg) (i : Nat) {f : He.Fa} (h : fa[i]? = some f := by rfl) : f.ok K = true := T.says.1.fact i h
theorem Txt.g (T : Txt K mg) (i : Nat) {x : Str} (h : fa[i]? = some (.glo x) := by rfl) : mg x = some (.ref (He.ga K x)) := by
  obtain ⟨h0, X, G⟩ := T.ns
  exact He.glo_ok X G (T.fact i h)
theorem Txt.f (T : Txt K mg) (i : Nat) {x : Str} (h : fa[i]? = some (.free x) := by rfl) : mg x = none := by
  obtain ⟨h0, X, G⟩ := T.ns
  exact He.free_ok X G (T.fact i h)
theorem FunD.fdA {x qual : Str} {params : Arguments} {body : List Stmt} {scope : Scope} {dvs : List V} {kws : List (Str × V)} {f : Addr} {fd : FuncData} (F : FunD K x qual params body scope dvs kws f fd) : FunD K x qual params body scope dvs kws f (U3.fdA K f) := by
  obtain ⟨oc, od, dV, kV, doc, pm, an, cdv, ct, osl, e, lk, _⟩ := id F.ex
  have : U3.fdA K f = fd := by
    unfold U3.fdA
    rw [lk]
  rw [this]
  exact F
theorem Txt.fn (T : Txt K mg) (i : Nat) {d : He.DefD} (h : fn[i]? = some d := by rfl) : FunD K d.name d.qual d.params d.body d.scope (d.dvs K) (d.kws K) (He.fAd K d.at_) (fdA K (He.fAd K d.at_)) := by
  obtain ⟨fd, F⟩ := T.says.1.def_ i h
  exact FunD.fdA F
theorem Txt.g_is_integer (T : Txt K mg) : mg "is_integer" = some (.ref (He.ga K "is_integer")) := T.g 0
theorem Txt.F_is_integer (T : Txt K mg) : FnP K "is_integer" s_is_integer (He.ga K "is_integer") (fdA K (He.ga K "is_integer")) := T.fn 0
theorem Txt.b_is_integer (T : Txt K mg) : Binds K (fdA K (He.ga K "is_integer")) ["thing"] [] := T.F_is_integer.bindsN fun _ _ _ _ _ _ us hl => match us, hl with | [_], _ => rfl
theorem Txt.g_is_number (T : Txt K mg) : mg "is_number" = some (.ref (He.ga K "is_number")) := T.g 1
theorem Txt.F_is_number (T : Txt K mg) : FnP K "is_number" s_is_number (He.ga K "is_number") (fdA K (He.ga K "is_number")) := T.fn 1
theorem Txt.b_is_number (T : Txt K mg) : Binds K (fdA K (He.ga K "is_number")) ["thing"] [] := T.F_is_number.bindsN fun _ _ _ _ _ _ us hl => match us, hl with | [_], _ => rfl
theorem Txt.g_is_program (T : Txt K mg) : mg "is_program" = some (.ref (He.ga K "is_program")) := T.g 2
theorem Txt.F_is_program (T : Txt K mg) : FnP K "is_program" s_is_program (He.ga K "is_program") (fdA K (He.ga K "is_program")) := T.fn 2
theorem Txt.b_is_program (T : Txt K mg) : Binds K (fdA K (He.ga K "is_program")) ["thing"] [] := T.F_is_program.bindsN fun _ _ _ _ _ _ us hl => match us, hl with | [_], _ => rfl
theorem Txt.g_program_fault (T : Txt K mg) : mg "program_fault" = some (.ref (He.ga K "program_fault")) := T.g 3
theorem Txt.F_program_fault (T : Txt K mg) : FnP K "program_fault" s_program_fault (He.ga K "program_fault") (fdA K (He.ga K "program_fault")) := T.fn 3
theorem Txt.b_program_fault (T : Txt K mg) : Binds K (fdA K (He.ga K "program_fault")) ["thing"] [] := T.F_program_fault.bindsN fun _ _ _ _ _ _ us hl => match us, hl with | [_], _ => rfl
theorem Txt.g_phase_fault (T : Txt K mg) : mg "phase_fault" = some (.ref (He.ga K "phase_fault")) := T.g 4
theorem Txt.F_phase_fault (T : Txt K mg) : FnP K "phase_fault" s_phase_fault (He.ga K "phase_fault") (fdA K (He.ga K "phase_fault")) := T.fn 4
theorem Txt.b_phase_fault (T : Txt K mg) : Binds K (fdA K (He.ga K "phase_fault")) ["registers", "phase"] [] := T.F_phase_fault.bindsN fun _ _ _ _ _ _ us hl => match us, hl with | [_, _], _ => rfl
theorem Txt.g_is_kept_in (T : Txt K mg) : mg "_is_kept_in" = some (.ref (He.ga K "_is_kept_in")) := T.g 5
theorem Txt.F_is_kept_in (T : Txt K mg) : FnP K "_is_kept_in" s_is_kept_in (He.ga K "_is_kept_in") (fdA K (He.ga K "_is_kept_in")) := T.fn 5
theorem Txt.b_is_kept_in (T : Txt K mg) : Binds K (fdA K (He.ga K "_is_kept_in")) ["registers", "thing"] [] := T.F_is_kept_in.bindsN fun _ _ _ _ _ _ us hl => match us, hl with | [_, _], _ => rfl
theorem Txt.g_row_stands (T : Txt K mg) : mg "_row_stands" = some (.ref (He.ga K "_row_stands")) := T.g 6
theorem Txt.F_row_stands (T : Txt K mg) : FnP K "_row_stands" s_row_stands (He.ga K "_row_stands") (fdA K (He.ga K "_row_stands")) := T.fn 6
theorem Txt.b_row_stands (T : Txt K mg) : Binds K (fdA K (He.ga K "_row_stands")) ["registers", "row"] [] := T.F_row_stands.bindsN fun _ _ _ _ _ _ us hl => match us, hl with | [_, _], _ => rfl
theorem Txt.g_judged_steady (T : Txt K mg) : mg "judged_steady" = some (.ref (He.ga K "judged_steady")) := T.g 7
theorem Txt.F_judged_steady (T : Txt K mg) : FnP K "judged_steady" s_judged_steady (He.ga K "judged_steady") (fdA K (He.ga K "judged_steady")) := T.fn 7
theorem Txt.b_judged_steady (T : Txt K mg) : Binds K (fdA K (He.ga K "judged_steady")) ["width", "hop"] [] := T.F_judged_steady.bindsN fun _ _ _ _ _ _ us hl => match us, hl with | [_, _], _ => rfl
theorem Txt.g_judged_kinds (T : Txt K mg) : mg "judged_kinds" = some (.ref (He.ga K "judged_kinds")) := T.g 8
theorem Txt.F_judged_kinds (T : Txt K mg) : FnP K "judged_kinds" s_judged_kinds (He.ga K "judged_kinds") (fdA K (He.ga K "judged_kinds")) := T.fn 8
theorem Txt.b_judged_kinds (T : Txt K mg) : Binds K (fdA K (He.ga K "judged_kinds")) ["program", "width", "hop"] [] := T.F_judged_kinds.bindsN fun _ _ _ _ _ _ us hl => match us, hl with | [_, _, _], _ => rfl
theorem Txt.g_whole_round (T : Txt K mg) : mg "whole_round" = some (.ref (He.ga K "whole_round")) := T.g 9
theorem Txt.F_whole_round (T : Txt K mg) : FnP K "whole_round" s_whole_round (He.ga K "whole_round") (fdA K (He.ga K "whole_round")) := T.fn 9
theorem Txt.b_whole_round (T : Txt K mg) : Binds K (fdA K (He.ga K "whole_round")) ["program", "hop"] [] := T.F_whole_round.bindsN fun _ _ _ _ _ _ us hl => match us, hl with | [_, _], _ => rfl
theorem Txt.g_spans_met (T : Txt K mg) : mg "spans_met" = some (.ref (He.ga K "spans_met")) := T.g 10
theorem Txt.F_spans_met (T : Txt K mg) : FnP K "spans_met" s_spans_met (He.ga K "spans_met") (fdA K (He.ga K "spans_met")) := T.fn 10
theorem Txt.b_spans_met (T : Txt K mg) : Binds K (fdA K (He.ga K "spans_met")) ["one", "other"] [] := T.F_spans_met.bindsN fun _ _ _ _ _ _ us hl => match us, hl with | [_, _], _ => rfl
theorem Txt.g_unroll (T : Txt K mg) : mg "unroll" = some (.ref (He.ga K "unroll")) := T.g 11
theorem Txt.F_unroll (T : Txt K mg) : FnP K "unroll" s_unroll (He.ga K "unroll") (fdA K (He.ga K "unroll")) := T.fn 11
theorem Txt.b_unroll (T : Txt K mg) : Binds K (fdA K (He.ga K "unroll")) ["program", "many"] [] := T.F_unroll.bindsN fun _ _ _ _ _ _ us hl => match us, hl with | [_, _], _ => rfl
theorem Txt.g_told_list (T : Txt K mg) : mg "told_list" = some (.ref (He.ga K "told_list")) := T.g 12
theorem Txt.F_told_list (T : Txt K mg) : FnP K "told_list" s_told_list (He.ga K "told_list") (fdA K (He.ga K "told_list")) := T.fn 12
theorem Txt.b_told_list (T : Txt K mg) : Binds K (fdA K (He.ga K "told_list")) ["program", "many"] [] := T.F_told_list.bindsN fun _ _ _ _ _ _ us hl => match us, hl with | [_, _], _ => rfl
theorem Txt.g_first_wrong (T : Txt K mg) : mg "first_wrong" = some (.ref (He.ga K "first_wrong")) := T.g 13
theorem Txt.F_first_wrong (T : Txt K mg) : FnP K "first_wrong" s_first_wrong (He.ga K "first_wrong") (fdA K (He.ga K "first_wrong")) := T.fn 13
theorem Txt.b_first_wrong (T : Txt K mg) : Binds K (fdA K (He.ga K "first_wrong")) ["program", "width", "hop"] [] := T.F_first_wrong.bindsN fun _ _ _ _ _ _ us hl => match us, hl with | [_, _, _], _ => rfl
theorem Txt.g_round_of (T : Txt K mg) : mg "round_of" = some (.ref (He.ga K "round_of")) := T.g 14
theorem Txt.F_round_of (T : Txt K mg) : FnP K "round_of" s_round_of (He.ga K "round_of") (fdA K (He.ga K "round_of")) := T.fn 14
theorem Txt.b_round_of (T : Txt K mg) : Binds K (fdA K (He.ga K "round_of")) ["program", "hop"] [] := T.F_round_of.bindsN fun _ _ _ _ _ _ us hl => match us, hl with | [_, _], _ => rfl
theorem Txt.g_told_spans (T : Txt K mg) : mg "told_spans" = some (.ref (He.ga K "told_spans")) := T.g 15
theorem Txt.F_told_spans (T : Txt K mg) : FnP K "told_spans" s_told_spans (He.ga K "told_spans") (fdA K (He.ga K "told_spans")) := T.fn 15
theorem Txt.b_told_spans (T : Txt K mg) : Binds K (fdA K (He.ga K "told_spans")) ["program", "many"] [] := T.F_told_spans.bindsN fun _ _ _ _ _ _ us hl => match us, hl with | [_, _], _ => rfl
theorem Txt.g_right_forever (T : Txt K mg) : mg "right_forever" = some (.ref (He.ga K "right_forever")) := T.g 16
theorem Txt.F_right_forever (T : Txt K mg) : FnP K "right_forever" s_right_forever (He.ga K "right_forever") (fdA K (He.ga K "right_forever")) := T.fn 16
theorem Txt.b_right_forever (T : Txt K mg) : Binds K (fdA K (He.ga K "right_forever")) ["program", "width", "hop"] [] := T.F_right_forever.bindsN fun _ _ _ _ _ _ us hl => match us, hl with | [_, _, _], _ => rfl
theorem Txt.g_wrong_step (T : Txt K mg) : mg "wrong_step" = some (.ref (He.ga K "wrong_step")) := T.g 17
theorem Txt.F_wrong_step (T : Txt K mg) : FnP K "wrong_step" s_wrong_step (He.ga K "wrong_step") (fdA K (He.ga K "wrong_step")) := T.fn 17
theorem Txt.b_wrong_step (T : Txt K mg) : Binds K (fdA K (He.ga K "wrong_step")) ["program", "width", "hop"] [] := T.F_wrong_step.bindsN fun _ _ _ _ _ _ us hl => match us, hl with | [_, _, _], _ => rfl
theorem Txt.g_wrong_told (T : Txt K mg) : mg "wrong_told" = some (.ref (He.ga K "wrong_told")) := T.g 18
theorem Txt.F_wrong_told (T : Txt K mg) : FnP K "wrong_told" s_wrong_told (He.ga K "wrong_told") (fdA K (He.ga K "wrong_told")) := T.fn 18
theorem Txt.b_wrong_told (T : Txt K mg) : Binds K (fdA K (He.ga K "wrong_told")) ["program", "width", "hop"] [] := T.F_wrong_told.bindsN fun _ _ _ _ _ _ us hl => match us, hl with | [_, _, _], _ => rfl
theorem Txt.g_lets_wrong (T : Txt K mg) : mg "lets_wrong" = some (.ref (He.ga K "lets_wrong")) := T.g 19
theorem Txt.F_lets_wrong (T : Txt K mg) : FnP K "lets_wrong" s_lets_wrong (He.ga K "lets_wrong") (fdA K (He.ga K "lets_wrong")) := T.fn 19
theorem Txt.b_lets_wrong (T : Txt K mg) : Binds K (fdA K (He.ga K "lets_wrong")) ["program", "width", "hop", "thing"] [] := T.F_lets_wrong.bindsN fun _ _ _ _ _ _ us hl => match us, hl with | [_, _, _, _], _ => rfl
theorem Txt.g_law_pool (T : Txt K mg) : mg "_law_pool" = some (.ref (He.ga K "_law_pool")) := T.g 20
theorem Txt.F_law_pool (T : Txt K mg) : FnP K "_law_pool" s_law_pool (He.ga K "_law_pool") (fdA K (He.ga K "_law_pool")) := T.fn 20
theorem Txt.b_law_pool (T : Txt K mg) : Binds K (fdA K (He.ga K "_law_pool")) ["_law_script"] [] := T.F_law_pool.bindsN fun _ _ _ _ _ _ us hl => match us, hl with | [_], _ => rfl
theorem Txt.g_law_draw (T : Txt K mg) : mg "_law_draw" = some (.ref (He.ga K "_law_draw")) := T.g 21
theorem Txt.F_law_draw (T : Txt K mg) : FnP K "_law_draw" s_law_draw (He.ga K "_law_draw") (fdA K (He.ga K "_law_draw")) := T.fn 21
theorem Txt.b_law_draw (T : Txt K mg) : Binds K (fdA K (He.ga K "_law_draw")) ["_law_pool_here", "_law_many"] [] := T.F_law_draw.bindsN fun _ _ _ _ _ _ us hl => match us, hl with | [_, _], _ => rfl
theorem Txt.g_law_chords (T : Txt K mg) : mg "_law_chords" = some (.ref (He.ga K "_law_chords")) := T.g 22
theorem Txt.F_law_chords (T : Txt K mg) : FnP K "_law_chords" s_law_chords (He.ga K "_law_chords") (fdA K (He.ga K "_law_chords")) := T.fn 22
theorem Txt.b_law_chords (T : Txt K mg) : Binds K (fdA K (He.ga K "_law_chords")) ["_law_pool_here", "_law_corners"] [] := T.F_law_chords.bindsN fun _ _ _ _ _ _ us hl => match us, hl with | [_, _], _ => rfl
theorem Txt.g_law_chain (T : Txt K mg) : mg "_law_chain" = some (.ref (He.ga K "_law_chain")) := T.g 23
theorem Txt.F_law_chain (T : Txt K mg) : FnP K "_law_chain" s_law_chain (He.ga K "_law_chain") (fdA K (He.ga K "_law_chain")) := T.fn 23
theorem Txt.b_law_chain (T : Txt K mg) : Binds K (fdA K (He.ga K "_law_chain")) ["_law_corners", "_law_chords_here", "_law_v"] [] := T.F_law_chain.bindsN fun _ _ _ _ _ _ us hl => match us, hl with | [_, _, _], _ => rfl
theorem Txt.g_law_hopper (T : Txt K mg) : mg "_law_hopper" = some (.ref (He.ga K "_law_hopper")) := T.g 24
theorem Txt.F_law_hopper (T : Txt K mg) : FnP K "_law_hopper" s_law_hopper (He.ga K "_law_hopper") (fdA K (He.ga K "_law_hopper")) := T.fn 24
theorem Txt.b_law_hopper (T : Txt K mg) : Binds K (fdA K (He.ga K "_law_hopper")) ["_law_width", "_law_hop", "_law_chords_here"] [] := T.F_law_hopper.bindsN fun _ _ _ _ _ _ us hl => match us, hl with | [_, _, _], _ => rfl
theorem Txt.g_law_ready (T : Txt K mg) : mg "_law_ready" = some (.ref (He.ga K "_law_ready")) := T.g 25
theorem Txt.F_law_ready (T : Txt K mg) : FnP K "_law_ready" s_law_ready (He.ga K "_law_ready") (fdA K (He.ga K "_law_ready")) := T.fn 25
theorem Txt.b_law_ready (T : Txt K mg) : Binds K (fdA K (He.ga K "_law_ready")) ["_law_corners", "_law_chords_here"] [] := T.F_law_ready.bindsN fun _ _ _ _ _ _ us hl => match us, hl with | [_, _], _ => rfl
theorem Txt.g_law_line (T : Txt K mg) : mg "_law_line" = some (.ref (He.ga K "_law_line")) := T.g 26
theorem Txt.F_law_line (T : Txt K mg) : FnP K "_law_line" s_law_line (He.ga K "_law_line") (fdA K (He.ga K "_law_line")) := T.fn 26
theorem Txt.b_law_line (T : Txt K mg) : Binds K (fdA K (He.ga K "_law_line")) ["_law_pool_here", "_law_width"] [] := T.F_law_line.bindsN fun _ _ _ _ _ _ us hl => match us, hl with | [_, _], _ => rfl
theorem Txt.g_law_edited (T : Txt K mg) : mg "_law_edited" = some (.ref (He.ga K "_law_edited")) := T.g 27
theorem Txt.F_law_edited (T : Txt K mg) : FnP K "_law_edited" s_law_edited (He.ga K "_law_edited") (fdA K (He.ga K "_law_edited")) := T.fn 27
theorem Txt.b_law_edited (T : Txt K mg) : Binds K (fdA K (He.ga K "_law_edited")) ["_law_pool_here", "_law_program", "_law_edits", "_law_spoil_here"] [] := T.F_law_edited.bindsN fun _ _ _ _ _ _ us hl => match us, hl with | [_, _, _, _], _ => rfl
theorem Txt.g_law_edit (T : Txt K mg) : mg "_law_edit" = some (.ref (He.ga K "_law_edit")) := T.g 28
theorem Txt.F_law_edit (T : Txt K mg) : FnP K "_law_edit" s_law_edit (He.ga K "_law_edit") (fdA K (He.ga K "_law_edit")) := T.fn 28
theorem Txt.b_law_edit (T : Txt K mg) : Binds K (fdA K (He.ga K "_law_edit")) ["_law_pool_here", "_law_part", "_law_rows", "_law_place", "_law_fresh"] [] := T.F_law_edit.bindsN fun _ _ _ _ _ _ us hl => match us, hl with | [_, _, _, _, _], _ => rfl
theorem Txt.g_law_spoil (T : Txt K mg) : mg "_law_spoil" = some (.ref (He.ga K "_law_spoil")) := T.g 29
theorem Txt.F_law_spoil (T : Txt K mg) : FnP K "_law_spoil" s_law_spoil (He.ga K "_law_spoil") (fdA K (He.ga K "_law_spoil")) := T.fn 29
theorem Txt.b_law_spoil (T : Txt K mg) : Binds K (fdA K (He.ga K "_law_spoil")) ["_law_pool_here", "_law_part", "_law_registers"] [] := T.F_law_spoil.bindsN fun _ _ _ _ _ _ us hl => match us, hl with | [_, _, _], _ => rfl
theorem Txt.g_law_renamed (T : Txt K mg) : mg "_law_renamed" = some (.ref (He.ga K "_law_renamed")) := T.g 30
theorem Txt.F_law_renamed (T : Txt K mg) : FnP K "_law_renamed" s_law_renamed (He.ga K "_law_renamed") (fdA K (He.ga K "_law_renamed")) := T.fn 30
theorem Txt.b_law_renamed (T : Txt K mg) : Binds K (fdA K (He.ga K "_law_renamed")) ["_law_pool_here", "_law_registers", "_law_phases"] [] := T.F_law_renamed.bindsN fun _ _ _ _ _ _ us hl => match us, hl with | [_, _, _], _ => rfl
theorem Txt.g_law_machine (T : Txt K mg) : mg "_law_machine" = some (.ref (He.ga K "_law_machine")) := T.g 31
theorem Txt.F_law_machine (T : Txt K mg) : FnP K "_law_machine" s_law_machine (He.ga K "_law_machine") (fdA K (He.ga K "_law_machine")) := T.fn 31
theorem Txt.b_law_machine (T : Txt K mg) : Binds K (fdA K (He.ga K "_law_machine")) ["_law_program", "_law_steps"] [] := T.F_law_machine.bindsN fun _ _ _ _ _ _ us hl => match us, hl with | [_, _], _ => rfl
theorem Txt.g_law_round (T : Txt K mg) : mg "_law_round" = some (.ref (He.ga K "_law_round")) := T.g 32
theorem Txt.F_law_round (T : Txt K mg) : FnP K "_law_round" s_law_round (He.ga K "_law_round") (fdA K (He.ga K "_law_round")) := T.fn 32
theorem Txt.b_law_round (T : Txt K mg) : Binds K (fdA K (He.ga K "_law_round")) ["_law_program", "_law_hop"] [] := T.F_law_round.bindsN fun _ _ _ _ _ _ us hl => match us, hl with | [_, _], _ => rfl
theorem Txt.g_law_wrong (T : Txt K mg) : mg "_law_wrong" = some (.ref (He.ga K "_law_wrong")) := T.g 33
theorem Txt.F_law_wrong (T : Txt K mg) : FnP K "_law_wrong" s_law_wrong (He.ga K "_law_wrong") (fdA K (He.ga K "_law_wrong")) := T.fn 33
theorem Txt.b_law_wrong (T : Txt K mg) : Binds K (fdA K (He.ga K "_law_wrong")) ["_law_run", "_law_width", "_law_hop"] [] := T.F_law_wrong.bindsN fun _ _ _ _ _ _ us hl => match us, hl with | [_, _, _], _ => rfl
theorem Txt.g_law_span (T : Txt K mg) : mg "_law_span" = some (.ref (He.ga K "_law_span")) := T.g 34
theorem Txt.F_law_span (T : Txt K mg) : FnP K "_law_span" s_law_span (He.ga K "_law_span") (fdA K (He.ga K "_law_span")) := T.fn 34
theorem Txt.b_law_span (T : Txt K mg) : Binds K (fdA K (He.ga K "_law_span")) ["_law_word"] [] := T.F_law_span.bindsN fun _ _ _ _ _ _ us hl => match us, hl with | [_], _ => rfl
theorem Txt.g_law_same (T : Txt K mg) : mg "_law_same" = some (.ref (He.ga K "_law_same")) := T.g 35
theorem Txt.F_law_same (T : Txt K mg) : FnP K "_law_same" s_law_same (He.ga K "_law_same") (fdA K (He.ga K "_law_same")) := T.fn 35
theorem Txt.b_law_same (T : Txt K mg) : Binds K (fdA K (He.ga K "_law_same")) ["_law_actual", "_law_due"] [] := T.F_law_same.bindsN fun _ _ _ _ _ _ us hl => match us, hl with | [_, _], _ => rfl
theorem Txt.g_law_bad (T : Txt K mg) : mg "_law_bad" = some (.ref (He.ga K "_law_bad")) := T.g 36
theorem Txt.F_law_bad (T : Txt K mg) : FnP K "_law_bad" s_law_bad (He.ga K "_law_bad") (fdA K (He.ga K "_law_bad")) := T.fn 36
theorem Txt.b_law_bad (T : Txt K mg) : Binds K (fdA K (He.ga K "_law_bad")) ["_law_pool_here"] [] := T.F_law_bad.bindsN fun _ _ _ _ _ _ us hl => match us, hl with | [_], _ => rfl
theorem Txt.g_law_sparse (T : Txt K mg) : mg "_law_sparse" = some (.ref (He.ga K "_law_sparse")) := T.g 37
theorem Txt.F_law_sparse (T : Txt K mg) : FnP K "_law_sparse" s_law_sparse (He.ga K "_law_sparse") (fdA K (He.ga K "_law_sparse")) := T.fn 37
theorem Txt.b_law_sparse (T : Txt K mg) : Binds K (fdA K (He.ga K "_law_sparse")) ["_law_pool_here"] [] := T.F_law_sparse.bindsN fun _ _ _ _ _ _ us hl => match us, hl with | [_], _ => rfl
theorem Txt.g_law_random (T : Txt K mg) : mg "_law_random" = some (.ref (He.ga K "_law_random")) := T.g 38
theorem Txt.F_law_random (T : Txt K mg) : FnP K "_law_random" s_law_random (He.ga K "_law_random") (fdA K (He.ga K "_law_random")) := T.fn 38
theorem Txt.b_law_random (T : Txt K mg) : Binds K (fdA K (He.ga K "_law_random")) ["_law_pool_here"] [] := T.F_law_random.bindsN fun _ _ _ _ _ _ us hl => match us, hl with | [_], _ => rfl
theorem Txt.g_law_scene (T : Txt K mg) : mg "_law_scene" = some (.ref (He.ga K "_law_scene")) := T.g 39
theorem Txt.F_law_scene (T : Txt K mg) : FnP K "_law_scene" s_law_scene (He.ga K "_law_scene") (fdA K (He.ga K "_law_scene")) := T.fn 39
theorem Txt.b_law_scene (T : Txt K mg) : Binds K (fdA K (He.ga K "_law_scene")) ["_law_pool_here"] [] := T.F_law_scene.bindsN fun _ _ _ _ _ _ us hl => match us, hl with | [_], _ => rfl
theorem Txt.g_law_telling (T : Txt K mg) : mg "_law_telling" = some (.ref (He.ga K "_law_telling")) := T.g 40
theorem Txt.F_law_telling (T : Txt K mg) : FnP K "_law_telling" s_law_telling (He.ga K "_law_telling") (fdA K (He.ga K "_law_telling")) := T.fn 40
theorem Txt.b_law_telling (T : Txt K mg) : Binds K (fdA K (He.ga K "_law_telling")) ["_law_run", "_law_step"] [] := T.F_law_telling.bindsN fun _ _ _ _ _ _ us hl => match us, hl with | [_, _], _ => rfl
theorem Txt.g_law_paper (T : Txt K mg) : mg "_law_paper" = some (.ref (He.ga K "_law_paper")) := T.g 41
theorem Txt.F_law_paper (T : Txt K mg) : FnP K "_law_paper" s_law_paper (He.ga K "_law_paper") (fdA K (He.ga K "_law_paper")) := T.fn 41
theorem Txt.b_law_paper (T : Txt K mg) : Binds K (fdA K (He.ga K "_law_paper")) ["_law_wrong_here", "_law_width", "_law_hop", "_law_size", "_law_thing"] [] := T.F_law_paper.bindsN fun _ _ _ _ _ _ us hl => match us, hl with | [_, _, _, _, _], _ => rfl
theorem Txt.g_law_call (T : Txt K mg) : mg "_law_call" = some (.ref (He.ga K "_law_call")) := T.g 42
theorem Txt.F_law_call (T : Txt K mg) : FnP K "_law_call" s_law_call (He.ga K "_law_call") (fdA K (He.ga K "_law_call")) := T.fn 42
theorem Txt.b_law_call (T : Txt K mg) : Binds K (fdA K (He.ga K "_law_call")) ["_law_which", "_law_program", "_law_width", "_law_hop", "_law_more"] [] := T.F_law_call.bindsN fun _ _ _ _ _ _ us hl => match us, hl with | [_, _, _, _, _], _ => rfl
theorem Txt.g_law_papers (T : Txt K mg) : mg "_law_papers" = some (.ref (He.ga K "_law_papers")) := T.g 43
theorem Txt.F_law_papers (T : Txt K mg) : FnP K "_law_papers" s_law_papers (He.ga K "_law_papers") (fdA K (He.ga K "_law_papers")) := T.fn 43
theorem Txt.b_law_papers (T : Txt K mg) : Binds K (fdA K (He.ga K "_law_papers")) ["_law_pool_here", "_law_program", "_law_width", "_law_hop", "_law_size", "_law_wrong_here"] [] := T.F_law_papers.bindsN fun _ _ _ _ _ _ us hl => match us, hl with | [_, _, _, _, _, _], _ => rfl
theorem Txt.g_law_refusals (T : Txt K mg) : mg "_law_refusals" = some (.ref (He.ga K "_law_refusals")) := T.g 44
theorem Txt.F_law_refusals (T : Txt K mg) : FnP K "_law_refusals" s_law_refusals (He.ga K "_law_refusals") (fdA K (He.ga K "_law_refusals")) := T.fn 44
theorem Txt.b_law_refusals (T : Txt K mg) : Binds K (fdA K (He.ga K "_law_refusals")) ["_law_pool_here", "_law_program", "_law_width", "_law_hop"] [] := T.F_law_refusals.bindsN fun _ _ _ _ _ _ us hl => match us, hl with | [_, _, _, _], _ => rfl
theorem Txt.g_law (T : Txt K mg) : mg "law" = some (.ref (He.ga K "law")) := T.g 45
theorem Txt.F_law (T : Txt K mg) : FnP K "law" s_law (He.ga K "law") (fdA K (He.ga K "law")) := T.fn 45
theorem Txt.b_law (T : Txt K mg) : Binds K (fdA K (He.ga K "law")) ["_law_script"] [] := T.F_law.bindsN fun _ _ _ _ _ _ us hl => match us, hl with | [_], _ => rfl
theorem Txt.m_bool (T : Txt K mg) : mg "bool" = none := T.f 48
theorem Txt.m_enumerate (T : Txt K mg) : mg "enumerate" = none := T.f 49
theorem Txt.m_int (T : Txt K mg) : mg "int" = none := T.f 50
theorem Txt.m_isinstance (T : Txt K mg) : mg "isinstance" = none := T.f 51
theorem Txt.m_len (T : Txt K mg) : mg "len" = none := T.f 52
theorem Txt.m_list (T : Txt K mg) : mg "list" = none := T.f 53
theorem Txt.m_max (T : Txt K mg) : mg "max" = none := T.f 54
theorem Txt.m_min (T : Txt K mg) : mg "min" = none := T.f 55
theorem Txt.m_range (T : Txt K mg) : mg "range" = none := T.f 56
theorem Txt.m_sorted (T : Txt K mg) : mg "sorted" = none := T.f 57
theorem Txt.m_str (T : Txt K mg) : mg "str" = none := T.f 58
theorem Txt.m_tuple (T : Txt K mg) : mg "tuple" = none := T.f 59
end
end U3


namespace U3
open PySem PySem.Spec PyProof.Rows L2
/-! ### data -/
section
variable {K : PySem.W.Frag} {H H' H1 H2 : Hp} {p q a : Addr} {o : HO} {xs ys : List V}
theorem Same.tup {H H' : Hp} (e : Same H H') (h : SqT K H a xs) : SqT K H' a xs := by
  rcases h with (h | ⟨o, h⟩) | h
  · exact .inl (.inl (e _ _ h))
  · exact .inl (.inr ⟨o, e _ _ h⟩)
  · exact .inr h
theorem Same.new {H : Hp} (hp : H p = none) : Same H (upd H p o) := fun b u e => by
  rw [upd_ne (ne_of_none e hp)]
  exact e
/-- what was new to H may change again -/
theorem Same.put {H H' : Hp} (e : Same H H') (hp : H p = none) : Same H (upd H' p o) := fun b u h => by
  rw [upd_ne (ne_of_none h hp)]
  exact e b u h
theorem Same.at {H H' : Hp} (e : Same H H') (h : H a = some o) : H' a = some o := e a o h
/-- all but p is as it was -/
def But (p : Addr) (H H' : Hp) : Prop := ∀ b o, b ≠ p → H b = some o → H' b = some o
theorem But.refl (p : Addr) (H : Hp) : But p H H := fun _ _ _ h => h
theorem But.trans (a : But p H H1) (b : But p H1 H2) : But p H H2 := fun c o n h => b c o n (a c o n h)
theorem But.of (a : Same H H1) : But p H H1 := fun c o _ h => a c o h
theorem But.put : But p H (upd H p o) := fun b u n h => by
  rw [upd_ne n]
  exact h
theorem But.at (e : But p H H') (h : H a = some o) (n : a ≠ p) : H' a = some o := e a o n h
/-- tuples stay -/
def TK (K : PySem.W.Frag) (H H' : Hp) : Prop := ∀ a xs, SqT K H a xs → SqT K H' a xs
theorem TK.refl : TK K H H := fun _ _ h => h
theorem TK.trans (a : TK K H H1) (b : TK K H1 H2) : TK K H H2 := fun c xs h => b c xs (a c xs h)
theorem TK.of (e : Same H H') : TK K H H' := fun _ _ h => Same.tup e h
theorem TK.but (e : But p H H') (hp : H p = some (.lst xs)) : TK K H H' := fun b ys h => by
  rcases h with (h | ⟨o, h⟩) | h
  · exact .inl (.inl (e _ _ (fun z => by rw [z, hp] at h; cases h) h))
  · exact .inl (.inr ⟨o, e _ _ (fun z => by rw [z, hp] at h; cases h) h⟩)
  · exact .inr h
theorem TK.put (hp : H p = some (.lst xs)) : TK K H (upd H p o) := TK.but But.put hp
theorem TK.new (hp : H p = none) : TK K H (upd H p o) := TK.of (Same.new hp)
end
mutual
/-- no lists within -/
def NL : PyData → Bool
  | .list _ => false
  | .tuple ds => NLs ds
  | _ => true
def NLs : List PyData → Bool
  | [] => true
  | d :: ds => NL d && NLs ds
end
section
variable {K : PySem.W.Frag} {H H' : Hp}
mutual
theorem Dp.same (e : Same H H') : ∀ {v : V} {d : PyData}, Dp K H v d → Dp K H' v d
  | _, _, .non => .non
  | _, _, .bl b => .bl b
  | _, _, .int i => .int i
  | _, _, .str x => .str x
  | _, _, .lst h r => .lst (L2.Same.seq e h) (DpAll.same e r)
  | _, _, .tup h r => .tup (Same.tup e h) (DpAll.same e r)
theorem DpAll.same (e : Same H H') : ∀ {vs : List V} {ds : List PyData}, DpAll K H vs ds → DpAll K H' vs ds
  | _, _, .nil => .nil
  | _, _, .cons h r => .cons (Dp.same e h) (DpAll.same e r)
end
mutual
theorem Dp.keep (e : TK K H H') : ∀ {v : V} {d : PyData}, NL d = true → Dp K H v d → Dp K H' v d
  | _, _, _, .non => .non
  | _, _, _, .bl b => .bl b
  | _, _, _, .int i => .int i
  | _, _, _, .str x => .str x
  | _, _, n, .lst h r => by simp [NL] at n
  | _, _, n, .tup h r => .tup (e _ _ h) (DpAll.keep e (by simpa [NL] using n) r)
theorem DpAll.keep (e : TK K H H') : ∀ {vs : List V} {ds : List PyData}, NLs ds = true → DpAll K H vs ds → DpAll K H' vs ds
  | _, _, _, .nil => .nil
  | _, d :: ds, n, .cons h r => by
    have n' : (NL d && NLs ds) = true := by simpa only [NLs] using n
    obtain ⟨n1, n2⟩ := Bool.and_eq_true_iff.mp n'
    exact .cons (Dp.keep e n1 h) (DpAll.keep e n2 r)
end
theorem DpAll.length : ∀ {vs : List V} {ds : List PyData}, DpAll K H vs ds → vs.length = ds.length
  | _, _, .nil => rfl
  | _, _, .cons _ r => by simp [DpAll.length r]
theorem DpAll.get : ∀ {vs : List V} {ds : List PyData} {i : Nat} {d : PyData}, DpAll K H vs ds → ds[i]? = some d → ∃ v, vs[i]? = some v ∧ Dp K H v d
  | _, _, i, d, .nil, e => by simp at e
  | _, _, 0, d, .cons h _, e => by simp at e; subst e; exact ⟨_, rfl, h⟩
  | _, _, i + 1, d, .cons _ r, e => by
    obtain ⟨v, h1, h2⟩ := DpAll.get (i := i) r (by simpa using e)
    exact ⟨v, by simpa using h1, h2⟩
theorem DpAll.of : ∀ {vs : List V} {ds : List PyData} {i : Nat} {v : V}, DpAll K H vs ds → vs[i]? = some v → ∃ d, ds[i]? = some d ∧ Dp K H v d
  | _, _, i, d, .nil, e => by simp at e
  | _, _, 0, d, .cons h _, e => by simp at e; subst e; exact ⟨_, rfl, h⟩
  | _, _, i + 1, d, .cons _ r, e => by
    obtain ⟨v, h1, h2⟩ := DpAll.of (i := i) r (by simpa using e)
    exact ⟨v, by simpa using h1, h2⟩
theorem DpAll.append : ∀ {vs ws : List V} {ds es : List PyData}, DpAll K H vs ds → DpAll K H ws es → DpAll K H (vs ++ ws) (ds ++ es)
  | _, _, _, _, .nil, s => s
  | _, _, _, _, .cons h r, s => .cons h (DpAll.append r s)
theorem DpAll.ints : ∀ (ns : List Int), DpAll K H (ns.map V.int) (ns.map PyData.int)
  | [] => .nil
  | n :: ns => .cons (.int n) (DpAll.ints ns)
theorem DpAll.nats : ∀ (ns : List Nat), DpAll K H (ns.map fun n : Nat => V.int n) (ns.map fun n : Nat => PyData.int n)
  | [] => .nil
  | n :: ns => .cons (.int n) (DpAll.nats ns)
theorem DpAll.ints_of : ∀ {ns : List Int} {vs : List V}, DpAll K H vs (ns.map PyData.int) → vs = ns.map V.int
  | [], _, .nil => rfl
  | n :: ns, _, .cons (.int _) r => by rw [DpAll.ints_of r]; rfl
theorem DpAll.take : ∀ {vs : List V} {ds : List PyData} (n : Nat), DpAll K H vs ds → DpAll K H (vs.take n) (ds.take n)
  | _, _, 0, _ => .nil
  | _, _, _ + 1, .nil => .nil
  | _, _, n + 1, .cons h r => .cons h (DpAll.take n r)
theorem DpAll.drop : ∀ {vs : List V} {ds : List PyData} (n : Nat), DpAll K H vs ds → DpAll K H (vs.drop n) (ds.drop n)
  | _, _, 0, r => r
  | _, _, _ + 1, .nil => .nil
  | _, _, n + 1, .cons _ r => DpAll.drop n r
/-- a tuple is a tuple -/
theorem Dp.tup_inv {v : V} {ds : List PyData} (h : Dp K H v (.tuple ds)) : ∃ a xs, v = .ref a ∧ SqT K H a xs ∧ DpAll K H xs ds := by
  cases h with
  | tup h r => exact ⟨_, _, rfl, h, r⟩
theorem Dp.lst_inv {v : V} {ds : List PyData} (h : Dp K H v (.list ds)) : ∃ a xs, v = .ref a ∧ SqL K H a xs ∧ DpAll K H xs ds := by
  cases h with
  | lst h r => exact ⟨_, _, rfl, h, r⟩
theorem Dp.int_inv {v : V} {i : Int} (h : Dp K H v (.int i)) : v = .int i := by
  cases h; rfl
theorem Dp.non_inv {v : V} (h : Dp K H v .none) : v = .non := by
  cases h; rfl
/-! ### isinstance of data -/
def tyN : PyData → String
  | .none => "NoneType"
  | .bool _ => "bool"
  | .int _ => "int"
  | .str _ => "str"
  | .list _ => "list"
  | .tuple _ => "tuple"
  | .dict _ => "dict"
theorem Dp.ty {v : V} {d : PyData} (h : Dp K H v d) : TyX K H v (.type (tyN d)) := by
  cases h with
  | non => exact .base .non
  | bl b => exact .base (.bl b)
  | int i => exact .base (.int i)
  | str x => exact .base (.str x)
  | lst h r =>
    rcases h with (h | ⟨o, h⟩) | h
    · exact .base (.lst h)
    · exact .base (.frz h)
    · obtain ⟨o, its, n, lk, c, _⟩ := h
      exact .kList lk c
  | tup h r =>
    rcases h with (h | ⟨o, h⟩) | h
    · exact .base (.tup h)
    · exact .fTuple h
    · obtain ⟨o, its, n, lk, c, _⟩ := h
      exact .kTuple lk c
def isInt : PyData → Bool
  | .int _ => true
  | .bool _ => true
  | _ => false
def isBool : PyData → Bool
  | .bool _ => true
  | _ => false
def isStr : PyData → Bool
  | .str _ => true
  | _ => false
def isTup : PyData → Bool
  | .tuple _ => true
  | _ => false
def isLst : PyData → Bool
  | .list _ => true
  | _ => false
def IsT (T : String) (f : PyData → Bool) : Prop := ∀ d, kitB (tyN d) T = some (f d)
theorem isT_int : IsT "int" isInt := fun d => by
  cases d <;> (simp only [tyN, isInt]; decide +kernel)
theorem isT_bool : IsT "bool" isBool := fun d => by
  cases d <;> (simp only [tyN, isBool]; decide +kernel)
theorem isT_str : IsT "str" isStr := fun d => by
  cases d <;> (simp only [tyN, isStr]; decide +kernel)
theorem isT_tup : IsT "tuple" isTup := fun d => by
  cases d <;> (simp only [tyN, isTup]; decide +kernel)
theorem isT_lst : IsT "list" isLst := fun d => by
  cases d <;> (simp only [tyN, isLst]; decide +kernel)
/-- isinstance(x, T) -/
def rIs (K : PySem.W.Frag) (T : String) (f : PyData → Bool) : List V → Hp → VK → Prop := fun xs H Q => ∃ x d, xs = [x, .ty T] ∧ Dp K H x d ∧ Q (.bl (f d)) H
theorem call_is {X : Cx} {T : String} {f : PyData → Bool} (h : IsT T f) : CallR X (.builtin "isinstance") (rIs X.K T f) := by
  intro pins s σ H xs us Q I r ⟨x, d, e, hd, q⟩
  exact call_isi pins s σ H xs us Q I r ⟨x, .ty T, .type (tyN d), .type T, f d, e, .ty T, Dp.ty hd, kit_ty (h d), q⟩
/-- isinstance(x, (tuple, list)) -/
def isSeq (d : PyData) : Bool := isTup d || isLst d
def rIs2 (K : PySem.W.Frag) : List V → Hp → VK → Prop := fun xs H Q => ∃ x d tp, xs = [x, .ref tp] ∧ H tp = some (.tup [.ty "tuple", .ty "list"]) ∧ Dp K H x d ∧ Q (.bl (isSeq d)) H
theorem call_is2 {X : Cx} : CallR X (.builtin "isinstance") (rIs2 X.K) := by
  intro pins s σ H xs us Q I r ⟨x, d, tp, e, ht, hd, q⟩
  refine call_isiT pins s σ H xs us Q I r ⟨x, tp, _, .type (tyN d), [.type "tuple", .type "list"], isSeq d, e, ht, .cons (.ty _) (.cons (.ty _) .nil), Dp.ty hd, ?_, q⟩
  refine kitAny_cons (b := isTup d) (kit_ty (isT_tup d)) (fun h => ?_) (fun h => ?_)
  · refine kitAny_cons (b := isLst d) (kit_ty (isT_lst d)) (fun h2 => ?_) (fun h2 => ?_)
    · unfold isSeq
      rw [h, h2]
      rfl
    · unfold isSeq
      rw [h, h2]
      rfl
  · unfold isSeq
    rw [h]
    rfl
/-! ### our own errors -/
end
def exB1 (K : PySem.W.Frag) (x : Str) : Prop := OexC K (He.ga K x) ∧ XfC K (He.ga K x) ∧ PySem.W.findIn K (.ref (He.ga K x)) "word" = some none ∧ PySem.W.findIn K (.ref (He.ga K x)) "at" = some none ∧
  PySem.W.findIn K (.ref (He.ga K x)) "__init__" = some (some (.ref (He.ma K (He.ga K x) "__init__"))) ∧ PySem.W.typeIn K (.ref (He.ma K (He.ga K x) "__init__")) = some (.type "function")
end U3


namespace U3
open PySem PySem.Spec PyProof.Rows L2
/-! ### our own errors -/
theorem oexB_ok {K : PySem.W.Frag} {C : Addr} (q : oexB K C = true) : ∃ nm q N bs bm sn sub ab col dd k0 k1 k2 k3 k5, K.lookup C = some (excClassObj nm q C N bs bm true sn sub ab col dd k0 k1 k2 k3 k5 "ValueError.__new__") ∧ PySem.HandSPX.refsVE bm = true := by
  unfold oexB at q
  split at q
  · rename_i dd cd sl ho
    split at q
    · rename_i C' bm k0 k1 k2 k3 n k5 hm hs
      simp only [Bool.and_eq_true, beq_iff_eq, Bool.not_eq_true'] at q
      obtain ⟨⟨⟨⟨rfl, rfl⟩, hdel⟩, hdt⟩, ht⟩ := q
      obtain ⟨nm, bs, mro, ns, qn, hd, sn, sub, ab, col, del⟩ := cd
      dsimp only at hm hdel hdt
      subst hm hdel hdt
      have hsl : sl = #[k0, k1, k2, k3, some (.builtin "ValueError.__new__"), k5] := by
        obtain ⟨l⟩ := sl
        simp only at hs
        rw [hs]
      subst hsl
      exact ⟨nm, qn, ns, bs, bm, sn, sub, ab, col, dd, k0, k1, k2, k3, k5, ho, ht⟩
    · cases q
  · cases q
structure ErrC (K : PySem.W.Frag) (C fI : Addr) : Prop where
  oex : OexC K C
  xf : XfC K C
  nw : PySem.W.findIn K (.ref C) "word" = some none
  na : PySem.W.findIn K (.ref C) "at" = some none
  ini : PySem.W.findIn K (.ref C) "__init__" = some (some (.ref fI))
  ty : PySem.W.typeIn K (.ref fI) = some (.type "function")
theorem excB_ok {K : PySem.W.Frag} {x : Str} (c : excB K x = true) : ErrC K (He.ga K x) (He.ma K (He.ga K x) "__init__") := by
  obtain ⟨c0, c⟩ := He.ba c
  obtain ⟨c1, c⟩ := He.ba c
  obtain ⟨c2, c⟩ := He.ba c
  obtain ⟨c3, c⟩ := He.ba c
  obtain ⟨c4, c⟩ := He.ba c
  obtain ⟨c5, c⟩ := He.ba c
  obtain ⟨c6, c⟩ := He.ba c
  obtain ⟨c7, c⟩ := He.ba c
  obtain ⟨c8, c9⟩ := He.ba c
  exact ⟨⟨oexB_ok c0, He.eqO_ok c1, of_decide_eq_true c2, of_decide_eq_true c3, c4⟩, xfB_ok c5, He.eqO_ok c6, He.eqO_ok c7, He.eqO_ok c8, of_decide_eq_true c9⟩
section
variable {K : PySem.W.Frag} {mg : Str → Option Value}
theorem Txt.exB (T : Txt K mg) : exB K = true := T.says.2
theorem Txt.errN (T : Txt K mg) : ErrC K (He.ga K "NotUsable") (He.ma K (He.ga K "NotUsable") "__init__") := excB_ok (He.ba T.exB).1
theorem Txt.errP (T : Txt K mg) : ErrC K (He.ga K "InvalidPaper") (He.ma K (He.ga K "InvalidPaper") "__init__") := excB_ok (He.ba (He.ba T.exB).2).1
theorem Txt.mNN (T : Txt K mg) : PySem.W.exmOne K (.ref (He.ga K "NotUsable")) (.ref (He.ga K "NotUsable")) = some true := of_decide_eq_true (He.ba (He.ba (He.ba T.exB).2).2).1
theorem Txt.mPN (T : Txt K mg) : PySem.W.exmOne K (.ref (He.ga K "InvalidPaper")) (.ref (He.ga K "NotUsable")) = some false := of_decide_eq_true (He.ba (He.ba (He.ba (He.ba T.exB).2).2).2).1
theorem Txt.mPP (T : Txt K mg) : PySem.W.exmOne K (.ref (He.ga K "InvalidPaper")) (.ref (He.ga K "InvalidPaper")) = some true := of_decide_eq_true (He.ba (He.ba (He.ba (He.ba T.exB).2).2).2).2
theorem Txt.g_NotUsable (T : Txt K mg) : mg "NotUsable" = some (.ref (He.ga K "NotUsable")) := T.g 47
theorem Txt.g_InvalidPaper (T : Txt K mg) : mg "InvalidPaper" = some (.ref (He.ga K "InvalidPaper")) := T.g 46
abbrev FnI (K : PySem.W.Frag) (q : Str) (st : Stmt) (f : Addr) (fd : FuncData) : Prop := FunD K "__init__" q (defArgs st) (defBody st) (defScope st) [] [] f fd
theorem Txt.F_initP (T : Txt K mg) : FnI K "InvalidPaper.__init__" s_initP (He.ma K (He.ga K "InvalidPaper") "__init__") (fdA K (He.ma K (He.ga K "InvalidPaper") "__init__")) := T.fn 46
theorem Txt.F_initN (T : Txt K mg) : FnI K "NotUsable.__init__" s_initN (He.ma K (He.ga K "NotUsable") "__init__") (fdA K (He.ma K (He.ga K "NotUsable") "__init__")) := T.fn 47
theorem Txt.b_initP (T : Txt K mg) : Binds K (fdA K (He.ma K (He.ga K "InvalidPaper") "__init__")) ["self", "word", "at"] [] := T.F_initP.bindsN fun _ _ _ _ _ _ us hl => match us, hl with | [_, _, _], _ => rfl
theorem Txt.b_initN (T : Txt K mg) : Binds K (fdA K (He.ma K (He.ga K "NotUsable") "__init__")) ["self", "word", "at"] [] := T.F_initN.bindsN fun _ _ _ _ _ _ us hl => match us, hl with | [_, _, _], _ => rfl
/-- self.word = word; self.at = at, at the new exception -/
def errFs (w k : V) : List (Str × V) := [("at", k), ("word", w)]
def spInit (C : Addr) : Sp := fun vs H Q _ => ∃ (a : Addr) (w k : V), vs = [.ref a, w, k] ∧ H a = some (exo a C none) ∧
  ∀ dx, H dx = none → dx ≠ a → ∀ H', H' a = some (exo a C (some dx)) → H' dx = some (exd dx (errFs w k)) → (∀ b, b ≠ a → b ≠ dx → H' b = H b) → Q .non H'
theorem sc_initP : FnScope ["self", "word", "at"] ["self", "word", "at"] (defScope s_initP) := ⟨rfl, rfl, rfl, by decide +kernel, rfl, by decide +kernel, by decide +kernel⟩
theorem sc_initN : FnScope ["self", "word", "at"] ["self", "word", "at"] (defScope s_initN) := ⟨rfl, rfl, rfl, by decide +kernel, rfl, by decide +kernel, by decide +kernel⟩
variable {P : Program} {w : World} {base : Heap}
theorem rd_init {C fI : Addr} (E0 : ErrC K C fI) (vs : List V) (H : Hp) (Q : VK) (E : XK) (h : spInit C vs H Q E) :
    tSeq (tOst K "word" (tVar 0) (tVar 1)) (tSeq (tOst K "at" (tVar 0) (tVar 2)) tNext) { nx := fun _ H' => Q .non H', rt := Q } (start ["self", "word", "at"] vs) H := by
  obtain ⟨a, w, k, rfl, ha, q⟩ := h
  refine ⟨_, rfl, _, rfl, a, C, rfl, E0.oex, E0.nw, .inl ⟨ha, fun dx hd hne => ?_⟩⟩
  refine ⟨_, rfl, _, rfl, a, C, rfl, E0.oex, E0.na, .inr ⟨dx, [("word", w)], upd_same, ?_, ?_, ?_⟩⟩
  · rw [upd_ne hne]
    exact upd_same
  · show 1 ≤ 900
    decide
  · refine q dx hd hne _ ?_ upd_same ?_
    · rw [upd_ne (Ne.symm hne)]
      exact upd_same
    · intro b h1 h2
      rw [upd_ne h2, upd_ne h1, upd_ne h2]
theorem ok_initN (T : Txt K mg) : FnOk P w K mg base CX0 1 (He.ma K (He.ga K "NotUsable") "__init__") (fdA K (He.ma K (He.ga K "NotUsable") "__init__")) ["self", "word", "at"] (spInit (He.ga K "NotUsable")) := by
  refine T.F_initN.ok sc_initN (fun vs H Q E h => ?_) (fun cdv A outer s H vs Q E hr h => ⟨_, PSs.nox (pss_cons (ps_ost (pv 0) (pv 1)) (pss_cons (ps_ost (pv 0) (pv 2)) pss_nil)), rd_init T.errN vs H Q E h⟩)
  obtain ⟨a, w, k, rfl, _⟩ := h
  rfl
theorem ok_initP (T : Txt K mg) : FnOk P w K mg base CX0 1 (He.ma K (He.ga K "InvalidPaper") "__init__") (fdA K (He.ma K (He.ga K "InvalidPaper") "__init__")) ["self", "word", "at"] (spInit (He.ga K "InvalidPaper")) := by
  refine T.F_initP.ok sc_initP (fun vs H Q E h => ?_) (fun cdv A outer s H vs Q E hr h => ⟨_, PSs.nox (pss_cons (ps_ost (pv 0) (pv 1)) (pss_cons (ps_ost (pv 0) (pv 2)) pss_nil)), rd_init T.errP vs H Q E h⟩)
  obtain ⟨a, w, k, rfl, _⟩ := h
  rfl
end
/-- raise C(word, at) -/
def tRaiseY (C : Addr) (W : WX) (ta : TA) : TS := fun _ σ H => ta σ H fun vs H1 => ∃ w k, vs = [w, k] ∧ ∀ d, H1 d = none → W (.ref C) (some d) σ (upd H1 d (.xd (errFs w k)))
section
variable {X : Cx} {x : Str} {C fI : Addr} {fd : FuncData} {e : Expr} {es : List Expr} {ta : TA} {W : WX} {p pos pos2 : Pos}
/-- a reading may ask for less -/
theorem pa_mono {es : List Expr} {ta : TA} (h : PA X es ta) : PA X es (fun σ H Q => ∃ Q' : List V → Hp → Prop, ta σ H Q' ∧ ∀ vs H', Q' vs H' → Q vs H') :=
  ⟨fun pos pins s σ H Q I ⟨Q', h1, h2⟩ => thn (h.run pos pins s σ H Q' I h1) fun us s1 ⟨vs, H1, I1, r, q⟩ => ⟨vs, H1, I1, r, h2 _ _ q⟩⟩
theorem ps_raiseY (hc : X.calm = true) (E0 : ErrC X.K C fI) (F : FnOk X.prog X.w X.K X.mg X.base CX0 1 fI fd ["self", "word", "at"] (spInit C)) (hr : Room 2 X.A) (hb : Binds X.K fd ["self", "word", "at"] []) (tk : Takes X W) (hg : Gl X x) (hm : X.mg x = some (.ref C)) (ha : PA X (e :: es) ta)
    (hdb : (x == ("__debug__" : Str)) = false := by decide) (he : starEach (e :: es) X.env = (false, eval e X.env) :: starEach es X.env := by rfl) (hpl : (backTo pos (starEach es X.env)).any (·.1) = false := by rfl) :
    PS X (.Raise (some (.Call (.Name x p) (e :: es) [] pos)) none pos2) (tRaiseY C W ta) := by
  have h := ps_raise (pos := pos2) hc tk (pmk_oex (pos := pos) (p := p) E0.oex E0.ini E0.ty F hr hb .nil pass0 hg hm (pa_mono ha) hdb he hpl)
  refine ⟨fun pins s σ H D I q => h.run pins s σ H D I ⟨_, q, fun vs H1 ⟨w, k, ev, q1⟩ => ?_⟩⟩
  subst ev
  refine ⟨(by show 2 ≤ 1000; decide), fun a ha1 => ⟨a, w, k, rfl, upd_same, fun dx hd hne H' h1 h2 h3 => ⟨rfl, dx, _, h1, h2, ?_, ?_⟩⟩⟩
  · rw [upd_ne hne] at hd
    exact hd
  · have hd' : H1 dx = none := by
      rw [upd_ne hne] at hd
      exact hd
    have e : upd (del H' a) dx (.xd (errFs w k)) = upd H1 dx (.xd (errFs w k)) := by
      funext b
      by_cases hb : b = dx
      · rw [hb, upd_same, upd_same]
      · rw [upd_ne hb, upd_ne hb]
        by_cases hba : b = a
        · rw [hba, del_same, ha1]
        · rw [del_ne hba, h3 b hba hb, upd_ne hba]
    rw [e]
    exact q1 dx hd'
end
end U3


namespace U3
open PySem PySem.Spec PyProof.Rows L2
theorem bt_enumerate : bootBuiltins "enumerate" = some (.type "enumerate") := by decide +kernel
theorem bt_bool : bootBuiltins "bool" = some (.type "bool") := by decide +kernel
theorem bt_int : bootBuiltins "int" = some (.type "int") := by decide +kernel
theorem bt_str : bootBuiltins "str" = some (.type "str") := by decide +kernel
theorem bt_list : bootBuiltins "list" = some (.type "list") := by decide +kernel
theorem bt_tuple : bootBuiltins "tuple" = some (.type "tuple") := by decide +kernel
theorem bt_range : bootBuiltins "range" = some (.type "range") := by decide +kernel
theorem bt_len : bootBuiltins "len" = some (.builtin "len") := by decide +kernel
theorem bt_isinstance : bootBuiltins "isinstance" = some (.builtin "isinstance") := by decide +kernel
theorem bt_max : bootBuiltins "max" = some (.builtin "max") := by decide +kernel
theorem bt_min : bootBuiltins "min" = some (.builtin "min") := by decide +kernel
theorem bt_sorted : bootBuiltins "sorted" = some (.builtin "sorted") := by decide +kernel
theorem units65 {k : Nat} {A : Around} (r : Room k A) : A.units + 65 < cLine := by have := r.un; omega
def rTupOf (K : PySem.W.Frag) : List V → Hp → VK → Prop := fun xs H Q => ∃ p ys, xs = [.ref p] ∧ ((SqL K H p ys ∧ ∀ l, H l = none → Q (.ref l) (upd H l (.tup ys))) ∨ (SqT K H p ys ∧ Q (.ref p) H))
theorem call_tupK {X : Cx} : CallR X (.type "tuple") (rTupOf X.K) := call_tuple_of
def rLstOf (K : PySem.W.Frag) : List V → Hp → VK → Prop := fun xs H Q => ∃ p ys, xs = [.ref p] ∧ (SqL K H p ys ∨ SqT K H p ys) ∧ ∀ l, H l = none → Q (.ref l) (upd H l (.lst ys))
theorem call_lstK {X : Cx} : CallR X (.type "list") (rLstOf X.K) := call_list_of
theorem pi_tupK {X : Cx} {K : PySem.W.Frag} {tg l : Expr} {tl : TE} (e : X.K = K) (hl : PE X l tl) : PI X tg l (iTup K tl) := by
  subst e
  exact pi_tup hl
end U3


namespace U3
open PySem PySem.Spec PyProof.Rows L2
section
variable {P : Program} {w : World} {K : PySem.W.Frag} {mg : Str → Option Value} {base : Heap}
def isI (d : PyData) : Bool := isInt d && !isBool d
def intOf : PyData → Int
  | .int i => i
  | _ => 0
theorem isI_int {d : PyData} (h : isI d = true) : d = .int (intOf d) := by
  cases d <;> simp [isI, isInt, isBool] at h <;> rfl
/-! is_integer(thing) -/
def sp_is_integer (K : PySem.W.Frag) : Sp := fun vs H Q _ => ∃ x d, vs = [x] ∧ Dp K H x d ∧ Q (.bl (isI d)) H
-- slots: 0:thing | cells: []
theorem sc_is_integer : FnScope ["thing"] ["thing"] (defScope s_is_integer) := ⟨rfl, rfl, rfl, by decide +kernel, rfl, by decide +kernel, by decide +kernel⟩
theorem ok_is_integer (T : Txt K mg) : FnOk P w K mg base CX0 1 (He.ga K "is_integer") (fdA K (He.ga K "is_integer")) ["thing"] (sp_is_integer K) := by
  refine T.F_is_integer.ok sc_is_integer (fun vs H Q E h => by obtain ⟨x, d, rfl, _⟩ := h; rfl) (fun cdv A outer s H vs Q E hr h => ⟨_, PSs.nox ((pss_cons (ps_ret (pe_and (pe_callB (call_is isT_int) (by rfl) T.m_isinstance bt_isinstance (pa_cons (pv 0) (pa_cons (pe_bltn (v := .ty "int") (by rfl) T.m_int bt_int rfl) pa_nil))) (pe_one (pe_not (pe_callB (call_is isT_bool) (by rfl) T.m_isinstance bt_isinstance (pa_cons (pv 0) (pa_cons (pe_bltn (v := .ty "bool") (by rfl) T.m_bool bt_bool rfl) pa_nil)))))))
pss_nil)), ?_⟩)
  obtain ⟨x, d, rfl, hd, q⟩ := h
  refine ⟨_, rfl, _, d, rfl, hd, _, rfl, ?_⟩
  unfold isI at q
  cases hi : isInt d with
  | true =>
    rw [hi] at q
    exact iteT ⟨_, rfl, _, d, rfl, hd, _, rfl, q⟩
  | false =>
    rw [hi] at q
    exact iteF q
/-! is_number(thing) -/
def isN (d : PyData) : Bool := isI d && decide (0 ≤ intOf d)
def sp_is_number (K : PySem.W.Frag) : Sp := fun vs H Q _ => ∃ x d, vs = [x] ∧ Dp K H x d ∧ Q (.bl (isN d)) H
-- slots: 0:thing | cells: []
theorem sc_is_number : FnScope ["thing"] ["thing"] (defScope s_is_number) := ⟨rfl, rfl, rfl, by decide +kernel, rfl, by decide +kernel, by decide +kernel⟩
theorem ok_is_number (T : Txt K mg) : FnOk P w K mg base CX0 2 (He.ga K "is_number") (fdA K (He.ga K "is_number")) ["thing"] (sp_is_number K) := by
  refine T.F_is_number.ok sc_is_number (fun vs H Q E h => by obtain ⟨x, d, rfl, _⟩ := h; rfl) (fun cdv A outer s H vs Q E hr h => ⟨_, PSs.nox ((pss_cons (ps_ret (pe_and (pe_call (ok_is_integer T) (hr.mono (by decide)) (by rfl) T.g_is_integer T.F_is_integer.kp T.b_is_integer .nil pass0 (pa_cons (pv 0) pa_nil)) (pe_one (pe_cmpR op_ge (pv 0) pe_int (nomark _)))))
pss_nil)), ?_⟩)
  obtain ⟨x, d, rfl, hd, q⟩ := h
  refine ⟨_, rfl, _, d, rfl, hd, _, rfl, ?_⟩
  unfold isN at q
  cases hi : isI d with
  | true =>
    rw [hi] at q
    rw [isI_int hi] at hd
    cases hd
    exact iteT ⟨_, rfl, _, _, rfl, rfl, q⟩
  | false =>
    rw [hi] at q
    exact iteF q
/-! _is_kept_in(registers, thing) -/
def keptD (r : Int) (d : PyData) : Bool := isN d && decide (intOf d < r)
def sp_is_kept_in (K : PySem.W.Frag) : Sp := fun vs H Q _ => ∃ r x d, vs = [.int r, x] ∧ Dp K H x d ∧ Q (.bl (keptD r d)) H
-- slots: 0:registers 1:thing | cells: []
theorem sc_is_kept_in : FnScope ["registers", "thing"] ["registers", "thing"] (defScope s_is_kept_in) := ⟨rfl, rfl, rfl, by decide +kernel, rfl, by decide +kernel, by decide +kernel⟩
theorem ok_is_kept_in (T : Txt K mg) : FnOk P w K mg base CX0 3 (He.ga K "_is_kept_in") (fdA K (He.ga K "_is_kept_in")) ["registers", "thing"] (sp_is_kept_in K) := by
  refine T.F_is_kept_in.ok sc_is_kept_in (fun vs H Q E h => by obtain ⟨r, x, d, rfl, _⟩ := h; rfl) (fun cdv A outer s H vs Q E hr h => ⟨_, PSs.nox ((pss_cons (ps_ret (pe_and (pe_call (ok_is_number T) (hr.mono (by decide)) (by rfl) T.g_is_number T.F_is_number.kp T.b_is_number .nil pass0 (pa_cons (pv 1) pa_nil)) (pe_one (pe_cmpR op_lt (pv 1) (pv 0) (nomark _)))))
pss_nil)), ?_⟩)
  obtain ⟨r, x, d, rfl, hd, q⟩ := h
  refine ⟨_, rfl, _, d, rfl, hd, _, rfl, ?_⟩
  unfold keptD at q
  cases hi : isN d with
  | true =>
    rw [hi] at q
    have hI : isI d = true := by
      unfold isN at hi
      exact (Bool.and_eq_true_iff.mp hi).1
    rw [isI_int hI] at hd
    cases hd
    exact iteT ⟨_, rfl, _, rfl, _, _, rfl, rfl, q⟩
  | false =>
    rw [hi] at q
    exact iteF q
end
end U3


namespace U3
open PySem PySem.Spec PyProof.Rows L2
section
variable {P : Program} {w : World} {K : PySem.W.Frag} {mg : Str → Option Value} {base : Heap}
/-! _row_stands(registers, row) -/
def rowD (r : Int) : PyData → Bool
  | .tuple ds => (decide (ds.length = 2) || decide (ds.length = 3)) && (ds.all (keptD r) && decide (0 < intOf (ds.headD .none)))
  | _ => false
def sp_row_stands (K : PySem.W.Frag) : Sp := fun vs H Q _ => ∃ r x d, vs = [.int r, x] ∧ Dp K H x d ∧ ∀ H', Same H H' → Q (.bl (rowD r d)) H'
theorem in23 (n : Nat) : (if true = true then !inV (.int (n : Int)) [.int 2, .int 3] else inV (.int (n : Int)) [.int 2, .int 3]) = !(decide (n = 2) || decide (n = 3)) := by
  rw [if_pos rfl]
  by_cases h2 : n = 2
  · subst h2; rfl
  · by_cases h3 : n = 3
    · subst h3; rfl
    · have e2 : ¬ (n : Int) = 2 := by omega
      have e3 : ¬ (n : Int) = 3 := by omega
      have e2' : ¬ (2 : Int) = n := by omega
      have e3' : ¬ (3 : Int) = n := by omega
      simp [inV, eqV, h2, h3, e2, e3, e2', e3']
-- slots: 0:registers 1:row 2:place | cells: []
theorem sc_row_stands : FnScope ["registers", "row", "place"] ["registers", "row"] (defScope s_row_stands) := ⟨rfl, rfl, rfl, by decide +kernel, rfl, by decide +kernel, by decide +kernel⟩
theorem ok_row_stands (T : Txt K mg) : FnOk P w K mg base CX0 4 (He.ga K "_row_stands") (fdA K (He.ga K "_row_stands")) ["registers", "row"] (sp_row_stands K) := by
  refine T.F_row_stands.ok sc_row_stands (fun vs H Q E h => by obtain ⟨r, x, d, rfl, _⟩ := h; rfl) (fun cdv A outer s H vs Q E hr h => ⟨_, PSs.nox ((pss_cons (ps_if (PW.pt (pw_or (pt_not (pt_val (pe_callB (call_is isT_tup) (by rfl) T.m_isinstance bt_isinstance (pa_cons (pv 1) (pa_cons (pe_bltn (v := .ty "tuple") (by rfl) T.m_tuple bt_tuple rfl) pa_nil))))) (pw_or1 (pt_cmpR op_notIn_seq (pe_callB call_len_seq (by rfl) T.m_len bt_len (pa_cons (pv 1) pa_nil)) (pe_tup (pa_cons pe_int (pa_cons pe_int pa_nil))) (by rfl)))))
(pss_cons (ps_ret pe_bl)
pss_nil)
pss_nil)
(pss_cons (ps_for PassesOwn.never rfl (pi_tup (pv 1)) (pg_name (i := 2) sc_row_stands.nd rfl (Or.inl rfl))
(pss_cons (ps_if (pt_not (pt_val (pe_call (ok_is_kept_in T) (hr.mono (by decide)) (by rfl) T.g_is_kept_in T.F_is_kept_in.kp T.b_is_kept_in .nil pass0 (pa_cons (pv 0) (pa_cons (pv 2) pa_nil)))))
(pss_cons (ps_ret pe_bl)
pss_nil)
pss_nil)
pss_nil))
(pss_cons (ps_ret (pe_cmpR op_gt (pe_ix ix_tup (pv 1) pe_int (fun _ _ => rfl)) pe_int (nomark _)))
pss_nil)))), ?_⟩)
  obtain ⟨r, x, d, rfl, hd, q⟩ := h
  refine ⟨_, rfl, _, d, rfl, hd, _, rfl, ?_⟩
  cases d with
  | tuple ds =>
    obtain ⟨a, xs, rfl, hs, ha⟩ := Dp.tup_inv hd
    have hlen := DpAll.length ha
    refine iteF ?_
    refine ⟨_, rfl, _, _, rfl, .inr hs, (by show 2 ≤ sizeLine; decide), fun p hp => ⟨p, _, rfl, .inr (SqT.of upd_same), rfl, rfl, _, rfl, ?_⟩⟩
    rw [in23, hlen]
    have hS : Same H (upd H p (.tup [.int 2, .int 3])) := Same.new hp
    have hv : rowD r (.tuple ds) = ((decide (ds.length = 2) || decide (ds.length = 3)) && (ds.all (keptD r) && decide (0 < intOf (ds.headD .none)))) := rfl
    rw [hv] at q
    by_cases h23 : ds.length = 2 ∨ ds.length = 3
    · have e : (decide (ds.length = 2) || decide (ds.length = 3)) = true := by simpa using h23
      rw [e] at q ⊢
      refine iteF ?_
      refine ⟨_, rfl, a, rfl, ⟨_, Same.tup hS hs⟩, for_it (walk_tup (xs := xs)) (fun i σ' H' => (∃ v, σ' = [some (.int r), some (.ref a), v]) ∧ H' = upd H p (.tup [.int 2, .int 3]) ∧ (ds.take i).all (keptD r) = true) ?_ ?_ ?_ ?_⟩
      · exact ⟨⟨none, rfl⟩, rfl, rfl⟩
      · rintro i σ' H' _ ⟨_, rfl, _⟩
        exact Same.tup hS hs
      · rintro i x σ' H' H'' hi ⟨⟨v, rfl⟩, rfl, hall⟩ ⟨rfl, hx⟩
        obtain ⟨d, hdi, hdx⟩ := DpAll.of ha hx
        refine ⟨_, rfl, _, rfl, r, _, d, rfl, Dp.same hS hdx, _, rfl, ?_⟩
        have et : (ds.take (i + 1)).all (keptD r) = ((ds.take i).all (keptD r) && keptD r d) := by
          rw [List.take_add_one, hdi, List.all_append]
          simp
        cases hk : keptD r d with
        | true =>
          refine iteF ?_
          exact ⟨⟨_, rfl⟩, rfl, by rw [et, hall, hk]; rfl⟩
        | false =>
          refine iteT ?_
          have : ds.all (keptD r) = false := by
            rw [List.all_eq_false]
            exact ⟨d, List.mem_of_getElem? hdi, by rw [hk]; exact Bool.false_ne_true⟩
          rw [this] at q
          exact q _ hS
      · rintro σ' H' ⟨⟨v, rfl⟩, rfl, hall⟩
        have hall' : ds.all (keptD r) = true := by
          rw [hlen, List.take_length] at hall
          exact hall
        rw [hall'] at q
        have h0 : 0 < ds.length := by omega
        obtain ⟨d0, hd0⟩ : ∃ d0, ds[0]? = some d0 := ⟨ds[0], by simp [h0]⟩
        obtain ⟨x0, hx0, hdx0⟩ := DpAll.get ha hd0
        have hk0 : keptD r d0 = true := List.all_eq_true.mp hall' d0 (List.mem_of_getElem? hd0)
        have hI : isI d0 = true := by
          unfold keptD isN at hk0
          exact (Bool.and_eq_true_iff.mp (Bool.and_eq_true_iff.mp hk0).1).1
        rw [isI_int hI] at hdx0
        cases hdx0
        refine ⟨_, rfl, a, xs, _, _, rfl, rfl, Same.tup hS hs, atI_nat (j := 0) hx0, _, _, rfl, rfl, ?_⟩
        have e0 : ds.headD .none = d0 := by
          cases ds with
          | nil => simp at h0
          | cons a b => simpa using hd0
        rw [e0] at q
        exact q _ hS
    · have e : (decide (ds.length = 2) || decide (ds.length = 3)) = false := by simpa using h23
      rw [e] at q ⊢
      exact iteT (q _ hS)
  | none => exact iteT (iteT (q _ (Same.refl H)))
  | bool b => exact iteT (iteT (q _ (Same.refl H)))
  | int i => exact iteT (iteT (q _ (Same.refl H)))
  | str x => exact iteT (iteT (q _ (Same.refl H)))
  | list ds => exact iteT (iteT (q _ (Same.refl H)))
  | dict ds => exact iteT (iteT (q _ (Same.refl H)))
end
end U3


namespace U3
open PySem PySem.Spec PyProof.Rows L2
section
variable {P : Program} {w : World} {K : PySem.W.Frag} {mg : Str → Option Value} {base : Heap}
theorem isTup_eq {d : PyData} (h : isTup d = true) : ∃ ds, d = .tuple ds := by
  cases d <;> simp [isTup] at h
  exact ⟨_, rfl⟩
def toldOk (r : Int) : PyData → Bool
  | .none => true
  | d => keptD r d
def phaseD (r : Int) : PyData → Bool
  | .tuple [.tuple rows, t] => rows.all (rowD r) && toldOk r t
  | _ => false
theorem phaseD_no {r : Int} {d : PyData} (h : isTup d = false) : phaseD r d = false := by
  cases d with
  | tuple ds => simp [isTup] at h
  | _ => rfl
theorem phaseD_len {r : Int} {ds : List PyData} (h : ds.length ≠ 2) : phaseD r (.tuple ds) = false := by
  match ds, h with
  | [], _ => rfl
  | [_], _ => unfold phaseD; split <;> simp_all
  | [_, _], h => exact absurd rfl h
  | _ :: _ :: _ :: _, _ => unfold phaseD; split <;> simp_all
theorem phaseD_in {r : Int} {d0 t : PyData} (h : isTup d0 = false) : phaseD r (.tuple [d0, t]) = false := by
  cases d0 with
  | tuple ds => simp [isTup] at h
  | _ => rfl
def sp_phase_fault (K : PySem.W.Frag) : Sp := fun vs H Q _ => ∃ r x d, vs = [.int r, x] ∧ Dp K H x d ∧ ∀ H', Same H H' → (phaseD r d = true → Q .non H') ∧ (phaseD r d = false → ∀ z, Q (.str z) H')
-- slots: 0:registers 1:phase 2:row | cells: []
theorem sc_phase_fault : FnScope ["registers", "phase", "row"] ["registers", "phase"] (defScope s_phase_fault) := ⟨rfl, rfl, rfl, by decide +kernel, rfl, by decide +kernel, by decide +kernel⟩
theorem ok_phase_fault (T : Txt K mg) : FnOk P w K mg base CX0 5 (He.ga K "phase_fault") (fdA K (He.ga K "phase_fault")) ["registers", "phase"] (sp_phase_fault K) := by
  refine T.F_phase_fault.ok sc_phase_fault (fun vs H Q E h => by obtain ⟨r, x, d, rfl, _⟩ := h; rfl) (fun cdv A outer s H vs Q E hr h => ⟨_, PSs.nox ((pss_cons (ps_if (PW.pt (pw_or (pt_not (pt_val (pe_callB (call_is isT_tup) (by rfl) T.m_isinstance bt_isinstance (pa_cons (pv 1) (pa_cons (pe_bltn (v := .ty "tuple") (by rfl) T.m_tuple bt_tuple rfl) pa_nil))))) (pw_or (pt_cmpR op_ne (pe_callB call_len_seq (by rfl) T.m_len bt_len (pa_cons (pv 1) pa_nil)) pe_int (nomark _)) (pw_or1 (pt_not (pt_val (pe_callB (call_is isT_tup) (by rfl) T.m_isinstance bt_isinstance (pa_cons (pe_ix ix_tup (pv 1) pe_int (fun _ _ => rfl)) (pa_cons (pe_bltn (v := .ty "tuple") (by rfl) T.m_tuple bt_tuple rfl) pa_nil)))))))))
(pss_cons (ps_ret pe_str)
pss_nil)
pss_nil)
(pss_cons (ps_for PassesOwn.never rfl (pi_tup (pe_ix ix_tup (pv 1) pe_int (fun _ _ => rfl))) (pg_name (i := 2) sc_phase_fault.nd rfl (Or.inl rfl))
(pss_cons (ps_if (pt_not (pt_val (pe_call (ok_row_stands T) (hr.mono (by decide)) (by rfl) T.g_row_stands T.F_row_stands.kp T.b_row_stands .nil pass0 (pa_cons (pv 0) (pa_cons (pv 2) pa_nil)))))
(pss_cons (ps_ret pe_str)
pss_nil)
pss_nil)
pss_nil))
(pss_cons (ps_if (PW.pt (pw_and (pt_cmpR op_notN (pe_ix ix_tup (pv 1) pe_int (fun _ _ => rfl)) pe_non (nomark _)) (pw_and1 (pt_not (pt_val (pe_call (ok_is_kept_in T) (hr.mono (by decide)) (by rfl) T.g_is_kept_in T.F_is_kept_in.kp T.b_is_kept_in .nil pass0 (pa_cons (pv 0) (pa_cons (pe_ix ix_tup (pv 1) pe_int (fun _ _ => rfl)) pa_nil))))))))
(pss_cons (ps_ret pe_str)
pss_nil)
pss_nil)
(pss_cons (ps_ret pe_non)
pss_nil))))), ?_⟩)
  obtain ⟨r, x, d, rfl, hd, q⟩ := h
  refine ⟨_, rfl, _, d, rfl, hd, _, rfl, ?_⟩
  cases ht : isTup d with
  | false => exact iteT (iteT ((q H (Same.refl H)).2 (phaseD_no ht) _))
  | true =>
    refine iteF ?_
    obtain ⟨ds, rfl⟩ := isTup_eq ht
    obtain ⟨a, xs, rfl, hs, ha⟩ := Dp.tup_inv hd
    have hlen := DpAll.length ha
    refine ⟨_, rfl, _, _, rfl, .inr hs, rfl, _, rfl, ?_⟩
    by_cases h2 : ds.length = 2
    · have e : (!decide (V.int (xs.length : Int) = V.int 2)) = false := by rw [hlen, h2]; rfl
      rw [e]
      refine iteF ?_
      match ds, h2 with
      | [d0, t], _ =>
        obtain ⟨x0, hx0, hd0⟩ := DpAll.get ha (i := 0) rfl
        obtain ⟨x1, hx1, hd1⟩ := DpAll.get ha (i := 1) rfl
        refine ⟨_, rfl, a, xs, _, x0, rfl, rfl, hs, atI_nat (j := 0) hx0, _, d0, rfl, hd0, _, rfl, ?_⟩
        cases ht0 : isTup d0 with
        | false => exact iteT ((q H (Same.refl H)).2 (phaseD_in ht0) _)
        | true =>
          refine iteF ?_
          obtain ⟨rows, rfl⟩ := isTup_eq ht0
          obtain ⟨a0, ys, rfl, hs0, ha0⟩ := Dp.tup_inv hd0
          have hl0 := DpAll.length ha0
          have hv : phaseD r (.tuple [.tuple rows, t]) = (rows.all (rowD r) && toldOk r t) := rfl
          rw [hv] at q
          refine ⟨_, rfl, a, xs, _, _, rfl, rfl, hs, atI_nat (j := 0) hx0, a0, rfl, ⟨_, hs0⟩, for_it (walk_tup (xs := ys)) (fun i σ' H' => (∃ v, σ' = [some (.int r), some (.ref a), v]) ∧ Same H H' ∧ (rows.take i).all (rowD r) = true) ?_ ?_ ?_ ?_⟩
          · exact ⟨⟨none, rfl⟩, Same.refl H, rfl⟩
          · rintro i σ' H' _ ⟨_, hS, _⟩
            exact Same.tup hS hs0
          · rintro i x σ' H' H'' hi ⟨⟨v, rfl⟩, hS, hall⟩ ⟨rfl, hx⟩
            obtain ⟨d, hdi, hdx⟩ := DpAll.of ha0 hx
            refine ⟨_, rfl, _, rfl, r, _, d, rfl, Dp.same hS hdx, fun H2 hS2 => ⟨_, rfl, ?_⟩⟩
            have et : (rows.take (i + 1)).all (rowD r) = ((rows.take i).all (rowD r) && rowD r d) := by
              rw [List.take_add_one, hdi, List.all_append]
              simp
            have hS3 := hS.trans hS2
            cases hk : rowD r d with
            | true =>
              refine iteF ?_
              exact ⟨⟨_, rfl⟩, hS3, by rw [et, hall, hk]; rfl⟩
            | false =>
              refine iteT ?_
              have : rows.all (rowD r) = false := by
                rw [List.all_eq_false]
                exact ⟨d, List.mem_of_getElem? hdi, by rw [hk]; exact Bool.false_ne_true⟩
              rw [this] at q
              exact (q _ hS3).2 rfl _
          · rintro σ' H' ⟨⟨v, rfl⟩, hS, hall⟩
            have hall' : rows.all (rowD r) = true := by
              rw [hl0, List.take_length] at hall
              exact hall
            rw [hall'] at q
            have hd1' := Dp.same hS hd1
            refine ⟨_, rfl, a, xs, _, _, rfl, rfl, Same.tup hS hs, atI_nat (j := 1) hx1, rfl, _, rfl, ?_⟩
            by_cases ht1 : t = .none
            · subst ht1
              cases hd1'
              exact iteF ((q _ hS).1 rfl)
            · have e1 : (!decide (x1 = .non)) = true := by
                cases hd1' <;> first | rfl | exact absurd rfl ht1
              rw [e1]
              refine iteT ?_
              refine ⟨_, rfl, _, rfl, a, xs, _, _, rfl, rfl, Same.tup hS hs, atI_nat (j := 1) hx1, r, _, t, rfl, hd1', _, rfl, ?_⟩
              have e2 : toldOk r t = keptD r t := by
                cases t <;> first | rfl | exact absurd rfl ht1
              rw [e2] at q
              cases hk : keptD r t with
              | true =>
                rw [hk] at q
                exact iteF ((q _ hS).1 rfl)
              | false =>
                rw [hk] at q
                exact iteT ((q _ hS).2 rfl _)
    · have e : (!decide (V.int (xs.length : Int) = V.int 2)) = true := by
        rw [hlen]
        have : ¬ V.int (ds.length : Int) = V.int 2 := fun z => h2 (by injection z; omega)
        rw [decide_eq_false this]
        rfl
      rw [e]
      exact iteT (iteT ((q H (Same.refl H)).2 (phaseD_len h2) _))
end
end U3


namespace U3
open PySem PySem.Spec PyProof.Rows L2
section
variable {P : Program} {w : World} {K : PySem.W.Frag} {mg : Str → Option Value} {base : Heap}
def progD : PyData → Bool
  | .tuple [r, .tuple phs] => isI r && (decide (1 ≤ intOf r) && (!decide (phs.length = 0) && phs.all (phaseD (intOf r))))
  | _ => false
theorem DpAll.two {H : Hp} {xs : List V} {a b : PyData} (h : DpAll K H xs [a, b]) : ∃ x y, xs = [x, y] ∧ Dp K H x a ∧ Dp K H y b := by
  cases h with
  | cons h1 h =>
    cases h with
    | cons h2 h =>
      cases h
      exact ⟨_, _, rfl, h1, h2⟩
theorem progD_no {d : PyData} (h : isTup d = false) : progD d = false := by
  cases d with
  | tuple ds => simp [isTup] at h
  | _ => rfl
theorem progD_len {ds : List PyData} (h : ds.length ≠ 2) : progD (.tuple ds) = false := by
  match ds, h with
  | [], _ => rfl
  | [_], _ => unfold progD; split <;> simp_all
  | [_, _], h => exact absurd rfl h
  | _ :: _ :: _ :: _, _ => unfold progD; split <;> simp_all
theorem progD_in {r d1 : PyData} (h : isTup d1 = false) : progD (.tuple [r, d1]) = false := by
  cases d1 with
  | tuple ds => simp [isTup] at h
  | _ => rfl
theorem progD_reg {r d1 : PyData} (h : isI r = false ∨ intOf r < 1) : progD (.tuple [r, d1]) = false := by
  cases d1 with
  | tuple phs =>
    show (isI r && (decide (1 ≤ intOf r) && (!decide (phs.length = 0) && phs.all (phaseD (intOf r))))) = false
    rcases h with h | h
    · rw [h]; rfl
    · rw [decide_eq_false (by omega)]
      simp
  | _ => rfl
def sp_program_fault (K : PySem.W.Frag) : Sp := fun vs H Q _ => ∃ x d, vs = [x] ∧ Dp K H x d ∧ ∀ H', Same H H' → (progD d = true → Q .non H') ∧ (progD d = false → ∀ p, Q (.ref p) H')
-- slots: 0:thing 1:registers 2:phases 3:at 4:phase 5:word | cells: []
theorem sc_program_fault : FnScope ["thing", "registers", "phases", "at", "phase", "word"] ["thing"] (defScope s_program_fault) := ⟨rfl, rfl, rfl, by decide +kernel, rfl, by decide +kernel, by decide +kernel⟩
theorem ok_program_fault (T : Txt K mg) : FnOk P w K mg base CX0 6 (He.ga K "program_fault") (fdA K (He.ga K "program_fault")) ["thing"] (sp_program_fault K) := by
  refine T.F_program_fault.ok sc_program_fault (fun vs H Q E h => by obtain ⟨x, d, rfl, _⟩ := h; rfl) (fun cdv A outer s H vs Q E hr h => ⟨_, PSs.nox ((pss_cons (ps_if (PW.pt (pw_or (pt_not (pt_val (pe_callB (call_is isT_tup) (by rfl) T.m_isinstance bt_isinstance (pa_cons (pv 0) (pa_cons (pe_bltn (v := .ty "tuple") (by rfl) T.m_tuple bt_tuple rfl) pa_nil))))) (pw_or1 (pt_cmpR op_ne (pe_callB call_len_seq (by rfl) T.m_len bt_len (pa_cons (pv 0) pa_nil)) pe_int (nomark _)))))
(pss_cons (ps_ret (pe_tup (pa_cons pe_str (pa_cons (pe_un un_neg pe_int) pa_nil))))
pss_nil)
pss_nil)
(pss_cons (ps_asg (pv 0) (pg_tup rfl (pgs_cons (pg_name (i := 1) sc_program_fault.nd rfl (Or.inl rfl)) (pgs_cons (pg_name (i := 2) sc_program_fault.nd rfl (Or.inl rfl)) pgs_nil))))
(pss_cons (ps_if (PW.pt (pw_or (pt_not (pt_val (pe_call (ok_is_integer T) (hr.mono (by decide)) (by rfl) T.g_is_integer T.F_is_integer.kp T.b_is_integer .nil pass0 (pa_cons (pv 1) pa_nil)))) (pw_or1 (pt_cmpR op_lt (pv 1) pe_int (nomark _)))))
(pss_cons (ps_ret (pe_tup (pa_cons pe_str (pa_cons (pe_un un_neg pe_int) pa_nil))))
pss_nil)
pss_nil)
(pss_cons (ps_if (PW.pt (pw_or (pt_not (pt_val (pe_callB (call_is isT_tup) (by rfl) T.m_isinstance bt_isinstance (pa_cons (pv 2) (pa_cons (pe_bltn (v := .ty "tuple") (by rfl) T.m_tuple bt_tuple rfl) pa_nil))))) (pw_or1 (pt_cmpR op_eq (pe_callB call_len_seq (by rfl) T.m_len bt_len (pa_cons (pv 2) pa_nil)) pe_int (nomark _)))))
(pss_cons (ps_ret (pe_tup (pa_cons pe_str (pa_cons (pe_un un_neg pe_int) pa_nil))))
pss_nil)
pss_nil)
(pss_cons (ps_for PassesOwn.never rfl (pi_enumT (by rfl) T.m_enumerate (pa_cons (pv 2) pa_nil)) (pg_tup rfl (pgs_cons (pg_name (i := 3) sc_program_fault.nd rfl (Or.inl rfl)) (pgs_cons (pg_name (i := 4) sc_program_fault.nd rfl (Or.inl rfl)) pgs_nil)))
(pss_cons (ps_set (i := 5) sc_program_fault.nd rfl (Or.inl rfl) (pe_call (ok_phase_fault T) (hr.mono (by decide)) (by rfl) T.g_phase_fault T.F_phase_fault.kp T.b_phase_fault .nil pass0 (pa_cons (pv 1) (pa_cons (pv 4) pa_nil))))
(pss_cons (ps_if (pt_cmpR op_notN (pv 5) pe_non (nomark _))
(pss_cons (ps_ret (pe_tup (pa_cons (pv 5) (pa_cons (pv 3) pa_nil))))
pss_nil)
pss_nil)
pss_nil)))
(pss_cons (ps_ret pe_non)
pss_nil))))))), ?_⟩)
  obtain ⟨x, d, rfl, hd, q⟩ := h
  -- a pair of a word and -1 is handed back
  have bad : ∀ {H1 : Hp}, Same H H1 → progD d = false → ∀ (v w : V), [v, w].length ≤ sizeLine ∧ ∀ p, H1 p = none → Q (.ref p) (upd H1 p (.tup [v, w])) := fun {H1} hS hp v w =>
    ⟨(by show 2 ≤ sizeLine; decide), fun p hn => (q _ (hS.trans (Same.new hn))).2 hp p⟩
  refine ⟨_, rfl, _, d, rfl, hd, _, rfl, ?_⟩
  cases ht : isTup d with
  | false => (refine iteT ?_; refine iteT ?_; exact ⟨_, rfl, bad (Same.refl H) (progD_no ht) _ _⟩)
  | true =>
    refine iteF ?_
    obtain ⟨ds, rfl⟩ := isTup_eq ht
    obtain ⟨a, xs, rfl, hs, ha⟩ := Dp.tup_inv hd
    have hlen := DpAll.length ha
    refine ⟨_, rfl, _, _, rfl, .inr hs, rfl, _, rfl, ?_⟩
    by_cases h2 : ds.length = 2
    · have e : (!decide (V.int (xs.length : Int) = V.int 2)) = false := by rw [hlen, h2]; rfl
      rw [e]
      refine iteF ?_
      match ds, h2 with
      | [r, d1], _ =>
        obtain ⟨x0, x1, rfl, hd0, hd1⟩ := DpAll.two ha
        -- registers, phases = thing
        refine ⟨_, rfl, a, _, rfl, hs, rfl, _, _, rfl, _, _, rfl, rfl, ?_⟩
        refine ⟨_, rfl, _, r, rfl, hd0, _, rfl, ?_⟩
        cases hI : isI r with
        | false => (refine iteT ?_; refine iteT ?_; exact ⟨_, rfl, bad (Same.refl H) (progD_reg (.inl hI)) _ _⟩)
        | true =>
          refine iteF ?_
          have er := isI_int hI
          generalize intOf r = k at er q bad
          subst er
          cases hd0
          refine ⟨_, rfl, _, _, rfl, rfl, _, rfl, ?_⟩
          by_cases hk : k < 1
          · rw [decide_eq_true hk]
            exact iteT ⟨_, rfl, bad (Same.refl H) (progD_reg (.inr hk)) _ _⟩
          · rw [decide_eq_false hk]
            refine iteF ?_
            refine ⟨_, rfl, _, d1, rfl, hd1, _, rfl, ?_⟩
            cases ht1 : isTup d1 with
            | false => (refine iteT ?_; refine iteT ?_; exact ⟨_, rfl, bad (Same.refl H) (progD_in ht1) _ _⟩)
            | true =>
              refine iteF ?_
              obtain ⟨phs, rfl⟩ := isTup_eq ht1
              obtain ⟨a1, ys, rfl, hs1, ha1⟩ := Dp.tup_inv hd1
              have hl1 := DpAll.length ha1
              have hv : progD (.tuple [.int k, .tuple phs]) = (!decide (phs.length = 0) && phs.all (phaseD k)) := by
                show (true && (decide (1 ≤ k) && (!decide (phs.length = 0) && phs.all (phaseD k)))) = _
                rw [decide_eq_true (by omega : 1 ≤ k)]
                rfl
              rw [hv] at q bad
              refine ⟨_, rfl, _, _, rfl, .inr hs1, rfl, _, rfl, ?_⟩
              by_cases h0 : phs.length = 0
              · have e : decide (V.int (ys.length : Int) = V.int 0) = true := by rw [hl1, h0]; rfl
                rw [e]
                refine iteT ⟨_, rfl, bad (Same.refl H) ?_ _ _⟩
                rw [decide_eq_true h0]
                rfl
              · have e : decide (V.int (ys.length : Int) = V.int 0) = false := decide_eq_false fun z => h0 (by injection z; omega)
                rw [e]
                refine iteF ?_
                rw [decide_eq_false h0] at q bad
                refine ⟨_, rfl, a1, _, rfl, hs1, for_it (walk_enumT (xs := ys)) (fun i σ' H' => (∃ u v z, σ' = [some (.ref a), some (.int k), some (.ref a1), u, v, z]) ∧ Same H H' ∧ (phs.take i).all (phaseD k) = true) ?_ ?_ ?_ ?_⟩
                · exact ⟨⟨none, none, none, rfl⟩, Same.refl H, rfl⟩
                · rintro i σ' H' _ ⟨_, hS, _⟩
                  exact Same.tup hS hs1
                · rintro i x σ' H' H'' hi ⟨⟨u, v, z, rfl⟩, hS, hall⟩ ⟨T', x', y, rfl, hT, rfl, ex, hx⟩
                  cases ex
                  obtain ⟨d, hdi, hdx⟩ := DpAll.of ha1 hx
                  have hS1 := hS.trans (Same.new (o := .tup [V.int (i : Nat), y]) hT)
                  refine ⟨T', _, rfl, SqT.of upd_same, rfl, _, _, rfl, _, _, rfl, rfl, ?_⟩
                  refine ⟨_, rfl, _, rfl, k, _, d, rfl, Dp.same hS1 hdx, fun H2 hS2 => ?_⟩
                  have hS3 := hS1.trans hS2
                  have et : (phs.take (i + 1)).all (phaseD k) = ((phs.take i).all (phaseD k) && phaseD k d) := by
                    rw [List.take_add_one, hdi, List.all_append]
                    simp
                  refine ⟨fun hk => ?_, fun hk z' => ?_⟩
                  · refine ⟨_, rfl, rfl, _, rfl, iteF ?_⟩
                    exact ⟨⟨_, _, _, rfl⟩, hS3, by rw [et, hall, hk]; rfl⟩
                  · refine ⟨_, rfl, rfl, _, rfl, iteT ?_⟩
                    have : phs.all (phaseD k) = false := by
                      rw [List.all_eq_false]
                      exact ⟨d, List.mem_of_getElem? hdi, by rw [hk]; exact Bool.false_ne_true⟩
                    rw [this] at bad
                    exact ⟨_, rfl, _, rfl, bad hS3 rfl _ _⟩
                · rintro σ' H' ⟨⟨u, v, z, rfl⟩, hS, hall⟩
                  have hall' : phs.all (phaseD k) = true := by
                    rw [hl1, List.take_length] at hall
                    exact hall
                  rw [hall'] at q
                  exact (q _ hS).1 rfl
    · have e : (!decide (V.int (xs.length : Int) = V.int 2)) = true := by
        rw [hlen]
        have : ¬ V.int (ds.length : Int) = V.int 2 := fun z => h2 (by injection z; omega)
        rw [decide_eq_false this]
        rfl
      rw [e]
      (refine iteT ?_; exact ⟨_, rfl, bad (Same.refl H) (progD_len h2) _ _⟩)
/-! is_program(thing) -/
def sp_is_program (K : PySem.W.Frag) : Sp := fun vs H Q _ => ∃ x d, vs = [x] ∧ Dp K H x d ∧ ∀ H', Same H H' → Q (.bl (progD d)) H'
-- slots: 0:thing | cells: []
theorem sc_is_program : FnScope ["thing"] ["thing"] (defScope s_is_program) := ⟨rfl, rfl, rfl, by decide +kernel, rfl, by decide +kernel, by decide +kernel⟩
theorem ok_is_program (T : Txt K mg) : FnOk P w K mg base CX0 7 (He.ga K "is_program") (fdA K (He.ga K "is_program")) ["thing"] (sp_is_program K) := by
  refine T.F_is_program.ok sc_is_program (fun vs H Q E h => by obtain ⟨x, d, rfl, _⟩ := h; rfl) (fun cdv A outer s H vs Q E hr h => ⟨_, PSs.nox ((pss_cons (ps_ret (pe_cmpR op_isN (pe_call (ok_program_fault T) (hr.mono (by decide)) (by rfl) T.g_program_fault T.F_program_fault.kp T.b_program_fault .nil pass0 (pa_cons (pv 0) pa_nil)) pe_non (nomark _)))
pss_nil)), ?_⟩)
  obtain ⟨x, d, rfl, hd, q⟩ := h
  refine ⟨_, rfl, _, d, rfl, hd, fun H' hS => ⟨fun h1 => ?_, fun h1 p => ?_⟩⟩
  · rw [h1] at q
    exact ⟨rfl, q _ hS⟩
  · rw [h1] at q
    exact ⟨rfl, q _ hS⟩
end
end U3


namespace U3
open PySem PySem.Spec PyProof.Rows L2
section
variable {P : Program} {w : World} {K : PySem.W.Frag} {mg : Str → Option Value} {base : Heap}
/-! judged_steady(width, hop), judged_kinds(program, width, hop) -/
def posD (d : PyData) : Bool := isI d && decide (1 ≤ intOf d)
/-- what is wished where NotUsable(word, -1) is raised -/
def ErrN (K : PySem.W.Frag) (word : Str) (H : Hp) (E : XK) : Prop := ∀ H' d, Same H H' → H' d = some (.xd (errFs (.str word) (.int (-1)))) → E (.ref (He.ga K "NotUsable")) (some d) H'
def ErrP (K : PySem.W.Frag) (word : Str) (H : Hp) (E : XK) : Prop := ∀ H' d, Same H H' → H' d = some (.xd (errFs (.str word) (.int (-1)))) → E (.ref (He.ga K "InvalidPaper")) (some d) H'
theorem ErrN.same {word : Str} {H H1 : Hp} {E : XK} (e : ErrN K word H E) (h : Same H H1) : ErrN K word H1 E := fun H' d hS hd => e H' d (h.trans hS) hd
theorem ErrP.same {word : Str} {H H1 : Hp} {E : XK} (e : ErrP K word H E) (h : Same H H1) : ErrP K word H1 E := fun H' d hS hd => e H' d (h.trans hS) hd
theorem ErrN.go {word : Str} {H : Hp} {E : XK} (e : ErrN K word H E) : ∀ d, H d = none → E (.ref (He.ga K "NotUsable")) (some d) (upd H d (.xd (errFs (.str word) (.int (-1))))) := fun d hd => e _ d (Same.new hd) upd_same
theorem ErrP.go {word : Str} {H : Hp} {E : XK} (e : ErrP K word H E) : ∀ d, H d = none → E (.ref (He.ga K "InvalidPaper")) (some d) (upd H d (.xd (errFs (.str word) (.int (-1))))) := fun d hd => e _ d (Same.new hd) upd_same
def sp_judged_steady (K : PySem.W.Frag) : Sp := fun vs H Q E => ∃ x y dx dy, vs = [x, y] ∧ Dp K H x dx ∧ Dp K H y dy ∧ (posD dx = false → ErrN K "width" H E) ∧ (posD dx = true → posD dy = false → ErrN K "hop" H E) ∧ (posD dx = true → posD dy = true → Q .non H)
-- slots: 0:width 1:hop | cells: []
theorem sc_judged_steady : FnScope ["width", "hop"] ["width", "hop"] (defScope s_judged_steady) := ⟨rfl, rfl, rfl, by decide +kernel, rfl, by decide +kernel, by decide +kernel⟩
theorem ok_judged_steady (T : Txt K mg) : FnOk P w K mg base (L2.CX P w) 3 (He.ga K "judged_steady") (fdA K (He.ga K "judged_steady")) ["width", "hop"] (sp_judged_steady K) := by
  refine T.F_judged_steady.ok sc_judged_steady (fun vs H Q E h => by obtain ⟨x, y, dx, dy, rfl, _⟩ := h; rfl) (fun cdv A outer s H vs Q E hr h => ⟨_, ((pss_cons (ps_if (pt_not (PW.pt (pw_and (pt_val (pe_call (ok_is_integer T) (hr.mono (by decide)) (by rfl) T.g_is_integer T.F_is_integer.kp T.b_is_integer .nil pass0 (pa_cons (pv 0) pa_nil))) (pw_and1 (pt_cmpR op_ge (pv 0) pe_int (nomark _))))))
(pss_cons (ps_raiseY rfl T.errN (ok_initN T) (hr.mono (by decide)) T.b_initN (takes_of rfl rfl rfl rfl) (by rfl) T.g_NotUsable (pa_cons pe_str (pa_cons (pe_un un_neg pe_int) pa_nil)))
pss_nil)
pss_nil)
(pss_cons (ps_if (pt_not (PW.pt (pw_and (pt_val (pe_call (ok_is_integer T) (hr.mono (by decide)) (by rfl) T.g_is_integer T.F_is_integer.kp T.b_is_integer .nil pass0 (pa_cons (pv 1) pa_nil))) (pw_and1 (pt_cmpR op_ge (pv 1) pe_int (nomark _))))))
(pss_cons (ps_raiseY rfl T.errN (ok_initN T) (hr.mono (by decide)) T.b_initN (takes_of rfl rfl rfl rfl) (by rfl) T.g_NotUsable (pa_cons pe_str (pa_cons (pe_un un_neg pe_int) pa_nil)))
pss_nil)
pss_nil)
pss_nil))), ?_⟩)
  obtain ⟨x, y, dx, dy, rfl, hx, hy, e1, e2, q⟩ := h
  -- the first
  refine ⟨_, rfl, _, dx, rfl, hx, _, rfl, ?_⟩
  have second : posD dx = true → tSeq (tIfS (tNot (tAnd (tB (tCall (sp_is_integer K) [] E0 (tCons (tVar 1) tNil))) (tTest (tOp (rI0 fun i j => .bl (decide (j ≤ i))) (tVar 1) (tC (.int 1))))))
      (tSeq (tRaiseY (He.ga K "NotUsable") (fun cls d _ H => E cls d H) (tCons (tC (.str "hop")) (tCons (tUn (rU fun i => .int (-i)) (tC (.int 1))) tNil))) tNext) tNext) tNext { nx := fun _ H' => Q .non H', rt := Q } [some x, some y] H := by
    intro hp
    refine ⟨_, rfl, _, dy, rfl, hy, _, rfl, ?_⟩
    cases hI : isI dy with
    | false =>
      refine iteF ?_
      refine iteT ?_
      exact ⟨_, rfl, _, _, rfl, (e2 hp (by unfold posD; rw [hI]; rfl)).go⟩
    | true =>
      have er := isI_int hI
      have hv : posD dy = decide (1 ≤ intOf dy) := by unfold posD; rw [hI]; rfl
      rw [hv] at e2 q
      generalize intOf dy = k at er e2 q
      subst er
      cases hy
      refine iteT ?_
      refine ⟨_, rfl, _, _, rfl, rfl, _, rfl, ?_⟩
      cases hk : decide (1 ≤ k) with
      | false =>
        refine iteT ?_
        exact ⟨_, rfl, _, _, rfl, (e2 hp hk).go⟩
      | true =>
        refine iteF ?_
        exact q hp hk
  cases hI : isI dx with
  | false =>
    refine iteF ?_
    refine iteT ?_
    exact ⟨_, rfl, _, _, rfl, (e1 (by unfold posD; rw [hI]; rfl)).go⟩
  | true =>
    have er := isI_int hI
    have hv : posD dx = decide (1 ≤ intOf dx) := by unfold posD; rw [hI]; rfl
    rw [hv] at e1 second
    generalize intOf dx = k at er e1 second
    subst er
    cases hx
    refine iteT ?_
    refine ⟨_, rfl, _, _, rfl, rfl, _, rfl, ?_⟩
    cases hk : decide (1 ≤ k) with
    | false =>
      refine iteT ?_
      exact ⟨_, rfl, _, _, rfl, (e1 hk).go⟩
    | true =>
      refine iteF ?_
      exact second hk
def sp_judged_kinds (K : PySem.W.Frag) : Sp := fun vs H Q E => ∃ z x y dz dx dy, vs = [z, x, y] ∧ Dp K H z dz ∧ Dp K H x dx ∧ Dp K H y dy ∧ (progD dz = false → ErrN K "program" H E) ∧ (progD dz = true → posD dx = false → ErrN K "width" H E) ∧
  (progD dz = true → posD dx = true → posD dy = false → ErrN K "hop" H E) ∧ (progD dz = true → posD dx = true → posD dy = true → ∀ H', Same H H' → Q .non H')
-- slots: 0:program 1:width 2:hop | cells: []
theorem sc_judged_kinds : FnScope ["program", "width", "hop"] ["program", "width", "hop"] (defScope s_judged_kinds) := ⟨rfl, rfl, rfl, by decide +kernel, rfl, by decide +kernel, by decide +kernel⟩
theorem ok_judged_kinds (T : Txt K mg) : FnOk P w K mg base (L2.CX P w) 8 (He.ga K "judged_kinds") (fdA K (He.ga K "judged_kinds")) ["program", "width", "hop"] (sp_judged_kinds K) := by
  refine T.F_judged_kinds.ok sc_judged_kinds (fun vs H Q E h => by obtain ⟨z, x, y, dz, dx, dy, rfl, _⟩ := h; rfl) (fun cdv A outer s H vs Q E hr h => ⟨_, ((pss_cons (ps_if (pt_not (pt_val (pe_call (ok_is_program T) (hr.mono (by decide)) (by rfl) T.g_is_program T.F_is_program.kp T.b_is_program .nil pass0 (pa_cons (pv 0) pa_nil))))
(pss_cons (ps_raiseY rfl T.errN (ok_initN T) (hr.mono (by decide)) T.b_initN (takes_of rfl rfl rfl rfl) (by rfl) T.g_NotUsable (pa_cons pe_str (pa_cons (pe_un un_neg pe_int) pa_nil)))
pss_nil)
pss_nil)
(pss_cons (ps_expr (pe_call (E := E) (ok_judged_steady T) (hr.mono (by decide)) (by rfl) T.g_judged_steady T.F_judged_steady.kp T.b_judged_steady .nil (passes_call (W := fun cls d _ H => E cls d H) (takes_of rfl rfl rfl rfl) (fun _ _ _ _ h => h)) (pa_cons (pv 1) (pa_cons (pv 2) pa_nil))))
pss_nil))), ?_⟩)
  obtain ⟨z, x, y, dz, dx, dy, rfl, hz, hx, hy, e0, e1, e2, q⟩ := h
  refine ⟨_, rfl, _, dz, rfl, hz, fun H1 hS => ⟨_, rfl, ?_⟩⟩
  cases hp : progD dz with
  | false =>
    refine iteT ?_
    exact ⟨_, rfl, _, _, rfl, ((e0 hp).same hS).go⟩
  | true =>
    refine iteF ?_
    exact ⟨_, rfl, _, rfl, x, y, dx, dy, rfl, Dp.same hS hx, Dp.same hS hy, fun h1 => (e1 hp h1).same hS, fun h1 h2 => (e2 hp h1 h2).same hS, fun h1 h2 => q hp h1 h2 _ hS⟩
theorem fdivN (a b : Nat) : (a : Int).fdiv (b : Int) = ((a / b : Nat) : Int) := by
  rw [Int.fdiv_eq_ediv_of_nonneg _ (by omega), ← Int.natCast_ediv]
theorem fmodN (a b : Nat) : (a : Int).fmod (b : Int) = ((a % b : Nat) : Int) := by
  rw [Int.fmod_eq_emod_of_nonneg _ (by omega), ← Int.natCast_emod]
/-! whole_round(program, hop) -/
def sp_whole_round (K : PySem.W.Frag) : Sp := fun vs H Q _ => ∃ (a b : Addr) (xs ys : List V) (h : Nat), vs = [.ref a, .int h] ∧ SqT K H a xs ∧ xs[1]? = some (.ref b) ∧ SqT K H b ys ∧ 1 ≤ ys.length ∧ ys.length ≤ 1000 ∧ 1 ≤ h ∧ h ≤ 1000 ∧ Q (.int (Nat.lcm ys.length h : Nat)) H
-- slots: 0:program 1:hop 2:many 3:one 4:other | cells: []
theorem sc_whole_round : FnScope ["program", "hop", "many", "one", "other"] ["program", "hop"] (defScope s_whole_round) := ⟨rfl, rfl, rfl, by decide +kernel, rfl, by decide +kernel, by decide +kernel⟩
theorem ok_whole_round (T : Txt K mg) : FnOk P w K mg base CX0 1 (He.ga K "whole_round") (fdA K (He.ga K "whole_round")) ["program", "hop"] (sp_whole_round K) := by
  refine T.F_whole_round.ok sc_whole_round (fun vs H Q E h => by obtain ⟨a, b, xs, ys, h, rfl, _⟩ := h; rfl) (fun cdv A outer s H vs Q E hr h => ⟨_, PSs.nox ((pss_cons (ps_set (i := 2) sc_whole_round.nd rfl (Or.inl rfl) (pe_callB call_len_seq (by rfl) T.m_len bt_len (pa_cons (pe_ix ix_tup (pv 0) pe_int (fun _ _ => rfl)) pa_nil)))
(pss_cons (ps_par (i := 3) (j := 4) (by rfl) sc_whole_round.nd rfl rfl (by decide) rfl rfl (pa_cons (pv 2) (pa_cons (pv 1) pa_nil)) (by rfl))
(pss_cons (ps_while PassesOwn.never (pt_truth (pv 4) (by intro _; rfl))
(pss_cons (ps_par (i := 3) (j := 4) (by rfl) sc_whole_round.nd rfl rfl (by decide) rfl rfl (pa_cons (pv 4) (pa_cons (pe_op op_modN (pv 3) (pv 4)) pa_nil)) (by rfl))
pss_nil))
(pss_cons (ps_ret (pe_op op_mul (pe_op op_fdivN (pv 2) (pv 3)) (pv 1)))
pss_nil))))), ?_⟩)
  obtain ⟨a, b, xs, ys, h, rfl, hs, h1, hs1, m1, m2, g1, g2, q⟩ := h
  refine ⟨_, rfl, a, xs, _, _, rfl, rfl, hs, atI_nat (j := 1) h1, b, ys, rfl, .inr hs1, ?_⟩
  refine ⟨_, rfl, _, rfl, _, _, rfl, ?_⟩
  refine ⟨fun m σ' H' => H' = H ∧ ∃ i j : Nat, σ' = [some (.ref a), some (.int h), some (.int ys.length), some (.int i), some (.int j)] ∧ Nat.gcd i j = Nat.gcd ys.length h ∧ m = j, ⟨h, rfl, ys.length, h, rfl, rfl, rfl⟩, ?_⟩
  rintro m σ' H' ⟨rfl, i, j, rfl, hg, rfl⟩
  refine ⟨_, rfl, _, rfl, ?_⟩
  by_cases hj : m = 0
  · subst hj
    refine iteF ?_
    rw [Nat.gcd_zero_right] at hg
    have hpos : 0 < i := by rw [hg]; exact Nat.gcd_pos_of_pos_left _ (by omega)
    have hle : i ≤ ys.length := by rw [hg]; exact Nat.gcd_le_left _ (by omega)
    refine ⟨_, rfl, _, rfl, _, _, rfl, rfl, ⟨by omega, by show (i : Int).natAbs < _; omega⟩, _, rfl, _, _, rfl, rfl, .inr ⟨by omega, by omega⟩, ?_⟩
    have e : (ys.length : Int).fdiv (i : Int) * (h : Int) = (Nat.lcm ys.length h : Nat) := by
      rw [Int.fdiv_eq_ediv_of_nonneg _ (by omega), ← Int.natCast_ediv, ← Int.natCast_mul, hg, lcm_said]
    show Q (.int ((ys.length : Int).fdiv (i : Int) * (h : Int))) H'
    rw [e]
    exact q
  · have ht : ((m : Int) != 0) = true := by
      rw [bne_iff_ne]; omega
    rw [ht]
    refine iteT ?_
    refine ⟨_, fun σ' H' h => h, ?_⟩
    refine ⟨_, rfl, _, rfl, _, rfl, _, _, rfl, rfl, by omega, _, _, rfl, ?_⟩
    refine ⟨i % m, Nat.mod_lt _ (by omega), rfl, m, i % m, ?_, ?_, rfl⟩
    · show [some (V.ref a), some (.int h), some (.int ys.length), some (V.int (m : Int)), some (V.int ((i : Int).fmod (m : Int)))] = _
      rw [fmodN]
    · rw [← hg, Nat.gcd_comm m, ← Nat.gcd_rec, Nat.gcd_comm]
/-! spans_met(one, other) -/
def spanV : Option (Nat × Nat) → PyData
  | none => .none
  | some (a, b) => .tuple [.int a, .int b]
def sp_spans_met (K : PySem.W.Frag) : Sp := fun vs H Q _ => ∃ x y s t, vs = [x, y] ∧ Dp K H x (spanV s) ∧ Dp K H y (spanV t) ∧ ∀ v H', Same H H' → Dp K H' v (spanV (met s t)) → Q v H'
-- slots: 0:one 1:other | cells: []
theorem sc_spans_met : FnScope ["one", "other"] ["one", "other"] (defScope s_spans_met) := ⟨rfl, rfl, rfl, by decide +kernel, rfl, by decide +kernel, by decide +kernel⟩
theorem ok_spans_met (T : Txt K mg) : FnOk P w K mg base CX0 1 (He.ga K "spans_met") (fdA K (He.ga K "spans_met")) ["one", "other"] (sp_spans_met K) := by
  refine T.F_spans_met.ok sc_spans_met (fun vs H Q E h => by obtain ⟨x, y, s, t, rfl, _⟩ := h; rfl) (fun cdv A outer s H vs Q E hr h => ⟨_, PSs.nox ((pss_cons (ps_if (PW.pt (pw_or (pt_cmpR op_isN (pv 0) pe_non (nomark _)) (pw_or (pt_cmpR op_isN (pv 1) pe_non (nomark _)) (pw_or1 (pt_cmpR op_ne (pe_ix ix_tup (pv 0) pe_int (fun _ _ => rfl)) (pe_ix ix_tup (pv 1) pe_int (fun _ _ => rfl)) (nomark _))))))
(pss_cons (ps_ret pe_non)
pss_nil)
pss_nil)
(pss_cons (ps_ret (pe_tup (pa_cons (pe_ix ix_tup (pv 0) pe_int (fun _ _ => rfl)) (pa_cons (pe_ix ix_tup (pv 1) pe_int (fun _ _ => rfl)) pa_nil))))
pss_nil))), ?_⟩)
  obtain ⟨x, y, s, t, rfl, hx, hy, q⟩ := h
  refine ⟨_, rfl, rfl, _, rfl, ?_⟩
  cases s with
  | none =>
    cases hx
    exact iteT (iteT (q _ _ (Same.refl H) .non))
  | some ab =>
    obtain ⟨a, b⟩ := ab
    obtain ⟨p, xs, rfl, hp, hxs⟩ := Dp.tup_inv hx
    obtain ⟨x0, x1, rfl, h0, h1⟩ := DpAll.two hxs
    cases h0
    cases h1
    refine iteF ?_
    refine ⟨_, rfl, rfl, _, rfl, ?_⟩
    cases t with
    | none =>
      cases hy
      exact iteT (iteT (q _ _ (Same.refl H) .non))
    | some cd =>
      obtain ⟨c, d⟩ := cd
      obtain ⟨p', ys, rfl, hp', hys⟩ := Dp.tup_inv hy
      obtain ⟨y0, y1, rfl, h0, h1⟩ := DpAll.two hys
      cases h0
      cases h1
      refine iteF ?_
      refine ⟨_, rfl, p, _, _, _, rfl, rfl, hp, atI_nat (j := 1) rfl, _, rfl, p', _, _, _, rfl, rfl, hp', atI_nat (j := 0) rfl, rfl, _, rfl, ?_⟩
      by_cases hbc : b = c
      · subst hbc
        rw [decide_eq_true rfl]
        refine iteF ?_
        refine ⟨_, rfl, p, _, _, _, rfl, rfl, hp, atI_nat (j := 0) rfl, _, rfl, p', _, _, _, rfl, rfl, hp', atI_nat (j := 1) rfl, (by show 2 ≤ sizeLine; decide), fun r hr => ?_⟩
        refine q _ _ (Same.new hr) ?_
        have em : met (some (a, b)) (some (b, d)) = some (a, d) := by simp [met]
        rw [em]
        exact .tup (SqT.of upd_same) (.cons (.int _) (.cons (.int _) .nil))
      · have e : (!decide (V.int (b : Int) = V.int (c : Int))) = true := by
          rw [decide_eq_false fun z => hbc (by injection z; omega)]
          rfl
        rw [e]
        have em : met (some (a, b)) (some (c, d)) = none := by simp [met, hbc]
        rw [em] at q
        exact iteT (q _ _ (Same.refl H) .non)
end
end U3


namespace U3
open PySem PySem.Spec PyProof.Rows L2
section
variable {P : Program} {w : World} {K : PySem.W.Frag} {mg : Str → Option Value} {base : Heap}
/-! programs as data -/
def rowP (r : Row) : PyData := .tuple (r.map fun n : Nat => .int n)
def toldP : Option Nat → PyData
  | none => .none
  | some n => .int n
def phaseP (ph : List Row × Option Nat) : PyData := .tuple [.tuple (ph.1.map rowP), toldP ph.2]
def toD (p : Prog) : PyData := .tuple [.int p.regs, .tuple (p.phases.map phaseP)]
structure WFRow (n : Nat) (r : Row) : Prop where
  len : r.length = 2 ∨ r.length = 3
  all : ∀ x ∈ r, x < n
  head : 0 < r.headD 0
structure WFPh (n : Nat) (ph : List Row × Option Nat) : Prop where
  rows : ∀ r ∈ ph.1, WFRow n r
  few : ph.1.length ≤ 100
  told : ∀ t, ph.2 = some t → t < n
structure WF (p : Prog) : Prop where
  r1 : 1 ≤ p.regs
  r2 : p.regs ≤ 1000
  p1 : 1 ≤ p.phases.length
  p2 : p.phases.length ≤ 1000
  ph : ∀ ph ∈ p.phases, WFPh p.regs ph
theorem WF.at {p : Prog} (W : WF p) (i : Nat) : p.phases[i % p.phases.length]? = some (phaseAt p i) ∧ WFPh p.regs (phaseAt p i) := by
  have h : i % p.phases.length < p.phases.length := Nat.mod_lt _ W.p1
  have e : phaseAt p i = p.phases[i % p.phases.length] := by
    unfold phaseAt
    rw [List.getD_eq_getElem?_getD, List.getElem?_eq_getElem h]
    rfl
  rw [e]
  exact ⟨List.getElem?_eq_getElem h, W.ph _ (List.getElem_mem h)⟩
theorem NLs_ints : ∀ r : List Nat, NLs (r.map fun n : Nat => PyData.int n) = true
  | [] => rfl
  | n :: r => by
    show (NL (.int n) && NLs (r.map fun n : Nat => PyData.int n)) = true
    rw [NLs_ints r]
    rfl
theorem NL_spanV (o : Option (Nat × Nat)) : NL (spanV o) = true := by
  cases o with
  | none => rfl
  | some ab => rfl
theorem ixN_nat {n j : Nat} (hj : j < n) : ixN n (j : Int) = some j := by
  unfold ixN
  rw [if_pos (by omega), if_pos (by omega)]
  simp
/-- the value that stands for a word: nothing, or a node whose span is that of the word -/
def NodeOf (K : PySem.W.Frag) (H : Hp) (S : List V) : Option Wd → V → Prop
  | none, v => v = .non
  | some w, v => ∃ (n : Nat) (sv : V), v = .int n ∧ S[n]? = some sv ∧ Dp K H sv (spanV (spanW w))
theorem NodeOf.keep {H H' : Hp} {S S' : List V} {o : Option Wd} {v : V} (h : NodeOf K H S o v) (e : TK K H H') (hS : ∀ (n : Nat) (x : V), S[n]? = some x → S'[n]? = some x) : NodeOf K H' S' o v := by
  cases o with
  | none => exact h
  | some w =>
    obtain ⟨n, sv, h1, h2, h3⟩ := h
    exact ⟨n, sv, h1, hS n sv h2, Dp.keep e (NL_spanV _) h3⟩
structure UI (K : PySem.W.Frag) (H0 : Hp) (p : Prog) (many nt nD nP nS : Nat) (st : Rg) (ak at_ sd pl as : Addr) (KL TL D PL S : List V) (H : Hp) : Prop where
  same : Same H0 H
  hk : H ak = some (.lst KL)
  ht : H at_ = some (.lst TL)
  hd : H sd = some (.lst D)
  hp : H pl = some (.lst PL)
  hs : H as = some (.lst S)
  nk : H0 ak = none
  nt_ : H0 at_ = none
  nd : H0 sd = none
  np : H0 pl = none
  ns : H0 as = none
  dif : [ak, at_, sd, pl, as].Nodup
  lk : KL.length = p.regs
  lt : TL.length = nt
  lD : D.length = nD
  lP : PL.length = nP
  lS : S.length = many + nS
  regs : ∀ r, r < p.regs → ∃ v, KL[r]? = some v ∧ NodeOf K H S (st r) v
  told : ∀ k, k < nt → ∃ v, TL[k]? = some v ∧ NodeOf K H S (tellAt p k) v
  els : ∀ k, k < many → ∃ sv, S[k]? = some sv ∧ Dp K H sv (spanV (some (k, k + 1)))
section
variable {H0 H H' : Hp} {p : Prog} {many nt nD nP nS : Nat} {st : Rg} {ak at_ sd pl as : Addr} {KL TL D PL S : List V}
theorem UI.up (u : UI K H0 p many nt nD nP nS st ak at_ sd pl as KL TL D PL S H) (e : Same H H') : UI K H0 p many nt nD nP nS st ak at_ sd pl as KL TL D PL S H' :=
  ⟨u.same.trans e, e _ _ u.hk, e _ _ u.ht, e _ _ u.hd, e _ _ u.hp, e _ _ u.hs, u.nk, u.nt_, u.nd, u.np, u.ns, u.dif, u.lk, u.lt, u.lD, u.lP, u.lS,
    fun r h => (u.regs r h).imp fun v q => ⟨q.1, q.2.keep (TK.of e) fun _ _ h => h⟩, fun r h => (u.told r h).imp fun v q => ⟨q.1, q.2.keep (TK.of e) fun _ _ h => h⟩, fun r h => (u.els r h).imp fun v q => ⟨q.1, Dp.same e q.2⟩⟩
theorem UI.dn (u : UI K H0 p many nt nD nP nS st ak at_ sd pl as KL TL D PL S H) : (ak ≠ at_ ∧ ak ≠ sd ∧ ak ≠ pl ∧ ak ≠ as) ∧ (at_ ≠ sd ∧ at_ ≠ pl ∧ at_ ≠ as) ∧ (sd ≠ pl ∧ sd ≠ as) ∧ pl ≠ as := by
  have := u.dif
  simpa [List.nodup_cons, and_assoc] using this
theorem UI.setK (u : UI K H0 p many nt nD nP nS st ak at_ sd pl as KL TL D PL S H) {r : Nat} {o : Option Wd} {v : V} (hr : r < p.regs) (hv : NodeOf K H S o v) :
    UI K H0 p many nt nD nP nS (setR st r o) ak at_ sd pl as (KL.set r v) TL D PL S (upd H ak (.lst (KL.set r v))) := by
  obtain ⟨⟨a1, a2, a3, a4⟩, _⟩ := u.dn
  have tk : TK K H (upd H ak (.lst (KL.set r v))) := TK.put u.hk
  refine ⟨Same.put u.same u.nk, upd_same, by rw [upd_ne a1.symm]; exact u.ht, by rw [upd_ne a2.symm]; exact u.hd, by rw [upd_ne a3.symm]; exact u.hp, by rw [upd_ne a4.symm]; exact u.hs, u.nk, u.nt_, u.nd, u.np, u.ns, u.dif, by rw [List.length_set]; exact u.lk, u.lt, u.lD, u.lP, u.lS,
    fun k hk => ?_, fun r h => (u.told r h).imp fun v q => ⟨q.1, q.2.keep tk fun _ _ h => h⟩, fun r h => (u.els r h).imp fun v q => ⟨q.1, Dp.keep tk (NL_spanV _) q.2⟩⟩
  by_cases hkr : k = r
  · subst hkr
    refine ⟨v, by rw [List.getElem?_set_self (by rw [u.lk]; exact hk)], ?_⟩
    have e : setR st k o k = o := if_pos rfl
    rw [e]
    exact hv.keep tk fun _ _ h => h
  · obtain ⟨v', h1, h2⟩ := u.regs k hk
    refine ⟨v', by rw [List.getElem?_set_ne (Ne.symm hkr)]; exact h1, ?_⟩
    have e : setR st r o k = st k := if_neg hkr
    rw [e]
    exact h2.keep tk fun _ _ h => h
theorem UI.appT (u : UI K H0 p many nt nD nP nS st ak at_ sd pl as KL TL D PL S H) {v : V} (hv : NodeOf K H S (tellAt p nt) v) :
    UI K H0 p many (nt + 1) nD nP nS st ak at_ sd pl as KL (TL ++ [v]) D PL S (upd H at_ (.lst (TL ++ [v]))) := by
  obtain ⟨⟨a1, a2, a3, a4⟩, ⟨b1, b2, b3⟩, _⟩ := u.dn
  have tk : TK K H (upd H at_ (.lst (TL ++ [v]))) := TK.put u.ht
  refine ⟨Same.put u.same u.nt_, by rw [upd_ne a1]; exact u.hk, upd_same, by rw [upd_ne b1.symm]; exact u.hd, by rw [upd_ne b2.symm]; exact u.hp, by rw [upd_ne b3.symm]; exact u.hs, u.nk, u.nt_, u.nd, u.np, u.ns, u.dif, u.lk, by rw [List.length_append, u.lt]; rfl, u.lD, u.lP, u.lS,
    fun r h => (u.regs r h).imp fun v q => ⟨q.1, q.2.keep tk fun _ _ h => h⟩, fun k hk => ?_, fun r h => (u.els r h).imp fun v q => ⟨q.1, Dp.keep tk (NL_spanV _) q.2⟩⟩
  by_cases hkr : k = nt
  · subst hkr
    refine ⟨v, by rw [List.getElem?_append_right (by rw [u.lt]; exact Nat.le_refl _), u.lt, Nat.sub_self]; rfl, hv.keep tk fun _ _ h => h⟩
  · obtain ⟨v', h1, h2⟩ := u.told k (by omega)
    exact ⟨v', by rw [List.getElem?_append_left (by rw [u.lt]; omega)]; exact h1, h2.keep tk fun _ _ h => h⟩
theorem UI.appD (u : UI K H0 p many nt nD nP nS st ak at_ sd pl as KL TL D PL S H) {v : V} :
    UI K H0 p many nt (nD + 1) nP nS st ak at_ sd pl as KL TL (D ++ [v]) PL S (upd H sd (.lst (D ++ [v]))) := by
  obtain ⟨⟨a1, a2, a3, a4⟩, ⟨b1, b2, b3⟩, ⟨c1, c2⟩, _⟩ := u.dn
  have tk : TK K H (upd H sd (.lst (D ++ [v]))) := TK.put u.hd
  exact ⟨Same.put u.same u.nd, by rw [upd_ne a2]; exact u.hk, by rw [upd_ne b1]; exact u.ht, upd_same, by rw [upd_ne c1.symm]; exact u.hp, by rw [upd_ne c2.symm]; exact u.hs, u.nk, u.nt_, u.nd, u.np, u.ns, u.dif, u.lk, u.lt, by rw [List.length_append, u.lD]; rfl, u.lP, u.lS,
    fun r h => (u.regs r h).imp fun v q => ⟨q.1, q.2.keep tk fun _ _ h => h⟩, fun r h => (u.told r h).imp fun v q => ⟨q.1, q.2.keep tk fun _ _ h => h⟩, fun r h => (u.els r h).imp fun v q => ⟨q.1, Dp.keep tk (NL_spanV _) q.2⟩⟩
theorem UI.appP (u : UI K H0 p many nt nD nP nS st ak at_ sd pl as KL TL D PL S H) {v : V} :
    UI K H0 p many nt nD (nP + 1) nS st ak at_ sd pl as KL TL D (PL ++ [v]) S (upd H pl (.lst (PL ++ [v]))) := by
  obtain ⟨⟨a1, a2, a3, a4⟩, ⟨b1, b2, b3⟩, ⟨c1, c2⟩, d1⟩ := u.dn
  have tk : TK K H (upd H pl (.lst (PL ++ [v]))) := TK.put u.hp
  exact ⟨Same.put u.same u.np, by rw [upd_ne a3]; exact u.hk, by rw [upd_ne b2]; exact u.ht, by rw [upd_ne c1]; exact u.hd, upd_same, by rw [upd_ne d1.symm]; exact u.hs, u.nk, u.nt_, u.nd, u.np, u.ns, u.dif, u.lk, u.lt, u.lD, by rw [List.length_append, u.lP]; rfl, u.lS,
    fun r h => (u.regs r h).imp fun v q => ⟨q.1, q.2.keep tk fun _ _ h => h⟩, fun r h => (u.told r h).imp fun v q => ⟨q.1, q.2.keep tk fun _ _ h => h⟩, fun r h => (u.els r h).imp fun v q => ⟨q.1, Dp.keep tk (NL_spanV _) q.2⟩⟩
theorem UI.appS (u : UI K H0 p many nt nD nP nS st ak at_ sd pl as KL TL D PL S H) {v : V} :
    UI K H0 p many nt nD nP (nS + 1) st ak at_ sd pl as KL TL D PL (S ++ [v]) (upd H as (.lst (S ++ [v]))) := by
  obtain ⟨⟨a1, a2, a3, a4⟩, ⟨b1, b2, b3⟩, ⟨c1, c2⟩, d1⟩ := u.dn
  have tk : TK K H (upd H as (.lst (S ++ [v]))) := TK.put u.hs
  have hS : ∀ (n : Nat) (x : V), S[n]? = some x → (S ++ [v])[n]? = some x := fun n x h => by
    rw [List.getElem?_append_left (List.getElem?_eq_some_iff.mp h).1]
    exact h
  exact ⟨Same.put u.same u.ns, by rw [upd_ne a4]; exact u.hk, by rw [upd_ne b3]; exact u.ht, by rw [upd_ne c2]; exact u.hd, by rw [upd_ne d1]; exact u.hp, upd_same, u.nk, u.nt_, u.nd, u.np, u.ns, u.dif, u.lk, u.lt, u.lD, u.lP, by rw [List.length_append, u.lS]; rfl,
    fun r h => (u.regs r h).imp fun v q => ⟨q.1, q.2.keep tk hS⟩, fun r h => (u.told r h).imp fun v q => ⟨q.1, q.2.keep tk hS⟩, fun r h => (u.els r h).imp fun v q => ⟨hS _ _ q.1, Dp.keep tk (NL_spanV _) q.2⟩⟩
end
end
end U3


namespace U3
open PySem PySem.Spec PyProof.Rows L2
section
variable {P : Program} {w : World} {K : PySem.W.Frag} {mg : Str → Option Value} {base : Heap}
/-! unroll(program, many) -/
def sp_unroll (K : PySem.W.Frag) : Sp := fun vs H Q _ => ∃ x p many, vs = [x, .int (many : Nat)] ∧ Dp K H x (toD p) ∧ WF p ∧ many ≤ 10000 ∧
  ∀ nD st ak at_ sd pl as KL TL D PL S H' t, UI K H p many many nD nD nD st ak at_ sd pl as KL TL D PL S H' → H' t = some (.tup [.ref at_, .ref as, .ref sd, .ref pl]) → Q (.ref t) H'
theorem flat_rep {α : Type} (x : α) : ∀ n, (List.replicate n [x]).flatten = List.replicate n x
  | 0 => rfl
  | n + 1 => by
    rw [List.replicate_succ, List.flatten_cons, flat_rep x n]
    rfl
theorem rowP_two {H : Hp} {x : V} {a b : Nat} (h : Dp K H x (rowP [a, b])) : ∃ q, x = .ref q ∧ SqT K H q [.int a, .int b] := by
  obtain ⟨q, xs, rfl, hs, ha⟩ := Dp.tup_inv h
  obtain ⟨x0, x1, rfl, h0, h1⟩ := DpAll.two ha
  cases h0
  cases h1
  exact ⟨q, rfl, hs⟩
theorem rowP_three {H : Hp} {x : V} {a b c : Nat} (h : Dp K H x (rowP [a, b, c])) : ∃ q, x = .ref q ∧ SqT K H q [.int a, .int b, .int c] := by
  obtain ⟨q, xs, rfl, hs, ha⟩ := Dp.tup_inv h
  cases ha with
  | cons h0 ha =>
    obtain ⟨x0, x1, rfl, h1, h2⟩ := DpAll.two ha
    cases h0
    cases h1
    cases h2
    exact ⟨q, rfl, hs⟩
theorem WFRow.two_or {n : Nat} {r : Row} (h : WFRow n r) : (∃ a b, r = [a, b] ∧ a < n ∧ b < n) ∨ (∃ a b c, r = [a, b, c] ∧ a < n ∧ b < n ∧ c < n) := by
  obtain ⟨h1, h2, _⟩ := h
  match r, h1 with
  | [a, b], _ => exact .inl ⟨a, b, rfl, h2 a (by simp), h2 b (by simp)⟩
  | [a, b, c], _ => exact .inr ⟨a, b, c, rfl, h2 a (by simp), h2 b (by simp), h2 c (by simp)⟩
  | [], h => simp at h
  | [_], h => simp at h
  | _ :: _ :: _ :: _ :: _, h => simp at h
theorem ifT {c : Bool} {A B : Prop} (hc : c = true) (h : A) : if c = true then A else B := by
  rw [if_pos hc]
  exact h
theorem ifF {c : Bool} {A B : Prop} (hc : c = false) (h : B) : if c = true then A else B := by
  rw [hc, if_neg Bool.false_ne_true]
  exact h
theorem doRows_take {s : Rg} {rows : List Row} {j : Nat} {r : Row} (h : rows[j]? = some r) : doRows s (rows.take (j + 1)) = setR (doRows s (rows.take j)) (r.headD 0) (made (doRows s (rows.take j)) r) := by
  unfold doRows
  rw [List.take_add_one, h, List.foldl_append]
  rfl
abbrev uS (a ph ak at_ sd pl as : Addr) (many regs : Int) (o9 o10 o11 o12 o13 o14 o15 o16 o17 : Option V) : L2.St :=
  [some (.ref a), some (.int many), some (.int regs), some (.ref ph), some (.ref ak), some (.ref at_), some (.ref sd), some (.ref pl), some (.ref as), o9, o10, o11, o12, o13, o14, o15, o16, o17]
-- slots: 0:program 1:many 2:registers 3:phases 4:kept 5:told 6:sides 7:places 8:spans 9:step 10:rows 11:out 12:place 13:row 14:made 15:one 16:other 17:k | cells: []
theorem sc_unroll : FnScope ["program", "many", "registers", "phases", "kept", "told", "sides", "places", "spans", "step", "rows", "out", "place", "row", "made", "one", "other", "k"] ["program", "many"] (defScope s_unroll) := ⟨rfl, rfl, rfl, by decide +kernel, rfl, by decide +kernel, by decide +kernel⟩
theorem ok_unroll (T : Txt K mg) : FnOk P w K mg base CX0 2 (He.ga K "unroll") (fdA K (He.ga K "unroll")) ["program", "many"] (sp_unroll K) := by
  refine T.F_unroll.ok sc_unroll (fun vs H Q E h => by obtain ⟨x, p, many, rfl, _⟩ := h; rfl) (fun cdv A outer s H vs Q E hr h => ⟨_, PSs.nox ((pss_cons (ps_asg (pv 0) (pg_tup rfl (pgs_cons (pg_name (i := 2) sc_unroll.nd rfl (Or.inl rfl)) (pgs_cons (pg_name (i := 3) sc_unroll.nd rfl (Or.inl rfl)) pgs_nil))))
(pss_cons (ps_set (i := 4) sc_unroll.nd rfl (Or.inl rfl) (pe_op op_rep (pe_lst (pa_cons pe_non pa_nil)) (pv 2)))
(pss_cons (ps_par3 (i := 5) (j := 6) (l := 7) (by rfl) sc_unroll.nd rfl rfl rfl (by decide) (by decide) (by decide) rfl rfl rfl (pa_cons (pe_lst pa_nil) (pa_cons (pe_lst pa_nil) (pa_cons (pe_lst pa_nil) pa_nil))) (by rfl))
(pss_cons (ps_setLc (i := 8) (own := [("k", 17)]) (g := (gName 17)) rfl sc_unroll.nd rfl rfl (sw_true rfl rfl rfl (by decide +kernel)) (pi_range1 (by rfl) T.m_range (pa_cons (pv 1) pa_nil)) (blkOk_by (own := [("k", 17)]) (by kernel_rfl)) (fun _ _ _ _ _ => (pg_name (i := 17) sc_unroll.nd rfl (Or.inl rfl))) (fun _ _ _ _ _ => pts_nil) (fun _ _ _ _ _ => (pe_tup (pa_cons (pv 17) (pa_cons (pe_op op_add (pv 17) pe_int) pa_nil)))))
(pss_cons (ps_for PassesOwn.never rfl (pi_range2 (by rfl) T.m_range (pa_cons pe_int (pa_cons (pe_op op_add (pv 1) pe_int) pa_nil))) (pg_name (i := 9) sc_unroll.nd rfl (Or.inl rfl))
(pss_cons (ps_asg (pe_op op_sub (pv 9) pe_int) (pg_sub (pv 4) pe_int set_list))
(pss_cons (ps_asg (pe_ix ix_tup (pv 3) (pe_op op_modN (pe_op op_sub (pv 9) pe_int) (pe_callB call_len_seq (by rfl) T.m_len bt_len (pa_cons (pv 3) pa_nil))) (fun _ _ => rfl)) (pg_tup rfl (pgs_cons (pg_name (i := 10) sc_unroll.nd rfl (Or.inl rfl)) (pgs_cons (pg_name (i := 11) sc_unroll.nd rfl (Or.inl rfl)) pgs_nil))))
(pss_cons (ps_for PassesOwn.never rfl (pi_enumT (by rfl) T.m_enumerate (pa_cons (pv 10) pa_nil)) (pg_tup rfl (pgs_cons (pg_name (i := 12) sc_unroll.nd rfl (Or.inl rfl)) (pgs_cons (pg_name (i := 13) sc_unroll.nd rfl (Or.inl rfl)) pgs_nil)))
(pss_cons (ps_set (i := 14) sc_unroll.nd rfl (Or.inl rfl) (pe_ix ix_list (pv 4) (pe_ix ix_tup (pv 13) pe_int (fun _ _ => rfl)) (fun _ _ => rfl)))
(pss_cons (ps_if (pt_cmpR op_eq (pe_callB call_len_seq (by rfl) T.m_len bt_len (pa_cons (pv 13) pa_nil)) pe_int (nomark _))
(pss_cons (ps_par3 (i := 15) (j := 16) (l := 14) (by rfl) sc_unroll.nd rfl rfl rfl (by decide) (by decide) (by decide) rfl rfl rfl (pa_cons (pv 14) (pa_cons (pe_ix ix_list (pv 4) (pe_ix ix_tup (pv 13) pe_int (fun _ _ => rfl)) (fun _ _ => rfl)) (pa_cons pe_non pa_nil))) (by rfl))
(pss_cons (ps_if (PW.pt (pw_and (pt_cmpR op_notN (pv 15) pe_non (nomark _)) (pw_and1 (pt_cmpR op_notN (pv 16) pe_non (nomark _)))))
(pss_cons (ps_set (i := 14) sc_unroll.nd rfl (Or.inl rfl) (pe_op op_add (pv 1) (pe_callB call_len_seq (by rfl) T.m_len bt_len (pa_cons (pv 6) pa_nil))))
(pss_cons (ps_expr (pe_bm PySem.F.plainAttrs_list PySem.F.slot_list_append PySem.F.type_list_append mt_append (pv 6) (pa_cons (pe_tup (pa_cons (pv 15) (pa_cons (pv 16) pa_nil))) pa_nil)))
(pss_cons (ps_expr (pe_bm PySem.F.plainAttrs_list PySem.F.slot_list_append PySem.F.type_list_append mt_append (pv 7) (pa_cons (pe_tup (pa_cons (pv 9) (pa_cons (pv 12) pa_nil))) pa_nil)))
(pss_cons (ps_expr (pe_bm PySem.F.plainAttrs_list PySem.F.slot_list_append PySem.F.type_list_append mt_append (pv 8) (pa_cons (pe_call (ok_spans_met T) (hr.mono (by decide)) (by rfl) T.g_spans_met T.F_spans_met.kp T.b_spans_met .nil pass0 (pa_cons (pe_ix ix_list (pv 8) (pv 15) (fun _ _ => rfl)) (pa_cons (pe_ix ix_list (pv 8) (pv 16) (fun _ _ => rfl)) pa_nil))) pa_nil)))
pss_nil))))
pss_nil)
pss_nil))
pss_nil)
(pss_cons (ps_asg (pv 14) (pg_sub (pv 4) (pe_ix ix_tup (pv 13) pe_int (fun _ _ => rfl)) set_list))
pss_nil))))
(pss_cons (ps_expr (pe_bm PySem.F.plainAttrs_list PySem.F.slot_list_append PySem.F.type_list_append mt_append (pv 5) (pa_cons (pe_ifExp (pt_cmpR op_isN (pv 11) pe_non (nomark _)) pe_non (pe_ix ix_list (pv 4) (pv 11) (fun _ _ => rfl))) pa_nil)))
pss_nil)))))
(pss_cons (ps_ret (pe_tup (pa_cons (pv 5) (pa_cons (pv 8) (pa_cons (pv 6) (pa_cons (pv 7) pa_nil))))))
pss_nil))))))), ?_⟩)
  obtain ⟨x, p, many, rfl, hx, W, hm, q⟩ := h
  obtain ⟨a, xs, rfl, hs, ha⟩ := Dp.tup_inv hx
  obtain ⟨x0, x1, rfl, h0, h1⟩ := DpAll.two ha
  cases h0
  obtain ⟨ph, ys, rfl, hph, hys⟩ := Dp.tup_inv h1
  have hly : ys.length = p.phases.length := by rw [DpAll.length hys, List.length_map]
  have hpos := W.p1
  have hr1 := W.r1
  have hr2 := W.r2
  -- registers, phases = program
  refine ⟨_, rfl, a, _, rfl, hs, rfl, _, _, rfl, _, _, rfl, rfl, ?_⟩
  -- kept = [None] * registers
  refine ⟨(by show 1 ≤ sizeLine; decide), fun g hg => ⟨_, rfl, g, _, _, rfl, rfl, upd_same, by omega, by omega, (by show 1 * (p.regs : Int).toNat ≤ sizeLine; rw [sizeLine_eq]; omega), fun ak hak => ?_⟩⟩
  have nk : H ak = none := Same.free (Same.new hg) hak
  have eK : (List.replicate (p.regs : Int).toNat [V.non]).flatten = List.replicate p.regs V.non := flat_rep _ _
  rw [eK]
  have S1 : Same H (upd (upd H g (.lst [V.non])) ak (.lst (List.replicate p.regs V.non))) := (Same.new hg).trans (Same.new hak)
  generalize hH1 : upd (upd H g (.lst [V.non])) ak (.lst (List.replicate p.regs V.non)) = H1 at S1
  have k1 : H1 ak = some (.lst (List.replicate p.regs V.non)) := by rw [← hH1]; exact upd_same
  -- told, sides, places = [], [], []
  refine ⟨(by show 0 ≤ sizeLine; decide), fun at_ hat => ⟨(by show 0 ≤ sizeLine; decide), fun sd hsd => ⟨(by show 0 ≤ sizeLine; decide), fun pl hpl => ⟨_, _, _, rfl, ?_⟩⟩⟩⟩
  have n1 : H at_ = none := S1.free hat
  have S2 := S1.trans (Same.new (o := .lst []) hat)
  have n2 : H sd = none := S2.free hsd
  have S3 := S2.trans (Same.new (o := .lst []) hsd)
  have n3 : H pl = none := S3.free hpl
  have S4 := S3.trans (Same.new (o := .lst []) hpl)
  have d1 : ak ≠ at_ := ne_of_none k1 hat
  have k2 : upd H1 at_ (.lst []) ak = some (.lst (List.replicate p.regs V.non)) := by rw [upd_ne d1]; exact k1
  have d2 : ak ≠ sd := ne_of_none k2 hsd
  have k3 : upd (upd H1 at_ (.lst [])) sd (.lst []) ak = some (.lst (List.replicate p.regs V.non)) := by rw [upd_ne d2]; exact k2
  have d3 : ak ≠ pl := ne_of_none k3 hpl
  have d4 : at_ ≠ sd := ne_of_none (upd_same : upd H1 at_ (.lst []) at_ = _) hsd
  have t3 : upd (upd H1 at_ (.lst [])) sd (.lst []) at_ = some (.lst []) := by rw [upd_ne d4]; exact upd_same
  have d5 : at_ ≠ pl := ne_of_none t3 hpl
  have d6 : sd ≠ pl := ne_of_none (upd_same : upd (upd H1 at_ (.lst [])) sd (.lst []) sd = _) hpl
  generalize hH4 : upd (upd (upd H1 at_ (.lst [])) sd (.lst [])) pl (.lst []) = H4 at S4
  have k4 : H4 ak = some (.lst (List.replicate p.regs V.non)) := by rw [← hH4, upd_ne d3]; exact k3
  have t4 : H4 at_ = some (.lst []) := by rw [← hH4, upd_ne d5]; exact t3
  have s4 : H4 sd = some (.lst []) := by rw [← hH4, upd_ne d6]; exact upd_same
  have p4 : H4 pl = some (.lst []) := by rw [← hH4]; exact upd_same
  clear hH1 hH4
  -- spans = [(k, k + 1) for k in range(many)]
  refine ⟨_, rfl, _, rfl, by omega, by omega, fun as has => lc_it (walk_range (lo := 0) (n := (many : Int).toNat)) (fun i H' => Same H4 H' ∧ ∃ S, H' as = some (.lst S) ∧ S.length = i ∧ ∀ k, k < i → ∃ sv, S[k]? = some sv ∧ Dp K H' sv (spanV (some (k, k + 1)))) ?_ (fun _ _ _ _ => trivial) ?_ ?_⟩
  · exact ⟨Same.new has, [], upd_same, rfl, fun k hk => absurd hk (Nat.not_lt_zero k)⟩
  · rintro i x H5 H6 hi ⟨hS, S, h5, hl, hall⟩ ⟨rfl, rfl⟩
    refine ⟨rfl, _, rfl, _, rfl, _, _, rfl, rfl, (by show 2 ≤ sizeLine; decide), fun q2 hq2 => ⟨S, ?_, ?_, ?_⟩⟩
    · exact Same.new hq2 _ _ h5
    · rw [hl, sizeLine_eq]; omega
    · have tk : TK K H6 (upd (upd H6 q2 (.tup [.int (0 + (i : Int)), .int (0 + (i : Int) + 1)])) as (.lst (S ++ [.ref q2]))) := (TK.new hq2).trans (TK.put (Same.new hq2 _ _ h5))
      have nq : q2 ≠ as := fun z => by rw [z, h5] at hq2; cases hq2
      refine ⟨Same.put (hS.trans (Same.new hq2)) has, _, upd_same, by rw [List.length_append, hl]; rfl, fun k hk => ?_⟩
      by_cases hki : k < i
      · obtain ⟨sv, h1, h2⟩ := hall k hki
        exact ⟨sv, by rw [List.getElem?_append_left (by omega)]; exact h1, Dp.keep tk (NL_spanV _) h2⟩
      · have e : k = i := by omega
        subst e
        refine ⟨.ref q2, by rw [List.getElem?_append_right (by omega), hl, Nat.sub_self]; rfl, .tup (xs := [.int (0 + (k : Int)), .int (0 + (k : Int) + 1)]) (SqT.of ?_) ?_⟩
        · rw [upd_ne nq]
          exact upd_same
        · rw [Int.zero_add]
          exact .cons (.int _) (.cons (.int _) .nil)
  rintro H5 ⟨hS5, S, h5, hl5, hall5⟩
  rw [Int.toNat_natCast] at hl5 hall5
  have nas : H as = none := S4.free has
  have u0 : UI K H p many 0 0 0 0 (stAt p 0) ak at_ sd pl as (List.replicate p.regs V.non) [] [] [] S H5 := by
    refine ⟨S4.trans hS5, hS5 _ _ k4, hS5 _ _ t4, hS5 _ _ s4, hS5 _ _ p4, h5, nk, n1, n2, n3, nas, ?_, List.length_replicate, rfl, rfl, rfl, hl5, fun r hr => ⟨.non, by rw [List.getElem?_replicate, if_pos hr], rfl⟩, fun k hk => absurd hk (Nat.not_lt_zero k), hall5⟩
    have e1 := ne_of_none k4 has
    have e2 := ne_of_none t4 has
    have e3 := ne_of_none s4 has
    have e4 := ne_of_none p4 has
    simp [d1, d2, d3, d4, d5, d6, e1, e2, e3, e4]
  clear k4 t4 s4 p4 h5 hS5 hl5 hall5 has
  -- for step in range(1, many + 1)
  refine ⟨_, rfl, _, _, rfl, rfl, _, _, rfl, ⟨by omega, by omega, by omega, by omega⟩, for_it (walk_range (lo := 1) (n := ((many : Int) + 1 - 1).toNat))
    (fun i σ' H' => (∃ o9 o10 o11 o12 o13 o14 o15 o16 o17, σ' = uS a ph ak at_ sd pl as many p.regs o9 o10 o11 o12 o13 o14 o15 o16 o17) ∧ ∃ nD KL TL D PL S, nD ≤ i * 100 ∧ UI K H p many i nD nD nD (stAt p i) ak at_ sd pl as KL TL D PL S H') ?_ (fun _ _ _ _ _ => trivial) ?_ ?_⟩
  · exact ⟨⟨_, _, _, _, _, _, _, _, _, rfl⟩, 0, _, _, _, _, _, Nat.zero_le _, u0⟩
  · clear u0 S
    rintro i x σ' H' H'' hi ⟨⟨o9, o10, o11, o12, o13, o14, o15, o16, o17, rfl⟩, nD, KL, TL, D, PL, S, hnD, u⟩ ⟨rfl, rfl⟩
    have him : i < many := by omega
    obtain ⟨hat, wp⟩ := W.at i
    generalize hpa : phaseAt p i = pa at hat wp
    obtain ⟨rows, told⟩ := pa
    have ei : (1 : Int) + (i : Int) - 1 = (i : Int) := by omega
    -- kept[0] = step - 1
    refine ⟨_, rfl, _, _, rfl, rfl, _, rfl, ak, KL, 0, 0, rfl, rfl, u.hk, ixN_nat (j := 0) (by rw [u.lk]; omega), ?_⟩
    have v0 : NodeOf K H'' S (some [i]) (.int (1 + (i : Int) - 1)) := by
      obtain ⟨sv, h1, h2⟩ := u.els i him
      refine ⟨i, sv, by rw [ei], h1, ?_⟩
      have : spanW [i] = some (i, i + 1) := spanW_range (a := i) (n := 1) (by omega)
      rw [this]
      exact h2
    have u1 := u.setK (r := 0) (by omega) v0
    generalize upd H'' ak (.lst (KL.set 0 (V.int (1 + (i : Int) - 1)))) = H1 at u1
    generalize KL.set 0 (V.int (1 + (i : Int) - 1)) = KL1 at u1
    -- rows, out = phases[(step - 1) % len(phases)]
    have hph1 := Same.tup u1.same hph
    obtain ⟨pv, hpv, hdp⟩ := DpAll.get hys (i := i % p.phases.length) (d := phaseP (rows, told)) (by rw [List.getElem?_map, hat]; rfl)
    obtain ⟨pp, zs, rfl, hpp, hzs⟩ := Dp.tup_inv hdp
    obtain ⟨z0, z1, rfl, hz0, hz1⟩ := DpAll.two hzs
    obtain ⟨ar, rs, rfl, har, hrs⟩ := Dp.tup_inv hz0
    have hlr : rs.length = rows.length := by rw [DpAll.length hrs, List.length_map]
    refine ⟨_, rfl, _, rfl, _, _, rfl, rfl, _, rfl, ph, ys, rfl, .inr hph1, _, _, rfl, rfl, (by show (ys.length : Int) ≠ 0; omega), ph, ys, _, _, rfl, rfl, hph1, at_of (j := i % p.phases.length) ?_ hpv, pp, _, rfl, Same.tup u1.same hpp, rfl, _, _, rfl, _, _, rfl, rfl, ?_⟩
    · show (1 + (i : Int) - 1).fmod (ys.length : Int) = _
      rw [ei, hly, fmodN]
    -- for place, row in enumerate(rows)
    have est : stAt p (i + 1) = doRows (setR (stAt p i) 0 (some [i])) rows := by
      show stepSt p i (stAt p i) = _
      unfold stepSt
      rw [hpa]
    refine ⟨_, rfl, ar, rs, rfl, Same.tup u1.same har, for_it (walk_enumT (xs := rs))
      (fun j σ' H' => (∃ o12 o13 o14 o15 o16 o17, σ' = uS a ph ak at_ sd pl as many p.regs (some (.int (1 + i))) (some (.ref ar)) (some z1) o12 o13 o14 o15 o16 o17) ∧ ∃ nD KL D PL S, nD ≤ i * 100 + j ∧ UI K H p many i nD nD nD (doRows (setR (stAt p i) 0 (some [i])) (rows.take j)) ak at_ sd pl as KL TL D PL S H') ?_ ?_ ?_ ?_⟩
    · exact ⟨⟨_, _, _, _, _, _, rfl⟩, nD, KL1, D, PL, S, by omega, u1⟩
    · rintro j σ' H' _ ⟨_, nD, KL, D, PL, S, _, u⟩
      exact Same.tup u.same har
    · clear u1 u v0
      rintro j x σ' H' H'' hj ⟨⟨o12, o13, o14, o15, o16, o17, rfl⟩, nD', KL, D, PL, S, hnD', u⟩ ⟨T', y0, y, rfl, hT', rfl, ey, hy⟩
      cases ey
      have hfew := wp.few
      have hfew : rows.length ≤ 100 := hfew
      obtain ⟨d, hdj, hdy⟩ := DpAll.of hrs hy
      rw [List.getElem?_map] at hdj
      obtain ⟨r, hrj, erd⟩ := Option.map_eq_some_iff.mp hdj
      subst erd
      have wr : WFRow p.regs r := wp.rows r (List.mem_of_getElem? hrj)
      rw [doRows_take hrj]
      have hsound : Sound (i + 1) (doRows (setR (stAt p i) 0 (some [i])) (rows.take j)) :=
        Sound.rows _ (((sound_at p i).mono (Nat.le_succ i)).set fun w e => by cases e; simp)
      generalize doRows (setR (stAt p i) 0 (some [i])) (rows.take j) = st at u hsound ⊢
      have u1 := u.up (Same.new (o := .tup [V.int (j : Nat), y]) hT')
      have hTT : upd H' T' (.tup [V.int (j : Nat), y]) T' = some (.tup [V.int (j : Nat), y]) := upd_same
      clear u hT'
      generalize upd H' T' (.tup [V.int (j : Nat), y]) = H2 at u1 hTT ⊢
      -- at, row
      refine ⟨T', _, rfl, SqT.of hTT, rfl, _, _, rfl, _, _, rfl, rfl, ?_⟩
      rcases wr.two_or with ⟨ra, rb, rfl, hra, hrb⟩ | ⟨ra, rb, rc, rfl, hra, hrb, hrc⟩
      · -- a copy
        obtain ⟨qa, rfl, hq⟩ := rowP_two hdy
        have hq1 := Same.tup u1.same hq
        obtain ⟨v1, hv1, nv1⟩ := u1.regs rb hrb
        refine ⟨_, rfl, _, rfl, qa, _, _, _, rfl, rfl, hq1, atI_nat (j := 1) rfl, ak, KL, _, v1, rfl, rfl, SqL.of u1.hk, atI_nat hv1, ?_⟩
        refine ⟨_, rfl, qa, _, rfl, .inr hq1, rfl, _, rfl, ?_⟩
        refine ifF rfl ?_
        refine ⟨_, rfl, _, rfl, _, rfl, qa, _, _, _, rfl, rfl, hq1, atI_nat (j := 0) rfl, ak, KL, _, ra, rfl, rfl, u1.hk, ixN_nat (by rw [u1.lk]; exact hra), ?_⟩
        exact ⟨⟨_, _, _, _, _, _, rfl⟩, nD', _, _, _, _, by omega, u1.setK hra nv1⟩
      · -- a join
        obtain ⟨qa, rfl, hq⟩ := rowP_three hdy
        have hq1 := Same.tup u1.same hq
        obtain ⟨v1, hv1, nv1⟩ := u1.regs rb hrb
        obtain ⟨v2, hv2, nv2⟩ := u1.regs rc hrc
        refine ⟨_, rfl, _, rfl, qa, _, _, _, rfl, rfl, hq1, atI_nat (j := 1) rfl, ak, KL, _, v1, rfl, rfl, SqL.of u1.hk, atI_nat hv1, ?_⟩
        refine ⟨_, rfl, qa, _, rfl, .inr hq1, rfl, _, rfl, ?_⟩
        refine ifT rfl ?_
        refine ⟨_, rfl, _, rfl, _, rfl, qa, _, _, _, rfl, rfl, hq1, atI_nat (j := 2) rfl, ak, KL, _, v2, rfl, rfl, SqL.of u1.hk, atI_nat hv2, _, _, _, rfl, ?_⟩
        refine ⟨_, rfl, rfl, _, rfl, ?_⟩
        have em : made st [ra, rb, rc] = cat2 (st rb) (st rc) := rfl
        rw [em]
        cases hb : st rb with
        | none =>
          rw [hb] at nv1
          cases nv1
          refine ifF rfl ?_
          refine ifF rfl ?_
          refine ⟨_, rfl, _, rfl, _, rfl, qa, _, _, _, rfl, rfl, hq1, atI_nat (j := 0) rfl, ak, KL, _, ra, rfl, rfl, u1.hk, ixN_nat (by rw [u1.lk]; exact hra), ?_⟩
          exact ⟨⟨_, _, _, _, _, _, rfl⟩, nD', _, _, _, _, by omega, u1.setK hra (by rfl)⟩
        | some wb =>
          rw [hb] at nv1
          obtain ⟨n1, sv1, rfl, hs1, hd1⟩ := nv1
          refine ifT rfl ?_
          refine ⟨_, rfl, rfl, _, rfl, ?_⟩
          cases hc : st rc with
          | none =>
            rw [hc] at nv2
            cases nv2
            refine ifF rfl ?_
            refine ⟨_, rfl, _, rfl, _, rfl, qa, _, _, _, rfl, rfl, hq1, atI_nat (j := 0) rfl, ak, KL, _, ra, rfl, rfl, u1.hk, ixN_nat (by rw [u1.lk]; exact hra), ?_⟩
            exact ⟨⟨_, _, _, _, _, _, rfl⟩, nD', _, _, _, _, by omega, u1.setK hra (by rfl)⟩
          | some wc =>
            rw [hc] at nv2
            obtain ⟨n2, sv2, rfl, hs2, hd2⟩ := nv2
            refine ifT rfl ?_
            -- made = many + len(sides)
            refine ⟨_, rfl, _, rfl, sd, D, rfl, .inl (SqL.of u1.hd), _, _, rfl, rfl, ?_⟩
            -- sides.append((one, other))
            refine ⟨_, rfl, .inl ⟨rfl, _, SqL.of u1.hd⟩, _, rfl, _, rfl, (by show 2 ≤ sizeLine; decide), fun r1 hr1' => ⟨sd, D, _, rfl, rfl, Same.new hr1' _ _ u1.hd, (by rw [u1.lD, sizeLine_eq]; omega), ?_⟩⟩
            have u2 := (u1.up (Same.new (o := .tup [V.int n1, V.int n2]) hr1')).appD (v := .ref r1)
            have tk2 : TK K H2 (upd (upd H2 r1 (.tup [V.int n1, V.int n2])) sd (.lst (D ++ [.ref r1]))) := (TK.new hr1').trans (TK.put (Same.new hr1' _ _ u1.hd))
            generalize upd (upd H2 r1 (.tup [V.int n1, V.int n2])) sd (.lst (D ++ [.ref r1])) = H3 at u2 tk2 ⊢
            -- places.append((step, place))
            refine ⟨_, rfl, .inl ⟨rfl, _, SqL.of u2.hp⟩, _, rfl, _, rfl, (by show 2 ≤ sizeLine; decide), fun r2 hr2' => ⟨pl, PL, _, rfl, rfl, Same.new hr2' _ _ u2.hp, (by rw [u2.lP, sizeLine_eq]; omega), ?_⟩⟩
            have u3 := (u2.up (Same.new (o := .tup [V.int (1 + (i : Int)), V.int (j : Nat)]) hr2')).appP (v := .ref r2)
            have tk3 := tk2.trans ((TK.new (K := K) (o := .tup [V.int (1 + (i : Int)), V.int (j : Nat)]) hr2').trans (TK.put (o := .lst (PL ++ [.ref r2])) (Same.new hr2' _ _ u2.hp)))
            generalize upd (upd H3 r2 (.tup [V.int (1 + (i : Int)), V.int (j : Nat)])) pl (.lst (PL ++ [.ref r2])) = H4' at u3 tk3 ⊢
            have hd1' := Dp.keep tk3 (NL_spanV _) hd1
            have hd2' := Dp.keep tk3 (NL_spanV _) hd2
            -- spans.append(spans_met(spans[one], spans[other]))
            refine ⟨_, rfl, .inl ⟨rfl, _, SqL.of u3.hs⟩, _, rfl, _, rfl, as, S, _, sv1, rfl, rfl, SqL.of u3.hs, atI_nat hs1, _, rfl, _, rfl, as, S, _, sv2, rfl, rfl, SqL.of u3.hs, atI_nat hs2,
              _, _, _, _, rfl, hd1', hd2', fun v5 H5 hS5 hv5 => ⟨as, S, v5, rfl, rfl, hS5 _ _ u3.hs, (by rw [u3.lS, sizeLine_eq]; omega), ?_⟩⟩
            have u4 := (u3.up hS5).appS (v := v5)
            have tk4 : TK K H5 (upd H5 as (.lst (S ++ [v5]))) := TK.put (hS5 _ _ u3.hs)
            have q1 := Same.tup u4.same hq
            refine ⟨_, rfl, _, rfl, _, rfl, qa, _, _, _, rfl, rfl, q1, atI_nat (j := 0) rfl, ak, KL, _, ra, rfl, rfl, u4.hk, ixN_nat (by rw [u4.lk]; exact hra), ?_⟩
            refine ⟨⟨_, _, _, _, _, _, rfl⟩, nD' + 1, _, _, _, _, by omega, u4.setK hra ?_⟩
            refine ⟨many + nD', v5, ?_, ?_, ?_⟩
            · show V.int ((many : Int) + (D.length : Int)) = _
              rw [u1.lD, Int.natCast_add]
            · rw [List.getElem?_append_right (by rw [u3.lS]; exact Nat.le_refl _), u3.lS, Nat.sub_self]
              rfl
            · rw [spanW_cat (hsound _ _ hb).1 (hsound _ _ hc).1]
              exact Dp.keep tk4 (NL_spanV _) hv5
    · clear u1 u v0
      rintro σ' H' ⟨⟨o12, o13, o14, o15, o16, o17, rfl⟩, nD', KL, D, PL, S, hnD', u⟩
      have hfew : rows.length ≤ 100 := wp.few
      rw [hlr, List.take_length, ← est] at u
      rw [hlr] at hnD'
      have et : tellAt p i = told.bind (stAt p (i + 1)) := by
        unfold tellAt
        rw [hpa]
      -- told.append(None if out is None else kept[out])
      cases told with
      | none =>
        cases hz1
        refine ⟨_, rfl, .inl ⟨rfl, _, SqL.of u.ht⟩, _, rfl, rfl, _, rfl, ?_⟩
        refine ifT rfl ?_
        refine ⟨at_, TL, _, rfl, rfl, u.ht, (by rw [u.lt, sizeLine_eq]; omega), ?_⟩
        exact ⟨⟨_, _, _, _, _, _, _, _, _, rfl⟩, nD', _, _, _, _, _, by omega, u.appT (by rw [et]; rfl)⟩
      | some t =>
        have ht : t < p.regs := wp.told t rfl
        cases hz1
        obtain ⟨v, hv, nv⟩ := u.regs t ht
        refine ⟨_, rfl, .inl ⟨rfl, _, SqL.of u.ht⟩, _, rfl, rfl, _, rfl, ?_⟩
        refine ifF rfl ?_
        refine ⟨_, rfl, _, rfl, ak, KL, _, v, rfl, rfl, SqL.of u.hk, atI_nat hv, ?_⟩
        refine ⟨at_, TL, _, rfl, rfl, u.ht, (by rw [u.lt, sizeLine_eq]; omega), ?_⟩
        exact ⟨⟨_, _, _, _, _, _, _, _, _, rfl⟩, nD', _, _, _, _, _, by omega, u.appT (by rw [et]; exact nv)⟩
  · rintro σ' H' ⟨⟨o9, o10, o11, o12, o13, o14, o15, o16, o17, rfl⟩, nD', KL, TL, D, PL, S, hnD', u⟩
    have en : ((many : Int) + 1 - 1).toNat = many := by omega
    rw [en] at u
    refine ⟨_, rfl, _, rfl, _, rfl, _, rfl, (by show 4 ≤ sizeLine; decide), fun t ht => ?_⟩
    exact q _ _ _ _ _ _ _ _ _ _ _ _ _ _ (u.up (Same.new ht)) upd_same
end
end U3


namespace U3
open PySem PySem.Spec PyProof.Rows L2
section
variable {P : Program} {w : World} {K : PySem.W.Frag} {mg : Str → Option Value} {base : Heap}
theorem RgC_up {a b c : Nat} (ha : a ≤ 1000000000) (hb : b ≤ 1000000000) (hc : 1 ≤ c) (hc2 : c ≤ 1000000) : RgC (a : Int) (b : Int) (c : Int) ((b - a + c - 1) / c) := by
  have hsz : Builtin.Range.rangeSize (a : Int) (b : Int) (c : Int) = (((b - a + c - 1) / c : Nat) : Int) := by
    unfold Builtin.Range.rangeSize
    rw [if_pos (by omega : (c : Int) > 0)]
    by_cases h : a < b
    · rw [if_pos (by omega : (a : Int) < b)]
      have e : ((b : Int) - a - 1) = ((b - a - 1 : Nat) : Int) := by omega
      rw [e, ← Int.natCast_ediv]
      have e2 : b - a + c - 1 = (b - a - 1) + c := by omega
      rw [e2, Nat.add_div_right _ (by omega)]
      rfl
    · rw [if_neg (by omega)]
      have e2 : b - a + c - 1 = c - 1 := by omega
      rw [e2, Nat.div_eq_of_lt (by omega)]
      rfl
  have hle : (b - a + c - 1) / c ≤ 2000000000 := by
    have : (b - a + c - 1) / c ≤ b - a + c - 1 := Nat.div_le_self _ _
    omega
  refine ⟨by omega, by omega, ?_, hsz⟩
  unfold Builtin.Range.small
  rw [hsz]
  generalize (b - a + c - 1) / c = n at hle
  simp only [Builtin.Range.rangeFitsLong, Bool.and_eq_true, Bool.or_eq_true, decide_eq_true_eq, beq_iff_eq]
  refine ⟨by omega, .inr ?_⟩
  rw [if_pos (by omega)]
  simp only [Bool.and_eq_true, decide_eq_true_eq]
  omega
/-! told_list(program, many) -/
def toldV : Option Wd → PyData
  | none => .tuple []
  | some w => .tuple [spanV (spanW w)]
def tolds (p : Prog) (n : Nat) : List PyData := (List.range n).map fun k => toldV (tellAt p k)
theorem NL_toldV (o : Option Wd) : NL (toldV o) = true := by
  cases o with
  | none => rfl
  | some w =>
    show (NL (spanV (spanW w)) && true) = true
    rw [NL_spanV]
    rfl
theorem NLs_all : ∀ {ds : List PyData}, (∀ d ∈ ds, NL d = true) → NLs ds = true
  | [], _ => rfl
  | d :: ds, h => by
    show (NL d && NLs ds) = true
    rw [h d List.mem_cons_self, NLs_all fun e he => h e (List.mem_cons_of_mem _ he)]
    rfl
theorem NLs_tolds (p : Prog) (n : Nat) : NLs (tolds p n) = true := NLs_all fun d hd => by
  obtain ⟨k, _, rfl⟩ := List.mem_map.mp hd
  exact NL_toldV _
theorem tolds_succ (p : Prog) (n : Nat) : tolds p (n + 1) = tolds p n ++ [toldV (tellAt p n)] := by
  unfold tolds
  rw [List.range_succ, List.map_append]
  rfl
theorem tolds_len (p : Prog) (n : Nat) : (tolds p n).length = n := by simp [tolds]
theorem tolds_get {p : Prog} {n k : Nat} (h : k < n) : (tolds p n)[k]? = some (toldV (tellAt p k)) := by
  unfold tolds
  rw [List.getElem?_map, List.getElem?_range h]
  rfl
def sp_told_list (K : PySem.W.Frag) : Sp := fun vs H Q _ => ∃ x p many, vs = [x, .int (many : Nat)] ∧ Dp K H x (toD p) ∧ WF p ∧ many ≤ 10000 ∧
  ∀ t xs H', Same H H' → H' t = some (.lst xs) → DpAll K H' xs (tolds p many) → Q (.ref t) H'
-- slots: 0:program 1:many 2:told 3:spans 4:sides 5:places 6:node | cells: ['spans']
theorem sc_told_list : FnScope ["program", "many", "told", "spans", "sides", "places", "node"] ["program", "many"] (defScope s_told_list) := ⟨rfl, rfl, rfl, by decide +kernel, rfl, by decide +kernel, by decide +kernel⟩
theorem ok_told_list (T : Txt K mg) : FnOk P w K mg base CX0 3 (He.ga K "told_list") (fdA K (He.ga K "told_list")) ["program", "many"] (sp_told_list K) := by
  refine T.F_told_list.ok sc_told_list (fun vs H Q E h => by obtain ⟨x, p, many, rfl, _⟩ := h; rfl) (fun cdv A outer s H vs Q E hr h => ⟨_, PSs.nox ((pss_cons (ps_asg (pe_call (ok_unroll T) (hr.mono (by decide)) (by rfl) T.g_unroll T.F_unroll.kp T.b_unroll .nil pass0 (pa_cons (pv 0) (pa_cons (pv 1) pa_nil))) (pg_tup rfl (pgs_cons (pg_name (i := 2) sc_told_list.nd rfl (Or.inl rfl)) (pgs_cons (pg_name (i := 3) sc_told_list.nd rfl (Or.inr rfl)) (pgs_cons (pg_name (i := 4) sc_told_list.nd rfl (Or.inl rfl)) (pgs_cons (pg_name (i := 5) sc_told_list.nd rfl (Or.inl rfl)) pgs_nil))))))
(pss_cons (ps_ret (pe_lc (own := [("node", 6)]) (g := (gName 6)) rfl sc_told_list.nd (pi_list (pv 2)) (blkOk_by (own := [("node", 6)]) (by kernel_rfl)) (fun _ _ _ _ _ => (pg_name (i := 6) sc_told_list.nd rfl (Or.inl rfl))) (fun _ _ _ _ _ => pts_nil) (fun _ _ _ _ _ => (pe_ifExp (pt_cmpR op_isN (pv 6) pe_non (nomark _)) (pe_tup pa_nil) (pe_tup (pa_cons (pe_ix (r := rIxL K) ix_list (pv 3) (pv 6) (fun _ _ => rfl)) pa_nil))))))
pss_nil))), ?_⟩)
  obtain ⟨x, p, many, rfl, hx, W, hm, q⟩ := h
  refine ⟨_, rfl, _, rfl, x, p, many, rfl, hx, W, hm, fun nD st ak at_ sd pl as KL TL D PL S H1 t u ht => ⟨t, _, rfl, SqT.of ht, rfl, _, _, rfl, _, _, rfl, _, _, rfl, _, _, rfl, rfl, ?_⟩⟩
  refine ⟨_, rfl, at_, rfl, ⟨_, SqL.of u.ht⟩, fun r hr' => lc_it (walk_list (xs := TL)) (fun i H' => Same H1 H' ∧ ∃ acc, H' r = some (.lst acc) ∧ acc.length = i ∧ DpAll K H' acc (tolds p i)) ?_ ?_ ?_ ?_⟩
  · exact ⟨Same.new hr', [], upd_same, rfl, .nil⟩
  · rintro i H' _ ⟨hS, _⟩
    exact SqL.of (hS _ _ u.ht)
  · rintro i x H2 H3 hi ⟨hS, acc, hacc, hl, hall⟩ ⟨rfl, hx'⟩
    rw [u.lt] at hi
    obtain ⟨v, hv, nv⟩ := u.told i hi
    rw [hv] at hx'
    cases hx'
    have step : ∀ {H4 : Hp} {q2 : Addr}, Same H3 H4 → Dp K H4 (.ref q2) (toldV (tellAt p i)) → ∃ acc, H4 r = some (.lst acc) ∧ acc.length < sizeLine ∧ (Same H1 (upd H4 r (.lst (acc ++ [.ref q2]))) ∧ ∃ acc', upd H4 r (.lst (acc ++ [.ref q2])) r = some (.lst acc') ∧ acc'.length = i + 1 ∧ DpAll K (upd H4 r (.lst (acc ++ [.ref q2]))) acc' (tolds p (i + 1))) := by
      intro H4 q2 h4 hd4
      have h4r := h4 _ _ hacc
      have tk : TK K H4 (upd H4 r (.lst (acc ++ [.ref q2]))) := TK.put h4r
      refine ⟨acc, h4r, by rw [hl, sizeLine_eq]; omega, Same.put (hS.trans h4) hr', _, upd_same, by rw [List.length_append, hl]; rfl, ?_⟩
      rw [tolds_succ]
      exact DpAll.append (DpAll.keep tk (NLs_tolds p i) (DpAll.same h4 hall)) (.cons (Dp.keep tk (NL_toldV _) hd4) .nil)
    refine ⟨rfl, ?_⟩
    cases ho : tellAt p i with
    | none =>
      rw [ho] at nv step
      cases nv
      refine ⟨_, rfl, rfl, _, rfl, ?_⟩
      refine ifT rfl ?_
      exact ⟨(by show 0 ≤ sizeLine; decide), fun q2 hq2 => step (Same.new hq2) (.tup (SqT.of upd_same) .nil)⟩
    | some wd =>
      rw [ho] at nv step
      obtain ⟨n, sv, rfl, hs, hd⟩ := nv
      refine ⟨_, rfl, rfl, _, rfl, ?_⟩
      refine ifF rfl ?_
      have hS3 := hS _ _ u.hs
      refine ⟨_, rfl, _, rfl, as, S, _, sv, rfl, rfl, SqL.of hS3, atI_nat hs, (by show 1 ≤ sizeLine; decide), fun q2 hq2 => step (Same.new hq2) (.tup (SqT.of upd_same) (.cons (Dp.same (hS.trans (Same.new hq2)) hd) .nil))⟩
  · rintro H2 ⟨hS, acc, hacc, hl, hall⟩
    rw [u.lt] at hall
    exact q _ _ _ (u.same.trans hS) hacc hall
/-! first_wrong(program, width, hop) -/
theorem shaped_toldV (o : Option Wd) : SeqAt.shaped (toldV o) = true := by
  cases o with
  | none => rfl
  | some w =>
    show SeqAt.shaped (.tuple [spanV (spanW w)]) = true
    cases spanW w with
    | none => rfl
    | some ab => simp [SeqAt.shaped, spanV, PyData.canLay0, PyData.canLayAll0, PyData.depth, PyData.depthAll]
theorem shaped_due (a b : Int) : SeqAt.shaped (.tuple [.tuple [.int a, .int b]]) = true := by
  simp [SeqAt.shaped, PyData.canLay0, PyData.canLayAll0, PyData.depth, PyData.depthAll]
theorem eqv_due {p : Prog} {width step : Nat} (hw : 1 ≤ width) (hs : width ≤ step) : PyData.eqv (toldV (tellAt p (step - 1))) (.tuple [.tuple [.int ((step : Int) - (width : Int)), .int step]]) = right p width step := by
  unfold right
  cases h : tellAt p (step - 1) with
  | none => simp [toldV, PyData.eqv, PyData.eqvAll]
  | some w =>
    show PyData.eqv (.tuple [spanV (spanW w)]) _ = _
    have hd := span_due (w := w) hw hs
    cases e : spanW w with
    | none =>
      rw [e] at hd
      have : ¬ w = due width step := fun z => by cases hd.mpr z
      simp [spanV, PyData.eqv, PyData.eqvAll, this]
    | some ab =>
      obtain ⟨a, b⟩ := ab
      rw [e] at hd
      simp only [spanV, PyData.eqv, PyData.eqvAll, Bool.and_true]
      by_cases hq : w = due width step
      · have h1 := hd.mpr hq
        simp only [Option.some.injEq, Prod.mk.injEq] at h1
        obtain ⟨rfl, rfl⟩ := h1
        rw [hq]
        have e1 : ((b - width : Nat) : Int) = (b : Int) - (width : Int) := by omega
        rw [e1]
        simp
      · have h1 : ¬ (a = step - width ∧ b = step) := fun z => hq (hd.mp (by rw [z.1, z.2]))
        have h2 : (some w == some (due width step)) = false := by simp [hq]
        rw [h2]
        by_cases hb : b = step
        · have ha : ¬ (a : Int) = (step : Int) - (width : Int) := by omega
          simp [ha]
        · have hb' : ¬ (b : Int) = (step : Int) := by omega
          simp [hb']
def optV : Option Nat → V
  | none => .non
  | some s => .int s
def firstWrong (p : Prog) (width hop : Nat) : Option Nat := (wrongs p width hop (width + Nat.lcm p.phases.length hop - 1)).head?
def sp_first_wrong (K : PySem.W.Frag) : Sp := fun vs H Q _ => ∃ x p width hop, vs = [x, .int (width : Nat), .int (hop : Nat)] ∧ Dp K H x (toD p) ∧ WF p ∧ 1 ≤ width ∧ 1 ≤ hop ∧ hop ≤ 1000 ∧ width + Nat.lcm p.phases.length hop ≤ 10000 ∧
  ∀ H', Same H H' → Q (optV (firstWrong p width hop)) H'
theorem head_filter {α : Type} {f : α → Bool} : ∀ {l : List α} {i : Nat} {x : α}, l[i]? = some x → f x = true → (∀ j y, j < i → l[j]? = some y → f y = false) → (l.filter f).head? = some x
  | [], i, x, h, _, _ => by simp at h
  | a :: l, 0, x, h, hf, _ => by
    have e : a = x := by simpa using h
    subst e
    rw [List.filter_cons, if_pos hf]
    rfl
  | a :: l, i + 1, x, h, hf, hb => by
    have ha : f a = false := hb 0 a (Nat.succ_pos i) rfl
    rw [List.filter_cons, if_neg (by rw [ha]; exact Bool.false_ne_true)]
    exact head_filter (by simpa using h) hf fun j y hj hy => hb (j + 1) y (Nat.succ_lt_succ hj) (by simpa using hy)
theorem filter_none {α : Type} {f : α → Bool} {l : List α} (h : ∀ j y, j < l.length → l[j]? = some y → f y = false) : (l.filter f).head? = none := by
  rw [List.head?_eq_none_iff, List.filter_eq_nil_iff]
  intro a ha
  obtain ⟨j, hj, e⟩ := List.mem_iff_getElem.mp ha
  rw [h j a hj (by rw [← e]; exact List.getElem?_eq_getElem hj)]
  exact Bool.false_ne_true
theorem asked_get {width hop n j : Nat} (h : j < (n + hop - width) / hop) : (asked width hop n)[j]? = some (width + j * hop) := by
  unfold asked
  rw [List.getElem?_map, List.getElem?_range h]
  rfl
theorem asked_len (width hop n : Nat) : (asked width hop n).length = (n + hop - width) / hop := by simp [asked]
theorem toD_inv {H : Hp} {x : V} {p : Prog} (hx : Dp K H x (toD p)) : ∃ a ph ys, x = .ref a ∧ SqT K H a [.int p.regs, .ref ph] ∧ SqT K H ph ys ∧ ys.length = p.phases.length ∧ DpAll K H ys (p.phases.map phaseP) := by
  obtain ⟨a, xs, rfl, hs, ha⟩ := Dp.tup_inv hx
  obtain ⟨x0, x1, rfl, h0, h1⟩ := DpAll.two ha
  cases h0
  obtain ⟨ph, ys, rfl, hph, hys⟩ := Dp.tup_inv h1
  exact ⟨a, ph, ys, rfl, hs, hph, by rw [DpAll.length hys, List.length_map], hys⟩
-- slots: 0:program 1:width 2:hop 3:last 4:given 5:step | cells: []
theorem sc_first_wrong : FnScope ["program", "width", "hop", "last", "given", "step"] ["program", "width", "hop"] (defScope s_first_wrong) := ⟨rfl, rfl, rfl, by decide +kernel, rfl, by decide +kernel, by decide +kernel⟩
theorem ok_first_wrong (T : Txt K mg) : FnOk P w K mg base CX0 4 (He.ga K "first_wrong") (fdA K (He.ga K "first_wrong")) ["program", "width", "hop"] (sp_first_wrong K) := by
  refine T.F_first_wrong.ok sc_first_wrong (fun vs H Q E h => by obtain ⟨x, p, width, hop, rfl, _⟩ := h; rfl) (fun cdv A outer s H vs Q E hr h => ⟨_, PSs.nox ((pss_cons (ps_set (i := 3) sc_first_wrong.nd rfl (Or.inl rfl) (pe_op op_sub (pe_op op_add (pv 1) (pe_call (ok_whole_round T) (hr.mono (by decide)) (by rfl) T.g_whole_round T.F_whole_round.kp T.b_whole_round .nil pass0 (pa_cons (pv 0) (pa_cons (pv 2) pa_nil)))) pe_int))
(pss_cons (ps_set (i := 4) sc_first_wrong.nd rfl (Or.inl rfl) (pe_call (ok_told_list T) (hr.mono (by decide)) (by rfl) T.g_told_list T.F_told_list.kp T.b_told_list .nil pass0 (pa_cons (pv 0) (pa_cons (pv 3) pa_nil))))
(pss_cons (ps_for PassesOwn.never rfl (pi_range3 (by rfl) T.m_range (pa_cons (pv 1) (pa_cons (pe_op op_add (pv 3) pe_int) (pa_cons (pv 2) pa_nil)))) (pg_name (i := 5) sc_first_wrong.nd rfl (Or.inl rfl))
(pss_cons (ps_if (pt_cmpR (op_neD hr.units) (pe_ix ix_list (pv 4) (pe_op op_sub (pv 5) pe_int) (fun _ _ => rfl)) (pe_tup (pa_cons (pe_tup (pa_cons (pe_op op_sub (pv 5) (pv 1)) (pa_cons (pv 5) pa_nil))) pa_nil)) (nomark _))
(pss_cons (ps_ret (pv 5))
pss_nil)
pss_nil)
pss_nil))
(pss_cons (ps_ret pe_non)
pss_nil))))), ?_⟩)
  obtain ⟨x, p, width, hop, rfl, hx, W, hw, hh, hh2, hL, q⟩ := h
  obtain ⟨a, ph, ys, rfl, hs, hph, hly, hys⟩ := toD_inv hx
  have hp1 := W.p1
  have hp2 := W.p2
  have hLpos : 0 < Nat.lcm p.phases.length hop := Nat.lcm_pos (by omega) (by omega)
  -- last = width + whole_round(program, hop) - 1
  refine ⟨_, rfl, _, rfl, _, rfl, a, ph, _, ys, hop, rfl, hs, rfl, hph, by omega, by omega, hh, hh2, _, _, rfl, rfl, _, _, rfl, rfl, ?_⟩
  rw [hly]
  have el : (width : Int) + ((Nat.lcm p.phases.length hop : Nat) : Int) - 1 = ((width + Nat.lcm p.phases.length hop - 1 : Nat) : Int) := by omega
  show tSeq _ _ _ (List.set _ 3 (some (V.int ((width : Int) + ((Nat.lcm p.phases.length hop : Nat) : Int) - 1)))) H
  rw [el]
  unfold firstWrong at q
  generalize hlast : width + Nat.lcm p.phases.length hop - 1 = last at q ⊢
  have hl1 : last ≤ 10000 := by omega
  -- given = told_list(program, last)
  refine ⟨_, rfl, _, rfl, _, p, last, rfl, hx, W, hl1, fun t xs H1 hS ht hall => ?_⟩
  have hlx : xs.length = last := by rw [DpAll.length hall, tolds_len]
  have en : ((last + 1) - width + hop - 1) / hop = (last + hop - width) / hop := by
    congr 1
    omega
  refine ⟨_, rfl, _, rfl, _, _, rfl, rfl, _, rfl, (width : Int), ((last + 1 : Nat) : Int), (hop : Int), _, rfl, RgC_up (by omega) (by omega) hh (by omega), for_it (walk_rangeC (lo := (width : Int)) (c := (hop : Int)) (n := ((last + 1) - width + hop - 1) / hop))
    (fun i σ' H' => (∃ o, σ' = [some (.ref a), some (.int width), some (.int hop), some (.int last), some (.ref t), o]) ∧ Same H1 H' ∧ ∀ j s, j < i → (asked width hop last)[j]? = some s → right p width s = true) ?_ (fun _ _ _ _ _ => trivial) ?_ ?_⟩
  · exact ⟨⟨none, rfl⟩, Same.refl _, fun j s hj => absurd hj (Nat.not_lt_zero j)⟩
  · rintro i x σ' H2 H3 hi ⟨⟨o, rfl⟩, hS2, hr2⟩ ⟨rfl, rfl⟩
    rw [en] at hi
    have hst := (asked_count (width := width) (n := last) hh).mp hi
    have ha := asked_get (width := width) (n := last) hi
    have es : (width : Int) + (i : Nat) * (hop : Int) = ((width + i * hop : Nat) : Int) := by
      rw [Int.natCast_add, Int.natCast_mul]
    show tSeq _ _ _ (List.set _ 5 (some (V.int ((width : Int) + (i : Nat) * (hop : Int))))) H3
    rw [es]
    generalize hstep : width + i * hop = step at hst ha ⊢
    obtain ⟨v, hv, hdv⟩ := DpAll.get (DpAll.same hS2 hall) (i := step - 1) (tolds_get (p := p) (by omega))
    have e1 : ((step : Int) - 1) = ((step - 1 : Nat) : Int) := by omega
    refine ⟨_, rfl, _, rfl, _, _, rfl, rfl, t, xs, _, v, rfl, rfl, SqL.of (hS2 _ _ ht), at_of e1 hv, _, rfl, _, rfl, _, _, rfl, rfl, _, rfl, (by show 2 ≤ sizeLine; decide), fun q1 hq1 => ⟨(by show 1 ≤ sizeLine; decide), fun q2 hq2 =>
      ⟨toldV (tellAt p (step - 1)), .tuple [.tuple [.int ((step : Int) - (width : Int)), .int step]], Dp.same ((Same.new hq1).trans (Same.new hq2)) hdv, .tup (SqT.of upd_same) (.cons (.tup (SqT.of (Same.new hq2 _ _ upd_same)) (.cons (.int _) (.cons (.int _) .nil))) .nil),
        shaped_toldV _, shaped_due _ _, _, rfl, ?_⟩⟩⟩
    have hS4 : Same H1 (upd (upd H3 q1 (.tup [V.int ((step : Int) - (width : Int)), V.int step])) q2 (.tup [V.ref q1])) := hS2.trans ((Same.new hq1).trans (Same.new hq2))
    rw [eqv_due hw (by omega)]
    cases hrt : right p width step with
    | true =>
      refine iteF ?_
      refine ⟨⟨_, rfl⟩, hS4, fun j s hj hs' => ?_⟩
      by_cases hji : j = i
      · subst hji
        rw [ha] at hs'
        cases hs'
        exact hrt
      · exact hr2 j s (by omega) hs'
    | false =>
      refine iteT ?_
      have hf : (wrongs p width hop last).head? = some step := head_filter ha (by rw [hrt]; rfl) fun j y hj hy => by rw [hr2 j y hj hy]; rfl
      rw [hf] at q
      exact ⟨_, rfl, q _ (hS.trans hS4)⟩
  · rintro σ' H2 ⟨⟨o, rfl⟩, hS2, hr2⟩
    rw [en] at hr2
    have hf : (wrongs p width hop last).head? = none := filter_none fun j y hj hy => by rw [hr2 j y (by rw [asked_len] at hj; exact hj) hy]; rfl
    rw [hf] at q
    exact q _ (hS.trans hS2)
end
end U3


namespace U3
open PySem PySem.Spec PyProof.Rows L2
section
variable {P : Program} {w : World} {K : PySem.W.Frag} {mg : Str → Option Value} {base : Heap}
theorem isI_i (i : Int) : isI (.int i) = true := rfl
theorem posD_i {i : Int} (h : 1 ≤ i) : posD (.int i) = true := by
  show (true && decide (1 ≤ i)) = true
  rw [decide_eq_true h]
  rfl
theorem keptD_nat {n r : Nat} (h : n < r) : keptD (r : Int) (.int n) = true := by
  show ((true && decide (0 ≤ (n : Int))) && decide ((n : Int) < (r : Int))) = true
  rw [decide_eq_true (by omega), decide_eq_true (by omega)]
  rfl
theorem rowD_ok {n : Nat} {r : Row} (h : WFRow n r) : rowD (n : Int) (rowP r) = true := by
  have h0 := h.head
  rcases h.two_or with ⟨a, b, rfl, ha, hb⟩ | ⟨a, b, c, rfl, ha, hb, hc⟩
  · have h0 : 0 < a := h0
    show (true && ((keptD n (.int a) && (keptD n (.int b) && true)) && decide (0 < (a : Int)))) = true
    rw [keptD_nat ha, keptD_nat hb, decide_eq_true (by omega)]
    rfl
  · have h0 : 0 < a := h0
    show (true && ((keptD n (.int a) && (keptD n (.int b) && (keptD n (.int c) && true))) && decide (0 < (a : Int)))) = true
    rw [keptD_nat ha, keptD_nat hb, keptD_nat hc, decide_eq_true (by omega)]
    rfl
theorem phaseD_ok {n : Nat} {ph : List Row × Option Nat} (h : WFPh n ph) : phaseD (n : Int) (phaseP ph) = true := by
  obtain ⟨rows, t⟩ := ph
  show ((rows.map rowP).all (rowD n) && toldOk n (toldP t)) = true
  have h1 : (rows.map rowP).all (rowD n) = true := List.all_eq_true.mpr fun d hd => by
    obtain ⟨r, hr, rfl⟩ := List.mem_map.mp hd
    exact rowD_ok (h.rows r hr)
  rw [h1]
  cases t with
  | none => rfl
  | some t => exact keptD_nat (h.told t rfl)
theorem progD_ok {p : Prog} (W : WF p) : progD (toD p) = true := by
  show (true && (decide (1 ≤ (p.regs : Int)) && (!decide ((p.phases.map phaseP).length = 0) && (p.phases.map phaseP).all (phaseD p.regs)))) = true
  have h1 : (p.phases.map phaseP).all (phaseD p.regs) = true := List.all_eq_true.mpr fun d hd => by
    obtain ⟨ph, hp, rfl⟩ := List.mem_map.mp hd
    exact phaseD_ok (W.ph ph hp)
  have hp1 := W.p1
  have hr1 := W.r1
  rw [h1, decide_eq_true (by omega), decide_eq_false (by rw [List.length_map]; omega)]
  rfl
/-- the cases of judged_kinds, ok what is wished where it lets go -/
def JK (K : PySem.W.Frag) (H : Hp) (E : XK) (dz dx dy : PyData) (ok : Prop) : Prop :=
  (progD dz = false ∧ ErrN K "program" H E) ∨ (progD dz = true ∧ posD dx = false ∧ ErrN K "width" H E) ∨ (progD dz = true ∧ posD dx = true ∧ posD dy = false ∧ ErrN K "hop" H E) ∨ (progD dz = true ∧ posD dx = true ∧ posD dy = true ∧ ok)
theorem JK.go {H : Hp} {E : XK} {R : Hp → Prop} {dz dx dy : PyData} {ok : Prop} (j : JK K H E dz dx dy ok) (h : ok → ∀ H', Same H H' → R H') :
    (progD dz = false → ErrN K "program" H E) ∧ (progD dz = true → posD dx = false → ErrN K "width" H E) ∧ (progD dz = true → posD dx = true → posD dy = false → ErrN K "hop" H E) ∧ (progD dz = true → posD dx = true → posD dy = true → ∀ H', Same H H' → R H') := by
  rcases j with ⟨j0, e⟩ | ⟨j0, j1, e⟩ | ⟨j0, j1, j2, e⟩ | ⟨j0, j1, j2, e⟩
  · exact ⟨fun _ => e, fun h => (by rw [j0] at h; cases h), fun h => (by rw [j0] at h; cases h), fun h => (by rw [j0] at h; cases h)⟩
  · exact ⟨fun h => (by rw [j0] at h; cases h), fun _ _ => e, fun _ h => (by rw [j1] at h; cases h), fun _ h => (by rw [j1] at h; cases h)⟩
  · exact ⟨fun h => (by rw [j0] at h; cases h), fun _ h => (by rw [j1] at h; cases h), fun _ _ _ => e, fun _ _ h => (by rw [j2] at h; cases h)⟩
  · exact ⟨fun h => (by rw [j0] at h; cases h), fun _ h => (by rw [j1] at h; cases h), fun _ _ h => (by rw [j2] at h; cases h), fun _ _ _ => h e⟩
/-- a program, a width, a hop as they may be -/
structure Fit (p : Prog) (width hop : Nat) : Prop where
  wf : WF p
  w1 : 1 ≤ width
  h1 : 1 ≤ hop
  h2 : hop ≤ 1000
  few : width + Nat.lcm p.phases.length hop ≤ 10000
/-! round_of(program, hop) -/
def sp_round_of (K : PySem.W.Frag) : Sp := fun vs H Q E => ∃ z y dz dy, vs = [z, y] ∧ Dp K H z dz ∧ Dp K H y dy ∧ JK K H E dz (.int 1) dy (∃ p hop, dz = toD p ∧ dy = .int (hop : Nat) ∧ Fit p 1 hop ∧ ∀ H', Same H H' → Q (.int (Nat.lcm p.phases.length hop : Nat)) H')
-- slots: 0:program 1:hop | cells: []
theorem sc_round_of : FnScope ["program", "hop"] ["program", "hop"] (defScope s_round_of) := ⟨rfl, rfl, rfl, by decide +kernel, rfl, by decide +kernel, by decide +kernel⟩
theorem ok_round_of (T : Txt K mg) : FnOk P w K mg base (L2.CX P w) 9 (He.ga K "round_of") (fdA K (He.ga K "round_of")) ["program", "hop"] (sp_round_of K) := by
  refine T.F_round_of.ok sc_round_of (fun vs H Q E h => by obtain ⟨z, y, dz, dy, rfl, _⟩ := h; rfl) (fun cdv A outer s H vs Q E hr h => ⟨_, ((pss_cons (ps_expr (pe_call (E := E) (ok_judged_kinds T) (hr.mono (by decide)) (by rfl) T.g_judged_kinds T.F_judged_kinds.kp T.b_judged_kinds .nil (passes_call (W := fun cls d _ H => E cls d H) (takes_of rfl rfl rfl rfl) (fun _ _ _ _ h => h)) (pa_cons (pv 0) (pa_cons pe_int (pa_cons (pv 1) pa_nil)))))
(pss_cons (ps_ret (pe_call (ok_whole_round T) (hr.mono (by decide)) (by rfl) T.g_whole_round T.F_whole_round.kp T.b_whole_round .nil pass0 (pa_cons (pv 0) (pa_cons (pv 1) pa_nil))))
pss_nil))), ?_⟩)
  obtain ⟨z, y, dz, dy, rfl, hz, hy, j⟩ := h
  refine ⟨_, rfl, _, rfl, z, .int 1, y, dz, .int 1, dy, rfl, hz, .int 1, hy, j.go ?_⟩
  rintro ⟨p, hop, rfl, rfl, F, q⟩ H' hS
  obtain ⟨a, ph, ys, rfl, hs, hph, hly, hys⟩ := toD_inv (Dp.same hS hz)
  cases hy
  have := F.wf.p1
  have := F.wf.p2
  refine ⟨_, rfl, _, rfl, a, ph, _, ys, hop, rfl, hs, rfl, hph, by omega, by omega, F.h1, F.h2, ?_⟩
  rw [hly]
  exact q _ hS
/-! told_spans(program, many) -/
def sp_told_spans (K : PySem.W.Frag) : Sp := fun vs H Q E => ∃ z y dz dy, vs = [z, y] ∧ Dp K H z dz ∧ Dp K H y dy ∧ ((progD dz = false ∧ ErrN K "program" H E) ∨ (progD dz = true ∧ isN dy = false ∧ ErrN K "many" H E) ∨
  ∃ p many, dz = toD p ∧ dy = .int (many : Nat) ∧ WF p ∧ many ≤ 10000 ∧ ∀ v H', Same H H' → Dp K H' v (.tuple (tolds p many)) → Q v H')
theorem isN_nat (n : Nat) : isN (.int n) = true := by
  show (true && decide (0 ≤ (n : Int))) = true
  rw [decide_eq_true (by omega)]
  rfl
-- slots: 0:program 1:many | cells: []
theorem sc_told_spans : FnScope ["program", "many"] ["program", "many"] (defScope s_told_spans) := ⟨rfl, rfl, rfl, by decide +kernel, rfl, by decide +kernel, by decide +kernel⟩
theorem ok_told_spans (T : Txt K mg) : FnOk P w K mg base (L2.CX P w) 8 (He.ga K "told_spans") (fdA K (He.ga K "told_spans")) ["program", "many"] (sp_told_spans K) := by
  refine T.F_told_spans.ok sc_told_spans (fun vs H Q E h => by obtain ⟨z, y, dz, dy, rfl, _⟩ := h; rfl) (fun cdv A outer s H vs Q E hr h => ⟨_, ((pss_cons (ps_if (pt_not (pt_val (pe_call (ok_is_program T) (hr.mono (by decide)) (by rfl) T.g_is_program T.F_is_program.kp T.b_is_program .nil pass0 (pa_cons (pv 0) pa_nil))))
(pss_cons (ps_raiseY rfl T.errN (ok_initN T) (hr.mono (by decide)) T.b_initN (takes_of rfl rfl rfl rfl) (by rfl) T.g_NotUsable (pa_cons pe_str (pa_cons (pe_un un_neg pe_int) pa_nil)))
pss_nil)
pss_nil)
(pss_cons (ps_if (pt_not (pt_val (pe_call (ok_is_number T) (hr.mono (by decide)) (by rfl) T.g_is_number T.F_is_number.kp T.b_is_number .nil pass0 (pa_cons (pv 1) pa_nil))))
(pss_cons (ps_raiseY rfl T.errN (ok_initN T) (hr.mono (by decide)) T.b_initN (takes_of rfl rfl rfl rfl) (by rfl) T.g_NotUsable (pa_cons pe_str (pa_cons (pe_un un_neg pe_int) pa_nil)))
pss_nil)
pss_nil)
(pss_cons (ps_ret (pe_callTy call_tuple_of (by rfl) T.m_tuple bt_tuple (pa_cons (pe_call (ok_told_list T) (hr.mono (by decide)) (by rfl) T.g_told_list T.F_told_list.kp T.b_told_list .nil pass0 (pa_cons (pv 0) (pa_cons (pv 1) pa_nil))) pa_nil)))
pss_nil)))), ?_⟩)
  obtain ⟨z, y, dz, dy, rfl, hz, hy, j⟩ := h
  refine ⟨_, rfl, _, dz, rfl, hz, fun H1 hS => ⟨_, rfl, ?_⟩⟩
  rcases j with ⟨j0, e⟩ | ⟨j0, j1, e⟩ | ⟨p, many, rfl, rfl, W, hm, q⟩
  · rw [j0]
    refine iteT ?_
    exact ⟨_, rfl, _, _, rfl, (e.same hS).go⟩
  · rw [j0]
    refine iteF ?_
    refine ⟨_, rfl, _, dy, rfl, Dp.same hS hy, _, rfl, ?_⟩
    rw [j1]
    refine iteT ?_
    exact ⟨_, rfl, _, _, rfl, (e.same hS).go⟩
  · rw [progD_ok W]
    refine iteF ?_
    refine ⟨_, rfl, _, _, rfl, Dp.same hS hy, _, rfl, ?_⟩
    rw [isN_nat]
    refine iteF ?_
    cases hy
    refine ⟨_, rfl, _, rfl, _, p, many, rfl, Dp.same hS hz, W, hm, fun t xs H2 hS2 ht hall => ⟨t, xs, rfl, .inl ⟨SqL.of ht, fun l hl => ?_⟩⟩⟩
    exact q _ _ ((hS.trans hS2).trans (Same.new hl)) (.tup (SqT.of upd_same) (DpAll.same (Same.new hl) hall))
/-! right_forever, wrong_step -/
def sp_right_forever (K : PySem.W.Frag) : Sp := fun vs H Q E => ∃ z x y dz dx dy, vs = [z, x, y] ∧ Dp K H z dz ∧ Dp K H x dx ∧ Dp K H y dy ∧ JK K H E dz dx dy (∃ p width hop, dz = toD p ∧ dx = .int (width : Nat) ∧ dy = .int (hop : Nat) ∧ Fit p width hop ∧ ∀ H', Same H H' → Q (.bl (firstWrong p width hop).isNone) H')
-- slots: 0:program 1:width 2:hop | cells: []
theorem sc_right_forever : FnScope ["program", "width", "hop"] ["program", "width", "hop"] (defScope s_right_forever) := ⟨rfl, rfl, rfl, by decide +kernel, rfl, by decide +kernel, by decide +kernel⟩
theorem ok_right_forever (T : Txt K mg) : FnOk P w K mg base (L2.CX P w) 9 (He.ga K "right_forever") (fdA K (He.ga K "right_forever")) ["program", "width", "hop"] (sp_right_forever K) := by
  refine T.F_right_forever.ok sc_right_forever (fun vs H Q E h => by obtain ⟨z, x, y, dz, dx, dy, rfl, _⟩ := h; rfl) (fun cdv A outer s H vs Q E hr h => ⟨_, ((pss_cons (ps_expr (pe_call (E := E) (ok_judged_kinds T) (hr.mono (by decide)) (by rfl) T.g_judged_kinds T.F_judged_kinds.kp T.b_judged_kinds .nil (passes_call (W := fun cls d _ H => E cls d H) (takes_of rfl rfl rfl rfl) (fun _ _ _ _ h => h)) (pa_cons (pv 0) (pa_cons (pv 1) (pa_cons (pv 2) pa_nil)))))
(pss_cons (ps_ret (pe_cmpR op_isN (pe_call (ok_first_wrong T) (hr.mono (by decide)) (by rfl) T.g_first_wrong T.F_first_wrong.kp T.b_first_wrong .nil pass0 (pa_cons (pv 0) (pa_cons (pv 1) (pa_cons (pv 2) pa_nil)))) pe_non (nomark _)))
pss_nil))), ?_⟩)
  obtain ⟨z, x, y, dz, dx, dy, rfl, hz, hx, hy, j⟩ := h
  refine ⟨_, rfl, _, rfl, _, rfl, z, x, y, dz, dx, dy, rfl, hz, hx, hy, j.go ?_⟩
  rintro ⟨p, width, hop, rfl, rfl, rfl, F, q⟩ H' hS
  cases hy
  cases hx
  refine ⟨_, rfl, _, rfl, _, rfl, _, p, width, hop, rfl, Dp.same hS hz, F.wf, F.w1, F.h1, F.h2, F.few, fun H2 hS2 => ⟨rfl, ?_⟩⟩
  have e : decide (optV (firstWrong p width hop) = .non) = (firstWrong p width hop).isNone := by
    cases firstWrong p width hop <;> rfl
  show Q (.bl (decide (optV (firstWrong p width hop) = .non))) H2
  rw [e]
  exact q _ (hS.trans hS2)
def sp_wrong_step (K : PySem.W.Frag) : Sp := fun vs H Q E => ∃ z x y dz dx dy, vs = [z, x, y] ∧ Dp K H z dz ∧ Dp K H x dx ∧ Dp K H y dy ∧ JK K H E dz dx dy (∃ p width hop, dz = toD p ∧ dx = .int (width : Nat) ∧ dy = .int (hop : Nat) ∧ Fit p width hop ∧ ∀ H', Same H H' → Q (optV (firstWrong p width hop)) H')
-- slots: 0:program 1:width 2:hop | cells: []
theorem sc_wrong_step : FnScope ["program", "width", "hop"] ["program", "width", "hop"] (defScope s_wrong_step) := ⟨rfl, rfl, rfl, by decide +kernel, rfl, by decide +kernel, by decide +kernel⟩
theorem ok_wrong_step (T : Txt K mg) : FnOk P w K mg base (L2.CX P w) 9 (He.ga K "wrong_step") (fdA K (He.ga K "wrong_step")) ["program", "width", "hop"] (sp_wrong_step K) := by
  refine T.F_wrong_step.ok sc_wrong_step (fun vs H Q E h => by obtain ⟨z, x, y, dz, dx, dy, rfl, _⟩ := h; rfl) (fun cdv A outer s H vs Q E hr h => ⟨_, ((pss_cons (ps_expr (pe_call (E := E) (ok_judged_kinds T) (hr.mono (by decide)) (by rfl) T.g_judged_kinds T.F_judged_kinds.kp T.b_judged_kinds .nil (passes_call (W := fun cls d _ H => E cls d H) (takes_of rfl rfl rfl rfl) (fun _ _ _ _ h => h)) (pa_cons (pv 0) (pa_cons (pv 1) (pa_cons (pv 2) pa_nil)))))
(pss_cons (ps_ret (pe_call (ok_first_wrong T) (hr.mono (by decide)) (by rfl) T.g_first_wrong T.F_first_wrong.kp T.b_first_wrong .nil pass0 (pa_cons (pv 0) (pa_cons (pv 1) (pa_cons (pv 2) pa_nil)))))
pss_nil))), ?_⟩)
  obtain ⟨z, x, y, dz, dx, dy, rfl, hz, hx, hy, j⟩ := h
  refine ⟨_, rfl, _, rfl, _, rfl, z, x, y, dz, dx, dy, rfl, hz, hx, hy, j.go ?_⟩
  rintro ⟨p, width, hop, rfl, rfl, rfl, F, q⟩ H' hS
  cases hy
  cases hx
  exact ⟨_, rfl, _, rfl, _, rfl, _, p, width, hop, rfl, Dp.same hS hz, F.wf, F.w1, F.h1, F.h2, F.few, fun H2 hS2 => q _ (hS.trans hS2)⟩
/-! wrong_told(program, width, hop) -/
def dueV (width : Int) (step : Int) : PyData := .tuple [.int (step - width), .int step]
def wrongTold (p : Prog) (width hop : Nat) : PyData := match firstWrong p width hop with
  | none => .none
  | some s => .tuple [toldV (tellAt p (s - 1)), dueV width s]
theorem firstWrong_some {p : Prog} {width hop s : Nat} (hh : 1 ≤ hop) (h : firstWrong p width hop = some s) : width ≤ s ∧ s ≤ width + Nat.lcm p.phases.length hop - 1 := by
  have hm : s ∈ wrongs p width hop (width + Nat.lcm p.phases.length hop - 1) := List.mem_of_mem_head? (by unfold firstWrong at h; rw [h]; exact rfl)
  obtain ⟨h1, h2, _⟩ := (mem_wrongs hh).mp hm
  exact ⟨h1, h2⟩
def sp_wrong_told (K : PySem.W.Frag) : Sp := fun vs H Q E => ∃ z x y dz dx dy, vs = [z, x, y] ∧ Dp K H z dz ∧ Dp K H x dx ∧ Dp K H y dy ∧ JK K H E dz dx dy (∃ p width hop, dz = toD p ∧ dx = .int (width : Nat) ∧ dy = .int (hop : Nat) ∧ Fit p width hop ∧ ∀ v H', Same H H' → Dp K H' v (wrongTold p width hop) → Q v H')
-- slots: 0:program 1:width 2:hop 3:step | cells: []
theorem sc_wrong_told : FnScope ["program", "width", "hop", "step"] ["program", "width", "hop"] (defScope s_wrong_told) := ⟨rfl, rfl, rfl, by decide +kernel, rfl, by decide +kernel, by decide +kernel⟩
theorem ok_wrong_told (T : Txt K mg) : FnOk P w K mg base (L2.CX P w) 10 (He.ga K "wrong_told") (fdA K (He.ga K "wrong_told")) ["program", "width", "hop"] (sp_wrong_told K) := by
  refine T.F_wrong_told.ok sc_wrong_told (fun vs H Q E h => by obtain ⟨z, x, y, dz, dx, dy, rfl, _⟩ := h; rfl) (fun cdv A outer s H vs Q E hr h => ⟨_, ((pss_cons (ps_set (i := 3) sc_wrong_told.nd rfl (Or.inl rfl) (pe_call (E := E) (ok_wrong_step T) (hr.mono (by decide)) (by rfl) T.g_wrong_step T.F_wrong_step.kp T.b_wrong_step .nil (passes_call (W := fun cls d _ H => E cls d H) (takes_of rfl rfl rfl rfl) (fun _ _ _ _ h => h)) (pa_cons (pv 0) (pa_cons (pv 1) (pa_cons (pv 2) pa_nil)))))
(pss_cons (ps_if (pt_cmpR op_isN (pv 3) pe_non (nomark _))
(pss_cons (ps_ret pe_non)
pss_nil)
pss_nil)
(pss_cons (ps_ret (pe_tup (pa_cons (pe_ix ix_list (pe_call (ok_told_list T) (hr.mono (by decide)) (by rfl) T.g_told_list T.F_told_list.kp T.b_told_list .nil pass0 (pa_cons (pv 0) (pa_cons (pv 3) pa_nil))) (pe_op op_sub (pv 3) pe_int) (fun _ _ => rfl)) (pa_cons (pe_tup (pa_cons (pe_op op_sub (pv 3) (pv 1)) (pa_cons (pv 3) pa_nil))) pa_nil))))
pss_nil)))), ?_⟩)
  obtain ⟨z, x, y, dz, dx, dy, rfl, hz, hx, hy, j⟩ := h
  refine ⟨_, rfl, _, rfl, _, rfl, z, x, y, dz, dx, dy, rfl, hz, hx, hy, ?_⟩
  rcases j with j | j | j | ⟨j0, j1, j2, p, width, hop, rfl, rfl, rfl, F, q⟩
  · exact .inl j
  · exact .inr (.inl j)
  · exact .inr (.inr (.inl j))
  refine .inr (.inr (.inr ⟨j0, j1, j2, p, width, hop, rfl, rfl, rfl, F, fun H1 hS => ?_⟩))
  cases hy
  cases hx
  cases hf : firstWrong p width hop with
  | none =>
    refine ⟨_, rfl, rfl, _, rfl, ?_⟩
    refine ifT rfl ?_
    refine q _ _ hS ?_
    unfold wrongTold
    rw [hf]
    exact .non
  | some s =>
    obtain ⟨h1, h2⟩ := firstWrong_some F.h1 hf
    have hfew := F.few
    have hw1 := F.w1
    refine ⟨_, rfl, rfl, _, rfl, ?_⟩
    refine ifF rfl ?_
    refine ⟨_, rfl, _, rfl, _, p, s, rfl, Dp.same hS hz, F.wf, by omega, fun t xs H2 hS2 ht hall => ?_⟩
    obtain ⟨v, hv, hdv⟩ := DpAll.get hall (i := s - 1) (tolds_get (p := p) (by omega))
    have e1 : ((s : Int) - 1) = ((s - 1 : Nat) : Int) := by omega
    refine ⟨_, rfl, _, _, rfl, rfl, t, xs, _, v, rfl, rfl, SqL.of ht, at_of e1 hv, _, rfl, _, rfl, _, _, rfl, rfl, _, rfl, (by show 2 ≤ sizeLine; decide), fun q1 hq1 => ⟨(by show 2 ≤ sizeLine; decide), fun q2 hq2 => ?_⟩⟩
    refine q _ _ (((hS.trans hS2).trans (Same.new hq1)).trans (Same.new hq2)) ?_
    unfold wrongTold
    rw [hf]
    exact .tup (SqT.of upd_same) (.cons (Dp.same ((Same.new hq1).trans (Same.new hq2)) hdv) (.cons (.tup (SqT.of (Same.new hq2 _ _ upd_same)) (.cons (.int _) (.cons (.int _) .nil))) .nil))
/-! lets_wrong(program, width, hop, thing) -/
def stepOk (width hop : Nat) (d : PyData) : Bool := isI d && (decide ((width : Int) ≤ intOf d) && decide ((intOf d - width).fmod hop = 0))
def stepAt (p : Prog) (width hop : Nat) (d : PyData) : Nat := width + ((intOf d - width).fmod (Nat.lcm p.phases.length hop : Nat)).toNat
def sp_lets_wrong (K : PySem.W.Frag) : Sp := fun vs H Q E => ∃ z x y u dz dx dy du, vs = [z, x, y, u] ∧ Dp K H z dz ∧ Dp K H x dx ∧ Dp K H y dy ∧ Dp K H u du ∧ JK K H E dz dx dy (∃ p width hop, dz = toD p ∧ dx = .int (width : Nat) ∧ dy = .int (hop : Nat) ∧ Fit p width hop ∧
  (stepOk width hop du = false → ErrP K "step" H E) ∧ (stepOk width hop du = true → right p width (stepAt p width hop du) = true → ErrP K "right" H E) ∧
  (stepOk width hop du = true → right p width (stepAt p width hop du) = false → ∀ v H', Same H H' → Dp K H' v (dueV width (intOf du)) → Q v H'))
-- slots: 0:program 1:width 2:hop 3:thing 4:step | cells: []
theorem sc_lets_wrong : FnScope ["program", "width", "hop", "thing", "step"] ["program", "width", "hop", "thing"] (defScope s_lets_wrong) := ⟨rfl, rfl, rfl, by decide +kernel, rfl, by decide +kernel, by decide +kernel⟩
theorem ok_lets_wrong (T : Txt K mg) : FnOk P w K mg base (L2.CX P w) 9 (He.ga K "lets_wrong") (fdA K (He.ga K "lets_wrong")) ["program", "width", "hop", "thing"] (sp_lets_wrong K) := by
  refine T.F_lets_wrong.ok sc_lets_wrong (fun vs H Q E h => by obtain ⟨z, x, y, u, dz, dx, dy, du, rfl, _⟩ := h; rfl) (fun cdv A outer s H vs Q E hr h => ⟨_, ((pss_cons (ps_expr (pe_call (E := E) (ok_judged_kinds T) (hr.mono (by decide)) (by rfl) T.g_judged_kinds T.F_judged_kinds.kp T.b_judged_kinds .nil (passes_call (W := fun cls d _ H => E cls d H) (takes_of rfl rfl rfl rfl) (fun _ _ _ _ h => h)) (pa_cons (pv 0) (pa_cons (pv 1) (pa_cons (pv 2) pa_nil)))))
(pss_cons (ps_if (PW.pt (pw_or (pt_not (pt_val (pe_call (ok_is_integer T) (hr.mono (by decide)) (by rfl) T.g_is_integer T.F_is_integer.kp T.b_is_integer .nil pass0 (pa_cons (pv 3) pa_nil)))) (pw_or (pt_cmpR op_lt (pv 3) (pv 1) (nomark _)) (pw_or1 (pt_cmpR op_ne (pe_op op_modN (pe_op op_sub (pv 3) (pv 1)) (pv 2)) pe_int (nomark _))))))
(pss_cons (ps_raiseY rfl T.errP (ok_initP T) (hr.mono (by decide)) T.b_initP (takes_of rfl rfl rfl rfl) (by rfl) T.g_InvalidPaper (pa_cons pe_str (pa_cons (pe_un un_neg pe_int) pa_nil)))
pss_nil)
pss_nil)
(pss_cons (ps_set (i := 4) sc_lets_wrong.nd rfl (Or.inl rfl) (pe_op op_add (pv 1) (pe_op op_modN (pe_op op_sub (pv 3) (pv 1)) (pe_call (ok_whole_round T) (hr.mono (by decide)) (by rfl) T.g_whole_round T.F_whole_round.kp T.b_whole_round .nil pass0 (pa_cons (pv 0) (pa_cons (pv 2) pa_nil))))))
(pss_cons (ps_if (pt_cmpR (op_eqD hr.units) (pe_ix ix_list (pe_call (ok_told_list T) (hr.mono (by decide)) (by rfl) T.g_told_list T.F_told_list.kp T.b_told_list .nil pass0 (pa_cons (pv 0) (pa_cons (pv 4) pa_nil))) (pe_op op_sub (pv 4) pe_int) (fun _ _ => rfl)) (pe_tup (pa_cons (pe_tup (pa_cons (pe_op op_sub (pv 4) (pv 1)) (pa_cons (pv 4) pa_nil))) pa_nil)) (nomark _))
(pss_cons (ps_raiseY rfl T.errP (ok_initP T) (hr.mono (by decide)) T.b_initP (takes_of rfl rfl rfl rfl) (by rfl) T.g_InvalidPaper (pa_cons pe_str (pa_cons (pe_un un_neg pe_int) pa_nil)))
pss_nil)
pss_nil)
(pss_cons (ps_ret (pe_tup (pa_cons (pe_op op_sub (pv 3) (pv 1)) (pa_cons (pv 3) pa_nil))))
pss_nil)))))), ?_⟩)
  obtain ⟨z, x, y, u, dz, dx, dy, du, rfl, hz, hx, hy, hu, j⟩ := h
  refine ⟨_, rfl, _, rfl, _, rfl, z, x, y, dz, dx, dy, rfl, hz, hx, hy, j.go ?_⟩
  rintro ⟨p, width, hop, rfl, rfl, rfl, F, e1, e2, q⟩ H1 hS
  cases hy
  cases hx
  have hu1 := Dp.same hS hu
  have hh1 := F.h1
  have hw1 := F.w1
  have hfew := F.few
  refine ⟨_, rfl, _, du, rfl, hu1, _, rfl, ?_⟩
  cases hI : isI du with
  | false =>
    refine iteT ?_
    refine iteT ?_
    exact ⟨_, rfl, _, _, rfl, ((e1 (by unfold stepOk; rw [hI]; rfl)).same hS).go⟩
  | true =>
    refine iteF ?_
    have er := isI_int hI
    have hv : stepOk width hop du = (decide ((width : Int) ≤ intOf du) && decide ((intOf du - width).fmod hop = 0)) := by unfold stepOk; rw [hI]; rfl
    have hv2 : stepAt p width hop du = width + ((intOf du - width).fmod (Nat.lcm p.phases.length hop : Nat)).toNat := rfl
    rw [hv] at e1 e2 q
    rw [hv2] at e2 q
    generalize intOf du = k at er e1 e2 q
    subst er
    cases hu1
    refine ⟨_, rfl, _, rfl, _, _, rfl, rfl, _, rfl, ?_⟩
    by_cases hk : k < (width : Int)
    · rw [decide_eq_true hk]
      refine iteT ?_
      refine iteT ?_
      exact ⟨_, rfl, _, _, rfl, ((e1 (by rw [decide_eq_false (by omega)]; rfl)).same hS).go⟩
    · rw [decide_eq_false hk]
      refine iteF ?_
      rw [decide_eq_true (by omega : (width : Int) ≤ k)] at e1 e2 q
      refine ⟨_, rfl, _, rfl, _, _, rfl, rfl, _, rfl, _, _, rfl, rfl, by omega, rfl, _, rfl, ?_⟩
      by_cases hm : (k - (width : Int)).fmod (hop : Int) = 0
      · have ed : (!decide (V.int ((k - (width : Int)).fmod (hop : Int)) = V.int 0)) = false := by rw [hm]; rfl
        rw [ed]
        refine iteF ?_
        rw [decide_eq_true hm] at e1 e2 q
        obtain ⟨a, ph, ys, rfl, hs, hph, hly, hys⟩ := toD_inv (Dp.same hS hz)
        have hp1 := F.wf.p1
        have hp2 := F.wf.p2
        have hLpos : 0 < Nat.lcm p.phases.length hop := Nat.lcm_pos (by omega) (by omega)
        refine ⟨_, rfl, _, rfl, _, rfl, _, _, rfl, rfl, _, rfl, _, rfl, a, ph, _, ys, hop, rfl, hs, rfl, hph, by omega, by omega, F.h1, F.h2, ?_⟩
        rw [hly]
        generalize hL : Nat.lcm p.phases.length hop = L at e2 q hfew hLpos ⊢
        have hnn : 0 ≤ (k - (width : Int)).fmod (L : Int) := Int.fmod_nonneg_of_pos _ (by omega)
        have hlt : (k - (width : Int)).fmod (L : Int) < (L : Int) := Int.fmod_lt_of_pos _ (by omega)
        refine ⟨_, _, rfl, rfl, by omega, _, _, rfl, rfl, ?_⟩
        have es : (width : Int) + (k - (width : Int)).fmod (L : Int) = ((width + ((k - (width : Int)).fmod (L : Int)).toNat : Nat) : Int) := by omega
        show tSeq _ _ _ (List.set _ 4 (some (V.int ((width : Int) + (k - (width : Int)).fmod (L : Int))))) H1
        rw [es]
        generalize hst : width + ((k - (width : Int)).fmod (L : Int)).toNat = step at e2 q ⊢
        refine ⟨_, rfl, _, rfl, _, p, step, rfl, Dp.same hS hz, F.wf, by omega, fun t xs H2 hS2 ht hall => ?_⟩
        obtain ⟨v, hv, hdv⟩ := DpAll.get hall (i := step - 1) (tolds_get (p := p) (by omega))
        have ee : ((step : Int) - 1) = ((step - 1 : Nat) : Int) := by omega
        refine ⟨_, rfl, _, _, rfl, rfl, t, xs, _, v, rfl, rfl, SqL.of ht, at_of ee hv, _, rfl, _, rfl, _, _, rfl, rfl, _, rfl, (by show 2 ≤ sizeLine; decide), fun q1 hq1 => ⟨(by show 1 ≤ sizeLine; decide), fun q2 hq2 =>
          ⟨toldV (tellAt p (step - 1)), .tuple [.tuple [.int ((step : Int) - (width : Int)), .int step]], Dp.same ((Same.new hq1).trans (Same.new hq2)) hdv, .tup (SqT.of upd_same) (.cons (.tup (SqT.of (Same.new hq2 _ _ upd_same)) (.cons (.int _) (.cons (.int _) .nil))) .nil),
            shaped_toldV _, shaped_due _ _, _, rfl, ?_⟩⟩⟩
        rw [eqv_due hw1 (by omega)]
        have hS4 := ((hS.trans hS2).trans (Same.new (o := .tup [V.int ((step : Int) - (width : Int)), V.int step]) hq1)).trans (Same.new (o := .tup [V.ref q1]) hq2)
        cases hrt : right p width step with
        | true =>
          refine iteT ?_
          exact ⟨_, rfl, _, _, rfl, ((e2 rfl hrt).same hS4).go⟩
        | false =>
          refine iteF ?_
          refine ⟨_, rfl, _, rfl, _, _, rfl, rfl, _, rfl, (by show 2 ≤ sizeLine; decide), fun q3 hq3 => ?_⟩
          exact q rfl hrt _ _ (hS4.trans (Same.new hq3)) (.tup (SqT.of upd_same) (.cons (.int _) (.cons (.int _) .nil)))
      · have ed : (!decide (V.int ((k - (width : Int)).fmod (hop : Int)) = V.int 0)) = true := by
          rw [decide_eq_false fun z => hm (by injection z)]
          rfl
        rw [ed]
        refine iteT ?_
        exact ⟨_, rfl, _, _, rfl, ((e1 (by rw [decide_eq_false hm]; rfl)).same hS).go⟩
end
end U3


namespace U3
open PySem PySem.Spec PyProof.Rows L2
section
variable {P : Program} {w : World} {K : PySem.W.Frag} {mg : Str → Option Value} {base : Heap}
/-! _law_pool(script), _law_draw(pool, many) -/
/-- the pool of draws -/
def Pool (H : Hp) (p : Addr) : Prop := ∃ i j : Int, H p = some (.lst [.int i, .int j]) ∧ 0 ≤ i ∧ 0 ≤ j ∧ j < 2147483648
theorem Pool.same {H H' : Hp} {p : Addr} (h : Pool H p) (e : Same H H') : Pool H' p := by
  obtain ⟨i, j, h1, h2⟩ := h
  exact ⟨i, j, e _ _ h1, h2⟩
theorem Pool.some {H : Hp} {p : Addr} (h : Pool H p) : ∃ xs, H p = some (.lst xs) := by
  obtain ⟨i, j, h1, h2⟩ := h
  exact ⟨_, h1⟩
def sp_law_pool (K : PySem.W.Frag) : Sp := fun vs H Q _ => ∃ (a : Addr) (ns : List Int), vs = [.ref a] ∧ SqL K H a (ns.map V.int) ∧ ns.length ≤ 63 ∧ ∀ p H', Same H H' → Pool H' p → Q (.ref p) H'
-- slots: 0:script 1:pool_here 2:k 3:cell | cells: []
theorem sc_law_pool : FnScope ["_law_script", "_law_pool_here", "_law_k", "_law_cell"] ["_law_script"] (defScope s_law_pool) := ⟨rfl, rfl, rfl, by decide +kernel, rfl, by decide +kernel, by decide +kernel⟩
theorem ok_law_pool (T : Txt K mg) : FnOk P w K mg base CX0 1 (He.ga K "_law_pool") (fdA K (He.ga K "_law_pool")) ["_law_script"] (sp_law_pool K) := by
  refine T.F_law_pool.ok sc_law_pool (fun vs H Q E h => by obtain ⟨a, ns, rfl, _⟩ := h; rfl) (fun cdv A outer s H vs Q E hr h => ⟨_, PSs.nox ((pss_cons (ps_set (i := 1) sc_law_pool.nd rfl (Or.inl rfl) (pe_lst (pa_cons pe_int (pa_cons pe_int pa_nil))))
(pss_cons (ps_for PassesOwn.never rfl (pi_range1 (by rfl) T.m_range (pa_cons (pe_callB call_len_seq (by rfl) T.m_len bt_len (pa_cons (pv 0) pa_nil)) pa_nil)) (pg_name (i := 2) sc_law_pool.nd rfl (Or.inl rfl))
(pss_cons (ps_set (i := 3) sc_law_pool.nd rfl (Or.inl rfl) (pe_callTy call_int1 (by rfl) T.m_int bt_int (pa_cons (pe_ix ix_list (pv 0) (pv 2) (fun _ _ => rfl)) pa_nil)))
(pss_cons (ps_if (PW.pt (pw_and (pt_cmpR op_ge (pv 3) pe_int (nomark _)) (pw_and1 (pt_cmpR op_eq (pe_ix ix_list (pv 1) pe_int (fun _ _ => rfl)) pe_int (nomark _)))))
(pss_cons (ps_asg (pv 3) (pg_sub (pv 1) pe_int set_list))
pss_nil)
(pss_cons (ps_asg (pe_op op_modN (pe_callTy call_int1 (by rfl) T.m_int bt_int (pa_cons (pe_op op_add (pe_op op_add (pe_op op_mul (pe_ix ix_list (pv 1) pe_int (fun _ _ => rfl)) pe_int) (pe_op op_mul (pv 3) pe_int)) (pv 2)) pa_nil)) pe_int) (pg_sub (pv 1) pe_int set_list))
pss_nil))
pss_nil)))
(pss_cons (ps_ret (pv 1))
pss_nil)))), ?_⟩)
  obtain ⟨a, ns, rfl, hs, hn, q⟩ := h
  refine ⟨(by show 2 ≤ sizeLine; decide), fun p hp => ?_⟩
  have hl : (ns.map V.int).length = ns.length := List.length_map _
  refine ⟨_, rfl, _, _, rfl, .inl (L2.Same.seq (Same.new hp) hs), _, rfl, by omega, by omega, for_it (walk_range (lo := 0) (n := (((ns.map V.int).length : Nat) : Int).toNat))
    (fun i σ' H' => (∃ o1 o2, σ' = [some (.ref a), some (.ref p), o1, o2]) ∧ Same H H' ∧ Pool H' p) ?_ (fun _ _ _ _ _ => trivial) ?_ ?_⟩
  · exact ⟨⟨_, _, rfl⟩, Same.new hp, 0, 116269, upd_same, by decide, by decide, by decide⟩
  · rintro i x σ' H1 H2 hi ⟨⟨o1, o2, rfl⟩, hS, pi, pj, hP, h0, h1, h2⟩ ⟨rfl, rfl⟩
    have hi' : i < ns.length := by
      rw [Int.toNat_natCast, hl] at hi
      exact hi
    have hS1 := L2.Same.seq hS hs
    have hat : (ns.map V.int)[i]? = some (.int ns[i]) := by
      rw [List.getElem?_map, List.getElem?_eq_getElem hi']
      rfl
    generalize ns[i] = c at hat
    refine ⟨_, rfl, _, rfl, a, _, _, _, rfl, rfl, hS1, at_of (by omega) hat, .inl ⟨_, rfl, ?_⟩⟩
    refine ⟨_, rfl, _, _, rfl, rfl, _, rfl, ?_⟩
    -- the else branch
    have hels : ∀ {D : Ends}, (∀ H3, Same H H3 → Pool H3 p → D.nx [some (.ref a), some (.ref p), some (.int (0 + (i : Int))), some (.int c)] H3) →
        tSeq (tAsg (tOp (rI (fun _ j => j ≠ 0) fun i j => .int (i.fmod j)) (tCB (fun xs H Q => (∃ i, xs = [.int i] ∧ Q (.int i) H) ∨ ∃ k, xs = [.bl k] ∧ Q (.int (if k then 1 else 0)) H)
          (tCons (tOp (rI0 fun i j => .int (i + j)) (tOp (rI0 fun i j => .int (i + j)) (tOp (rI CMul fun i j => .int (i * j)) (tOp (rIxL K) (tVar 1) (tC (.int 1))) (tC (.int 30011))) (tOp (rI CMul fun i j => .int (i * j)) (tVar 3) (tC (.int 917)))) (tVar 2)) tNil)) (tC (.int 2147483629)))
            (gSub (tVar 1) (tC (.int 1)) rSetL)) tNext D [some (.ref a), some (.ref p), some (.int (0 + (i : Int))), some (.int c)] H2 := by
      intro D hD
      refine ⟨_, rfl, p, _, _, _, rfl, rfl, SqL.of hP, atI_nat (j := 1) rfl, _, _, rfl, rfl, .inl ⟨by omega, by omega⟩, _, rfl, _, _, rfl, rfl, .inr ⟨by omega, by omega⟩, _, _, rfl, rfl, _, rfl, _, _, rfl, rfl, .inl ⟨_, rfl, _, _, rfl, rfl, (by show (2147483629 : Int) ≠ 0; decide), ?_⟩⟩
      refine ⟨_, rfl, p, _, _, 1, rfl, rfl, hP, rfl, ?_⟩
      refine hD _ (fun b o hb => ?_) ⟨pi, _, upd_same, h0, Int.fmod_nonneg_of_pos _ (by decide), ?_⟩
      · rw [upd_ne (ne_of_none hb hp)]
        exact hS b o hb
      · have := Int.fmod_lt_of_pos (pj * 30011 + c * 917 + (0 + (i : Int))) (by decide : (0 : Int) < 2147483629)
        show (pj * 30011 + c * 917 + (0 + (i : Int))).fmod 2147483629 < 2147483648
        omega
    cases hc : decide ((1000000000000000000 : Int) ≤ c) with
    | false =>
      refine iteF ?_
      refine iteF ?_
      exact hels fun H3 h3 h4 => ⟨⟨_, _, rfl⟩, h3, h4⟩
    | true =>
      refine iteT ?_
      refine ⟨_, rfl, p, _, _, _, rfl, rfl, SqL.of hP, atI_nat (j := 0) rfl, rfl, _, rfl, ?_⟩
      cases hz : decide (V.int pi = V.int 0) with
      | false =>
        refine iteF ?_
        exact hels fun H3 h3 h4 => ⟨⟨_, _, rfl⟩, h3, h4⟩
      | true =>
        refine iteT ?_
        refine ⟨_, rfl, _, rfl, p, _, _, 0, rfl, rfl, hP, rfl, ?_⟩
        have hc' := of_decide_eq_true hc
        refine ⟨⟨_, _, rfl⟩, fun b o hb => ?_, c, pj, upd_same, by omega, h1, h2⟩
        rw [upd_ne (ne_of_none hb hp)]
        exact hS b o hb
  · rintro σ' H1 ⟨⟨o1, o2, rfl⟩, hS, hP⟩
    exact ⟨_, rfl, q p _ hS hP⟩
def sp_law_draw : Sp := fun vs H Q _ => ∃ (p : Addr) (many : Nat), vs = [.ref p, .int many] ∧ Pool H p ∧ 1 ≤ many ∧ many < 1073741824 ∧ ∀ (v : Nat) H', v < many → But p H H' → Pool H' p → Q (.int v) H'
-- slots: 0:pool_here 1:many 2:value | cells: []
theorem sc_law_draw : FnScope ["_law_pool_here", "_law_many", "_law_value"] ["_law_pool_here", "_law_many"] (defScope s_law_draw) := ⟨rfl, rfl, rfl, by decide +kernel, rfl, by decide +kernel, by decide +kernel⟩
theorem ok_law_draw (T : Txt K mg) : FnOk P w K mg base CX0 1 (He.ga K "_law_draw") (fdA K (He.ga K "_law_draw")) ["_law_pool_here", "_law_many"] sp_law_draw := by
  refine T.F_law_draw.ok sc_law_draw (fun vs H Q E h => by obtain ⟨p, many, rfl, _⟩ := h; rfl) (fun cdv A outer s H vs Q E hr h => ⟨_, PSs.nox ((pss_cons (ps_if (pt_cmpR op_gt (pe_ix ix_list (pv 0) pe_int (fun _ _ => rfl)) pe_int (nomark _))
(pss_cons (ps_set (i := 2) sc_law_draw.nd rfl (Or.inl rfl) (pe_op op_modN (pe_callTy call_int1 (by rfl) T.m_int bt_int (pa_cons (pe_ix ix_list (pv 0) pe_int (fun _ _ => rfl)) pa_nil)) (pv 1)))
(pss_cons (ps_asg (pe_op op_fdivN (pe_ix ix_list (pv 0) pe_int (fun _ _ => rfl)) (pv 1)) (pg_sub (pv 0) pe_int set_list))
(pss_cons (ps_ret (pv 2))
pss_nil)))
pss_nil)
(pss_cons (ps_asg (pe_op op_modN (pe_callTy call_int1 (by rfl) T.m_int bt_int (pa_cons (pe_op op_add (pe_op op_mul (pe_ix ix_list (pv 0) pe_int (fun _ _ => rfl)) pe_int) pe_int) pa_nil)) pe_int) (pg_sub (pv 0) pe_int set_list))
(pss_cons (ps_ret (pe_op op_modN (pe_op op_modN (pe_callTy call_int1 (by rfl) T.m_int bt_int (pa_cons (pe_op op_fdivN (pe_op op_mul (pe_ix ix_list (pv 0) pe_int (fun _ _ => rfl)) pe_int) pe_int) pa_nil)) pe_int) (pv 1)))
pss_nil)))), ?_⟩)
  obtain ⟨p, many, rfl, ⟨i, j, hP, h0, h1, h2⟩, m1, m2, q⟩ := h
  refine ⟨_, rfl, p, _, _, _, rfl, rfl, SqL.of hP, atI_nat (j := 0) rfl, _, _, rfl, rfl, _, rfl, ?_⟩
  cases hc : decide ((1 : Int) < i) with
  | true =>
    refine iteT ?_
    refine ⟨_, rfl, p, _, _, _, rfl, rfl, SqL.of hP, atI_nat (j := 0) rfl, .inl ⟨_, rfl, _, rfl, _, _, rfl, rfl, by omega, ?_⟩⟩
    refine ⟨_, rfl, p, _, _, _, rfl, rfl, SqL.of hP, atI_nat (j := 0) rfl, _, rfl, _, _, rfl, rfl, ⟨by omega, by show (many : Int).natAbs < _; omega⟩, _, rfl, p, _, _, 0, rfl, rfl, hP, rfl, ?_⟩
    refine ⟨_, rfl, ?_⟩
    have e : i.fmod (many : Int) = ((i.toNat % many : Nat) : Int) := by
      rw [← fmodN]
      congr 1
      omega
    have e2 : i.fdiv (many : Int) = ((i.toNat / many : Nat) : Int) := by
      rw [← fdivN]
      congr 1
      omega
    show Q (.int (i.fmod (many : Int))) _
    rw [e]
    refine q _ _ (Nat.mod_lt _ (by omega)) But.put ⟨i.fdiv many, j, upd_same, ?_, h1, h2⟩
    rw [e2]
    exact Int.natCast_nonneg _
  | false =>
    refine iteF ?_
    refine ⟨_, rfl, p, _, _, _, rfl, rfl, SqL.of hP, atI_nat (j := 1) rfl, _, _, rfl, rfl, .inl ⟨by omega, by omega⟩, _, _, rfl, rfl, .inl ⟨_, rfl, _, _, rfl, rfl, (by show (2147483647 : Int) ≠ 0; decide), _, rfl, p, _, _, 1, rfl, rfl, hP, rfl, ?_⟩⟩
    have a0 : 0 ≤ (j * 48271 + 7919).fmod 2147483647 := Int.fmod_nonneg_of_pos _ (by decide)
    have a1 : (j * 48271 + 7919).fmod 2147483647 < 2147483647 := Int.fmod_lt_of_pos _ (by decide)
    refine ⟨_, rfl, p, _, _, _, rfl, rfl, SqL.of upd_same, atI_nat (j := 1) rfl, _, _, rfl, rfl, .inl ⟨by omega, by omega⟩, _, _, rfl, rfl, ⟨by decide, by decide⟩, .inl ⟨_, rfl, _, _, rfl, rfl, (by show (998244353 : Int) ≠ 0; decide), _, rfl, _, _, rfl, rfl, by omega, ?_⟩⟩
    have b0 : 0 ≤ (((j * 48271 + 7919).fmod 2147483647 * 16807).fdiv 32).fmod 998244353 := Int.fmod_nonneg_of_pos _ (by decide)
    show Q (.int (((((j * 48271 + 7919).fmod 2147483647 * 16807).fdiv 32).fmod 998244353).fmod (many : Int))) _
    generalize (((j * 48271 + 7919).fmod 2147483647 * 16807).fdiv 32).fmod 998244353 = k at b0
    have e : k.fmod (many : Int) = ((k.toNat % many : Nat) : Int) := by
      rw [← fmodN]
      congr 1
      omega
    rw [e]
    exact q _ _ (Nat.mod_lt _ (by omega)) But.put ⟨i, _, upd_same, h0, a0, by omega⟩
/-! _law_round(program, hop) -/
def sp_law_round (K : PySem.W.Frag) : Sp := fun vs H Q _ => ∃ (a b : Addr) (xs ys : List V) (h : Nat), vs = [.ref a, .int h] ∧ SqT K H a xs ∧ xs[1]? = some (.ref b) ∧ SqT K H b ys ∧ 1 ≤ ys.length ∧ 1 ≤ h ∧ Q (.int (Nat.lcm ys.length h : Nat)) H
-- slots: 0:program 1:hop 2:size | cells: []
theorem sc_law_round : FnScope ["_law_program", "_law_hop", "_law_size"] ["_law_program", "_law_hop"] (defScope s_law_round) := ⟨rfl, rfl, rfl, by decide +kernel, rfl, by decide +kernel, by decide +kernel⟩
theorem ok_law_round (T : Txt K mg) : FnOk P w K mg base CX0 1 (He.ga K "_law_round") (fdA K (He.ga K "_law_round")) ["_law_program", "_law_hop"] (sp_law_round K) := by
  refine T.F_law_round.ok sc_law_round (fun vs H Q E h => by obtain ⟨a, b, xs, ys, h, rfl, _⟩ := h; rfl) (fun cdv A outer s H vs Q E hr h => ⟨_, PSs.nox ((pss_cons (ps_set (i := 2) sc_law_round.nd rfl (Or.inl rfl) (pe_callB call_len_seq (by rfl) T.m_len bt_len (pa_cons (pe_ix ix_tup (pv 0) pe_int (fun _ _ => rfl)) pa_nil)))
(pss_cons (ps_while PassesOwn.never (pt_cmpR op_gt (pe_op op_modN (pe_callTy call_int1 (by rfl) T.m_int bt_int (pa_cons (pv 2) pa_nil)) (pv 1)) pe_int (nomark _))
(pss_cons (ps_set (i := 2) sc_law_round.nd rfl (Or.inl rfl) (pe_op op_add (pv 2) (pe_callB call_len_seq (by rfl) T.m_len bt_len (pa_cons (pe_ix ix_tup (pv 0) pe_int (fun _ _ => rfl)) pa_nil))))
pss_nil))
(pss_cons (ps_ret (pv 2))
pss_nil)))), ?_⟩)
  obtain ⟨a, b, xs, ys, h, rfl, hs, h1, hs1, m1, g1, q⟩ := h
  refine ⟨_, rfl, a, xs, _, _, rfl, rfl, hs, atI_nat (j := 1) h1, b, ys, rfl, .inr hs1, ?_⟩
  refine ⟨fun m σ' H' => H' = H ∧ ∃ k : Nat, σ' = [some (.ref a), some (.int h), some (.int (ys.length * (k + 1) : Nat))] ∧ (∀ j, j < k → ¬ h ∣ ys.length * (j + 1)) ∧ m = h - k, ⟨h, rfl, 0, by rw [Nat.zero_add, Nat.mul_one]; rfl, fun j hj => absurd hj (Nat.not_lt_zero j), rfl⟩, ?_⟩
  rintro m σ' H' ⟨rfl, k, rfl, hk, rfl⟩
  refine ⟨_, rfl, .inl ⟨_, rfl, _, rfl, _, _, rfl, rfl, by omega, _, _, rfl, rfl, _, rfl, ?_⟩⟩
  rw [fmodN]
  by_cases hd : h ∣ ys.length * (k + 1)
  · rw [Nat.mod_eq_zero_of_dvd hd]
    refine iteF ?_
    refine ⟨_, rfl, ?_⟩
    rw [lcm_found m1 g1 hd hk]
    exact q
  · have hpos : 0 < ys.length * (k + 1) % h := Nat.pos_of_ne_zero fun z => hd (Nat.dvd_of_mod_eq_zero z)
    rw [decide_eq_true (by omega : (0 : Int) < ((ys.length * (k + 1) % h : Nat) : Int))]
    refine iteT ?_
    have hkh : k < h := lcm_bound m1 g1 hk
    refine ⟨_, fun σ' H' h => h, ?_⟩
    refine ⟨_, rfl, _, rfl, a, xs, _, _, rfl, rfl, hs, atI_nat (j := 1) h1, b, ys, rfl, .inr hs1, _, _, rfl, rfl, ?_⟩
    refine ⟨h - (k + 1), by omega, rfl, k + 1, ?_, ?_, rfl⟩
    · have e : ((ys.length * (k + 1) : Nat) : Int) + (ys.length : Int) = ((ys.length * (k + 1 + 1) : Nat) : Int) := by
        rw [← Int.natCast_add]
        congr 1
      show [some (V.ref a), some (.int h), some (V.int (((ys.length * (k + 1) : Nat) : Int) + (ys.length : Int)))] = _
      rw [e]
    · intro j hj
      by_cases hjk : j = k
      · subst hjk
        exact hd
      · exact hk j (by omega)
/-! _law_span(word) -/
theorem canLay_nats : ∀ w : List Nat, PyData.canLayAll0 (w.map fun n : Nat => PyData.int n) = true
  | [] => by simp [PyData.canLayAll0]
  | n :: w => by simp [PyData.canLayAll0, PyData.canLay0, canLay_nats w]
theorem depth_nats : ∀ w : List Nat, PyData.depthAll (w.map fun n : Nat => PyData.int n) = 0
  | [] => by simp [PyData.depthAll]
  | n :: w => by simp [PyData.depthAll, PyData.depth, depth_nats w]
theorem shaped_nats (w : List Nat) : SeqAt.shaped (.list (w.map fun n : Nat => PyData.int n)) = true := by
  simp [SeqAt.shaped, PyData.canLay0, PyData.depth, canLay_nats, depth_nats]
theorem eqv_nats : ∀ (x y : List Nat), PyData.eqvAll (x.map fun n : Nat => PyData.int n) (y.map fun n : Nat => PyData.int n) = decide (x = y)
  | [], [] => rfl
  | [], _ :: _ => rfl
  | _ :: _, [] => rfl
  | a :: x, b :: y => by
    simp only [List.map_cons, PyData.eqvAll, PyData.eqv, eqv_nats x y]
    by_cases h : a = b
    · subst h
      simp
    · have : ¬ (a : Int) = (b : Int) := by omega
      simp [h, this]
theorem rgV_nats (a b : Nat) : rgV (a : Int) (b : Int) = (List.range' a (b - a)).map fun n : Nat => V.int n := by
  unfold rgV
  have e : ((b : Int) - (a : Int)).toNat = b - a := by omega
  rw [e, List.range'_eq_map_range, List.map_map]
  apply List.map_congr_left
  intro i _
  show V.int ((a : Int) + (i : Nat)) = V.int ((a + i : Nat) : Int)
  rw [Int.natCast_add]
def sp_law_span (K : PySem.W.Frag) : Sp := fun vs H Q _ => ∃ (a : Addr) (w : Wd), vs = [.ref a] ∧ SqL K H a (w.map fun n : Nat => V.int n) ∧ w ≠ [] ∧ w.length ≤ 1000000 ∧ (∀ x ∈ w, x ≤ 1000000) ∧ ∀ v H', Same H H' → Dp K H' v (spanV (spanW w)) → Q v H'
-- slots: 0:word | cells: []
theorem sc_law_span : FnScope ["_law_word"] ["_law_word"] (defScope s_law_span) := ⟨rfl, rfl, rfl, by decide +kernel, rfl, by decide +kernel, by decide +kernel⟩
theorem ok_law_span (T : Txt K mg) : FnOk P w K mg base CX0 1 (He.ga K "_law_span") (fdA K (He.ga K "_law_span")) ["_law_word"] (sp_law_span K) := by
  refine T.F_law_span.ok sc_law_span (fun vs H Q E h => by obtain ⟨a, w, rfl, _⟩ := h; rfl) (fun cdv A outer s H vs Q E hr h => ⟨_, PSs.nox ((pss_cons (ps_if (pt_cmpR (op_neD hr.units) (pv 0) (pe_listRg rfl (by rfl) T.m_list (prg_2 (by rfl) T.m_range (pe_ix ix_list (pv 0) pe_int (fun _ _ => rfl)) (pe_op op_add (pe_ix ix_list (pv 0) pe_int (fun _ _ => rfl)) (pe_callB call_len_seq (by rfl) T.m_len bt_len (pa_cons (pv 0) pa_nil))))) (nomark _))
(pss_cons (ps_ret pe_non)
pss_nil)
pss_nil)
(pss_cons (ps_ret (pe_tup (pa_cons (pe_ix ix_list (pv 0) pe_int (fun _ _ => rfl)) (pa_cons (pe_op op_add (pe_ix ix_list (pv 0) pe_int (fun _ _ => rfl)) (pe_callB call_len_seq (by rfl) T.m_len bt_len (pa_cons (pv 0) pa_nil))) pa_nil))))
pss_nil))), ?_⟩)
  obtain ⟨a, wd, rfl, hs, hne, hl, hb, q⟩ := h
  obtain ⟨x0, r0, rfl⟩ : ∃ x r, wd = x :: r := by
    cases wd with
    | nil => exact absurd rfl hne
    | cons x r => exact ⟨x, r, rfl⟩
  have hx0 : x0 ≤ 1000000 := hb x0 List.mem_cons_self
  have hlen : ((x0 :: r0).map fun n : Nat => V.int n).length = (x0 :: r0).length := List.length_map _
  have e1 : (x0 : Int) + ((((x0 :: r0).map fun n : Nat => V.int n).length : Nat) : Int) = ((x0 + (x0 :: r0).length : Nat) : Int) := by
    rw [hlen, Int.natCast_add]
  refine ⟨_, rfl, _, rfl, a, _, _, _, rfl, rfl, hs, atI_nat (j := 0) rfl, _, rfl, a, _, _, _, rfl, rfl, hs, atI_nat (j := 0) rfl, _, rfl, a, _, rfl, .inl hs, _, _, rfl, rfl, _, _, rfl, rfl, ?_⟩
  rw [e1]
  refine ⟨RgOk.of_le (by omega) (by omega) (by omega) (by omega), fun q1 hq1 => ?_⟩
  rw [rgV_nats]
  have e2 : x0 + (x0 :: r0).length - x0 = (x0 :: r0).length := by omega
  rw [e2]
  refine ⟨.list ((x0 :: r0).map fun n : Nat => PyData.int n), .list ((List.range' x0 (x0 :: r0).length).map fun n : Nat => PyData.int n), .lst (L2.Same.seq (Same.new hq1) hs) (DpAll.nats _), .lst (SqL.of upd_same) (DpAll.nats _), shaped_nats _, shaped_nats _, _, rfl, ?_⟩
  have e3 : PyData.eqv (.list ((x0 :: r0).map fun n : Nat => PyData.int n)) (.list ((List.range' x0 (x0 :: r0).length).map fun n : Nat => PyData.int n)) = decide (x0 :: r0 = List.range' x0 (x0 :: r0).length) := by
    rw [PyData.eqv, eqv_nats]
  rw [e3]
  have esp : spanW (x0 :: r0) = if x0 :: r0 = List.range' x0 (x0 :: r0).length then some (x0, x0 + (x0 :: r0).length) else none := rfl
  by_cases hc : x0 :: r0 = List.range' x0 (x0 :: r0).length
  · rw [decide_eq_true hc]
    rw [esp, if_pos hc] at q
    refine iteF ?_
    have hs2 := L2.Same.seq (Same.new (o := .lst ((List.range' x0 (x0 :: r0).length).map fun n : Nat => V.int n)) hq1) hs
    refine ⟨_, rfl, a, _, _, _, rfl, rfl, hs2, atI_nat (j := 0) rfl, _, rfl, a, _, _, _, rfl, rfl, hs2, atI_nat (j := 0) rfl, _, rfl, a, _, rfl, .inl hs2, _, _, rfl, rfl, (by show 2 ≤ sizeLine; decide), fun q2 hq2 => ?_⟩
    refine q _ _ ((Same.new hq1).trans (Same.new hq2)) (.tup (SqT.of upd_same) (.cons (.int _) (.cons ?_ .nil)))
    show Dp K _ (.int ((x0 : Int) + ((((x0 :: r0).map fun n : Nat => V.int n).length : Nat) : Int))) _
    rw [e1]
    exact .int _
  · rw [decide_eq_false hc]
    rw [esp, if_neg hc] at q
    refine iteT ?_
    exact q _ _ (Same.new hq1) .non
end
end U3


namespace U3
open PySem PySem.Spec PyProof.Rows L2
section
variable {P : Program} {w : World} {K : PySem.W.Frag} {mg : Str → Option Value} {base : Heap}
/-! _law_chords(pool, corners) -/
def TT (H H' : Hp) : Prop := ∀ b xs, H b = some (.tup xs) → H' b = some (.tup xs)
theorem TT.of {H H' : Hp} (e : Same H H') : TT H H' := fun b xs h => e b _ h
theorem TT.put {H : Hp} {p : Addr} {xs : List V} {o : HO} (hp : H p = some (.lst xs)) : TT H (upd H p o) := fun b ys h => by
  rw [upd_ne (fun z => by rw [z, hp] at h; cases h)]
  exact h
theorem TT.but {H H' : Hp} {p : Addr} {xs : List V} (e : But p H H') (hp : H p = some (.lst xs)) : TT H H' := fun b ys h => e b _ (fun z => by rw [z, hp] at h; cases h) h
theorem But.new {H H' : Hp} {p a : Addr} {o : HO} (e : But p H H') (ha : H a = none) : But p H (upd H' a o) := fun b u n h => by
  rw [upd_ne (ne_of_none h ha)]
  exact e b u n h
inductive PR (H : Hp) : List V → List (Nat × Nat) → Prop
  | nil : PR H [] []
  | cons {t : Addr} {vs : List V} {d : Nat × Nat} {ds : List (Nat × Nat)} : H t = some (.tup [.int d.1, .int d.2]) → PR H vs ds → PR H (.ref t :: vs) (d :: ds)
theorem PR.keep {H H' : Hp} (e : TT H H') : ∀ {vs : List V} {ds : List (Nat × Nat)}, PR H vs ds → PR H' vs ds
  | _, _, .nil => .nil
  | _, _, .cons h r => .cons (e _ _ h) (PR.keep e r)
theorem PR.snoc {H : Hp} {t : Addr} {d : Nat × Nat} (h : H t = some (.tup [.int d.1, .int d.2])) : ∀ {vs : List V} {ds : List (Nat × Nat)}, PR H vs ds → PR H (vs ++ [.ref t]) (ds ++ [d])
  | _, _, .nil => .cons h .nil
  | _, _, .cons h' r => .cons h' (PR.snoc h r)
theorem PR.length {H : Hp} : ∀ {vs : List V} {ds : List (Nat × Nat)}, PR H vs ds → vs.length = ds.length
  | _, _, .nil => rfl
  | _, _, .cons _ r => by simp [PR.length r]
theorem PR.last {H : Hp} : ∀ {vs : List V} {ds : List (Nat × Nat)}, PR H vs ds → vs ≠ [] → ∃ vs' t ds' d, vs = vs' ++ [.ref t] ∧ ds = ds' ++ [d] ∧ PR H vs' ds' ∧ H t = some (.tup [.int d.1, .int d.2])
  | _, _, .nil, h => absurd rfl h
  | _, _, .cons (t := t) (d := d) h .nil, _ => ⟨[], t, [], d, rfl, rfl, .nil, h⟩
  | _, _, .cons (t := t) (d := d) h (.cons h2 r), _ => by
    obtain ⟨vs', t', ds', d', e1, e2, h3, h4⟩ := PR.last (.cons h2 r) (by simp)
    exact ⟨.ref t :: vs', t', d :: ds', d', by rw [e1]; rfl, by rw [e2]; rfl, .cons h h3, h4⟩
theorem PR.mem {H : Hp} : ∀ {vs : List V} {ds : List (Nat × Nat)}, PR H vs ds → ∀ x ∈ vs, ∃ t, ∃ i j : Int, x = V.ref t ∧ H t = some (.tup [.int i, .int j])
  | _, _, .nil, x, h => by cases h
  | _, _, .cons (t := t) (d := d) h r, x, hx => by
    rcases List.mem_cons.mp hx with e | hx
    · exact ⟨t, _, _, e, h⟩
    · exact PR.mem r x hx
def wt (ts : List (Nat × Nat)) : Nat := (ts.map fun d => 2 * (d.2 - d.1) - 1).sum
theorem wt_snoc (ts : List (Nat × Nat)) (d : Nat × Nat) : wt (ts ++ [d]) = wt ts + (2 * (d.2 - d.1) - 1) := by
  unfold wt
  rw [List.map_append, List.sum_append]
  simp
theorem wt_ge : ∀ {ts : List (Nat × Nat)}, (∀ d ∈ ts, d.1 < d.2) → ts.length ≤ wt ts
  | [], _ => Nat.le_refl _
  | d :: ts, h => by
    have h1 := h d List.mem_cons_self
    have h2 := wt_ge (ts := ts) fun e he => h e (List.mem_cons_of_mem _ he)
    have e : wt (d :: ts) = (2 * (d.2 - d.1) - 1) + wt ts := by
      unfold wt
      rw [List.map_cons, List.sum_cons]
    rw [e, List.length_cons]
    omega
structure CI (H0 : Hp) (p at_ ac : Addr) (TL CL : List V) (ts cs : List (Nat × Nat)) (H : Hp) : Prop where
  but : But p H0 H
  pool : Pool H p
  p0 : ∃ xs, H0 p = some (.lst xs)
  nt : H0 at_ = none
  nc : H0 ac = none
  ne : at_ ≠ ac
  ht : H at_ = some (.lst TL)
  hc : H ac = some (.lst CL)
  pt : PR H TL ts
  pc : PR H CL cs
  ok : ∀ d ∈ ts, d.1 < d.2 ∧ d.2 ≤ 1000
section
variable {H0 H H' : Hp} {p at_ ac : Addr} {TL CL : List V} {ts cs : List (Nat × Nat)}
theorem CI.np (u : CI H0 p at_ ac TL CL ts cs H) : at_ ≠ p ∧ ac ≠ p := by
  obtain ⟨xs, hp⟩ := u.p0
  exact ⟨fun z => (by have := u.nt; rw [z, hp] at this; cases this), fun z => (by have := u.nc; rw [z, hp] at this; cases this)⟩
theorem CI.up (u : CI H0 p at_ ac TL CL ts cs H) (e : Same H H') : CI H0 p at_ ac TL CL ts cs H' :=
  ⟨u.but.trans (But.of e), u.pool.same e, u.p0, u.nt, u.nc, u.ne, e _ _ u.ht, e _ _ u.hc, u.pt.keep (TT.of e), u.pc.keep (TT.of e), u.ok⟩
theorem CI.draw (u : CI H0 p at_ ac TL CL ts cs H) (e : But p H H') (hp : Pool H' p) : CI H0 p at_ ac TL CL ts cs H' := by
  obtain ⟨xs, hx⟩ := u.pool.some
  exact ⟨u.but.trans e, hp, u.p0, u.nt, u.nc, u.ne, e _ _ u.np.1 u.ht, e _ _ u.np.2 u.hc, u.pt.keep (TT.but e hx), u.pc.keep (TT.but e hx), u.ok⟩
theorem CI.setT (u : CI H0 p at_ ac TL CL ts cs H) {TL' : List V} {ts' : List (Nat × Nat)} (h : PR H TL' ts') (ho : ∀ d ∈ ts', d.1 < d.2 ∧ d.2 ≤ 1000) : CI H0 p at_ ac TL' CL ts' cs (upd H at_ (.lst TL')) := by
  have tt : TT H (upd H at_ (.lst TL')) := TT.put u.ht
  obtain ⟨i, j, h1, h2⟩ := u.pool
  exact ⟨u.but.new u.nt, ⟨i, j, by rw [upd_ne u.np.1.symm]; exact h1, h2⟩, u.p0, u.nt, u.nc, u.ne, upd_same, by rw [upd_ne u.ne.symm]; exact u.hc, h.keep tt, u.pc.keep tt, ho⟩
theorem CI.setC (u : CI H0 p at_ ac TL CL ts cs H) {CL' : List V} {cs' : List (Nat × Nat)} (h : PR H CL' cs') : CI H0 p at_ ac TL CL' ts cs' (upd H ac (.lst CL')) := by
  have tt : TT H (upd H ac (.lst CL')) := TT.put u.hc
  obtain ⟨i, j, h1, h2⟩ := u.pool
  exact ⟨u.but.new u.nc, ⟨i, j, by rw [upd_ne u.np.2.symm]; exact h1, h2⟩, u.p0, u.nt, u.nc, u.ne, by rw [upd_ne u.ne]; exact u.ht, upd_same, u.pt.keep tt, h.keep tt, u.ok⟩
end
def ChD (ds : List PyData) : Prop := ∀ d ∈ ds, ∃ i j : Int, d = .tuple [.int i, .int j]
theorem NLs_ch {ds : List PyData} (h : ChD ds) : NLs ds = true := NLs_all fun d hd => by
  obtain ⟨i, j, rfl⟩ := h d hd
  rfl
theorem canLay_ch : ∀ {ds : List PyData}, ChD ds → PyData.canLayAll0 ds = true
  | [], _ => by simp [PyData.canLayAll0]
  | d :: ds, h => by
    obtain ⟨i, j, rfl⟩ := h d List.mem_cons_self
    simp [PyData.canLayAll0, PyData.canLay0, canLay_ch fun e he => h e (List.mem_cons_of_mem _ he)]
theorem depth_ch : ∀ {ds : List PyData}, ChD ds → PyData.depthAll ds ≤ 1
  | [], _ => by simp [PyData.depthAll]
  | d :: ds, h => by
    obtain ⟨i, j, rfl⟩ := h d List.mem_cons_self
    have := depth_ch fun e he => h e (List.mem_cons_of_mem _ he)
    simp only [PyData.depthAll, PyData.depth]
    omega
theorem shaped_ch {ds : List PyData} (h : ChD ds) : SeqAt.shaped (.tuple ds) = true := by
  have := depth_ch h
  show (PyData.canLay0 (.tuple ds) && decide (PyData.depth (.tuple ds) ≤ 64)) = true
  rw [Bool.and_eq_true]
  exact ⟨by simp only [PyData.canLay0]; exact canLay_ch h, decide_eq_true (by simp only [PyData.depth]; omega)⟩
theorem ch_of {H : Hp} : ∀ {vs : List V}, (∀ x ∈ vs, ∃ t, ∃ i j : Int, x = V.ref t ∧ H t = some (.tup [.int i, .int j])) → ∃ ds, DpAll K H vs ds ∧ ChD ds
  | [], _ => ⟨[], .nil, fun d hd => by cases hd⟩
  | x :: vs, h => by
    obtain ⟨t, i, j, rfl, ht⟩ := h x List.mem_cons_self
    obtain ⟨ds, h1, h2⟩ := ch_of (vs := vs) fun y hy => h y (List.mem_cons_of_mem _ hy)
    refine ⟨.tuple [.int i, .int j] :: ds, .cons (.tup (SqT.of ht) (.cons (.int _) (.cons (.int _) .nil))) h1, fun d hd => ?_⟩
    rcases List.mem_cons.mp hd with e | hd
    · exact ⟨i, j, e⟩
    · exact h2 d hd
def sp_law_chords (K : PySem.W.Frag) : Sp := fun vs H Q _ => ∃ (p : Addr) (corners : Nat), vs = [.ref p, .int corners] ∧ Pool H p ∧ 2 ≤ corners ∧ corners ≤ 100 ∧ ∀ v H' ds, But p H H' → Pool H' p → Dp K H' v (.tuple ds) → ChD ds → Q v H'
-- slots: 0:pool_here 1:corners 2:chords_here 3:todo 4:low 5:high 6:cut 7:side | cells: []
theorem sc_law_chords : FnScope ["_law_pool_here", "_law_corners", "_law_chords_here", "_law_todo", "_law_low", "_law_high", "_law_cut", "_law_side"] ["_law_pool_here", "_law_corners"] (defScope s_law_chords) := ⟨rfl, rfl, rfl, by decide +kernel, rfl, by decide +kernel, by decide +kernel⟩
theorem ok_law_chords (T : Txt K mg) : FnOk P w K mg base CX0 2 (He.ga K "_law_chords") (fdA K (He.ga K "_law_chords")) ["_law_pool_here", "_law_corners"] (sp_law_chords K) := by
  refine T.F_law_chords.ok sc_law_chords (fun vs H Q E h => by obtain ⟨p, c, rfl, _⟩ := h; rfl) (fun cdv A outer s H vs Q E hr h => ⟨_, PSs.nox ((pss_cons (ps_set (i := 2) sc_law_chords.nd rfl (Or.inl rfl) (pe_lst pa_nil))
(pss_cons (ps_set (i := 3) sc_law_chords.nd rfl (Or.inl rfl) (pe_lst (pa_cons (pe_tup (pa_cons pe_int (pa_cons (pe_op op_sub (pv 1) pe_int) pa_nil))) pa_nil)))
(pss_cons (ps_while PassesOwn.never (pt_truth (pv 3) (by intro _; rfl))
(pss_cons (ps_asg (pe_bm0 PySem.F.plainAttrs_list PySem.F.slot_list_pop PySem.F.type_list_pop mt_pop (pv 3)) (pg_tup rfl (pgs_cons (pg_name (i := 4) sc_law_chords.nd rfl (Or.inl rfl)) (pgs_cons (pg_name (i := 5) sc_law_chords.nd rfl (Or.inl rfl)) pgs_nil))))
(pss_cons (ps_if (pt_cmpR op_gt (pe_op op_sub (pv 5) (pv 4)) pe_int (nomark _))
(pss_cons (ps_set (i := 6) sc_law_chords.nd rfl (Or.inl rfl) (pe_op op_add (pe_op op_add (pv 4) pe_int) (pe_call (ok_law_draw T) (hr.mono (by decide)) (by rfl) T.g_law_draw T.F_law_draw.kp T.b_law_draw .nil pass0 (pa_cons (pv 0) (pa_cons (pe_op op_sub (pe_op op_sub (pv 5) (pv 4)) pe_int) pa_nil)))))
(pss_cons (ps_for PassesOwn.never rfl (pi_tup (pe_tup (pa_cons (pe_tup (pa_cons (pv 4) (pa_cons (pv 6) pa_nil))) (pa_cons (pe_tup (pa_cons (pv 6) (pa_cons (pv 5) pa_nil))) pa_nil)))) (pg_name (i := 7) sc_law_chords.nd rfl (Or.inl rfl))
(pss_cons (ps_expr (pe_bm PySem.F.plainAttrs_list PySem.F.slot_list_append PySem.F.type_list_append mt_append (pv 3) (pa_cons (pv 7) pa_nil)))
(pss_cons (ps_if (pt_cmpR op_gt (pe_op op_sub (pe_ix ix_tup (pv 7) pe_int (fun _ _ => rfl)) (pe_ix ix_tup (pv 7) pe_int (fun _ _ => rfl))) pe_int (nomark _))
(pss_cons (ps_expr (pe_bm PySem.F.plainAttrs_list PySem.F.slot_list_append PySem.F.type_list_append mt_append (pv 2) (pa_cons (pv 7) pa_nil)))
pss_nil)
pss_nil)
pss_nil)))
pss_nil))
pss_nil)
pss_nil)))
(pss_cons (ps_ret (pe_callTy call_tuple_of (by rfl) T.m_tuple bt_tuple (pa_cons (pe_callB cr_sortedP (by rfl) T.m_sorted bt_sorted (pa_cons (pv 2) pa_nil)) pa_nil)))
pss_nil))))), ?_⟩)
  obtain ⟨p, c, rfl, hP, hc1, hc2, q⟩ := h
  -- chords = [], todo = [(0, corners - 1)]
  refine ⟨(by show 0 ≤ sizeLine; decide), fun ac hac => ?_⟩
  refine ⟨_, rfl, _, _, rfl, rfl, (by show 2 ≤ sizeLine; decide), fun t0 ht0 => ⟨(by show 1 ≤ sizeLine; decide), fun at_ hat => ?_⟩⟩
  have S1 : Same H (upd H ac (.lst [])) := Same.new hac
  have S2 := S1.trans (Same.new (o := .tup [V.int 0, V.int ((c : Int) - 1)]) ht0)
  have S3 := S2.trans (Same.new (o := .lst [V.ref t0]) hat)
  have u0 : CI H p at_ ac [.ref t0] [] [(0, c - 1)] [] (upd (upd (upd H ac (.lst [])) t0 (.tup [V.int 0, V.int ((c : Int) - 1)])) at_ (.lst [.ref t0])) := by
    have e1 : t0 ≠ at_ := ne_of_none (upd_same : upd (upd H ac (.lst [])) t0 (.tup [V.int 0, V.int ((c : Int) - 1)]) t0 = _) hat
    have e0 : upd (upd H ac (.lst [])) t0 (.tup [V.int 0, V.int ((c : Int) - 1)]) ac = some (.lst []) := Same.new ht0 _ _ upd_same
    have e2 : ac ≠ at_ := ne_of_none e0 hat
    refine ⟨But.of S3, hP.same S3, hP.some, S2.free hat, hac, e2.symm, upd_same, by rw [upd_ne e2]; exact e0, .cons ?_ .nil, .nil, fun d hd => ?_⟩
    · rw [upd_ne e1, upd_same]
      have : ((c : Int) - 1) = ((c - 1 : Nat) : Int) := by omega
      rw [this]
      rfl
    · rw [List.mem_singleton.mp hd]
      show 0 < c - 1 ∧ c - 1 ≤ 1000
      omega
  -- while todo
  refine ⟨fun m σ' H' => ∃ o4 o5 o6 o7 TL CL ts cs, σ' = [some (.ref p), some (.int c), some (.ref ac), some (.ref at_), o4, o5, o6, o7] ∧ CI H p at_ ac TL CL ts cs H' ∧ cs.length + 2 * wt ts ≤ 1000 ∧ m = wt ts, ⟨_, _, _, _, _, _, _, _, _, rfl, u0, ?_, rfl⟩, ?_⟩
  · show 0 + 2 * wt [(0, c - 1)] ≤ 1000
    have : wt [(0, c - 1)] = 2 * (c - 1 - 0) - 1 := by simp [wt]
    omega
  clear u0 S1 S2 S3
  rintro m σ' H' ⟨o4, o5, o6, o7, TL, CL, ts, cs, rfl, u, hw, rfl⟩
  refine ⟨_, rfl, _, .inl ⟨_, SqL.of u.ht, rfl⟩, ?_⟩
  by_cases hTL : TL = []
  · subst hTL
    refine ifF rfl ?_
    -- return tuple(sorted(chords))
    refine ⟨_, rfl, ac, CL, rfl, SqL.of u.hc, u.pc.mem, fun ys r hperm hr' => ⟨r, ys, rfl, .inl ⟨SqL.of upd_same, fun l hl => ?_⟩⟩⟩
    obtain ⟨ds, h1, h2⟩ := ch_of (K := K) (H := H') (vs := ys) fun x hx => u.pc.mem x (hperm.mem_iff.mp hx)
    have S4 := (Same.new (o := .lst ys) hr').trans (Same.new (o := .tup ys) hl)
    exact q _ _ ds (u.but.trans (But.of S4)) (u.pool.same S4) (.tup (SqT.of upd_same) (DpAll.same S4 h1)) h2
  · obtain ⟨TL', t, ts', ⟨lo, hi⟩, rfl, rfl, hpr, hdt⟩ := u.pt.last hTL
    obtain ⟨hlt, hhi⟩ := u.ok (lo, hi) (List.mem_append_right _ List.mem_cons_self)
    have hlt : lo < hi := hlt
    have hhi : hi ≤ 1000 := hhi
    refine ifT (by simp) ?_
    refine ⟨_, fun σ' H' h => h, ?_⟩
    rw [wt_snoc] at hw
    have hw' : cs.length + 2 * (wt ts' + (2 * (hi - lo) - 1)) ≤ 1000 := hw
    -- low, high = todo.pop()
    refine ⟨_, rfl, .inl ⟨rfl, _, SqL.of u.ht⟩, at_, _, .ref t, rfl, rfl, u.ht, ?_, ?_⟩
    · rw [List.length_append, List.getElem?_append_right (by simp)]
      simp
    rw [List.dropLast_concat]
    have u1 := u.setT hpr fun d hd => u.ok d (List.mem_append_left _ hd)
    have hdt1 : upd H' at_ (.lst TL') t = some (.tup [.int lo, .int hi]) := (TT.put u.ht : TT H' (upd H' at_ (.lst TL'))) _ _ hdt
    clear u
    generalize upd H' at_ (.lst TL') = H1 at u1 hdt1 ⊢
    refine ⟨t, _, rfl, SqT.of hdt1, rfl, _, _, rfl, _, _, rfl, rfl, ?_⟩
    refine ⟨_, rfl, _, rfl, _, _, rfl, rfl, _, _, rfl, rfl, _, rfl, ?_⟩
    have ewt : wt (ts' ++ [(lo, hi)]) = wt ts' + (2 * (hi - lo) - 1) := wt_snoc _ _
    by_cases h1 : 1 < hi - lo
    · refine ifT (decide_eq_true (by omega)) ?_
      -- cut = low + 1 + draw(pool, high - low - 1)
      refine ⟨_, rfl, _, _, rfl, rfl, _, rfl, _, rfl, _, rfl, _, _, rfl, rfl, _, _, rfl, rfl, p, hi - lo - 1, ?_, u1.pool, by omega, by omega, fun v H2 hv hb hp2 => ⟨_, _, rfl, rfl, ?_⟩⟩
      · show [V.ref p, V.int ((hi : Int) - (lo : Int) - 1)] = _
        have : ((hi : Int) - (lo : Int) - 1) = ((hi - lo - 1 : Nat) : Int) := by omega
        rw [this]
      have u2 := u1.draw hb hp2
      clear u1 hb hp2 hdt1
      have ec : (lo : Int) + 1 + (v : Int) = ((lo + 1 + v : Nat) : Int) := by omega
      show tSeq _ _ _ (List.set _ 6 (some (V.int ((lo : Int) + 1 + (v : Int))))) H2
      rw [ec]
      generalize hcut : lo + 1 + v = cut
      have hcut1 : lo < cut := by omega
      have hcut2 : cut < hi := by omega
      -- for side in ((low, cut), (cut, high))
      refine ⟨_, rfl, _, rfl, (by show 2 ≤ sizeLine; decide), fun q1 hq1 => ⟨_, rfl, _, rfl, (by show 2 ≤ sizeLine; decide), fun q2 hq2 => ⟨(by show 2 ≤ sizeLine; decide), fun q3 hq3 => ⟨q3, rfl, ⟨_, SqT.of upd_same⟩, ?_⟩⟩⟩⟩
      have S4 := ((Same.new (o := .tup [V.int lo, V.int cut]) hq1).trans (Same.new (o := .tup [V.int cut, V.int hi]) hq2)).trans (Same.new (o := .tup [V.ref q1, V.ref q2]) hq3)
      have a1 : upd (upd (upd H2 q1 (.tup [V.int lo, V.int cut])) q2 (.tup [V.int cut, V.int hi])) q3 (.tup [V.ref q1, V.ref q2]) q1 = some (.tup [V.int lo, V.int cut]) := ((Same.new (o := .tup [V.int cut, V.int hi]) hq2).trans (Same.new (o := .tup [V.ref q1, V.ref q2]) hq3)) _ _ upd_same
      have a2 : upd (upd (upd H2 q1 (.tup [V.int lo, V.int cut])) q2 (.tup [V.int cut, V.int hi])) q3 (.tup [V.ref q1, V.ref q2]) q2 = some (.tup [V.int cut, V.int hi]) := (Same.new (o := .tup [V.ref q1, V.ref q2]) hq3) _ _ upd_same
      have a3 : upd (upd (upd H2 q1 (.tup [V.int lo, V.int cut])) q2 (.tup [V.int cut, V.int hi])) q3 (.tup [V.ref q1, V.ref q2]) q3 = some (.tup [V.ref q1, V.ref q2]) := upd_same
      have u3 := u2.up S4
      clear u2 S4 hq1 hq2 hq3
      generalize upd (upd (upd H2 q1 (.tup [V.int lo, V.int cut])) q2 (.tup [V.int cut, V.int hi])) q3 (.tup [V.ref q1, V.ref q2]) = H3 at u3 a1 a2 a3 ⊢
      refine for_it (walk_tup (xs := [V.ref q1, V.ref q2])) (fun i σ' H' => (∃ o7, σ' = [some (.ref p), some (.int c), some (.ref ac), some (.ref at_), some (.int lo), some (.int hi), some (.int cut), o7]) ∧ TT H3 H' ∧ ∃ TL CL ts cs', CI H p at_ ac TL CL ts cs' H' ∧
        wt ts = wt ts' + (if i = 0 then 0 else if i = 1 then 2 * (cut - lo) - 1 else (2 * (cut - lo) - 1) + (2 * (hi - cut) - 1)) ∧ cs'.length ≤ cs.length + i) ?_ ?_ ?_ ?_
      · exact ⟨⟨_, rfl⟩, fun _ _ h => h, _, _, _, _, u3, rfl, Nat.le_refl _⟩
      · rintro i σ' H' _ ⟨_, tt, _⟩
        exact SqT.of (tt _ _ a3)
      · clear u3
        rintro i x σ' H4 H5 hi2 ⟨⟨o7, rfl⟩, tt, TL, CL, ts2, cs2, u, hwt, hcs⟩ ⟨rfl, hx⟩
        have hi2 : i < 2 := hi2
        -- the side at hand
        obtain ⟨qi, si, sj, rfl, hq, hsij, hsj, hi4⟩ : ∃ qi si sj, x = V.ref qi ∧ H5 qi = some (.tup [V.int (si : Nat), V.int (sj : Nat)]) ∧ si < sj ∧ sj ≤ 1000 ∧
            (wt ts2 + (2 * (sj - si) - 1)) = wt ts' + (if i + 1 = 0 then 0 else if i + 1 = 1 then 2 * (cut - lo) - 1 else (2 * (cut - lo) - 1) + (2 * (hi - cut) - 1)) := by
          match i, hi2, hx, hwt with
          | 0, _, hx, hwt =>
            cases hx
            refine ⟨q1, lo, cut, rfl, tt _ _ a1, hcut1, by omega, ?_⟩
            rw [hwt]
            rfl
          | 1, _, hx, hwt =>
            cases hx
            refine ⟨q2, cut, hi, rfl, tt _ _ a2, hcut2, by omega, ?_⟩
            rw [hwt]
            show wt ts' + (2 * (cut - lo) - 1) + (2 * (hi - cut) - 1) = wt ts' + ((2 * (cut - lo) - 1) + (2 * (hi - cut) - 1))
            omega
        have hln := wt_ge fun d hd => (u.ok d hd).1
        have hTLl := u.pt.length
        have hCLl := u.pc.length
        have hif : (if i = 0 then 0 else if i = 1 then 2 * (cut - lo) - 1 else (2 * (cut - lo) - 1) + (2 * (hi - cut) - 1)) ≤ 4 * hi := by
          split
          · omega
          · split <;> omega
        -- todo.append(side)
        refine ⟨_, rfl, .inl ⟨rfl, _, SqL.of u.ht⟩, _, rfl, at_, TL, _, rfl, rfl, u.ht, (by rw [sizeLine_eq]; omega), ?_⟩
        have hpt : PR H5 (TL ++ [.ref qi]) (ts2 ++ [(si, sj)]) := PR.snoc hq u.pt
        have u4 := u.setT hpt fun d hd => by
          rcases List.mem_append.mp hd with hd | hd
          · exact u.ok d hd
          · rw [List.mem_singleton.mp hd]
            exact ⟨hsij, hsj⟩
        have tt4 : TT H5 (upd H5 at_ (.lst (TL ++ [.ref qi]))) := TT.put u.ht
        have hq4 := tt4 _ _ hq
        have tt5 : TT H3 (upd H5 at_ (.lst (TL ++ [.ref qi]))) := fun b xs h => tt4 b xs (tt b xs h)
        clear u hpt tt tt4 hq
        generalize upd H5 at_ (.lst (TL ++ [.ref qi])) = H6 at u4 tt5 hq4 ⊢
        have ewt2 : wt (ts2 ++ [(si, sj)]) = wt ts2 + (2 * (sj - si) - 1) := wt_snoc _ _
        refine ⟨_, rfl, qi, _, _, _, rfl, rfl, SqT.of hq4, atI_nat (j := 1) rfl, _, rfl, qi, _, _, _, rfl, rfl, SqT.of hq4, atI_nat (j := 0) rfl, _, _, rfl, rfl, _, _, rfl, rfl, _, rfl, ?_⟩
        cases hbig : decide ((1 : Int) < (sj : Int) - (si : Int)) with
        | true =>
          refine iteT ?_
          refine ⟨_, rfl, .inl ⟨rfl, _, SqL.of u4.hc⟩, _, rfl, ac, CL, _, rfl, rfl, u4.hc, (by rw [sizeLine_eq]; omega), ?_⟩
          have tt6 : TT H6 (upd H6 ac (.lst (CL ++ [.ref qi]))) := TT.put u4.hc
          refine ⟨⟨_, rfl⟩, fun b xs h => tt6 b xs (tt5 b xs h), _, _, _, _, u4.setC (PR.snoc (d := (si, sj)) hq4 u4.pc), by rw [ewt2, hi4], ?_⟩
          rw [List.length_append]
          show cs2.length + 1 ≤ cs.length + (i + 1)
          omega
        | false =>
          refine iteF ?_
          exact ⟨⟨_, rfl⟩, tt5, _, _, _, _, u4, by rw [ewt2, hi4], by omega⟩
      · rintro σ' H4 ⟨⟨o7, rfl⟩, tt, TL, CL, ts2, cs2, u, hwt, hcs⟩
        have hwt : wt ts2 = wt ts' + ((2 * (cut - lo) - 1) + (2 * (hi - cut) - 1)) := hwt
        have hcs : cs2.length ≤ cs.length + 2 := hcs
        refine ⟨wt ts2, ?_, _, _, _, _, _, _, _, _, rfl, u, by omega, rfl⟩
        rw [ewt]
        omega
    · refine ifF (decide_eq_false (by omega)) ?_
      refine ⟨wt ts', ?_, _, _, _, _, _, _, _, _, rfl, u1, by omega, rfl⟩
      rw [ewt]
      omega
end
end U3


namespace U3
open PySem PySem.Spec PyProof.Rows L2
section
variable {P : Program} {w : World} {K : PySem.W.Frag} {mg : Str → Option Value} {base : Heap}
/-! lists of data -/
def LD (K : PySem.W.Frag) (H : Hp) (a : Addr) (ds : List PyData) : Prop := ∃ xs, H a = some (.lst xs) ∧ DpAll K H xs ds
theorem LD.same {H H' : Hp} {a : Addr} {ds : List PyData} (h : LD K H a ds) (e : Same H H') : LD K H' a ds := by
  obtain ⟨xs, h1, h2⟩ := h
  exact ⟨xs, e _ _ h1, DpAll.same e h2⟩
theorem NL_rowP (r : Row) : NL (rowP r) = true := NLs_ints r
theorem NLs_rows (rs : List Row) : NLs (rs.map rowP) = true := NLs_all fun d hd => by
  obtain ⟨r, _, rfl⟩ := List.mem_map.mp hd
  exact NL_rowP r
theorem NL_toldP (o : Option Nat) : NL (toldP o) = true := by cases o <;> rfl
theorem NL_phaseP (ph : List Row × Option Nat) : NL (phaseP ph) = true := by
  show (NLs (ph.1.map rowP) && (NL (toldP ph.2) && true)) = true
  rw [NLs_rows, NL_toldP]
  rfl
theorem NLs_phases (phs : List (List Row × Option Nat)) : NLs (phs.map phaseP) = true := NLs_all fun d hd => by
  obtain ⟨r, _, rfl⟩ := List.mem_map.mp hd
  exact NL_phaseP r
theorem NL_toD (p : Prog) : NL (toD p) = true := by
  show (NL (.int p.regs) && (NLs (p.phases.map phaseP) && true)) = true
  rw [NLs_phases]
  rfl
theorem LD.keep {H H' : Hp} {a : Addr} {ds : List PyData} {xs : List V} (hn : NLs ds = true) (h2 : DpAll K H xs ds) (tk : TK K H H') (h1 : H' a = some (.lst xs)) : LD K H' a ds := ⟨xs, h1, DpAll.keep tk hn h2⟩
/-- another list changes -/
theorem LD.other {H : Hp} {a b : Addr} {ds : List PyData} {o : HO} (h : LD K H a ds) (hn : NLs ds = true) (hb : ∃ ys, H b = some (.lst ys)) (ne : a ≠ b) : LD K (upd H b o) a ds := by
  obtain ⟨xs, h1, h2⟩ := h
  obtain ⟨ys, hy⟩ := hb
  exact ⟨xs, by rw [upd_ne ne]; exact h1, DpAll.keep (TK.put hy) hn h2⟩
theorem LD.app {H : Hp} {a : Addr} {xs : List V} {ds : List PyData} {v : V} {d : PyData} (h1 : H a = some (.lst xs)) (h2 : DpAll K H xs ds) (hn : NLs ds = true) (hd : Dp K H v d) (hnd : NL d = true) : LD K (upd H a (.lst (xs ++ [v]))) a (ds ++ [d]) :=
  ⟨_, upd_same, DpAll.append (DpAll.keep (TK.put h1) hn h2) (.cons (Dp.keep (TK.put h1) hnd hd) .nil)⟩
theorem LD.len {H : Hp} {a : Addr} {ds : List PyData} {xs : List V} (h : LD K H a ds) (h1 : H a = some (.lst xs)) : xs.length = ds.length ∧ DpAll K H xs ds := by
  obtain ⟨ys, h2, h3⟩ := h
  rw [h1] at h2
  cases h2
  exact ⟨DpAll.length h3, h3⟩
/-! _law_chain(corners, chords, v) -/
def fm (x : Int) (c : Nat) : Nat := (x.fmod c).toNat
theorem fm_eq {x : Int} {c : Nat} (hc : 1 ≤ c) : x.fmod c = (fm x c : Int) := by
  have : 0 ≤ x.fmod (c : Int) := Int.fmod_nonneg_of_pos _ (by omega)
  unfold fm
  omega
theorem fm_lt {x : Int} {c : Nat} (hc : 1 ≤ c) : fm x c < c := by
  have h1 : 0 ≤ x.fmod (c : Int) := Int.fmod_nonneg_of_pos _ (by omega)
  have h2 : x.fmod (c : Int) < (c : Int) := Int.fmod_lt_of_pos _ (by omega)
  unfold fm
  omega
theorem wfRow3 {n a b c : Nat} (h0 : 0 < a) (ha : a < n) (hb : b < n) (hc : c < n) : WFRow n [a, b, c] := ⟨.inr rfl, fun x hx => by
  simp only [List.mem_cons, List.not_mem_nil, or_false] at hx
  rcases hx with rfl | rfl | rfl <;> assumption, h0⟩
theorem wfRow2 {n a b : Nat} (h0 : 0 < a) (ha : a < n) (hb : b < n) : WFRow n [a, b] := ⟨.inl rfl, fun x hx => by
  simp only [List.mem_cons, List.not_mem_nil, or_false] at hx
  rcases hx with rfl | rfl <;> assumption, h0⟩
theorem WFRow.mono {n m : Nat} {r : Row} (h : WFRow n r) (e : n ≤ m) : WFRow m r := ⟨h.len, fun x hx => Nat.lt_of_lt_of_le (h.all x hx) e, h.head⟩
theorem dpRow3 {H : Hp} {q : Addr} {a b c : Nat} (h : SqT K H q [.int a, .int b, .int c]) : Dp K H (.ref q) (rowP [a, b, c]) := .tup h (.cons (.int _) (.cons (.int _) (.cons (.int _) .nil)))
theorem dpRow2 {H : Hp} {q : Addr} {a b : Nat} (h : SqT K H q [.int a, .int b]) : Dp K H (.ref q) (rowP [a, b]) := .tup h (.cons (.int _) (.cons (.int _) .nil))
theorem two_of {l : List Int} {a b : Int} (h : l.Perm [a, b]) : ∃ x y, l = [x, y] := by
  have := h.length_eq
  match l, this with
  | [x, y], _ => exact ⟨x, y, rfl⟩
def sp_law_chain (K : PySem.W.Frag) : Sp := fun vs H Q _ => ∃ (c : Nat) (x : V) (v : Nat) (ds : List PyData), vs = [.int c, x, .int v] ∧ 1 ≤ c ∧ c ≤ 100 ∧ v ≤ 1000 ∧ Dp K H x (.tuple ds) ∧ ChD ds ∧
  ∀ (t : Addr) (rs : List Row) (H' : Hp), Same H H' → LD K H' t (rs.map rowP) → (∀ r ∈ rs, WFRow (c + 1) r) → rs.length ≤ c → Q (.ref t) H'
-- slots: 0:corners 1:chords_here 2:v 3:rows 4:last 5:u 6:ends | cells: []
theorem sc_law_chain : FnScope ["_law_corners", "_law_chords_here", "_law_v", "_law_rows", "_law_last", "_law_u", "_law_ends"] ["_law_corners", "_law_chords_here", "_law_v"] (defScope s_law_chain) := ⟨rfl, rfl, rfl, by decide +kernel, rfl, by decide +kernel, by decide +kernel⟩
theorem ok_law_chain (T : Txt K mg) : FnOk P w K mg base CX0 1 (He.ga K "_law_chain") (fdA K (He.ga K "_law_chain")) ["_law_corners", "_law_chords_here", "_law_v"] (sp_law_chain K) := by
  refine T.F_law_chain.ok sc_law_chain (fun vs H Q E h => by obtain ⟨c, x, v, ds, rfl, _⟩ := h; rfl) (fun cdv A outer s H vs Q E hr h => ⟨_, PSs.nox ((pss_cons (ps_set (i := 3) sc_law_chain.nd rfl (Or.inl rfl) (pe_lst pa_nil))
(pss_cons (ps_set (i := 4) sc_law_chain.nd rfl (Or.inl rfl) (pe_op op_sub (pv 2) pe_int))
(pss_cons (ps_for PassesOwn.never rfl (pi_range3 (by rfl) T.m_range (pa_cons (pe_op op_sub (pv 2) pe_int) (pa_cons (pe_op op_sub (pv 2) (pv 0)) (pa_cons (pe_un un_neg pe_int) pa_nil)))) (pg_name (i := 5) sc_law_chain.nd rfl (Or.inl rfl))
(pss_cons (ps_set (i := 6) sc_law_chain.nd rfl (Or.inl rfl) (pe_callB cr_sorted (by rfl) T.m_sorted bt_sorted (pa_cons (pe_lst (pa_cons (pe_op op_modN (pe_callTy call_int1 (by rfl) T.m_int bt_int (pa_cons (pv 5) pa_nil)) (pv 0)) (pa_cons (pe_op op_modN (pe_callTy call_int1 (by rfl) T.m_int bt_int (pa_cons (pv 2) pa_nil)) (pv 0)) pa_nil))) pa_nil)))
(pss_cons (ps_if (PW.pt (pw_or (pt_cmpR op_in_seq (pe_op op_sub (pe_ix ix_list (pv 6) pe_int (fun _ _ => rfl)) (pe_ix ix_list (pv 6) pe_int (fun _ _ => rfl))) (pe_tup (pa_cons pe_int (pa_cons (pe_op op_sub (pv 0) pe_int) pa_nil))) (by rfl)) (pw_or1 (pt_cmpR (op_inT (units65 hr)) (pe_tup (pa_cons (pe_ix ix_list (pv 6) pe_int (fun _ _ => rfl)) (pa_cons (pe_ix ix_list (pv 6) pe_int (fun _ _ => rfl)) pa_nil))) (pv 1) (by rfl)))))
(pss_cons (ps_expr (pe_bm PySem.F.plainAttrs_list PySem.F.slot_list_append PySem.F.type_list_append mt_append (pv 3) (pa_cons (pe_tup (pa_cons (pe_op op_add pe_int (pe_op op_modN (pe_callTy call_int1 (by rfl) T.m_int bt_int (pa_cons (pv 5) pa_nil)) (pv 0))) (pa_cons (pe_op op_add pe_int (pe_op op_modN (pe_callTy call_int1 (by rfl) T.m_int bt_int (pa_cons (pv 5) pa_nil)) (pv 0))) (pa_cons (pe_op op_add pe_int (pe_op op_modN (pe_callTy call_int1 (by rfl) T.m_int bt_int (pa_cons (pv 4) pa_nil)) (pv 0))) pa_nil)))) pa_nil)))
(pss_cons (ps_set (i := 4) sc_law_chain.nd rfl (Or.inl rfl) (pv 5))
pss_nil))
pss_nil)
pss_nil)))
(pss_cons (ps_ret (pv 3))
pss_nil))))), ?_⟩)
  obtain ⟨c, x, v, ds, rfl, hc1, hc2, hv, hx, hds, q⟩ := h
  refine ⟨(by show 0 ≤ sizeLine; decide), fun ar har => ?_⟩
  refine ⟨_, rfl, _, _, rfl, rfl, ?_⟩
  refine ⟨_, rfl, _, _, rfl, rfl, _, rfl, _, rfl, _, _, rfl, rfl, _, rfl, _, _, _, _, rfl, RgC.neg (by omega) (by omega) (by omega) (by omega), for_it (walk_rangeC (lo := (v : Int) - 2) (c := -1) (n := ((v : Int) - 2 - ((v : Int) - (c : Int))).toNat))
    (fun i σ' H' => (∃ (last : Int) (o5 o6 : Option V), σ' = [some (.int c), some x, some (.int v), some (.ref ar), some (.int last), o5, o6]) ∧ Same H H' ∧ ∃ (RL : List V) (rs : List Row), H' ar = some (.lst RL) ∧ DpAll K H' RL (rs.map rowP) ∧ (∀ r ∈ rs, WFRow (c + 1) r) ∧ rs.length ≤ i) ?_ (fun _ _ _ _ _ => trivial) ?_ ?_⟩
  · exact ⟨⟨_, _, _, rfl⟩, Same.new har, [], [], upd_same, .nil, (fun r hr => by cases hr), Nat.le_refl _⟩
  · rintro i x' σ' H1 H2 hi ⟨⟨last, o5, o6, rfl⟩, hS, RL, rs, h1, h2, h3, h4⟩ ⟨rfl, rfl⟩
    show tSeq _ _ _ (List.set _ 5 (some (V.int ((v : Int) - 2 + (i : Nat) * (-1))))) H2
    generalize hu : (v : Int) - 2 + (i : Nat) * (-1) = u
    have hic : i < c := by omega
    have hx1 := Dp.same hS hx
    have hcne : (c : Int) ≠ 0 := by omega
    have hlR : RL.length = rs.length := by rw [DpAll.length h2, List.length_map]
    -- ends = sorted([u % c, v % c])
    refine ⟨_, rfl, .inl ⟨_, rfl, _, rfl, _, _, rfl, rfl, hcne, _, rfl, .inl ⟨_, rfl, _, rfl, _, _, rfl, rfl, hcne, (by show 2 ≤ sizeLine; decide), fun q0 hq0 => ⟨q0, [u.fmod (c : Int), (v : Int).fmod (c : Int)], rfl, SqL.of upd_same, (by show 2 < 64; decide), fun ns' q1 hperm _ hq1 => ?_⟩⟩⟩⟩
    obtain ⟨e0, e1, rfl⟩ := two_of hperm
    have S1 := (Same.new (o := .lst [V.int (u.fmod (c : Int)), V.int ((v : Int).fmod (c : Int))]) hq0).trans (Same.new (o := .lst [V.int e0, V.int e1]) hq1)
    refine ⟨_, rfl, q1, _, _, _, rfl, rfl, SqL.of upd_same, atI_nat (j := 1) rfl, _, rfl, q1, _, _, _, rfl, rfl, SqL.of upd_same, atI_nat (j := 0) rfl, _, _, rfl, rfl, _, rfl, _, _, rfl, rfl, (by show 2 ≤ sizeLine; decide), fun q2 hq2 => ⟨q2, _, rfl, .inr (SqT.of upd_same), rfl, rfl, _, rfl, ?_⟩⟩
    have S2 := S1.trans (Same.new (o := .tup [V.int 1, V.int ((c : Int) - 1)]) hq2)
    have hq1' := (Same.new (o := .tup [V.int 1, V.int ((c : Int) - 1)]) hq2) _ _ (upd_same : upd (upd H2 q0 (.lst [V.int (u.fmod (c : Int)), V.int ((v : Int).fmod (c : Int))])) q1 (.lst [V.int e0, V.int e1]) q1 = _)
    cases hb1 : (if false = true then !inV (V.int (e1 - e0)) [V.int 1, V.int ((c : Int) - 1)] else inV (V.int (e1 - e0)) [V.int 1, V.int ((c : Int) - 1)]) with
    | true =>
        refine iteT ?_
        refine iteT ?_
        have hSa := S2
        have h1a := hSa _ _ h1
        -- rows.append((1 + u % c, 1 + u % c, 1 + last % c)), last = u
        refine ⟨_, rfl, .inl ⟨rfl, _, SqL.of h1a⟩, _, rfl, .inl ⟨_, rfl, _, rfl, _, _, rfl, rfl, hcne, _, _, rfl, rfl, _, rfl, .inl ⟨_, rfl, _, rfl, _, _, rfl, rfl, hcne, _, _, rfl, rfl, _, rfl, .inl ⟨_, rfl, _, rfl, _, _, rfl, rfl, hcne, _, _, rfl, rfl, (by show 3 ≤ sizeLine; decide), fun q5 hq5 => ?_⟩⟩⟩⟩
        have h1b := (Same.new (o := .tup [V.int (1 + u.fmod (c : Int)), V.int (1 + u.fmod (c : Int)), V.int (1 + last.fmod (c : Int))]) hq5) _ _ h1a
        refine ⟨ar, RL, _, rfl, rfl, h1b, (by rw [hlR, sizeLine_eq]; omega), ?_⟩
        refine ⟨_, rfl, ⟨_, _, _, rfl⟩, Same.put ((hS.trans hSa).trans (Same.new hq5)) har, _, rs ++ [[1 + fm u c, 1 + fm u c, 1 + fm last c]], upd_same, ?_, ?_, ?_⟩
        · rw [List.map_append]
          refine DpAll.append (DpAll.keep ((TK.of (hSa.trans (Same.new hq5))).trans (TK.put h1b)) (NLs_rows rs) h2) (.cons (dpRow3 ?_) .nil)
          have e1 : ∀ z : Int, (1 : Int) + z.fmod (c : Int) = ((1 + fm z c : Nat) : Int) := fun z => by rw [fm_eq hc1]; omega
          refine SqT.of ?_
          rw [upd_ne (ne_of_none h1a hq5).symm]
          refine upd_same.trans ?_
          show some (HO.tup [V.int (1 + u.fmod (c : Int)), V.int (1 + u.fmod (c : Int)), V.int (1 + last.fmod (c : Int))]) = _
          rw [e1, e1]
        · intro r hr
          rcases List.mem_append.mp hr with hr | hr
          · exact h3 r hr
          · rw [List.mem_singleton.mp hr]
            have f1 := fm_lt (x := u) hc1
            have f2 := fm_lt (x := last) hc1
            exact wfRow3 (by omega) (by omega) (by omega) (by omega)
        · rw [List.length_append]
          show rs.length + 1 ≤ i + 1
          omega
    | false =>
      refine iteF ?_
      refine ⟨_, rfl, q1, _, _, _, rfl, rfl, SqL.of hq1', atI_nat (j := 0) rfl, _, rfl, q1, _, _, _, rfl, rfl, SqL.of hq1', atI_nat (j := 1) rfl, (by show 2 ≤ sizeLine; decide), fun q3 hq3 => ⟨_, rfl, .tuple [.int e0, .int e1], ds, .tup (SqT.of upd_same) (.cons (.int _) (.cons (.int _) .nil)), Dp.same (S2.trans (Same.new hq3)) hx1, shaped_ch (ds := [.tuple [.int e0, .int e1]]) (fun d hd => ⟨e0, e1, List.mem_singleton.mp hd⟩) |> fun _ => (by simp [SeqAt.shaped, PyData.canLay0, PyData.canLayAll0, PyData.depth, PyData.depthAll]), shaped_ch hds, _, rfl, ?_⟩⟩
      have S3 := S2.trans (Same.new (o := .tup [V.int e0, V.int e1]) hq3)
      cases hb2 : (ds.any fun z => PyData.eqv z (.tuple [.int e0, .int e1])) with
      | true =>
        refine iteT ?_
        have hSa := S3
        have h1a := hSa _ _ h1
        -- rows.append((1 + u % c, 1 + u % c, 1 + last % c)), last = u
        refine ⟨_, rfl, .inl ⟨rfl, _, SqL.of h1a⟩, _, rfl, .inl ⟨_, rfl, _, rfl, _, _, rfl, rfl, hcne, _, _, rfl, rfl, _, rfl, .inl ⟨_, rfl, _, rfl, _, _, rfl, rfl, hcne, _, _, rfl, rfl, _, rfl, .inl ⟨_, rfl, _, rfl, _, _, rfl, rfl, hcne, _, _, rfl, rfl, (by show 3 ≤ sizeLine; decide), fun q5 hq5 => ?_⟩⟩⟩⟩
        have h1b := (Same.new (o := .tup [V.int (1 + u.fmod (c : Int)), V.int (1 + u.fmod (c : Int)), V.int (1 + last.fmod (c : Int))]) hq5) _ _ h1a
        refine ⟨ar, RL, _, rfl, rfl, h1b, (by rw [hlR, sizeLine_eq]; omega), ?_⟩
        refine ⟨_, rfl, ⟨_, _, _, rfl⟩, Same.put ((hS.trans hSa).trans (Same.new hq5)) har, _, rs ++ [[1 + fm u c, 1 + fm u c, 1 + fm last c]], upd_same, ?_, ?_, ?_⟩
        · rw [List.map_append]
          refine DpAll.append (DpAll.keep ((TK.of (hSa.trans (Same.new hq5))).trans (TK.put h1b)) (NLs_rows rs) h2) (.cons (dpRow3 ?_) .nil)
          have e1 : ∀ z : Int, (1 : Int) + z.fmod (c : Int) = ((1 + fm z c : Nat) : Int) := fun z => by rw [fm_eq hc1]; omega
          refine SqT.of ?_
          rw [upd_ne (ne_of_none h1a hq5).symm]
          refine upd_same.trans ?_
          show some (HO.tup [V.int (1 + u.fmod (c : Int)), V.int (1 + u.fmod (c : Int)), V.int (1 + last.fmod (c : Int))]) = _
          rw [e1, e1]
        · intro r hr
          rcases List.mem_append.mp hr with hr | hr
          · exact h3 r hr
          · rw [List.mem_singleton.mp hr]
            have f1 := fm_lt (x := u) hc1
            have f2 := fm_lt (x := last) hc1
            exact wfRow3 (by omega) (by omega) (by omega) (by omega)
        · rw [List.length_append]
          show rs.length + 1 ≤ i + 1
          omega
      | false =>
        refine iteF ?_
        exact ⟨⟨_, _, _, rfl⟩, hS.trans S3, RL, rs, S3 _ _ h1, DpAll.same S3 h2, h3, by omega⟩
  · rintro σ' H1 ⟨⟨last, o5, o6, rfl⟩, hS, RL, rs, h1, h2, h3, h4⟩
    exact ⟨_, rfl, q _ rs _ hS ⟨RL, h1, h2⟩ h3 (by omega)⟩
end
end U3


namespace U3
open PySem PySem.Spec PyProof.Rows L2
section
variable {P : Program} {w : World} {K : PySem.W.Frag} {mg : Str → Option Value} {base : Heap}
/-- a statement by what holds behind it -/
theorem seq_by {t u : TS} {D : Ends} {σ : L2.St} {H : Hp} (R : L2.St → Hp → Prop) (h : ∀ D' : Ends, (∀ σ' H', R σ' H' → D'.nx σ' H') → D'.rt = D.rt → D'.bk = D.bk → D'.ct = D.ct → t D' σ H) (k : ∀ σ' H', R σ' H' → u D σ' H') : tSeq t u D σ H :=
  h { D with nx := u D } k rfl rfl rfl
theorem seq_nx {t u : TS} {D : Ends} {r : VK} {b c : L2.St → Hp → Prop} {σ : L2.St} {H : Hp} (R : L2.St → Hp → Prop) (h : ∀ D' : Ends, (∀ σ' H', R σ' H' → D'.nx σ' H') → D'.rt = D.rt → D'.bk = D.bk → D'.ct = D.ct → t D' σ H) (k : ∀ σ' H', R σ' H' → u D σ' H') : (Ends.mk (tSeq t u D) r b c).nx σ H := seq_by R h k
theorem set_eq {N : L2.St → Hp → Prop} {σ : L2.St} {i : Nat} {v v' : V} {H : Hp} (e : v = v') (h : N (σ.set i (some v')) H) : N (σ.set i (some v)) H := by
  rw [e]
  exact h
/-! the makers of programs -/
structure Mk (p : Prog) (n : Nat) : Prop where
  wf : WF p
  regs : p.regs ≤ n
  phs : p.phases.length ≤ n
  rows : ∀ ph ∈ p.phases, ph.1.length ≤ n
theorem LD.tup {H : Hp} {a l : Addr} {ds : List PyData} {xs : List V} (h1 : H a = some (.lst xs)) (h : DpAll K H xs ds) (hl : H l = none) : Dp K (upd H l (.tup xs)) (.ref l) (.tuple ds) :=
  .tup (SqT.of upd_same) (DpAll.same (Same.new hl) h)
theorem dpPhase {H : Hp} {q l : Addr} {ph : List Row × Option Nat} {t : V} (h1 : Dp K H (.ref l) (.tuple (ph.1.map rowP))) (h2 : Dp K H t (toldP ph.2)) (h : SqT K H q [.ref l, t]) : Dp K H (.ref q) (phaseP ph) := .tup h (.cons h1 (.cons h2 .nil))
/-- what a told is laid as -/
def toldV0 : Option Nat → V
  | none => .non
  | some t => .int t
theorem dp_told0 {H : Hp} : ∀ (o : Option Nat), Dp K H (toldV0 o) (toldP o)
  | none => .non
  | some t => .int t
def sp_law_hopper (K : PySem.W.Frag) : Sp := fun vs H Q _ => ∃ (width hop : Nat) (x : V) (ds : List PyData), vs = [.int width, .int hop, x] ∧ 1 ≤ hop ∧ hop ≤ width ∧ width ≤ 10 ∧ Dp K H x (.tuple ds) ∧ ChD ds ∧ ∀ v p H', Same H H' → Dp K H' v (toD p) → Mk p 20 → Q v H'
-- slots: 0:width 1:hop 2:chords_here 3:corners 4:phases 5:k 6:j 7:rows 8:told | cells: []
theorem sc_law_hopper : FnScope ["_law_width", "_law_hop", "_law_chords_here", "_law_corners", "_law_phases", "_law_k", "_law_j", "_law_rows", "_law_told"] ["_law_width", "_law_hop", "_law_chords_here"] (defScope s_law_hopper) := ⟨rfl, rfl, rfl, by decide +kernel, rfl, by decide +kernel, by decide +kernel⟩
theorem ok_law_hopper (T : Txt K mg) : FnOk P w K mg base CX0 2 (He.ga K "_law_hopper") (fdA K (He.ga K "_law_hopper")) ["_law_width", "_law_hop", "_law_chords_here"] (sp_law_hopper K) := by
  refine T.F_law_hopper.ok sc_law_hopper (fun vs H Q E h => by obtain ⟨width, hop, x, ds, rfl, _⟩ := h; rfl) (fun cdv A outer s H vs Q E hr h => ⟨_, PSs.nox ((pss_cons (ps_set (i := 3) sc_law_hopper.nd rfl (Or.inl rfl) (pe_op op_add (pe_op op_fdivN (pv 0) (pv 1)) pe_int))
(pss_cons (ps_set (i := 4) sc_law_hopper.nd rfl (Or.inl rfl) (pe_lst pa_nil))
(pss_cons (ps_for PassesOwn.never rfl (pi_range1 (by rfl) T.m_range (pa_cons (pe_op op_mul (pv 1) (pv 3)) pa_nil)) (pg_name (i := 5) sc_law_hopper.nd rfl (Or.inl rfl))
(pss_cons (ps_set (i := 6) sc_law_hopper.nd rfl (Or.inl rfl) (pe_op op_fdivN (pv 5) (pv 1)))
(pss_cons (ps_set (i := 7) sc_law_hopper.nd rfl (Or.inl rfl) (pe_lst (pa_cons (pe_op op_catA (pe_op op_catA (pe_tup (pa_cons (pe_op op_add pe_int (pv 6)) pa_nil)) (pe_op op_repA (pe_tup (pa_cons (pe_op op_add pe_int (pv 6)) pa_nil)) (pe_callTy call_int1 (by rfl) T.m_int bt_int (pa_cons (pe_cmpR op_gt (pe_op op_modN (pe_callTy call_int1 (by rfl) T.m_int bt_int (pa_cons (pv 5) pa_nil)) (pv 1)) pe_int (nomark _)) pa_nil)))) (pe_tup (pa_cons pe_int pa_nil))) pa_nil)))
(pss_cons (ps_set (i := 8) sc_law_hopper.nd rfl (Or.inl rfl) pe_non)
(pss_cons (ps_if (pt_cmpR op_eq (pe_op op_modN (pe_callTy call_int1 (by rfl) T.m_int bt_int (pa_cons (pv 5) pa_nil)) (pv 1)) (pe_op op_sub (pe_op op_modN (pe_callTy call_int1 (by rfl) T.m_int bt_int (pa_cons (pv 0) pa_nil)) (pv 1)) pe_int) (nomark _))
(pss_cons (ps_set (i := 8) sc_law_hopper.nd rfl (Or.inl rfl) (pe_op op_add (pv 3) pe_int))
(pss_cons (ps_expr (pe_bm PySem.F.plainAttrs_list PySem.F.slot_list_append PySem.F.type_list_append mt_append (pv 7) (pa_cons (pe_tup (pa_cons (pv 8) (pa_cons (pe_op op_add pe_int (pe_op op_modN (pe_callTy call_int1 (by rfl) T.m_int bt_int (pa_cons (pe_op op_add (pv 6) pe_int) pa_nil)) (pv 3))) (pa_cons (pe_op op_add pe_int (pv 6)) pa_nil)))) pa_nil)))
pss_nil))
pss_nil)
(pss_cons (ps_if (pt_cmpR op_eq (pe_op op_modN (pe_callTy call_int1 (by rfl) T.m_int bt_int (pa_cons (pv 5) pa_nil)) (pv 1)) (pe_op op_sub (pv 1) pe_int) (nomark _))
(pss_cons (ps_set (i := 7) sc_law_hopper.nd rfl (Or.inl rfl) (pe_op op_cat (pv 7) (pe_call (ok_law_chain T) (hr.mono (by decide)) (by rfl) T.g_law_chain T.F_law_chain.kp T.b_law_chain .nil pass0 (pa_cons (pv 3) (pa_cons (pv 2) (pa_cons (pe_op op_add (pv 6) pe_int) pa_nil))))))
(pss_cons (ps_if (pt_cmpR op_eq (pe_op op_modN (pe_callTy call_int1 (by rfl) T.m_int bt_int (pa_cons (pv 0) pa_nil)) (pv 1)) pe_int (nomark _))
(pss_cons (ps_set (i := 8) sc_law_hopper.nd rfl (Or.inl rfl) (pe_op op_add pe_int (pe_op op_modN (pe_callTy call_int1 (by rfl) T.m_int bt_int (pa_cons (pe_op op_add (pv 6) pe_int) pa_nil)) (pv 3))))
pss_nil)
pss_nil)
pss_nil))
pss_nil)
(pss_cons (ps_expr (pe_bm PySem.F.plainAttrs_list PySem.F.slot_list_append PySem.F.type_list_append mt_append (pv 4) (pa_cons (pe_tup (pa_cons (pe_callTy call_tuple_of (by rfl) T.m_tuple bt_tuple (pa_cons (pv 7) pa_nil)) (pa_cons (pv 8) pa_nil))) pa_nil)))
pss_nil)))))))
(pss_cons (ps_ret (pe_tup (pa_cons (pe_op op_add (pe_op op_add (pv 3) pe_int) (pe_callTy call_int1 (by rfl) T.m_int bt_int (pa_cons (pe_cmpR op_gt (pe_op op_modN (pe_callTy call_int1 (by rfl) T.m_int bt_int (pa_cons (pv 0) pa_nil)) (pv 1)) pe_int (nomark _)) pa_nil))) (pa_cons (pe_callTy call_tuple_of (by rfl) T.m_tuple bt_tuple (pa_cons (pv 4) pa_nil)) pa_nil))))
pss_nil))))), ?_⟩)
  obtain ⟨width, hop, x, ds, rfl, hh1, hhw, hw10, hx, hds, q⟩ := h
  -- corners = width // hop + 1
  refine ⟨_, rfl, _, rfl, _, _, rfl, rfl, ⟨by omega, by show (hop : Int).natAbs < _; omega⟩, _, _, rfl, rfl, ?_⟩
  show tSeq _ _ _ (List.set _ 3 (some (V.int ((width : Int).fdiv (hop : Int) + 1)))) H
  have ec : (width : Int).fdiv (hop : Int) + 1 = ((width / hop + 1 : Nat) : Int) := by rw [fdivN]; omega
  rw [ec]
  have hc1 : 2 ≤ width / hop + 1 := by
    have : 1 ≤ width / hop := (Nat.le_div_iff_mul_le (by omega)).mpr (by omega)
    omega
  have hc2 : width / hop + 1 ≤ 11 := by
    have : width / hop ≤ width := Nat.div_le_self _ _
    omega
  have hhc : hop * (width / hop + 1) ≤ 20 := by
    have : hop * (width / hop) ≤ width := Nat.mul_div_le _ _
    rw [Nat.mul_add]
    omega
  generalize hc : width / hop + 1 = c at hc1 hc2 hhc ⊢
  -- phases = []
  refine ⟨(by show 0 ≤ sizeLine; decide), fun af haf => ?_⟩
  generalize hregs : c + 1 + (if width % hop > 0 then 1 else 0) = regs
  have hreg2 : c + 1 ≤ regs ∧ regs ≤ c + 2 := by
    rw [← hregs]
    split <;> omega
  -- for k in range(hop * corners)
  have en : ((hop : Int) * (c : Int)).toNat = hop * c := by
    rw [← Int.natCast_mul, Int.toNat_natCast]
  have ein : (hop : Int) * (c : Int) = ((hop * c : Nat) : Int) := by rw [Int.natCast_mul]
  refine ⟨_, rfl, _, rfl, _, _, rfl, rfl, .inl ⟨by omega, by omega⟩, _, rfl, ?_, ?_, for_it (walk_range (lo := 0) (n := ((hop : Int) * (c : Int)).toNat))
    (fun i σ' H' => (∃ (o5 o6 o7 o8 : Option V), σ' = [some (.int width), some (.int hop), some x, some (.int c), some (.ref af), o5, o6, o7, o8]) ∧ Same H H' ∧ ∃ (PL : List V) (phs : List (List Row × Option Nat)), H' af = some (.lst PL) ∧ DpAll K H' PL (phs.map phaseP) ∧ phs.length = i ∧ ∀ ph ∈ phs, WFPh regs ph ∧ ph.1.length ≤ 20) ?_ (fun _ _ _ _ _ => trivial) ?_ ?_⟩
  · show -(2 ^ 62) ≤ (hop : Int) * (c : Int)
    rw [ein]; omega
  · show (hop : Int) * (c : Int) < 2 ^ 62
    rw [ein]; omega
  · exact ⟨⟨_, _, _, _, rfl⟩, Same.new haf, [], [], upd_same, .nil, rfl, fun ph hph => by cases hph⟩
  · rintro i x' σ' H1 H2 hi ⟨⟨o5, o6, o7, o8, rfl⟩, hS, PL, phs, h1, h2, h3, h4⟩ ⟨rfl, rfl⟩
    rw [en] at hi
    have ei : (0 : Int) + (i : Int) = (i : Int) := by omega
    show tSeq _ _ _ (List.set _ 5 (some (V.int ((0 : Int) + (i : Int))))) H2
    rw [ei]
    have hjc : i / hop < c := Nat.div_lt_of_lt_mul hi
    have hPl : PL.length = i := by rw [DpAll.length h2, List.length_map, h3]
    -- j = k // hop
    refine ⟨_, rfl, _, rfl, _, _, rfl, rfl, ⟨by omega, by show (hop : Int).natAbs < _; omega⟩, ?_⟩
    refine set_eq (show V.int ((i : Int).fdiv (hop : Int)) = V.int ((i / hop : Nat) : Int) from by rw [fdivN]) ?_
    generalize hj : i / hop = j at hjc
    have hhne : (hop : Int) ≠ 0 := by omega
    have e1j : (1 : Int) + (j : Int) = ((1 + j : Nat) : Int) := by omega
    -- rows = [(1 + j,) + (1 + j,) * int(k % hop > 0) + (0,)]
    refine seq_nx (fun σ' H' => ∃ (ar : Addr) (r0 : Row), σ' = [some (.int width), some (.int hop), some x, some (.int c), some (.ref af), some (.int i), some (.int j), some (.ref ar), o8] ∧ Same H2 H' ∧ H2 ar = none ∧ LD K H' ar [rowP r0] ∧ WFRow regs r0) (fun D' hN _ _ _ => ?_) ?_
    · refine ⟨_, rfl, _, _, rfl, rfl, (by show 1 ≤ sizeLine; decide), fun t1 ht1 => ⟨_, rfl, _, _, rfl, rfl, (by show 1 ≤ sizeLine; decide), fun t2 ht2 => ⟨_, rfl, .inl ⟨_, rfl, _, rfl, _, _, rfl, rfl, hhne, _, _, rfl, rfl, .inr ⟨_, rfl, t2, _, _, rfl, rfl, SqT.of upd_same, (by simp), ?_, ?_, (by show 1 ≤ 1000; decide), fun hk1 => ?_, fun hkn p0 hp0 => ?_⟩⟩⟩⟩⟩
      · split <;> decide
      · split <;> decide
      · have a1 := (Same.new (o := .tup [V.int (1 + (j : Int))]) ht2) _ _ (upd_same : upd H2 t1 (.tup [V.int (1 + (j : Int))]) t1 = _)
        refine ⟨t1, t2, _, _, rfl, rfl, SqT.of a1, SqT.of upd_same, (by show 2 ≤ sizeLine; decide), (fun z => by cases z), (fun _ z => by cases z), fun _ _ p3 hp3 => ⟨(by show 1 ≤ sizeLine; decide), fun p4 hp4 => ⟨p3, p4, _, _, rfl, rfl, SqT.of ((Same.new hp4) _ _ upd_same), SqT.of upd_same, (by show 3 ≤ sizeLine; decide), (fun z => by cases z), (fun _ z => by cases z), fun _ _ p5 hp5 => ⟨(by show 1 ≤ sizeLine; decide), fun ar har => hN _ _ ⟨ar, [1 + j, 1 + j, 0], rfl, ?_, ?_, ?_, ?_⟩⟩⟩⟩⟩
        · exact ((((Same.new ht1).trans (Same.new ht2)).trans (Same.new hp3)).trans (Same.new hp4)).trans ((Same.new hp5).trans (Same.new har))
        · exact Same.free (((((Same.new ht1).trans (Same.new ht2)).trans (Same.new hp3)).trans (Same.new hp4)).trans (Same.new hp5)) har
        · refine ⟨_, upd_same, .cons (dpRow3 (SqT.of (((Same.new har) _ _ upd_same).trans ?_))  ) .nil⟩
          show some (HO.tup [V.int (1 + (j : Int)), V.int (1 + (j : Int)), V.int 0]) = _
          rw [e1j]
          rfl
        · exact wfRow3 (by omega) (by omega) (by omega) (by omega)
      · have a1 := (Same.new (o := .tup [V.int (1 + (j : Int))]) ht2) _ _ (upd_same : upd H2 t1 (.tup [V.int (1 + (j : Int))]) t1 = _)
        have a2 := fun o => (Same.new (o := o) hp0) _ _ a1
        refine ⟨t1, p0, _, _, rfl, rfl, SqT.of (a2 _), SqT.of upd_same, ?_, (fun z => by cases z), fun _ _ => ⟨(by show 1 ≤ sizeLine; decide), fun p4 hp4 => ⟨t1, p4, _, _, rfl, rfl, SqT.of ((Same.new hp4) _ _ (a2 _)), SqT.of upd_same, (by show 2 ≤ sizeLine; decide), (fun z => by cases z), (fun _ z => by cases z), fun _ _ p5 hp5 => ⟨(by show 1 ≤ sizeLine; decide), fun ar har => hN _ _ ⟨ar, [1 + j, 0], rfl, ?_, ?_, ?_, ?_⟩⟩⟩⟩, fun _ hne => absurd ?_ hne⟩
        · split <;> first | (show 2 ≤ sizeLine; decide) | (show 1 ≤ sizeLine; decide)
        · exact ((((Same.new ht1).trans (Same.new ht2)).trans (Same.new hp0)).trans (Same.new hp4)).trans ((Same.new hp5).trans (Same.new har))
        · exact Same.free (((((Same.new ht1).trans (Same.new ht2)).trans (Same.new hp0)).trans (Same.new hp4)).trans (Same.new hp5)) har
        · refine ⟨_, upd_same, .cons (dpRow2 (SqT.of (((Same.new har) _ _ upd_same).trans ?_))) .nil⟩
          show some (HO.tup [V.int (1 + (j : Int)), V.int 0]) = _
          rw [e1j]
          rfl
        · exact wfRow2 (by omega) (by omega) (by omega)
        · split at hkn
          · exact absurd rfl hkn
          · rename_i hz
            rw [if_neg hz]
            rfl
    rintro σ' H3 ⟨ar, r0, rfl, hS3, har, hLD, hwr⟩
    -- told = None
    refine seq_by (fun σ' H' => σ' = [some (.int width), some (.int hop), some x, some (.int c), some (.ref af), some (.int i), some (.int j), some (.ref ar), some .non] ∧ H' = H3) (fun D' hN _ _ _ => hN _ _ ⟨rfl, rfl⟩) ?_
    rintro _ _ ⟨rfl, rfl⟩
    have hcne : (c : Int) ≠ 0 := by omega
    have e1c : (c : Int) + 1 = ((c + 1 : Nat) : Int) := by omega
    have e1f : ∀ z : Int, (1 : Int) + z.fmod (c : Int) = ((1 + fm z c : Nat) : Int) := fun z => by rw [fm_eq (by omega)]; omega
    -- if k % hop == width % hop - 1
    refine seq_by (fun σ' H' => ∃ (rs : List Row) (o : Option Nat) (tv : V), σ' = [some (.int width), some (.int hop), some x, some (.int c), some (.ref af), some (.int i), some (.int j), some (.ref ar), some tv] ∧ Same H2 H' ∧ LD K H' ar (rs.map rowP) ∧ (∀ r ∈ rs, WFRow regs r) ∧ rs.length ≤ 2 ∧ tv = toldV0 o ∧ (∀ t, o = some t → t < regs)) (fun D' hN _ _ _ => ?_) ?_
    · refine ⟨_, rfl, .inl ⟨_, rfl, _, rfl, _, _, rfl, rfl, hhne, _, rfl, .inl ⟨_, rfl, _, rfl, _, _, rfl, rfl, hhne, _, _, rfl, rfl, rfl, _, rfl, ?_⟩⟩⟩
      cases hb : decide (V.int ((i : Int).fmod (hop : Int)) = V.int ((width : Int).fmod (hop : Int) - 1)) with
      | true =>
        refine ifT rfl ?_
        obtain ⟨RL, ha1, ha2⟩ := hLD
        have hrl : RL.length = 1 := DpAll.length ha2
        have hwh : 1 ≤ width % hop := by
          have := of_decide_eq_true hb
          injection this with this
          rw [fmodN, fmodN] at this
          omega
        have hrg : c + 1 < regs := by
          rw [← hregs, if_pos (by omega)]
          omega
        refine ⟨_, rfl, _, _, rfl, rfl, _, rfl, .inl ⟨rfl, _, SqL.of ha1⟩, _, rfl, _, rfl, _, _, rfl, rfl, .inl ⟨_, rfl, _, rfl, _, _, rfl, rfl, hcne, _, _, rfl, rfl, _, rfl, _, _, rfl, rfl, (by show 3 ≤ sizeLine; decide), fun q5 hq5 => ?_⟩⟩
        have ha1' := (Same.new (o := .tup [V.int ((c : Int) + 1), V.int (1 + ((j : Int) + 1).fmod (c : Int)), V.int (1 + (j : Int))]) hq5) _ _ ha1
        refine ⟨ar, RL, _, rfl, rfl, ha1', (by rw [hrl]; show 1 < sizeLine; decide), ?_⟩
        refine hN _ _ ⟨[r0, [c + 1, 1 + fm ((j : Int) + 1) c, 1 + j]], some (c + 1), _, rfl, Same.put (hS3.trans (Same.new hq5)) har, LD.app ha1' (DpAll.same (Same.new hq5) ha2) (NLs_rows [r0]) (d := rowP [c + 1, 1 + fm ((j : Int) + 1) c, 1 + j]) (dpRow3 (SqT.of (upd_same.trans ?_))) (NL_rowP _), ?_, (by show 2 ≤ 2; decide), (congrArg V.int e1c), fun t ht => by cases ht; exact hrg⟩
        · show some (HO.tup [V.int ((c : Int) + 1), V.int (1 + ((j : Int) + 1).fmod (c : Int)), V.int (1 + (j : Int))]) = _
          rw [e1f, e1c, e1j]
        · have f1 := fm_lt (x := (j : Int) + 1) (c := c) (by omega)
          intro r hr
          simp only [List.mem_cons, List.not_mem_nil, or_false] at hr
          rcases hr with rfl | rfl
          · exact hwr
          · exact wfRow3 (by omega) (by omega) (by omega) (by omega)
      | false =>
        refine ifF rfl ?_
        exact hN _ _ ⟨[r0], none, .non, rfl, hS3, hLD, fun r hr => by rw [List.mem_singleton.mp hr]; exact hwr, (by show 1 ≤ 2; decide), rfl, fun t ht => by cases ht⟩
    rintro σ' H4 ⟨rs, o, tv, rfl, hS4, hLD4, hwr4, hrl4, htv, hto⟩
    refine seq_by (fun σ' H' => ∃ (br : Addr) (rs : List Row) (o : Option Nat), σ' = [some (.int width), some (.int hop), some x, some (.int c), some (.ref af), some (.int i), some (.int j), some (.ref br), some (toldV0 o)] ∧ Same H2 H' ∧ LD K H' br (rs.map rowP) ∧ (∀ r ∈ rs, WFRow regs r) ∧ rs.length ≤ 20 ∧ (∀ t, o = some t → t < regs)) (fun D' hN _ _ _ => ?_) ?_
    · refine ⟨_, rfl, .inl ⟨_, rfl, _, rfl, _, _, rfl, rfl, hhne, _, rfl, _, _, rfl, rfl, rfl, _, rfl, ?_⟩⟩
      cases hb : decide (V.int ((i : Int).fmod (hop : Int)) = V.int ((hop : Int) - 1)) with
      | true =>
        refine ifT rfl ?_
        obtain ⟨RL, ha1, ha2⟩ := hLD4
        have hrl : RL.length = rs.length := by rw [DpAll.length ha2, List.length_map]
        refine ⟨_, rfl, _, rfl, _, rfl, _, rfl, _, _, rfl, rfl, c, x, j + 1, ds, rfl, by omega, by omega, by omega, Dp.same (hS.trans hS4) hx, hds, fun t rs' H5 hS5 hLD5 hwr5 hrl5 => ?_⟩
        obtain ⟨RL5, h51, h52⟩ := hLD5
        have hrl' : RL5.length = rs'.length := by rw [DpAll.length h52, List.length_map]
        refine ⟨ar, t, RL, RL5, rfl, rfl, hS5 _ _ ha1, h51, (by rw [hrl, hrl', sizeLine_eq]; omega), fun br hbr => ?_⟩
        have hS6 := (hS4.trans hS5).trans (Same.new (o := .lst (RL ++ RL5)) hbr)
        have hLD6 : LD K (upd H5 br (.lst (RL ++ RL5))) br ((rs ++ rs').map rowP) := ⟨_, upd_same, by rw [List.map_append]; exact DpAll.append (DpAll.same (hS5.trans (Same.new hbr)) ha2) (DpAll.same (Same.new hbr) h52)⟩
        have hw6 : ∀ r ∈ rs ++ rs', WFRow regs r := fun r hr => (List.mem_append.mp hr).elim (hwr4 r) (fun h => (hwr5 r h).mono (by omega))
        have hl6 : (rs ++ rs').length ≤ 20 := by rw [List.length_append]; omega
        refine ⟨_, rfl, .inl ⟨_, rfl, _, rfl, _, _, rfl, rfl, hhne, rfl, _, rfl, ?_⟩⟩
        cases hb2 : decide (V.int ((width : Int).fmod (hop : Int)) = V.int 0) with
        | true =>
          refine ifT rfl ?_
          refine ⟨_, rfl, _, _, rfl, rfl, .inl ⟨_, rfl, _, rfl, _, _, rfl, rfl, hcne, _, _, rfl, rfl, ?_⟩⟩
          have f1 := fm_lt (x := (j : Int) + 2) (c := c) (by omega)
          exact hN _ _ ⟨br, rs ++ rs', some (1 + fm ((j : Int) + 2) c), congrArg (fun z : Int => [some (V.int (width : Int)), some (.int (hop : Int)), some x, some (.int (c : Int)), some (.ref af), some (.int (i : Int)), some (.int (j : Int)), some (.ref br), some (.int z)]) (e1f _), hS6, hLD6, hw6, hl6, fun t ht => by cases ht; omega⟩
        | false =>
          refine ifF rfl ?_
          exact hN _ _ ⟨br, rs ++ rs', o, by rw [htv]; rfl, hS6, hLD6, hw6, hl6, hto⟩
      | false =>
        refine ifF rfl ?_
        exact hN _ _ ⟨ar, rs, o, by rw [htv], hS4, hLD4, hwr4, by omega, hto⟩
    rintro σ' H5 ⟨br, rs5, o5', rfl, hS5, ⟨RL5, h51, h52⟩, hwr5, hrl5, hto5⟩
    -- phases.append((tuple(rows), told))
    have hf5 := hS5 _ _ h1
    refine ⟨_, rfl, .inl ⟨rfl, _, SqL.of hf5⟩, _, rfl, br, RL5, rfl, .inl ⟨SqL.of h51, fun l hl => ⟨_, rfl, (by show 2 ≤ sizeLine; decide), fun q7 hq7 => ?_⟩⟩⟩
    have hS7 := (Same.new (o := .tup RL5) hl).trans (Same.new (o := .tup [.ref l, toldV0 o5']) hq7)
    have hf7 := hS7 _ _ hf5
    refine ⟨af, PL, _, rfl, rfl, hf7, (by rw [hPl, sizeLine_eq]; omega), ?_⟩
    have hph : WFPh regs (rs5, o5') := ⟨hwr5, by show rs5.length ≤ 100; omega, hto5⟩
    have hD : Dp K (upd (upd H5 l (.tup RL5)) q7 (.tup [.ref l, toldV0 o5'])) (.ref q7) (phaseP (rs5, o5')) := dpPhase (Dp.same (Same.new hq7) (LD.tup h51 h52 hl)) (dp_told0 _) (SqT.of upd_same)
    obtain ⟨PL8, h81, h82⟩ := LD.app hf7 (DpAll.same (hS5.trans hS7) h2) (NLs_phases phs) hD (NL_phaseP _)
    refine ⟨⟨_, _, _, _, rfl⟩, Same.put ((hS.trans hS5).trans hS7) haf, PL8, phs ++ [(rs5, o5')], h81, ?_, ?_, ?_⟩
    · rw [List.map_append]
      exact h82
    · rw [List.length_append, h3]; rfl
    · intro ph hp
      rcases List.mem_append.mp hp with hp | hp
      · exact h4 ph hp
      · rw [List.mem_singleton.mp hp]
        exact ⟨hph, hrl5⟩
  · rintro σ' H1 ⟨⟨o5, o6, o7, o8, rfl⟩, hS, PL, phs, h1, h2, h3, h4⟩
    rw [en] at h3
    have hhne : (hop : Int) ≠ 0 := by omega
    have hwz : (width : Int).fmod (hop : Int) = ((width % hop : Nat) : Int) := fmodN _ _
    have fin : ∀ (z : Int) (p5 q5 : Addr), z = (regs : Int) → H1 p5 = none → (upd H1 p5 (.tup PL)) q5 = none → Q (.ref q5) (upd (upd H1 p5 (.tup PL)) q5 (.tup [.int z, .ref p5])) := fun z p5 q5 hz hp5 hq5 => by
      subst hz
      have S := (hS.trans (Same.new (o := .tup PL) hp5)).trans (Same.new (o := .tup [.int (regs : Int), .ref p5]) hq5)
      have hle : 1 ≤ hop * c := Nat.mul_pos hh1 (by omega)
      refine q _ ⟨regs, phs⟩ _ S ?_ ?_
      · exact .tup (SqT.of upd_same) (.cons (.int _) (.cons (Dp.same (Same.new hq5) (LD.tup h1 h2 hp5)) .nil))
      · exact ⟨⟨by show 1 ≤ regs; omega, by show regs ≤ 1000; omega, by show 1 ≤ phs.length; omega, by show phs.length ≤ 1000; omega, fun ph hp => (h4 ph hp).1⟩, by show regs ≤ 20; omega, by show phs.length ≤ 20; omega, fun ph hp => (h4 ph hp).2⟩
    refine ⟨_, rfl, _, _, rfl, rfl, _, rfl, .inl ⟨_, rfl, _, rfl, _, _, rfl, rfl, hhne, _, _, rfl, rfl, .inr ⟨_, rfl, _, _, rfl, rfl, _, rfl, af, PL, rfl, .inl ⟨SqL.of h1, fun p5 hp5 => ⟨(by show 2 ≤ sizeLine; decide), fun q5 hq5 => fin _ p5 q5 ?_ hp5 hq5⟩⟩⟩⟩⟩
    rw [hwz]
    show (c : Int) + 1 + (if decide ((0 : Int) < ((width % hop : Nat) : Int)) = true then 1 else 0) = (regs : Int)
    rw [← hregs]
    by_cases hz : width % hop > 0
    · rw [if_pos hz, if_pos (decide_eq_true (by omega))]
      omega
    · rw [if_neg hz, if_neg (by rw [decide_eq_false (by omega)]; exact Bool.false_ne_true)]
      omega
end
end U3


namespace U3
open PySem PySem.Spec PyProof.Rows L2
section
variable {P : Program} {w : World} {K : PySem.W.Frag} {mg : Str → Option Value} {base : Heap}
/-! _law_ready(corners, chords) -/
theorem Mk.of {regs n : Nat} {phs : List (List Row × Option Nat)} (h1 : 1 ≤ regs) (h2 : regs ≤ n) (h3 : 1 ≤ phs.length) (h4 : phs.length ≤ n) (h : ∀ ph ∈ phs, WFPh regs ph ∧ ph.1.length ≤ n) (hn : n ≤ 1000) : Mk ⟨regs, phs⟩ n :=
  ⟨⟨h1, by show regs ≤ 1000; omega, h3, by show phs.length ≤ 1000; omega, fun ph hp => (h ph hp).1⟩, h2, h4, fun ph hp => (h ph hp).2⟩
theorem Dp.prog {H : Hp} {a l : Addr} {regs : Nat} {phs : List (List Row × Option Nat)} (h1 : SqT K H a [.int regs, .ref l]) (h2 : Dp K H (.ref l) (.tuple (phs.map phaseP))) : Dp K H (.ref a) (toD ⟨regs, phs⟩) := .tup h1 (.cons (.int _) (.cons h2 .nil))
def sp_law_ready (K : PySem.W.Frag) : Sp := fun vs H Q _ => ∃ (c : Nat) (x : V) (ds : List PyData), vs = [.int c, x] ∧ 2 ≤ c ∧ c ≤ 10 ∧ Dp K H x (.tuple ds) ∧ ChD ds ∧ ∀ v p H', Same H H' → Dp K H' v (toD p) → Mk p 20 → Q v H'
-- slots: 0:corners 1:chords_here 2:phases 3:v 4:rows | cells: []
theorem sc_law_ready : FnScope ["_law_corners", "_law_chords_here", "_law_phases", "_law_v", "_law_rows"] ["_law_corners", "_law_chords_here"] (defScope s_law_ready) := ⟨rfl, rfl, rfl, by decide +kernel, rfl, by decide +kernel, by decide +kernel⟩
theorem ok_law_ready (T : Txt K mg) : FnOk P w K mg base CX0 2 (He.ga K "_law_ready") (fdA K (He.ga K "_law_ready")) ["_law_corners", "_law_chords_here"] (sp_law_ready K) := by
  refine T.F_law_ready.ok sc_law_ready (fun vs H Q E h => by obtain ⟨c, x, ds, rfl, _⟩ := h; rfl) (fun cdv A outer s H vs Q E hr h => ⟨_, PSs.nox ((pss_cons (ps_set (i := 2) sc_law_ready.nd rfl (Or.inl rfl) (pe_lst pa_nil))
(pss_cons (ps_for PassesOwn.never rfl (pi_range2 (by rfl) T.m_range (pa_cons pe_int (pa_cons (pe_op op_add (pv 0) pe_int) pa_nil))) (pg_name (i := 3) sc_law_ready.nd rfl (Or.inl rfl))
(pss_cons (ps_set (i := 4) sc_law_ready.nd rfl (Or.inl rfl) (pe_op op_cat (pe_lst (pa_cons (pe_tup (pa_cons (pe_op op_add (pv 0) pe_int) (pa_cons (pe_op op_add pe_int (pe_op op_modN (pe_callTy call_int1 (by rfl) T.m_int bt_int (pa_cons (pv 3) pa_nil)) (pv 0))) (pa_cons pe_int pa_nil)))) (pa_cons (pe_tup (pa_cons (pv 3) (pa_cons pe_int pa_nil))) pa_nil))) (pe_call (ok_law_chain T) (hr.mono (by decide)) (by rfl) T.g_law_chain T.F_law_chain.kp T.b_law_chain .nil pass0 (pa_cons (pv 0) (pa_cons (pv 1) (pa_cons (pv 3) pa_nil))))))
(pss_cons (ps_expr (pe_bm PySem.F.plainAttrs_list PySem.F.slot_list_append PySem.F.type_list_append mt_append (pv 2) (pa_cons (pe_tup (pa_cons (pe_callTy call_tuple_of (by rfl) T.m_tuple bt_tuple (pa_cons (pv 4) pa_nil)) (pa_cons (pe_op op_add (pv 0) pe_int) pa_nil))) pa_nil)))
pss_nil)))
(pss_cons (ps_ret (pe_tup (pa_cons (pe_op op_add (pv 0) pe_int) (pa_cons (pe_callTy call_tuple_of (by rfl) T.m_tuple bt_tuple (pa_cons (pv 2) pa_nil)) pa_nil))))
pss_nil)))), ?_⟩)
  obtain ⟨c, x, ds, rfl, hc1, hc2, hx, hds, q⟩ := h
  have hcne : (c : Int) ≠ 0 := by omega
  have e1f : ∀ z : Int, (1 : Int) + z.fmod (c : Int) = ((1 + fm z c : Nat) : Int) := fun z => by rw [fm_eq (by omega)]; omega
  have e1c : (c : Int) + 1 = ((c + 1 : Nat) : Int) := by omega
  refine ⟨(by show 0 ≤ sizeLine; decide), fun af haf => ?_⟩
  have en : ((c : Int) + 1 - 1).toNat = c := by omega
  refine ⟨_, rfl, _, _, rfl, rfl, _, _, rfl, ⟨by omega, by omega, by omega, by omega⟩, for_it (walk_range (lo := 1) (n := ((c : Int) + 1 - 1).toNat))
    (fun i σ' H' => (∃ (o3 o4 : Option V), σ' = [some (.int c), some x, some (.ref af), o3, o4]) ∧ Same H H' ∧ ∃ (PL : List V) (phs : List (List Row × Option Nat)), H' af = some (.lst PL) ∧ DpAll K H' PL (phs.map phaseP) ∧ phs.length = i ∧ ∀ ph ∈ phs, WFPh (c + 2) ph ∧ ph.1.length ≤ 20) ?_ (fun _ _ _ _ _ => trivial) ?_ ?_⟩
  · exact ⟨⟨_, _, rfl⟩, Same.new haf, [], [], upd_same, .nil, rfl, fun ph hph => by cases hph⟩
  · rintro i x' σ' H1 H2 hi ⟨⟨o3, o4, rfl⟩, hS, PL, phs, h1, h2, h3, h4⟩ ⟨rfl, rfl⟩
    rw [en] at hi
    have hPl : PL.length = i := by rw [DpAll.length h2, List.length_map, h3]
    have ei : (1 : Int) + (i : Int) = ((1 + i : Nat) : Int) := by omega
    show tSeq _ _ _ (List.set _ 3 (some (V.int ((1 : Int) + (i : Int))))) H2
    rw [ei]
    generalize hv : 1 + i = v
    refine ⟨_, rfl, _, _, rfl, rfl, _, rfl, .inl ⟨_, rfl, _, rfl, _, _, rfl, rfl, hcne, _, _, rfl, rfl, (by show 3 ≤ sizeLine; decide), fun q1 hq1 => ⟨_, rfl, (by show 2 ≤ sizeLine; decide), fun q2 hq2 => ⟨(by show 2 ≤ sizeLine; decide), fun ar har => ⟨_, rfl, _, rfl, _, rfl, c, x, v, ds, rfl, by omega, by omega, by omega, ?_, hds, fun t rs' H5 hS5 hLD5 hwr5 hrl5 => ?_⟩⟩⟩⟩⟩
    · exact Dp.same (((hS.trans (Same.new hq1)).trans (Same.new hq2)).trans (Same.new har)) hx
    have S0 := (((Same.new (o := .tup [V.int ((c : Int) + 1), V.int (1 + (v : Int).fmod (c : Int)), V.int 0]) hq1).trans (Same.new (o := .tup [V.int v, V.int 0]) hq2)).trans (Same.new (o := .lst [V.ref q1, V.ref q2]) har)).trans hS5
    have a1 := ((Same.new (o := .tup [V.int v, V.int 0]) hq2).trans (Same.new (o := .lst [V.ref q1, V.ref q2]) har)).trans hS5 _ _ (upd_same : upd H2 q1 (.tup [V.int ((c : Int) + 1), V.int (1 + (v : Int).fmod (c : Int)), V.int 0]) q1 = _)
    have a2 := (Same.new (o := .lst [V.ref q1, V.ref q2]) har).trans hS5 _ _ (upd_same : upd (upd H2 q1 (.tup [V.int ((c : Int) + 1), V.int (1 + (v : Int).fmod (c : Int)), V.int 0])) q2 (.tup [V.int v, V.int 0]) q2 = _)
    have a3 : H5 ar = some (.lst [V.ref q1, V.ref q2]) := hS5 _ _ upd_same
    rw [e1f, e1c] at a1
    obtain ⟨RL5, h51, h52⟩ := hLD5
    have hrl' : RL5.length = rs'.length := by rw [DpAll.length h52, List.length_map]
    refine ⟨ar, t, _, RL5, rfl, rfl, a3, h51, (by show 2 + RL5.length ≤ sizeLine; rw [hrl', sizeLine_eq]; omega), fun br hbr => ?_⟩
    have hS6 := S0.trans (Same.new (o := .lst ([V.ref q1, V.ref q2] ++ RL5)) hbr)
    have a1' := (Same.new (o := .lst ([V.ref q1, V.ref q2] ++ RL5)) hbr) _ _ a1
    have a2' := (Same.new (o := .lst ([V.ref q1, V.ref q2] ++ RL5)) hbr) _ _ a2
    have f1 := fm_lt (x := (v : Int)) (c := c) (by omega)
    have h61 : upd H5 br (.lst ([V.ref q1, V.ref q2] ++ RL5)) br = some (.lst ([V.ref q1, V.ref q2] ++ RL5)) := upd_same
    have h62 : DpAll K (upd H5 br (.lst ([V.ref q1, V.ref q2] ++ RL5))) ([V.ref q1, V.ref q2] ++ RL5) (([[c + 1, 1 + fm v c, 0], [v, 0]] ++ rs').map rowP) := by
      rw [List.map_append]
      exact DpAll.append (.cons (dpRow3 (SqT.of a1')) (.cons (dpRow2 (SqT.of a2')) .nil)) (DpAll.same (Same.new hbr) h52)
    have hw6 : ∀ r ∈ [[c + 1, 1 + fm v c, 0], [v, 0]] ++ rs', WFRow (c + 2) r := fun r hr => by
      rcases List.mem_append.mp hr with hr | hr
      · simp only [List.mem_cons, List.not_mem_nil, or_false] at hr
        rcases hr with rfl | rfl
        · exact wfRow3 (by omega) (by omega) (by omega) (by omega)
        · exact wfRow2 (by omega) (by omega) (by omega)
      · exact (hwr5 r hr).mono (by omega)
    have hl6 : ([[c + 1, 1 + fm v c, 0], [v, 0]] ++ rs').length ≤ 20 := by
      rw [List.length_append]
      show 2 + rs'.length ≤ 20
      omega
    have hS7 := hS.trans hS6
    have hf5 := hS6 _ _ h1
    have h2' := DpAll.same hS6 h2
    generalize upd H5 br (.lst ([V.ref q1, V.ref q2] ++ RL5)) = H6 at *
    generalize [[c + 1, 1 + fm v c, 0], [v, 0]] ++ rs' = rs6 at *
    generalize [V.ref q1, V.ref q2] ++ RL5 = RL6 at *
    -- phases.append((tuple(rows), corners + 1))
    refine ⟨_, rfl, .inl ⟨rfl, _, SqL.of hf5⟩, _, rfl, br, RL6, rfl, .inl ⟨SqL.of h61, fun l hl => ⟨_, rfl, _, _, rfl, rfl, (by show 2 ≤ sizeLine; decide), fun q7 hq7 => ?_⟩⟩⟩
    have hS8 := (Same.new (o := .tup RL6) hl).trans (Same.new (o := .tup [.ref l, V.int ((c : Int) + 1)]) hq7)
    have hf7 := hS8 _ _ hf5
    refine ⟨af, PL, _, rfl, rfl, hf7, (by rw [hPl, sizeLine_eq]; omega), ?_⟩
    have hph : WFPh (c + 2) (rs6, some (c + 1)) := ⟨hw6, by show rs6.length ≤ 100; omega, fun t ht => by cases ht; omega⟩
    have hD : Dp K (upd (upd H6 l (.tup RL6)) q7 (.tup [.ref l, V.int ((c : Int) + 1)])) (.ref q7) (phaseP (rs6, some (c + 1))) := dpPhase (Dp.same (Same.new hq7) (LD.tup h61 h62 hl)) (by rw [e1c]; exact .int _) (SqT.of upd_same)
    obtain ⟨PL8, h81, h82⟩ := LD.app hf7 (DpAll.same hS8 h2') (NLs_phases phs) hD (NL_phaseP _)
    refine ⟨⟨_, _, rfl⟩, Same.put (hS7.trans hS8) haf, PL8, phs ++ [(rs6, some (c + 1))], h81, ?_, ?_, ?_⟩
    · rw [List.map_append]
      exact h82
    · rw [List.length_append, h3]; rfl
    · intro ph hp
      rcases List.mem_append.mp hp with hp | hp
      · exact h4 ph hp
      · rw [List.mem_singleton.mp hp]
        exact ⟨hph, hl6⟩
  · rintro σ' H1 ⟨⟨o3, o4, rfl⟩, hS, PL, phs, h1, h2, h3, h4⟩
    rw [en] at h3
    refine ⟨_, rfl, _, _, rfl, rfl, _, rfl, af, PL, rfl, .inl ⟨SqL.of h1, fun p5 hp5 => ⟨(by show 2 ≤ sizeLine; decide), fun q5 hq5 => ?_⟩⟩⟩
    refine q _ ⟨c + 2, phs⟩ _ ((hS.trans (Same.new hp5)).trans (Same.new hq5)) (Dp.prog (l := p5) (SqT.of upd_same) (Dp.same (Same.new hq5) (LD.tup h1 h2 hp5))) (Mk.of (by omega) (by omega) (by omega) (by omega) h4 (by omega))
end
end U3


namespace U3
open PySem PySem.Spec PyProof.Rows L2
section
variable {P : Program} {w : World} {K : PySem.W.Frag} {mg : Str → Option Value} {base : Heap}
/-! _law_line(pool, width) -/
theorem LD.but {H H' : Hp} {a p : Addr} {ds : List PyData} {xs : List V} (h1 : H a = some (.lst xs)) (h2 : DpAll K H xs ds) (hn : NLs ds = true) (hb : But p H H') (hp : ∃ ys, H p = some (.lst ys)) (ne : a ≠ p) : H' a = some (.lst xs) ∧ DpAll K H' xs ds := by
  obtain ⟨ys, hy⟩ := hp
  exact ⟨hb.at h1 ne, DpAll.keep (TK.but hb hy) hn h2⟩
def sp_law_line (K : PySem.W.Frag) : Sp := fun vs H Q _ => ∃ (p : Addr) (width : Nat), vs = [.ref p, .int width] ∧ Pool H p ∧ 1 ≤ width ∧ width ≤ 10 ∧ ∀ v pr H', But p H H' → Pool H' p → Dp K H' v (toD pr) → Mk pr 20 → Q v H'
-- slots: 0:pool_here 1:width 2:i 3:rows 4:last | cells: []
theorem sc_law_line : FnScope ["_law_pool_here", "_law_width", "_law_i", "_law_rows", "_law_last"] ["_law_pool_here", "_law_width"] (defScope s_law_line) := ⟨rfl, rfl, rfl, by decide +kernel, rfl, by decide +kernel, by decide +kernel⟩
theorem ok_law_line (T : Txt K mg) : FnOk P w K mg base CX0 2 (He.ga K "_law_line") (fdA K (He.ga K "_law_line")) ["_law_pool_here", "_law_width"] (sp_law_line K) := by
  refine T.F_law_line.ok sc_law_line (fun vs H Q E h => by obtain ⟨p, width, rfl, _⟩ := h; rfl) (fun cdv A outer s H vs Q E hr h => ⟨_, PSs.nox ((pss_cons (ps_set (i := 3) sc_law_line.nd rfl (Or.inl rfl) (pe_op op_cat (pe_lc (own := [("_law_i", 2)]) (g := (gName 2)) rfl sc_law_line.nd (pi_range3 (by rfl) T.m_range (pa_cons (pe_op op_sub (pv 1) pe_int) (pa_cons pe_int (pa_cons (pe_un un_neg pe_int) pa_nil)))) (blkOk_by (own := [("_law_i", 2)]) (by kernel_rfl)) (fun _ _ _ _ _ => (pg_name (i := 2) sc_law_line.nd rfl (Or.inl rfl))) (fun _ _ _ _ _ => pts_nil) (fun _ _ _ _ _ => (pe_tup (pa_cons (pe_op op_add (pv 2) pe_int) (pa_cons (pv 2) pa_nil))))) (pe_lst (pa_cons (pe_tup (pa_cons pe_int (pa_cons pe_int pa_nil))) pa_nil))))
(pss_cons (ps_set (i := 4) sc_law_line.nd rfl (Or.inl rfl) (pe_op op_add pe_int (pe_op op_mul (pe_op op_sub (pv 1) pe_int) (pe_call (ok_law_draw T) (hr.mono (by decide)) (by rfl) T.g_law_draw T.F_law_draw.kp T.b_law_draw .nil pass0 (pa_cons (pv 0) (pa_cons pe_int pa_nil))))))
(pss_cons (ps_for PassesOwn.never rfl (pi_range2 (by rfl) T.m_range (pa_cons pe_int (pa_cons (pe_op op_add (pv 1) pe_int) pa_nil))) (pg_name (i := 2) sc_law_line.nd rfl (Or.inl rfl))
(pss_cons (ps_if (PW.pt (pw_or (pt_cmpR op_eq (pv 4) pe_int (nomark _)) (pw_or1 (pt_cmpR op_eq (pv 4) (pe_op op_add (pv 1) pe_int) (nomark _)))))
(pss_cons (ps_expr (pe_bm PySem.F.plainAttrs_list PySem.F.slot_list_append PySem.F.type_list_append mt_append (pv 3) (pa_cons (pe_tup (pa_cons (pe_op op_add (pv 1) pe_int) (pa_cons (pv 2) (pa_cons (pv 4) pa_nil)))) pa_nil)))
(pss_cons (ps_set (i := 4) sc_law_line.nd rfl (Or.inl rfl) (pe_op op_add (pv 1) pe_int))
pss_nil))
(pss_cons (ps_expr (pe_bm PySem.F.plainAttrs_list PySem.F.slot_list_append PySem.F.type_list_append mt_append (pv 3) (pa_cons (pe_tup (pa_cons (pe_op op_add (pv 1) pe_int) (pa_cons (pv 4) (pa_cons (pe_op op_sub (pe_op op_add (pv 1) pe_int) (pv 2)) pa_nil)))) pa_nil)))
(pss_cons (ps_set (i := 4) sc_law_line.nd rfl (Or.inl rfl) (pe_op op_add (pv 1) pe_int))
pss_nil)))
pss_nil))
(pss_cons (ps_ret (pe_tup (pa_cons (pe_op op_add (pv 1) pe_int) (pa_cons (pe_tup (pa_cons (pe_tup (pa_cons (pe_callTy call_tuple_of (by rfl) T.m_tuple bt_tuple (pa_cons (pv 3) pa_nil)) (pa_cons (pv 4) pa_nil))) pa_nil)) pa_nil))))
pss_nil))))), ?_⟩)
  obtain ⟨p, n, rfl, hP, hn1, hn2, q⟩ := h
  have en0 : ((n : Int) - 1 - 0).toNat = n - 1 := by omega
  -- rows = [(i + 1, i) for i in range(width - 1, 0, -1)] + [(1, 0)]
  refine ⟨_, rfl, _, _, rfl, rfl, _, rfl, _, _, _, _, rfl, RgC.neg (by omega) (by omega) (by omega) (by omega), fun r hr' => lc_it (walk_rangeC (lo := (n : Int) - 1) (c := -1) (n := ((n : Int) - 1 - 0).toNat))
    (fun i H' => Same H H' ∧ ∃ (RL : List V) (rs : List Row), H' r = some (.lst RL) ∧ DpAll K H' RL (rs.map rowP) ∧ (∀ x ∈ rs, WFRow (n + 3) x) ∧ rs.length = i) ?_ (fun _ _ _ _ => trivial) ?_ ?_⟩
  · exact ⟨Same.new hr', [], [], upd_same, .nil, (fun x hx => by cases hx), rfl⟩
  · rintro i x H1 H2 hi ⟨hS, RL, rs, h1, h2, h3, h4⟩ ⟨rfl, rfl⟩
    rw [en0] at hi
    have hRl : RL.length = i := by rw [DpAll.length h2, List.length_map, h4]
    have eu : (n : Int) - 1 + (i : Nat) * (-1) = ((n - 1 - i : Nat) : Int) := by omega
    show gName 2 (V.int ((n : Int) - 1 + (i : Nat) * (-1))) _ _ _
    rw [eu]
    generalize hu : n - 1 - i = u
    refine ⟨rfl, _, rfl, _, _, rfl, rfl, _, rfl, (by show 2 ≤ sizeLine; decide), fun q1 hq1 => ?_⟩
    have h1' := (Same.new (o := .tup [V.int ((u : Int) + 1), V.int u]) hq1) _ _ h1
    refine ⟨RL, h1', (by rw [hRl, sizeLine_eq]; omega), Same.put (hS.trans (Same.new hq1)) hr', _, rs ++ [[u + 1, u]], upd_same, ?_, ?_, ?_⟩
    · rw [List.map_append]
      exact DpAll.append (DpAll.keep ((TK.of (Same.new hq1)).trans (TK.put h1')) (NLs_rows rs) h2) (.cons (Dp.keep (TK.put h1') (NL_rowP _) (dpRow2 (SqT.of upd_same))) .nil)
    · intro y hy
      rcases List.mem_append.mp hy with hy | hy
      · exact h3 y hy
      · rw [List.mem_singleton.mp hy]
        exact wfRow2 (by omega) (by omega) (by omega)
    · rw [List.length_append, h4]; rfl
  rintro H1 ⟨hS, RL, rs, h1, h2, h3, h4⟩
  rw [en0] at h4
  have hRl : RL.length = n - 1 := by rw [DpAll.length h2, List.length_map, h4]
  refine ⟨(by show 2 ≤ sizeLine; decide), fun q1 hq1 => ⟨(by show 1 ≤ sizeLine; decide), fun l2 hl2 => ?_⟩⟩
  have S2 := (Same.new (o := .tup [V.int 1, V.int 0]) hq1).trans (Same.new (o := .lst [V.ref q1]) hl2)
  refine ⟨r, l2, RL, _, rfl, rfl, S2 _ _ h1, upd_same, (by show RL.length + 1 ≤ sizeLine; rw [hRl, sizeLine_eq]; omega), fun ar har => ?_⟩
  have S3 := S2.trans (Same.new (o := .lst (RL ++ [V.ref q1])) har)
  have a1 := ((Same.new (o := .lst [V.ref q1]) hl2).trans (Same.new (o := .lst (RL ++ [V.ref q1])) har)) _ _ (upd_same : upd H1 q1 (.tup [V.int 1, V.int 0]) q1 = _)
  have h5 : upd (upd (upd H1 q1 (.tup [V.int 1, V.int 0])) l2 (.lst [V.ref q1])) ar (.lst (RL ++ [V.ref q1])) ar = some (.lst (RL ++ [V.ref q1])) := upd_same
  have h6 : DpAll K (upd (upd (upd H1 q1 (.tup [V.int 1, V.int 0])) l2 (.lst [V.ref q1])) ar (.lst (RL ++ [V.ref q1]))) (RL ++ [V.ref q1]) ((rs ++ [[1, 0]]).map rowP) := by
    rw [List.map_append]
    exact DpAll.append (DpAll.same S3 h2) (.cons (dpRow2 (SqT.of a1)) .nil)
  have hw5 : ∀ y ∈ rs ++ [[1, 0]], WFRow (n + 3) y := fun y hy => by
    rcases List.mem_append.mp hy with hy | hy
    · exact h3 y hy
    · rw [List.mem_singleton.mp hy]
      exact wfRow2 (by omega) (by omega) (by omega)
  have hl5 : (rs ++ [[1, 0]]).length = n := by
    rw [List.length_append, h4]
    show n - 1 + 1 = n
    omega
  have hSH := hS.trans S3
  have hra : ar ≠ p := fun z => by
    subst z
    obtain ⟨xs, hx⟩ := hP.some
    have := (hS.trans S2) _ _ hx
    rw [har] at this
    cases this
  have harH : H ar = none := Same.free (hS.trans S2) har
  generalize upd (upd (upd H1 q1 (.tup [V.int 1, V.int 0])) l2 (.lst [V.ref q1])) ar (.lst (RL ++ [V.ref q1])) = H5 at *
  generalize rs ++ [[1, 0]] = rs5 at *
  generalize RL ++ [V.ref q1] = RL5 at *
  clear a1 S2 S3 h1 h2 h3 h4 hS
  -- last = 1 + (width - 1) * draw(pool, 2)
  refine ⟨_, rfl, _, _, rfl, rfl, _, rfl, p, 2, rfl, hP.same hSH, by omega, by omega, fun v H6 hv hb6 hp6 => ⟨_, _, rfl, rfl, .inl ⟨by omega, by omega⟩, _, _, rfl, rfl, ?_⟩⟩
  have ev : (1 : Int) + ((n : Int) - 1) * (v : Int) = ((1 + (n - 1) * v : Nat) : Int) := by
    rw [Int.natCast_add, Int.natCast_mul, Int.natCast_sub hn1]
    rfl
  show tSeq _ _ _ (List.set _ 4 (some (V.int ((1 : Int) + ((n : Int) - 1) * (v : Int))))) H6
  rw [ev]
  have hla : 1 ≤ 1 + (n - 1) * v ∧ 1 + (n - 1) * v ≤ n + 2 := by
    have : (n - 1) * v ≤ (n - 1) * 1 := Nat.mul_le_mul_left _ (by omega)
    omega
  generalize 1 + (n - 1) * v = la at hla ⊢
  obtain ⟨h61, h62⟩ := LD.but h5 h6 (NLs_rows _) hb6 (hP.same hSH).some hra
  have hB6 : But p H H6 := (But.of hSH).trans hb6
  -- for i in range(2, width + 1)
  have en : ((n : Int) + 1 - 2).toNat = n - 1 := by omega
  refine ⟨_, rfl, _, _, rfl, rfl, _, _, rfl, ⟨by omega, by omega, by omega, by omega⟩, for_it (walk_range (lo := 2) (n := ((n : Int) + 1 - 2).toNat))
    (fun i σ' H' => (∃ (o2 : Option V) (la : Nat), 1 ≤ la ∧ la ≤ n + 2 ∧ σ' = [some (.ref p), some (.int n), o2, some (.ref ar), some (.int la)]) ∧ But p H H' ∧ Pool H' p ∧ ∃ (RL : List V) (rs : List Row), H' ar = some (.lst RL) ∧ DpAll K H' RL (rs.map rowP) ∧ (∀ x ∈ rs, WFRow (n + 3) x) ∧ rs.length = n + i) ?_ (fun _ _ _ _ _ => trivial) ?_ ?_⟩
  · exact ⟨⟨_, la, hla.1, hla.2, rfl⟩, hB6, hp6, RL5, rs5, h61, h62, hw5, hl5⟩
  · clear h61 h62 hB6 hp6 hla hw5 hl5 h5 h6 hb6
    rintro i x σ' H1 H2 hi ⟨⟨o2, la, hla1, hla2, rfl⟩, hB, hp, RL, rs, h1, h2, h3, h4⟩ ⟨rfl, rfl⟩
    rw [en] at hi
    have hRl : RL.length = n + i := by rw [DpAll.length h2, List.length_map, h4]
    have ei : (2 : Int) + (i : Int) = ((2 + i : Nat) : Int) := by omega
    show tSeq _ _ _ (List.set _ 2 (some (V.int ((2 : Int) + (i : Int))))) H2
    rw [ei]
    generalize hu : 2 + i = u
    -- the row at hand
    have go : ∀ (a b c : Nat) (ia ib ic : Int) (q1 : Addr), ia = (a : Int) → ib = (b : Int) → ic = (c : Int) → H2 q1 = none → 0 < a → a < n + 3 → b < n + 3 → c < n + 3 →
        upd H2 q1 (.tup [V.int ia, V.int ib, V.int ic]) ar = some (.lst RL) ∧ RL.length < sizeLine ∧ But p H (upd (upd H2 q1 (.tup [V.int ia, V.int ib, V.int ic])) ar (.lst (RL ++ [.ref q1]))) ∧ Pool (upd (upd H2 q1 (.tup [V.int ia, V.int ib, V.int ic])) ar (.lst (RL ++ [.ref q1]))) p ∧
        ∃ (RL' : List V) (rs' : List Row), upd (upd H2 q1 (.tup [V.int ia, V.int ib, V.int ic])) ar (.lst (RL ++ [.ref q1])) ar = some (.lst RL') ∧ DpAll K (upd (upd H2 q1 (.tup [V.int ia, V.int ib, V.int ic])) ar (.lst (RL ++ [.ref q1]))) RL' (rs'.map rowP) ∧ (∀ x ∈ rs', WFRow (n + 3) x) ∧ rs'.length = n + (i + 1) := by
      rintro a b c _ _ _ q1 rfl rfl rfl hq1 ha0 ha hb hc
      have S := Same.new (o := .tup [V.int a, V.int b, V.int c]) hq1
      have h1' := S _ _ h1
      obtain ⟨RL', e1, e2⟩ := LD.app h1' (DpAll.same S h2) (NLs_rows rs) (d := rowP [a, b, c]) (v := .ref q1) (dpRow3 (SqT.of upd_same)) (NL_rowP _)
      obtain ⟨xi, xj, hp1, hp2, hp3, hp4⟩ := hp.same S
      refine ⟨h1', (by rw [hRl, sizeLine_eq]; omega), ?_, ⟨xi, xj, by rw [upd_ne hra.symm]; exact hp1, hp2, hp3, hp4⟩, RL', rs ++ [[a, b, c]], e1, ?_, ?_, ?_⟩
      · intro b' o nb hb'
        rw [upd_ne (ne_of_none hb' harH)]
        exact S _ _ (hB _ _ nb hb')
      · rw [List.map_append]
        exact e2
      · intro y hy
        rcases List.mem_append.mp hy with hy | hy
        · exact h3 y hy
        · rw [List.mem_singleton.mp hy]
          exact wfRow3 ha0 ha hb hc
      · rw [List.length_append, h4]
        rfl
    have e2c : (n : Int) + 2 = ((n + 2 : Nat) : Int) := by omega
    have e1c : (n : Int) + 1 = ((n + 1 : Nat) : Int) := by omega
    have hop1 : ∀ {q1 : Addr}, H2 q1 = none → ∀ o, upd H2 q1 o ar = some (.lst RL) := fun hq1 o => (Same.new hq1) _ _ h1
    refine ⟨_, rfl, rfl, _, rfl, ?_⟩
    cases hb1 : decide (V.int la = V.int 1) with
    | true =>
      refine iteT ?_
      refine iteT ?_
      refine ⟨_, rfl, .inl ⟨rfl, _, SqL.of h1⟩, _, rfl, _, _, rfl, rfl, _, rfl, _, rfl, (by show 3 ≤ sizeLine; decide), fun q1 hq1 => ?_⟩
      obtain ⟨g1, g2, g3, g4, g5⟩ := go (n + 2) u la _ _ _ q1 e2c rfl rfl hq1 (by omega) (by omega) (by omega) (by omega)
      refine ⟨ar, RL, _, rfl, rfl, g1, g2, ?_⟩
      exact ⟨_, rfl, _, _, rfl, rfl, ⟨_, n + 2, by omega, by omega, congrArg (fun z : Int => [some (V.ref p), some (.int (n : Int)), some (.int (u : Int)), some (.ref ar), some (.int z)]) e2c⟩, g3, g4, g5⟩
    | false =>
      refine iteF ?_
      refine ⟨_, rfl, _, rfl, _, _, rfl, rfl, rfl, _, rfl, ?_⟩
      cases hb2 : decide (V.int la = V.int ((n : Int) + 2)) with
      | true =>
        refine iteT ?_
        refine ⟨_, rfl, .inl ⟨rfl, _, SqL.of h1⟩, _, rfl, _, _, rfl, rfl, _, rfl, _, rfl, (by show 3 ≤ sizeLine; decide), fun q1 hq1 => ?_⟩
        obtain ⟨g1, g2, g3, g4, g5⟩ := go (n + 2) u la _ _ _ q1 e2c rfl rfl hq1 (by omega) (by omega) (by omega) (by omega)
        refine ⟨ar, RL, _, rfl, rfl, g1, g2, ?_⟩
        exact ⟨_, rfl, _, _, rfl, rfl, ⟨_, n + 2, by omega, by omega, congrArg (fun z : Int => [some (V.ref p), some (.int (n : Int)), some (.int (u : Int)), some (.ref ar), some (.int z)]) e2c⟩, g3, g4, g5⟩
      | false =>
        refine iteF ?_
        refine ⟨_, rfl, .inl ⟨rfl, _, SqL.of h1⟩, _, rfl, _, _, rfl, rfl, _, rfl, _, rfl, _, _, rfl, rfl, _, rfl, _, _, rfl, rfl, (by show 3 ≤ sizeLine; decide), fun q1 hq1 => ?_⟩
        obtain ⟨g1, g2, g3, g4, g5⟩ := go (n + 1) la (n + 1 - u) _ _ ((n : Int) + 1 - (u : Int)) q1 e1c rfl (by omega) hq1 (by omega) (by omega) (by omega) (by omega)
        refine ⟨ar, RL, _, rfl, rfl, g1, g2, ?_⟩
        exact ⟨_, rfl, _, _, rfl, rfl, ⟨_, n + 1, by omega, by omega, congrArg (fun z : Int => [some (V.ref p), some (.int (n : Int)), some (.int (u : Int)), some (.ref ar), some (.int z)]) e1c⟩, g3, g4, g5⟩
  · rintro σ' H1 ⟨⟨o2, la, hla1, hla2, rfl⟩, hB, hp, RL, rs, h1, h2, h3, h4⟩
    rw [en] at h4
    have e3c : (n : Int) + 3 = ((n + 3 : Nat) : Int) := by omega
    refine ⟨_, rfl, _, _, rfl, rfl, _, rfl, ar, RL, rfl, .inl ⟨SqL.of h1, fun p1 hp1 => ⟨_, rfl, (by show 2 ≤ sizeLine; decide), fun p2 hp2 => ⟨(by show 1 ≤ sizeLine; decide), fun p3 hp3 => ⟨(by show 2 ≤ sizeLine; decide), fun p4 hp4 => ?_⟩⟩⟩⟩⟩
    have S34 := (Same.new (o := .tup [V.ref p2]) hp3).trans (Same.new (o := .tup [V.int ((n : Int) + 3), V.ref p3]) hp4)
    have S := ((Same.new (o := .tup RL) hp1).trans (Same.new (o := .tup [V.ref p1, V.int la]) hp2)).trans S34
    refine q _ ⟨n + 3, [(rs, some la)]⟩ _ (hB.trans (But.of S)) (hp.same S) (Dp.prog (l := p3) ?_ ?_) (Mk.of (by omega) (by omega) (by show 1 ≤ 1; decide) (by show 1 ≤ 20; decide) ?_ (by omega))
    · exact SqT.of (upd_same.trans (by show some (HO.tup [V.int ((n : Int) + 3), V.ref p3]) = _; rw [e3c]))
    · refine .tup (SqT.of ((Same.new hp4) _ _ upd_same)) (.cons ?_ .nil)
      exact Dp.same S34 (dpPhase (Dp.same (Same.new hp2) (LD.tup h1 h2 hp1)) (.int _) (SqT.of upd_same))
    · intro ph hp
      rw [List.mem_singleton.mp hp]
      exact ⟨⟨h3, by show rs.length ≤ 100; omega, fun t ht => by cases ht; show la < n + 3; omega⟩, by show rs.length ≤ 20; omega⟩
end
end U3


namespace U3
open PySem PySem.Spec PyProof.Rows L2
section
variable {P : Program} {w : World} {K : PySem.W.Frag} {mg : Str → Option Value} {base : Heap}
/-! parts: lists of a list of rows and a told -/
def Keep (S : List Addr) (H H' : Hp) : Prop := ∀ b u, b ∉ S → H b = some u → H' b = some u
section
variable {S : List Addr} {H H1 H2 : Hp} {a r p : Addr} {rs : List Row} {o : Option Nat} {n : Nat}
theorem Keep.refl : Keep S H H := fun _ _ _ h => h
theorem Keep.same (k : Keep S H H1) (e : Same H1 H2) : Keep S H H2 := fun b u n h => e _ _ (k b u n h)
theorem Keep.but (k : Keep S H H1) (e : But p H1 H2) (hp : p ∈ S) : Keep S H H2 := fun b u n h => e b u (fun z => n (z ▸ hp)) (k b u n h)
theorem Keep.put (k : Keep S H H1) (hp : p ∈ S) {x : HO} : Keep S H (upd H1 p x) := fun b u n h => by
  rw [upd_ne (fun z : b = p => n (by rw [z]; exact hp))]
  exact k b u n h
theorem Keep.tk (k : Keep S H H1) (hl : ∀ b ∈ S, ∃ xs, H b = some (.lst xs)) : TK K H H1 := fun b ys h => by
  have ne : ∀ {u : HO}, H b = some u → (∀ xs, u ≠ .lst xs) → b ∉ S := fun {u} hb hn hS => by
    obtain ⟨xs, hx⟩ := hl b hS
    rw [hb] at hx
    exact hn xs (Option.some.inj hx)
  rcases h with (h | ⟨o, h⟩) | h
  · exact .inl (.inl (k _ _ (ne h fun xs z => by cases z) h))
  · exact .inl (.inr ⟨o, k _ _ (ne h fun xs z => by cases z) h⟩)
  · exact .inr h
structure PartAt (K : PySem.W.Frag) (H : Hp) (a r : Addr) (rs : List Row) (o : Option Nat) (n : Nat) : Prop where
  ha : H a = some (.lst [.ref r, toldV0 o])
  hr : LD K H r (rs.map rowP)
  rows : ∀ x ∈ rs, WFRow n x
  told : ∀ t, o = some t → t < n
theorem PartAt.same (h : PartAt K H a r rs o n) (e : Same H H1) : PartAt K H1 a r rs o n := ⟨e _ _ h.ha, h.hr.same e, h.rows, h.told⟩
theorem PartAt.mono {m : Nat} (h : PartAt K H a r rs o n) (e : n ≤ m) : PartAt K H a r rs o m := ⟨h.ha, h.hr, fun x hx => (h.rows x hx).mono e, fun t ht => Nat.lt_of_lt_of_le (h.told t ht) e⟩
theorem PartAt.keep (h : PartAt K H a r rs o n) (k : Keep S H H1) (hl : ∀ b ∈ S, ∃ xs, H b = some (.lst xs)) (ha : a ∉ S) (hr : r ∉ S) : PartAt K H1 a r rs o n := by
  obtain ⟨xs, h1, h2⟩ := h.hr
  exact ⟨k _ _ ha h.ha, ⟨xs, k _ _ hr h1, DpAll.keep (Keep.tk k hl) (NLs_rows rs) h2⟩, h.rows, h.told⟩
theorem PartAt.draw (h : PartAt K H a r rs o n) (hp : Pool H p) (e : But p H H1) (na : a ≠ p) (nr : r ≠ p) : PartAt K H1 a r rs o n := by
  obtain ⟨xs, h1, h2⟩ := h.hr
  obtain ⟨ys, hy⟩ := hp.some
  exact ⟨e _ _ na h.ha, ⟨xs, e _ _ nr h1, DpAll.keep (TK.but e hy) (NLs_rows rs) h2⟩, h.rows, h.told⟩
theorem PartAt.setR {rs' : List Row} {RL' : List V} {m : Nat} (h : PartAt K H a r rs o n) (ne : a ≠ r) (h1 : LD K (upd H r (.lst RL')) r (rs'.map rowP)) (h2 : ∀ x ∈ rs', WFRow m x) (e : n ≤ m) : PartAt K (upd H r (.lst RL')) a r rs' o m :=
  ⟨by rw [upd_ne ne]; exact h.ha, h1, h2, fun t ht => Nat.lt_of_lt_of_le (h.told t ht) e⟩
theorem PartAt.setO {o' : Option Nat} {m : Nat} (h : PartAt K H a r rs o n) (ne : a ≠ r) (h2 : ∀ t, o' = some t → t < m) (e : n ≤ m) : PartAt K (upd H a (.lst [.ref r, toldV0 o'])) a r rs o' m :=
  ⟨upd_same, h.hr.other (NLs_rows rs) ⟨_, h.ha⟩ ne.symm, fun x hx => (h.rows x hx).mono e, h2⟩
theorem LD.ins {RL : List V} {x : Row} {v : V} (h1 : H r = some (.lst RL)) (h2 : DpAll K H RL (rs.map rowP)) (hd : Dp K H v (rowP x)) (i : Nat) : LD K (upd H r (.lst (RL.take i ++ [v] ++ RL.drop i))) r ((rs.take i ++ [x] ++ rs.drop i).map rowP) := by
  have h2' := DpAll.keep (TK.put h1 (o := .lst (RL.take i ++ [v] ++ RL.drop i))) (NLs_rows rs) h2
  refine ⟨_, upd_same, ?_⟩
  rw [List.map_append, List.map_append, List.map_take, List.map_drop]
  exact DpAll.append (DpAll.append (DpAll.take i h2') (.cons (Dp.keep (TK.put h1) (NL_rowP x) hd) .nil)) (DpAll.drop i h2')
theorem DpAll.set : ∀ {vs : List V} {ds : List PyData} (i : Nat) {v : V} {d : PyData}, DpAll K H vs ds → Dp K H v d → DpAll K H (vs.set i v) (ds.set i d)
  | _, _, _, _, _, .nil, _ => .nil
  | _, _, 0, _, _, .cons _ r, h => .cons h r
  | _, _, i + 1, _, _, .cons x r, h => .cons x (DpAll.set i r h)
theorem LD.set {RL : List V} {x : Row} {v : V} (h1 : H r = some (.lst RL)) (h2 : DpAll K H RL (rs.map rowP)) (hd : Dp K H v (rowP x)) (i : Nat) : LD K (upd H r (.lst (RL.set i v))) r ((rs.set i x).map rowP) := by
  have h2' := DpAll.keep (TK.put h1 (o := .lst (RL.set i v))) (NLs_rows rs) h2
  refine ⟨_, upd_same, ?_⟩
  rw [List.map_set]
  exact DpAll.set i h2' (Dp.keep (TK.put h1) (NL_rowP x) hd)
theorem mem_ins {x y : Row} {i : Nat} (h : y ∈ rs.take i ++ [x] ++ rs.drop i) : y ∈ rs ∨ y = x := by
  rcases List.mem_append.mp h with h | h
  · rcases List.mem_append.mp h with h | h
    · exact .inl (List.mem_of_mem_take h)
    · exact .inr (List.mem_singleton.mp h)
  · exact .inl (List.mem_of_mem_drop h)
theorem len_ins {x : Row} {i : Nat} : (rs.take i ++ [x] ++ rs.drop i).length = rs.length + 1 := by
  rw [List.length_append, List.length_append, List.length_take, List.length_drop]
  show min i rs.length + 1 + (rs.length - i) = _
  omega
theorem DpAll.nats_of : ∀ {ns : List Nat} {vs : List V}, DpAll K H vs (ns.map fun n : Nat => PyData.int n) → vs = ns.map fun n : Nat => V.int n
  | [], _, .nil => rfl
  | n :: ns, _, .cons (.int _) r => by rw [DpAll.nats_of r]; rfl
theorem rowP_inv {x : V} {row : Row} (h : Dp K H x (rowP row)) : ∃ q, x = .ref q ∧ SqT K H q (row.map fun n : Nat => V.int n) := by
  obtain ⟨q, xs, rfl, h1, h2⟩ := Dp.tup_inv h
  rw [DpAll.nats_of h2] at h1
  exact ⟨q, rfl, h1⟩
theorem Dp.row {q : Addr} {row : Row} (h : SqT K H q (row.map fun n : Nat => V.int n)) : Dp K H (.ref q) (rowP row) := .tup h (DpAll.nats row)
theorem row_split {row : Row} (h : WFRow n row) : ∃ x y tl, row = x :: y :: tl ∧ tl.length ≤ 1 := by
  rcases h.two_or with ⟨a, b, rfl, _⟩ | ⟨a, b, c, rfl, _⟩
  · exact ⟨a, b, [], rfl, Nat.zero_le _⟩
  · exact ⟨a, b, [c], rfl, Nat.le_refl _⟩
theorem wfRow {x y : Nat} {tl : List Nat} (hl : tl.length ≤ 1) (h0 : 0 < x) (hx : x < n) (hy : y < n) (ht : ∀ z ∈ tl, z < n) : WFRow n (x :: y :: tl) := by
  refine ⟨?_, fun z hz => ?_, h0⟩
  · show tl.length + 1 + 1 = 2 ∨ tl.length + 1 + 1 = 3
    omega
  · rcases List.mem_cons.mp hz with rfl | hz
    · exact hx
    · rcases List.mem_cons.mp hz with rfl | hz
      · exact hy
      · exact ht z hz
theorem WFRow.cons_inv {x y : Nat} {tl : List Nat} (h : WFRow n (x :: y :: tl)) : 0 < x ∧ x < n ∧ y < n ∧ (∀ z ∈ tl, z < n) ∧ tl.length ≤ 1 := by
  refine ⟨h.head, h.all x List.mem_cons_self, h.all y (List.mem_cons_of_mem _ List.mem_cons_self), fun z hz => h.all z (List.mem_cons_of_mem _ (List.mem_cons_of_mem _ hz)), ?_⟩
  have := h.len
  have e : (x :: y :: tl).length = tl.length + 2 := rfl
  omega
/-- a + b, both tuples -/
theorem catA_by {b : Addr} {xs ys : List V} {Q : VK} (ha : SqT K H a xs) (hb : SqT K H b ys) (hz : xs.length + ys.length ≤ sizeLine) (h : ∀ z H', Same H H' → SqT K H' z (xs ++ ys) → Q (.ref z) H') : rCatA K (.ref a) (.ref b) H Q := by
  refine ⟨a, b, xs, ys, rfl, rfl, ha, hb, hz, fun e => ?_, fun _ e => ?_, fun _ _ p hp => ?_⟩
  · subst e
    exact h b H (Same.refl _) hb
  · subst e
    exact h a H (Same.refl _) (by rw [List.append_nil]; exact ha)
  · exact h p _ (Same.new hp) (SqT.of upd_same)
theorem cutV_from {xs : List V} {n : Nat} : cutV xs (some (n : Int)) none = xs.drop n := by
  unfold cutV
  rw [HT.sIx_nat, HT.sIx_none]
  by_cases h : n ≤ xs.length
  · rw [Nat.min_eq_left h, List.take_of_length_le (by rw [List.length_drop]; omega)]
  · rw [Nat.min_eq_right (by omega), List.drop_eq_nil_of_le (by omega), List.drop_eq_nil_of_le (by omega), List.take_nil]
theorem noPart_by {σ : L2.St} {Q : Option Int → Hp → Prop} (h : Q none H) : tNoPart σ H Q := h
/-- a[n:], of a tuple -/
theorem cutA_by {xs : List V} {Q : VK} (n : Nat) (ha : SqT K H a xs) (h : ∀ z H', Same H H' → SqT K H' z (xs.drop n) → Q (.ref z) H') : rSlA K (.ref a) (some (n : Int)) none H Q := by
  refine ⟨a, xs, rfl, ha, fun e => ?_, fun _ p hp => ?_⟩
  · refine h a H (Same.refl _) ?_
    have e1 := e.1
    rw [HT.sIx_nat] at e1
    have : xs.drop n = xs := by
      by_cases hn : n = 0
      · rw [hn]; rfl
      · have : xs.length = 0 := by omega
        rw [List.eq_nil_of_length_eq_zero this]
        exact List.drop_nil
    rw [this]
    exact ha
  · rw [cutV_from]
    exact h p _ (Same.new hp) (SqT.of upd_same)
end
end
end U3


namespace U3
open PySem PySem.Spec PyProof.Rows L2
section
variable {P : Program} {w : World} {K : PySem.W.Frag} {mg : Str → Option Value} {base : Heap}
/-! _law_edit(pool, part, rows, place, fresh) -/
def sp_law_edit (K : PySem.W.Frag) : Sp := fun vs H Q _ => ∃ (p a r : Addr) (rs : List Row) (o : Option Nat) (place n : Nat), vs = [.ref p, .ref a, .ref r, .int place, .int n] ∧ Pool H p ∧ PartAt K H a r rs o n ∧ place ≤ rs.length ∧ rs.length ≤ 90 ∧ 1 ≤ n ∧ n ≤ 900 ∧ a ≠ p ∧ r ≠ p ∧ a ≠ r ∧
  ∀ H' rs' o', Keep [p, a, r] H H' → Pool H' p → PartAt K H' a r rs' o' (n + 1) → rs'.length ≤ rs.length + 1 → Q .non H'
-- slots: 0:pool_here 1:part 2:rows 3:place 4:fresh 5:kind 6:row 7:old 8:one | cells: ['_law_fresh', '_law_row']
theorem sc_law_edit : FnScope ["_law_pool_here", "_law_part", "_law_rows", "_law_place", "_law_fresh", "_law_kind", "_law_row", "_law_old", "_law_one"] ["_law_pool_here", "_law_part", "_law_rows", "_law_place", "_law_fresh"] (defScope s_law_edit) := ⟨rfl, rfl, rfl, by decide +kernel, rfl, by decide +kernel, by decide +kernel⟩
theorem ok_law_edit (T : Txt K mg) : FnOk P w K mg base CX0 2 (He.ga K "_law_edit") (fdA K (He.ga K "_law_edit")) ["_law_pool_here", "_law_part", "_law_rows", "_law_place", "_law_fresh"] (sp_law_edit K) := by
  refine T.F_law_edit.ok sc_law_edit (fun vs H Q E h => by obtain ⟨p, a, r, rs, o, place, n, rfl, _⟩ := h; rfl) (fun cdv A outer s H vs Q E hr h => ⟨_, PSs.nox ((pss_cons (ps_set (i := 5) sc_law_edit.nd rfl (Or.inl rfl) (pe_call (ok_law_draw T) (hr.mono (by decide)) (by rfl) T.g_law_draw T.F_law_draw.kp T.b_law_draw .nil pass0 (pa_cons (pv 0) (pa_cons pe_int pa_nil))))
(pss_cons (ps_if (pt_cmpR op_eq (pv 3) (pe_callB call_len_seq (by rfl) T.m_len bt_len (pa_cons (pv 2) pa_nil)) (nomark _))
(pss_cons (ps_if (pt_cmpR op_notN (pe_ix ix_list (pv 1) pe_int (fun _ _ => rfl)) pe_non (nomark _))
(pss_cons (ps_expr (pe_bm PySem.F.plainAttrs_list PySem.F.slot_list_append PySem.F.type_list_append mt_append (pv 2) (pa_cons (pe_tup (pa_cons (pv 4) (pa_cons (pe_ix ix_list (pv 1) pe_int (fun _ _ => rfl)) pa_nil))) pa_nil)))
(pss_cons (ps_asg (pv 4) (pg_sub (pv 1) pe_int set_list))
pss_nil))
pss_nil)
pss_nil)
(pss_cons (ps_if (pt_cmpR op_eq (pv 5) pe_int (nomark _))
(pss_cons (ps_expr (pe_bm PySem.F.plainAttrs_list PySem.F.slot_list_insert PySem.F.type_list_insert mt_insert (pv 2) (pa_cons (pv 3) (pa_cons (pe_tup (pa_cons (pv 4) (pa_cons (pe_call (ok_law_draw T) (hr.mono (by decide)) (by rfl) T.g_law_draw T.F_law_draw.kp T.b_law_draw .nil pass0 (pa_cons (pv 0) (pa_cons (pv 4) pa_nil))) (pa_cons (pe_call (ok_law_draw T) (hr.mono (by decide)) (by rfl) T.g_law_draw T.F_law_draw.kp T.b_law_draw .nil pass0 (pa_cons (pv 0) (pa_cons (pe_op op_add (pv 4) pe_int) pa_nil))) pa_nil)))) pa_nil))))
pss_nil)
(pss_cons (ps_if (pt_cmpR op_eq (pv 5) pe_int (nomark _))
(pss_cons (ps_expr (pe_bm PySem.F.plainAttrs_list PySem.F.slot_list_insert PySem.F.type_list_insert mt_insert (pv 2) (pa_cons (pv 3) (pa_cons (pe_tup (pa_cons (pv 4) (pa_cons (pe_call (ok_law_draw T) (hr.mono (by decide)) (by rfl) T.g_law_draw T.F_law_draw.kp T.b_law_draw .nil pass0 (pa_cons (pv 0) (pa_cons (pv 4) pa_nil))) pa_nil))) pa_nil))))
pss_nil)
(pss_cons (ps_set (i := 6) sc_law_edit.nd rfl (Or.inr rfl) (pe_ix ix_list (pv 2) (pv 3) (fun _ _ => rfl)))
(pss_cons (ps_expr (pe_bm PySem.F.plainAttrs_list PySem.F.slot_list_insert PySem.F.type_list_insert mt_insert (pv 2) (pa_cons (pv 3) (pa_cons (pe_tup (pa_cons (pv 4) (pa_cons (pe_ix ix_tup (pv 6) pe_int (fun _ _ => rfl)) pa_nil))) pa_nil))))
(pss_cons (ps_asg (pe_op op_catA (pe_tup (pa_cons (pe_ix ix_tup (pv 6) pe_int (fun _ _ => rfl)) (pa_cons (pv 4) pa_nil))) (pe_slice sl_tupA (pv 6) (po_some pe_int) po_none)) (pg_sub (pv 2) (pe_op op_add (pv 3) pe_int) set_list))
(pss_cons (ps_if (PW.pt (pw_and (pt_cmpR op_eq (pv 5) pe_int (nomark _)) (pw_and1 (pt_cmpR op_lt (pe_op op_add (pv 3) pe_int) (pe_callB call_len_seq (by rfl) T.m_len bt_len (pa_cons (pv 2) pa_nil)) (nomark _)))))
(pss_cons (ps_asg (pe_op op_catA (pe_tup (pa_cons (pv 4) pa_nil)) (pe_slice sl_tupA (pv 6) (po_some pe_int) po_none)) (pg_sub (pv 2) (pv 3) set_list))
(pss_cons (ps_asg (pv 6) (pg_sub (pv 2) (pe_op op_add (pv 3) pe_int) set_list))
(pss_cons (ps_set (i := 7) sc_law_edit.nd rfl (Or.inl rfl) (pe_ix ix_list (pv 2) (pe_op op_add (pv 3) pe_int) (fun _ _ => rfl)))
(pss_cons (ps_asg (pe_op op_catA (pe_tup (pa_cons (pe_ix ix_tup (pv 7) pe_int (fun _ _ => rfl)) pa_nil)) (pe_callTy call_tuple_of (by rfl) T.m_tuple bt_tuple (pa_cons (pe_lc (own := [("_law_one", 8)]) (g := (gName 8)) rfl sc_law_edit.nd (pi_tup (pe_slice sl_tupA (pv 7) (po_some pe_int) po_none)) (blkOk_by (own := [("_law_one", 8)]) (by kernel_rfl)) (fun _ _ _ _ _ => (pg_name (i := 8) sc_law_edit.nd rfl (Or.inl rfl))) (fun _ _ _ _ _ => pts_nil) (fun _ _ _ _ _ => (pe_ix (r := rIxT K) ix_tup (pe_tup (pa_cons (pv 8) (pa_cons (pv 4) pa_nil))) (pe_callTy call_int1 (by rfl) T.m_int bt_int (pa_cons (pe_cmpR op_eq (pv 8) (pe_ix (r := rIxT K) ix_tup (pv 6) pe_int (fun _ _ => rfl)) (nomark _)) pa_nil)) (fun _ _ => rfl)))) pa_nil))) (pg_sub (pv 2) (pe_op op_add (pv 3) pe_int) set_list))
pss_nil))))
pss_nil)
pss_nil)))))
pss_nil))
pss_nil))
pss_nil))), ?_⟩)
  obtain ⟨p, a, r, rs, o, place, n, rfl, hP, hA, hpl, hr90, hn1, hn2, nap, nrp, nar, q⟩ := h
  have mp : p ∈ [p, a, r] := List.mem_cons_self
  have ma : a ∈ [p, a, r] := List.mem_cons_of_mem _ List.mem_cons_self
  have mr : r ∈ [p, a, r] := List.mem_cons_of_mem _ (List.mem_cons_of_mem _ List.mem_cons_self)
  -- kind = draw(pool, 4)
  refine ⟨_, rfl, p, 4, rfl, hP, by omega, by omega, fun kd H1 hk hb1 hp1 => ?_⟩
  have hA1 := hA.draw hP hb1 nap nrp
  have k1 : Keep [p, a, r] H H1 := Keep.refl.but hb1 mp
  clear hA hP hb1
  obtain ⟨RL, h1, h2⟩ := id hA1.hr
  have hRl : RL.length = rs.length := by rw [DpAll.length h2, List.length_map]
  have poolR : ∀ {H' : Hp} {x : HO}, Pool H' p → Pool (upd H' r x) p := fun {H' x} ⟨xi, xj, e1, e2⟩ => ⟨xi, xj, by rw [upd_ne nrp.symm]; exact e1, e2⟩
  have poolA : ∀ {H' : Hp} {x : HO}, Pool H' p → Pool (upd H' a x) p := fun {H' x} ⟨xi, xj, e1, e2⟩ => ⟨xi, xj, by rw [upd_ne nap.symm]; exact e1, e2⟩
  refine ⟨_, rfl, _, rfl, _, _, rfl, .inl (SqL.of h1), rfl, _, rfl, ?_⟩
  cases hb : decide (V.int place = V.int (RL.length : Nat)) with
  | true =>
    refine ifT rfl ?_
    -- if part[1] is not None
    refine ⟨_, rfl, a, _, _, _, rfl, rfl, SqL.of hA1.ha, atI_nat (j := 1) rfl, ?_⟩
    cases o with
    | none =>
      refine ⟨rfl, _, rfl, ?_⟩
      refine ifF rfl ?_
      exact q _ rs none k1 hp1 (hA1.mono (by omega)) (by omega)
    | some t =>
      refine ⟨rfl, _, rfl, ?_⟩
      refine ifT rfl ?_
      -- rows.append((fresh, part[1]))
      refine ⟨_, rfl, .inl ⟨rfl, _, SqL.of h1⟩, _, rfl, _, rfl, a, _, _, _, rfl, rfl, SqL.of hA1.ha, atI_nat (j := 1) rfl, (by show 2 ≤ sizeLine; decide), fun q1 hq1 => ?_⟩
      have S1 := Same.new (o := .tup [V.int n, toldV0 (some t)]) hq1
      have hA2 := hA1.same S1
      refine ⟨r, RL, _, rfl, rfl, S1 _ _ h1, (by rw [hRl, sizeLine_eq]; omega), ?_⟩
      have ht := hA1.told t rfl
      have hA3 := hA2.setR (m := n + 1) (rs' := rs ++ [[n, t]]) (RL' := RL ++ [.ref q1]) nar (by
        obtain ⟨RL', e1, e2⟩ := LD.app (S1 _ _ h1) (DpAll.same S1 h2) (NLs_rows rs) (d := rowP [n, t]) (v := .ref q1) (dpRow2 (SqT.of upd_same)) (NL_rowP _)
        exact ⟨RL', e1, by rw [List.map_append]; exact e2⟩) (fun x hx => by
        rcases List.mem_append.mp hx with hx | hx
        · exact (hA1.rows x hx).mono (by omega)
        · rw [List.mem_singleton.mp hx]
          exact wfRow2 (by omega) (by omega) (by omega)) (by omega)
      -- part[1] = fresh
      refine ⟨_, rfl, _, rfl, a, _, 1, 1, rfl, rfl, hA3.ha, rfl, ?_⟩
      have hA4 := hA3.setO (o' := some n) (m := n + 1) nar (fun t ht => by cases ht; omega) (Nat.le_refl _)
      exact q _ _ (some n) ((((k1.same S1).put mr).put ma)) (poolA (poolR (hp1.same S1))) hA4 (by rw [List.length_append]; exact Nat.le_refl _)
  | false =>
    refine ifF rfl ?_
    have hpl2 : place < rs.length := by
      have hne : ¬ place = RL.length := fun z => by
        rw [z] at hb
        simp at hb
      omega
    refine ⟨_, rfl, rfl, _, rfl, ?_⟩
    cases hk0 : decide (V.int kd = V.int 0) with
    | true =>
      refine ifT rfl ?_
      -- rows.insert(place, (fresh, draw(pool, fresh), draw(pool, fresh + 1)))
      refine ⟨_, rfl, .inl ⟨rfl, _, SqL.of h1⟩, _, rfl, _, rfl, _, rfl, _, rfl, p, n, rfl, hp1, hn1, by omega, fun v1 H2 hv1 hb2 hp2 => ⟨_, rfl, _, rfl, _, _, rfl, rfl, p, n + 1, rfl, hp2, by omega, by omega, fun v2 H3 hv2 hb3 hp3 => ⟨(by show 3 ≤ sizeLine; decide), fun q1 hq1 => ?_⟩⟩⟩
      have hA3 := (hA1.draw hp1 hb2 nap nrp).draw hp2 hb3 nap nrp
      have hb23 := hb2.trans hb3
      obtain ⟨ys, hys⟩ := hp1.some
      have h13 := hb23.at h1 nrp
      have h23 := DpAll.keep (TK.but hb23 hys) (NLs_rows rs) h2
      have k3 := k1.but hb23 mp
      have S1 := Same.new (o := .tup [V.int n, V.int v1, V.int v2]) hq1
      refine ⟨r, RL, place, _, rfl, rfl, S1 _ _ h13, (by rw [hRl, sizeLine_eq]; omega), by omega, by omega, ?_⟩
      have hA4 := (hA3.same S1).setR (m := n + 1) nar (LD.ins (x := [n, v1, v2]) (v := .ref q1) (S1 _ _ h13) (DpAll.same S1 h23) (dpRow3 (SqT.of upd_same)) place) (fun x hx => by
        rcases mem_ins hx with hx | hx
        · exact (hA1.rows x hx).mono (by omega)
        · rw [hx]
          exact wfRow3 (by omega) (by omega) (by omega) (by omega)) (by omega)
      exact q _ _ _ ((k3.same S1).put mr) (poolR (hp3.same S1)) hA4 (by rw [len_ins]; exact Nat.le_refl _)
    | false =>
      refine ifF rfl ?_
      refine ⟨_, rfl, rfl, _, rfl, ?_⟩
      cases hk1 : decide (V.int kd = V.int 1) with
      | true =>
        refine ifT rfl ?_
        refine ⟨_, rfl, .inl ⟨rfl, _, SqL.of h1⟩, _, rfl, _, rfl, _, rfl, _, rfl, p, n, rfl, hp1, hn1, by omega, fun v1 H3 hv1 hb3 hp3 => ⟨(by show 2 ≤ sizeLine; decide), fun q1 hq1 => ?_⟩⟩
        have hA3 := hA1.draw hp1 hb3 nap nrp
        obtain ⟨ys, hys⟩ := hp1.some
        have h13 := hb3.at h1 nrp
        have h23 := DpAll.keep (TK.but hb3 hys) (NLs_rows rs) h2
        have k3 := k1.but hb3 mp
        have S1 := Same.new (o := .tup [V.int n, V.int v1]) hq1
        refine ⟨r, RL, place, _, rfl, rfl, S1 _ _ h13, (by rw [hRl, sizeLine_eq]; omega), by omega, by omega, ?_⟩
        have hA4 := (hA3.same S1).setR (m := n + 1) nar (LD.ins (x := [n, v1]) (v := .ref q1) (S1 _ _ h13) (DpAll.same S1 h23) (dpRow2 (SqT.of upd_same)) place) (fun x hx => by
          rcases mem_ins hx with hx | hx
          · exact (hA1.rows x hx).mono (by omega)
          · rw [hx]
            exact wfRow2 (by omega) (by omega) (by omega)) (by omega)
        exact q _ _ _ ((k3.same S1).put mr) (poolR (hp3.same S1)) hA4 (by rw [len_ins]; exact Nat.le_refl _)
      | false =>
        refine ifF rfl ?_
        -- row = rows[place]
        obtain ⟨rv, hrv, hdrv⟩ := DpAll.get h2 (i := place) (d := rowP rs[place]) (by rw [List.getElem?_map, List.getElem?_eq_getElem hpl2]; rfl)
        have hwr := hA1.rows rs[place] (List.getElem_mem hpl2)
        obtain ⟨x, y, tl, erow, _⟩ := row_split hwr
        rw [erow] at hdrv hwr
        obtain ⟨hx0, hxn, hyn, htn, htl⟩ := hwr.cons_inv
        obtain ⟨qr, rfl, hqr⟩ := rowP_inv hdrv
        refine ⟨_, rfl, _, rfl, r, RL, _, _, rfl, rfl, SqL.of h1, atI_nat hrv, ?_⟩
        -- rows.insert(place, (fresh, row[1]))
        refine ⟨_, rfl, .inl ⟨rfl, _, SqL.of h1⟩, _, rfl, _, rfl, _, rfl, qr, _, _, _, rfl, rfl, hqr, atI_nat (j := 1) rfl, (by show 2 ≤ sizeLine; decide), fun q1 hq1 => ?_⟩
        have S1 := Same.new (o := .tup [V.int n, V.int y]) hq1
        refine ⟨r, RL, place, _, rfl, rfl, S1 _ _ h1, (by rw [hRl, sizeLine_eq]; omega), by omega, by omega, ?_⟩
        have hA2 := (hA1.same S1).setR (m := n + 1) nar (LD.ins (x := [n, y]) (v := .ref q1) (S1 _ _ h1) (DpAll.same S1 h2) (dpRow2 (SqT.of upd_same)) place) (fun x' hx => by
          rcases mem_ins hx with hx | hx
          · exact (hA1.rows x' hx).mono (by omega)
          · rw [hx]
            exact wfRow2 (by omega) (by omega) (by omega)) (by omega)
        have hl2 : (rs.take place ++ [[n, y]] ++ rs.drop place).length = rs.length + 1 := len_ins
        have k2 := (k1.same S1).put (x := .lst (RL.take place ++ [V.ref q1] ++ RL.drop place)) mr
        have hp2 := poolR (x := .lst (RL.take place ++ [V.ref q1] ++ RL.drop place)) (hp1.same S1)
        have hqr2 : SqT K (upd (upd H1 q1 (.tup [V.int n, V.int y])) r (.lst (RL.take place ++ [V.ref q1] ++ RL.drop place))) qr ((x :: y :: tl).map fun n : Nat => V.int n) := (TK.put (S1 _ _ h1)) _ _ (Same.tup S1 hqr)
        show tSeq _ _ _ _ (upd (upd H1 q1 (.tup [V.int n, V.int y])) r (.lst (RL.take place ++ [V.ref q1] ++ RL.drop place)))
        generalize rs.take place ++ [[n, y]] ++ rs.drop place = rs2 at hA2 hl2
        generalize upd (upd H1 q1 (.tup [V.int n, V.int y])) r (.lst (RL.take place ++ [V.ref q1] ++ RL.drop place)) = H2 at *
        clear h1 h2 hRl hA1 S1 hq1 hrv hdrv hqr hp1 k1
        -- rows[place + 1] = (row[0], fresh) + row[2:]
        have ht2 : ((x :: y :: tl).map fun n : Nat => V.int n).drop 2 = tl.map fun n : Nat => V.int n := rfl
        obtain ⟨RL2, f1, f2⟩ := id hA2.hr
        have hR2 : RL2.length = rs.length + 1 := by rw [DpAll.length f2, List.length_map, hl2]
        refine ⟨_, rfl, qr, _, _, _, rfl, rfl, hqr2, atI_nat (j := 0) rfl, _, rfl, (by show 2 ≤ sizeLine; decide), fun q2 hq2 => ⟨_, rfl, _, rfl, ?_⟩⟩
        have S2 := Same.new (o := .tup [V.int x, V.int n]) hq2
        refine noPart_by ?_
        refine cutA_by 2 (Same.tup S2 hqr2) fun z3 H3 e3 h3 => ?_
        refine catA_by (xs := [V.int x, V.int n]) (Same.tup e3 (SqT.of upd_same)) h3 ?_ fun z4 H4 e4 h4 => ?_
        · rw [ht2, List.length_map]
          show 2 + tl.length ≤ sizeLine
          rw [sizeLine_eq]; omega
        have S4 := (S2.trans e3).trans e4
        refine ⟨_, rfl, _, rfl, _, _, rfl, rfl, r, RL2, _, place + 1, rfl, rfl, S4 _ _ f1, ixN_nat (j := place + 1) (by omega), ?_⟩
        have hA4 := (hA2.same S4).setR (m := n + 1) nar (LD.set (x := x :: n :: tl) (S4 _ _ f1) (DpAll.same S4 f2) (Dp.row (q := z4) h4) (place + 1)) (fun x' hx => by
          rcases List.mem_or_eq_of_mem_set hx with hx | hx
          · exact hA2.rows x' hx
          · rw [hx]
            exact wfRow htl hx0 (by omega) (by omega) fun z hz => Nat.lt_succ_of_lt (htn z hz)) (Nat.le_refl _)
        have hl4 : (rs2.set (place + 1) (x :: n :: tl)).length = rs.length + 1 := by rw [List.length_set, hl2]
        have k4 := (k2.same S4).put (x := .lst (RL2.set (place + 1) (.ref z4))) mr
        have hp4 := poolR (x := .lst (RL2.set (place + 1) (.ref z4))) (hp2.same S4)
        have hqr4 : SqT K (upd H4 r (.lst (RL2.set (place + 1) (.ref z4)))) qr ((x :: y :: tl).map fun n : Nat => V.int n) := (TK.put (S4 _ _ f1)) _ _ (Same.tup S4 hqr2)
        generalize rs2.set (place + 1) (x :: n :: tl) = rs4 at hA4 hl4
        generalize upd H4 r (.lst (RL2.set (place + 1) (.ref z4))) = H5 at *
        clear f1 f2 hR2 S2 S4 hq2 e3 h3 e4 h4 hqr2 hp2 k2 hA2 hl2 ht2
        refine ⟨_, rfl, rfl, _, rfl, ?_⟩
        cases hk3 : decide (V.int kd = V.int 3) with
        | false =>
          refine iteF ?_
          refine iteF ?_
          exact q _ _ _ k4 hp4 hA4 (by omega)
        | true =>
          refine iteT ?_
          obtain ⟨RL4, f1, f2⟩ := id hA4.hr
          have hR4 : RL4.length = rs.length + 1 := by rw [DpAll.length f2, List.length_map, hl4]
          refine ⟨_, rfl, _, _, rfl, rfl, _, rfl, _, _, rfl, .inl (SqL.of f1), _, _, rfl, rfl, _, rfl, ?_⟩
          by_cases hlt : (place : Int) + 2 < (RL4.length : Nat)
          · refine ifT (decide_eq_true hlt) ?_
            have hlt2 : place + 2 < rs4.length := by omega
            -- rows[place] = (fresh,) + row[1:]
            refine ⟨_, rfl, (by show 1 ≤ sizeLine; decide), fun q5 hq5 => ⟨_, rfl, _, rfl, ?_⟩⟩
            have S5 := Same.new (o := .tup [V.int n]) hq5
            refine noPart_by ?_
            refine cutA_by 1 (Same.tup S5 hqr4) fun z6 H6 e6 h6 => ?_
            refine catA_by (xs := [V.int n]) (Same.tup e6 (SqT.of upd_same)) h6 ?_ fun z7 H7 e7 h7 => ?_
            · show 1 + ((y :: tl).map fun n : Nat => V.int n).length ≤ sizeLine
              rw [List.length_map]
              show 1 + (tl.length + 1) ≤ sizeLine
              rw [sizeLine_eq]; omega
            have S7 := (S5.trans e6).trans e7
            refine ⟨_, rfl, _, rfl, r, RL4, _, place, rfl, rfl, S7 _ _ f1, ixN_nat (j := place) (by omega), ?_⟩
            have hA7 := (hA4.same S7).setR (m := n + 1) nar (LD.set (x := n :: y :: tl) (S7 _ _ f1) (DpAll.same S7 f2) (Dp.row (q := z7) h7) place) (fun x' hx => by
              rcases List.mem_or_eq_of_mem_set hx with hx | hx
              · exact hA4.rows x' hx
              · rw [hx]
                exact wfRow htl (by omega) (by omega) (by omega) fun z hz => Nat.lt_succ_of_lt (htn z hz)) (Nat.le_refl _)
            have hl7 : (rs4.set place (n :: y :: tl)).length = rs.length + 1 := by rw [List.length_set, hl4]
            have k7 := (k4.same S7).put (x := .lst (RL4.set place (.ref z7))) mr
            have hp7 := poolR (x := .lst (RL4.set place (.ref z7))) (hp4.same S7)
            have hqr7 : SqT K (upd H7 r (.lst (RL4.set place (.ref z7)))) qr ((x :: y :: tl).map fun n : Nat => V.int n) := (TK.put (S7 _ _ f1)) _ _ (Same.tup S7 hqr4)
            generalize rs4.set place (n :: y :: tl) = rs7 at hA7 hl7
            generalize upd H7 r (.lst (RL4.set place (.ref z7))) = H8 at *
            clear f1 f2 hR4 S5 S7 hq5 e6 h6 e7 h7 hqr4 hp4 k4 hA4 hlt
            -- rows[place + 1] = row
            obtain ⟨RL8, f1, f2⟩ := id hA7.hr
            have hR8 : RL8.length = rs.length + 1 := by rw [DpAll.length f2, List.length_map, hl7]
            refine ⟨_, rfl, _, rfl, _, rfl, _, _, rfl, rfl, r, RL8, _, place + 1, rfl, rfl, f1, ixN_nat (j := place + 1) (by omega), ?_⟩
            have hA8 := hA7.setR (m := n + 1) nar (LD.set (x := x :: y :: tl) f1 f2 (Dp.row (q := qr) hqr7) (place + 1)) (fun x' hx => by
              rcases List.mem_or_eq_of_mem_set hx with hx | hx
              · exact hA7.rows x' hx
              · rw [hx]
                exact wfRow htl hx0 (by omega) (by omega) fun z hz => Nat.lt_succ_of_lt (htn z hz)) (Nat.le_refl _)
            have hl8 : (rs7.set (place + 1) (x :: y :: tl)).length = rs.length + 1 := by rw [List.length_set, hl7]
            have k8 := k7.put (x := .lst (RL8.set (place + 1) (.ref qr))) mr
            have hp8 := poolR (x := .lst (RL8.set (place + 1) (.ref qr))) hp7
            have hqr8 : SqT K (upd H8 r (.lst (RL8.set (place + 1) (.ref qr)))) qr ((x :: y :: tl).map fun n : Nat => V.int n) := (TK.put f1) _ _ hqr7
            generalize rs7.set (place + 1) (x :: y :: tl) = rs8 at hA8 hl8
            generalize upd H8 r (.lst (RL8.set (place + 1) (.ref qr))) = H9 at *
            clear f1 f2 hR8 hqr7 hp7 k7 hA7
            -- old = rows[place + 2]
            obtain ⟨RL9, f1, f2⟩ := id hA8.hr
            have hR9 : RL9.length = rs.length + 1 := by rw [DpAll.length f2, List.length_map, hl8]
            have hi8 : place + 2 < rs8.length := by omega
            obtain ⟨ov, hov, hdov⟩ := DpAll.get f2 (i := place + 2) (d := rowP rs8[place + 2]) (by rw [List.getElem?_map, List.getElem?_eq_getElem hi8]; rfl)
            have hwo := hA8.rows rs8[place + 2] (List.getElem_mem hi8)
            obtain ⟨ox, oy, otl, eorow, _⟩ := row_split hwo
            rw [eorow] at hdov hwo
            obtain ⟨hox0, hoxn, hoyn, hotn, hotl⟩ := hwo.cons_inv
            obtain ⟨qo, rfl, hqo⟩ := rowP_inv hdov
            refine ⟨_, rfl, _, rfl, _, _, rfl, rfl, r, RL9, _, _, rfl, rfl, SqL.of f1, at_of (j := place + 2) rfl hov, ?_⟩
            -- rows[place + 2] = (old[0],) + tuple([(one, fresh)[int(one == row[0])] for one in old[1:]])
            refine ⟨_, rfl, qo, _, _, _, rfl, rfl, hqo, atI_nat (j := 0) rfl, (by show 1 ≤ sizeLine; decide), fun qa hqa => ⟨_, rfl, _, rfl, ?_⟩⟩
            have Sa := Same.new (o := .tup [V.int ox]) hqa
            refine noPart_by ?_
            refine cutA_by 1 (Same.tup Sa hqo) fun zb Hb eb hb => ?_
            have Sb := Sa.trans eb
            refine ⟨zb, rfl, ⟨_, hb⟩, fun rr hrr => lc_it (walk_tup (xs := (oy :: otl).map fun n : Nat => V.int n)) (fun i H' => Same Hb H' ∧ ∃ ns : List Nat, H' rr = some (.lst (ns.map fun n : Nat => V.int n)) ∧ ns.length = i ∧ ∀ z ∈ ns, z < n + 1) ?_ ?_ ?_ ?_⟩
            · exact ⟨Same.new hrr, [], upd_same, rfl, fun z hz => by cases hz⟩
            · rintro i H' _ ⟨hS, _⟩
              exact Same.tup hS hb
            · rintro i x' Hc Hd hi ⟨hS, ns, g1, g2, g3⟩ ⟨rfl, hx'⟩
              have hlo : ((oy :: otl).map fun n : Nat => V.int n).length = otl.length + 1 := by rw [List.length_map]; rfl
              rw [hlo] at hi
              rw [List.getElem?_map] at hx'
              obtain ⟨one, hone, rfl⟩ := Option.map_eq_some_iff.mp hx'
              have hone2 : one < n + 1 := by
                rcases List.mem_cons.mp (List.mem_of_getElem? hone) with rfl | hm
                · exact hoyn
                · exact hotn one hm
              have step : ∀ (z : Nat) (He : Hp), Same Hd He → z < n + 1 → ∃ acc, He rr = some (.lst acc) ∧ acc.length < sizeLine ∧ (Same Hb (upd He rr (.lst (acc ++ [V.int z]))) ∧ ∃ ns' : List Nat, upd He rr (.lst (acc ++ [V.int z])) rr = some (.lst (ns'.map fun n : Nat => V.int n)) ∧ ns'.length = i + 1 ∧ ∀ z ∈ ns', z < n + 1) := by
                intro z He hSe hz
                refine ⟨_, hSe _ _ g1, (by rw [List.length_map, g2, sizeLine_eq]; omega), Same.put (hS.trans hSe) hrr, ns ++ [z], ?_, ?_, ?_⟩
                · rw [List.map_append]
                  exact upd_same
                · rw [List.length_append, g2]
                  rfl
                · intro z' hz'
                  rcases List.mem_append.mp hz' with hz' | hz'
                  · exact g3 z' hz'
                  · rw [List.mem_singleton.mp hz']
                    exact hz
              have hqrd := Same.tup (Sb.trans hS) hqr8
              refine ⟨rfl, ?_⟩
              refine ⟨_, rfl, _, rfl, (by show 2 ≤ sizeLine; decide), fun q7 hq7 => ⟨_, rfl, _, rfl, qr, _, _, _, rfl, rfl, Same.tup (Same.new hq7) hqrd, atI_nat (j := 0) rfl, rfl, .inr ⟨_, rfl, ?_⟩⟩⟩
              cases hd : decide (V.int one = V.int x) with
              | true => exact ⟨q7, _, 1, V.int n, rfl, rfl, SqT.of upd_same, rfl, step n _ (Same.new hq7) (by omega)⟩
              | false => exact ⟨q7, _, 0, V.int one, rfl, rfl, SqT.of upd_same, rfl, step one _ (Same.new hq7) hone2⟩
            · rintro Hc ⟨hS, ns, g1, g2, g3⟩
              have hlo : ((oy :: otl).map fun n : Nat => V.int n).length = otl.length + 1 := by rw [List.length_map]; rfl
              rw [hlo] at g2
              refine ⟨rr, _, rfl, .inl ⟨SqL.of g1, fun l8 hl8 => ?_⟩⟩
              have Sc := (Sb.trans hS).trans (Same.new (o := .tup (ns.map fun n : Nat => V.int n)) hl8)
              have hqa2 := ((eb.trans hS).trans (Same.new (o := .tup (ns.map fun n : Nat => V.int n)) hl8)) _ _ (upd_same : upd H9 qa (.tup [V.int ox]) qa = _)
              refine catA_by (xs := [V.int ox]) (SqT.of hqa2) (SqT.of upd_same) ?_ fun z9 Hf ef hf => ?_
              · rw [List.length_map, g2]
                show 1 + (otl.length + 1) ≤ sizeLine
                rw [sizeLine_eq]; omega
              have Sf := Sc.trans ef
              refine ⟨_, rfl, _, rfl, _, _, rfl, rfl, r, RL9, _, place + 2, rfl, rfl, Sf _ _ f1, ixN_nat (j := place + 2) (by omega), ?_⟩
              obtain ⟨n0, ntl, rfl⟩ : ∃ n0 ntl, ns = n0 :: ntl := by
                cases ns with
                | nil => simp at g2
                | cons a b => exact ⟨a, b, rfl⟩
              have g2' : ntl.length = otl.length := by simpa using g2
              have hAf := (hA8.same Sf).setR (m := n + 1) nar (LD.set (x := ox :: n0 :: ntl) (Sf _ _ f1) (DpAll.same Sf f2) (Dp.row (q := z9) hf) (place + 2)) (fun x' hx => by
                rcases List.mem_or_eq_of_mem_set hx with hx | hx
                · exact hA8.rows x' hx
                · rw [hx]
                  exact wfRow (by omega) hox0 hoxn (g3 n0 List.mem_cons_self) fun z hz => g3 z (List.mem_cons_of_mem _ hz)) (Nat.le_refl _)
              exact q _ _ _ ((k8.same Sf).put mr) (poolR (hp8.same Sf)) hAf (by rw [List.length_set]; omega)
          · refine ifF (decide_eq_false hlt) ?_
            exact q _ _ _ k4 hp4 hA4 (by omega)
end
end U3


namespace U3
open PySem PySem.Spec PyProof.Rows L2
section
variable {P : Program} {w : World} {K : PySem.W.Frag} {mg : Str → Option Value} {base : Heap}
/-! _law_spoil(pool, part, registers) -/
theorem menu_get {n v : Nat} (h : v < n + 1) : ∃ o : Option Nat, ([V.non] ++ rgV (0 : Int) (n : Nat))[v]? = some (toldV0 o) ∧ ∀ t, o = some t → t < n := by
  cases v with
  | zero => exact ⟨none, rfl, fun t ht => by cases ht⟩
  | succ v =>
    refine ⟨some v, ?_, fun t ht => by cases ht; omega⟩
    show (rgV (0 : Int) (n : Nat))[v]? = _
    have e : rgV (0 : Int) (n : Nat) = (List.range' 0 n).map fun n : Nat => V.int n := rgV_nats 0 n
    rw [e, List.getElem?_map, List.getElem?_range' (by omega)]
    show some (V.int ((0 + 1 * v : Nat) : Int)) = _
    rw [Nat.zero_add, Nat.one_mul]
    rfl
theorem cutV_one {x : V} {xs : List V} : cutV (x :: xs) none (some (1 : Int)) = [x] := by
  unfold cutV
  rw [HT.sIx_none]
  have : HT.sIx (x :: xs).length (x :: xs).length (some (1 : Int)) = min 1 (x :: xs).length := HT.sIx_nat _ _ 1
  rw [this]
  show List.take (min 1 (xs.length + 1) - 0) (x :: xs) = [x]
  have : min 1 (xs.length + 1) - 0 = 1 := by omega
  rw [this]
  rfl
theorem Keep.putNew {S : List Addr} {H H1 H2 : Hp} {l : Addr} {x : HO} (k : Keep S H H1) (hl : H1 l = none) (k2 : Keep S H H2) : Keep S H (upd H2 l x) := fun b u n h => by
  rw [upd_ne (ne_of_none (k b u n h) hl)]
  exact k2 b u n h
theorem PartAt.other {H : Hp} {a r l : Addr} {rs : List Row} {o : Option Nat} {n : Nat} {xs : List V} {x : HO} (h : PartAt K H a r rs o n) (hl : H l = some (.lst xs)) (la : l ≠ a) (lr : l ≠ r) : PartAt K (upd H l x) a r rs o n :=
  ⟨by rw [upd_ne la.symm]; exact h.ha, h.hr.other (NLs_rows rs) ⟨xs, hl⟩ lr.symm, h.rows, h.told⟩
def sp_law_spoil (K : PySem.W.Frag) : Sp := fun vs H Q _ => ∃ (p a r : Addr) (rs : List Row) (o : Option Nat) (n : Nat), vs = [.ref p, .ref a, .int n] ∧ Pool H p ∧ PartAt K H a r rs o n ∧ rs.length ≤ 95 ∧ 1 ≤ n ∧ n ≤ 950 ∧ a ≠ p ∧ r ≠ p ∧ a ≠ r ∧
  ∀ H' rs' o', Keep [p, a, r] H H' → Pool H' p → PartAt K H' a r rs' o' n → rs'.length ≤ rs.length → Q .non H'
-- slots: 0:pool_here 1:part 2:registers 3:place 4:row 5:at | cells: []
theorem sc_law_spoil : FnScope ["_law_pool_here", "_law_part", "_law_registers", "_law_place", "_law_row", "_law_at"] ["_law_pool_here", "_law_part", "_law_registers"] (defScope s_law_spoil) := ⟨rfl, rfl, rfl, by decide +kernel, rfl, by decide +kernel, by decide +kernel⟩
theorem ok_law_spoil (T : Txt K mg) : FnOk P w K mg base CX0 2 (He.ga K "_law_spoil") (fdA K (He.ga K "_law_spoil")) ["_law_pool_here", "_law_part", "_law_registers"] (sp_law_spoil K) := by
  refine T.F_law_spoil.ok sc_law_spoil (fun vs H Q E h => by obtain ⟨p, a, r, rs, o, n, rfl, _⟩ := h; rfl) (fun cdv A outer s H vs Q E hr h => ⟨_, PSs.nox ((pss_cons (ps_set (i := 3) sc_law_spoil.nd rfl (Or.inl rfl) (pe_call (ok_law_draw T) (hr.mono (by decide)) (by rfl) T.g_law_draw T.F_law_draw.kp T.b_law_draw .nil pass0 (pa_cons (pv 0) (pa_cons (pe_op op_add (pe_callB call_len_seq (by rfl) T.m_len bt_len (pa_cons (pe_ix ix_list (pv 1) pe_int (fun _ _ => rfl)) pa_nil)) pe_int) pa_nil))))
(pss_cons (ps_if (pt_cmpR op_eq (pv 3) (pe_callB call_len_seq (by rfl) T.m_len bt_len (pa_cons (pe_ix ix_list (pv 1) pe_int (fun _ _ => rfl)) pa_nil)) (nomark _))
(pss_cons (ps_asg (pe_ix ix_list (pe_op op_cat (pe_lst (pa_cons pe_non pa_nil)) (pe_listRg rfl (by rfl) T.m_list (prg_1 (by rfl) T.m_range (pv 2)))) (pe_call (ok_law_draw T) (hr.mono (by decide)) (by rfl) T.g_law_draw T.F_law_draw.kp T.b_law_draw .nil pass0 (pa_cons (pv 0) (pa_cons (pe_op op_add (pv 2) pe_int) pa_nil))) (fun _ _ => rfl)) (pg_sub (pv 1) pe_int set_list))
pss_nil)
(pss_cons (ps_set (i := 4) sc_law_spoil.nd rfl (Or.inl rfl) (pe_callTy call_list_of (by rfl) T.m_list bt_list (pa_cons (pe_ix ix_list (pe_ix ix_list (pv 1) pe_int (fun _ _ => rfl)) (pv 3) (fun _ _ => rfl)) pa_nil)))
(pss_cons (ps_set (i := 5) sc_law_spoil.nd rfl (Or.inl rfl) (pe_call (ok_law_draw T) (hr.mono (by decide)) (by rfl) T.g_law_draw T.F_law_draw.kp T.b_law_draw .nil pass0 (pa_cons (pv 0) (pa_cons (pe_op op_add (pe_callB call_len_seq (by rfl) T.m_len bt_len (pa_cons (pv 4) pa_nil)) pe_int) pa_nil))))
(pss_cons (ps_if (pt_cmpR op_eq (pv 5) (pe_callB call_len_seq (by rfl) T.m_len bt_len (pa_cons (pv 4) pa_nil)) (nomark _))
(pss_cons (ps_set (i := 4) sc_law_spoil.nd rfl (Or.inl rfl) (pe_op op_cat (pe_slice sl_list (pv 4) po_none (po_some pe_int)) (pe_backL (pv 4))))
pss_nil)
(pss_cons (ps_asg (pe_callB (call_max2 rfl) (by rfl) T.m_max bt_max (pa_cons (pe_callTy call_int1 (by rfl) T.m_int bt_int (pa_cons (pe_cmpR op_eq (pv 5) pe_int (nomark _)) pa_nil)) (pa_cons (pe_call (ok_law_draw T) (hr.mono (by decide)) (by rfl) T.g_law_draw T.F_law_draw.kp T.b_law_draw .nil pass0 (pa_cons (pv 0) (pa_cons (pv 2) pa_nil))) pa_nil))) (pg_sub (pv 4) (pv 5) set_list))
pss_nil))
(pss_cons (ps_asg (pe_callTy call_tuple_of (by rfl) T.m_tuple bt_tuple (pa_cons (pv 4) pa_nil)) (pg_sub (pe_ix ix_list (pv 1) pe_int (fun _ _ => rfl)) (pv 3) set_list))
pss_nil)))))
pss_nil))), ?_⟩)
  obtain ⟨p, a, r, rs, o, n, rfl, hP, hA, hr90, hn1, hn2, nap, nrp, nar, q⟩ := h
  have mp : p ∈ [p, a, r] := List.mem_cons_self
  have ma : a ∈ [p, a, r] := List.mem_cons_of_mem _ List.mem_cons_self
  have mr : r ∈ [p, a, r] := List.mem_cons_of_mem _ (List.mem_cons_of_mem _ List.mem_cons_self)
  have poolR : ∀ {H' : Hp} {x : HO}, Pool H' p → Pool (upd H' r x) p := fun {H' x} ⟨xi, xj, e1, e2⟩ => ⟨xi, xj, by rw [upd_ne nrp.symm]; exact e1, e2⟩
  have poolA : ∀ {H' : Hp} {x : HO}, Pool H' p → Pool (upd H' a x) p := fun {H' x} ⟨xi, xj, e1, e2⟩ => ⟨xi, xj, by rw [upd_ne nap.symm]; exact e1, e2⟩
  obtain ⟨RL0, g1, g2⟩ := id hA.hr
  have hRl0 : RL0.length = rs.length := by rw [DpAll.length g2, List.length_map]
  -- place = draw(pool, len(part[0]) + 1)
  refine ⟨_, rfl, _, rfl, a, _, _, _, rfl, rfl, SqL.of hA.ha, atI_nat (j := 0) rfl, _, _, rfl, .inl (SqL.of g1), _, _, rfl, rfl, p, RL0.length + 1, rfl, hP, by omega, by omega, fun place H1 hk hb1 hp1 => ?_⟩
  have hA1 := hA.draw hP hb1 nap nrp
  have k1 : Keep [p, a, r] H H1 := Keep.refl.but hb1 mp
  rw [hRl0] at hk
  clear hA hP hb1 g1 g2 hRl0
  obtain ⟨RL, h1, h2⟩ := id hA1.hr
  have hRl : RL.length = rs.length := by rw [DpAll.length h2, List.length_map]
  refine ⟨_, rfl, _, rfl, a, _, _, _, rfl, rfl, SqL.of hA1.ha, atI_nat (j := 0) rfl, _, _, rfl, .inl (SqL.of h1), rfl, _, rfl, ?_⟩
  cases hb : decide (V.int place = V.int (RL.length : Nat)) with
  | true =>
    refine ifT rfl ?_
    -- part[1] = ([None] + list(range(registers)))[draw(pool, registers + 1)]
    refine ⟨(by show 1 ≤ sizeLine; decide), fun q1 hq1 => ⟨_, rfl, _, rfl, ⟨by omega, by omega, by omega, by omega, by omega⟩, fun q2 hq2 => ?_⟩⟩
    have S1 := Same.new (o := .lst [V.non]) hq1
    have S2 := S1.trans (Same.new (o := .lst (rgV 0 n)) hq2)
    refine ⟨q1, q2, _, _, rfl, rfl, (Same.new hq2) _ _ upd_same, upd_same, ?_, fun q3 hq3 => ?_⟩
    · rw [rgV_length, sizeLine_eq]
      show 1 + ((n : Int) - 0).toNat ≤ _
      omega
    have S3 := S2.trans (Same.new (o := .lst ([V.non] ++ rgV 0 n)) hq3)
    have hp3 := hp1.same S3
    obtain ⟨ys, hys⟩ := hp3.some
    have hq3p : q3 ≠ p := fun z => by
      obtain ⟨ys', hys'⟩ := (hp1.same S2).some
      rw [z, hys'] at hq3
      cases hq3
    refine ⟨_, rfl, _, rfl, _, _, rfl, rfl, p, n + 1, rfl, hp3, by omega, by omega, fun v H4 hv hb4 hp4 => ?_⟩
    obtain ⟨o', ho1, ho2⟩ := menu_get hv
    have hA4 := (hA1.same S3).draw hp3 hb4 nap nrp
    refine ⟨q3, _, _, _, rfl, rfl, SqL.of (hb4.at upd_same hq3p), atI_nat (j := v) ho1, _, rfl, a, _, 1, 1, rfl, rfl, hA4.ha, rfl, ?_⟩
    exact q _ _ o' (((k1.same S3).but hb4 mp).put ma) (poolA hp4) (hA4.setO (o' := o') nar ho2 (Nat.le_refl _)) (Nat.le_refl _)
  | false =>
    refine ifF rfl ?_
    have hpl2 : place < rs.length := by
      have hne : ¬ place = RL.length := fun z => by
        rw [z] at hb
        simp at hb
      omega
    -- row = list(part[0][place])
    obtain ⟨rv, hrv, hdrv⟩ := DpAll.get h2 (i := place) (d := rowP rs[place]) (by rw [List.getElem?_map, List.getElem?_eq_getElem hpl2]; rfl)
    have hwr := hA1.rows rs[place] (List.getElem_mem hpl2)
    obtain ⟨x, y, tl, erow, _⟩ := row_split hwr
    rw [erow] at hdrv hwr
    obtain ⟨hx0, hxn, hyn, htn, htl⟩ := hwr.cons_inv
    obtain ⟨qr, rfl, hqr⟩ := rowP_inv hdrv
    refine ⟨_, rfl, a, _, _, _, rfl, rfl, SqL.of hA1.ha, atI_nat (j := 0) rfl, _, rfl, r, RL, _, _, rfl, rfl, SqL.of h1, atI_nat hrv, qr, _, rfl, .inr hqr, fun l hl => ?_⟩
    have S1 := Same.new (o := .lst ((x :: y :: tl).map fun n : Nat => V.int n)) hl
    have hA2 := hA1.same S1
    have hp2 := hp1.same S1
    have hlp : l ≠ p := fun z => by
      obtain ⟨ys', hys'⟩ := hp1.some
      rw [z, hys'] at hl
      cases hl
    have hxl : ((x :: y :: tl).map fun n : Nat => V.int n).length = tl.length + 2 := by rw [List.length_map]; rfl
    -- at = draw(pool, len(row) + 1)
    refine ⟨_, rfl, _, rfl, _, _, rfl, .inl (SqL.of upd_same), _, _, rfl, rfl, p, ((x :: y :: tl).map fun n : Nat => V.int n).length + 1, rfl, hp2, by omega, by omega, fun at_ H3 hat hb3 hp3 => ?_⟩
    have hA3 := hA2.draw hp2 hb3 nap nrp
    have hl3 := hb3.at (upd_same : upd H1 l (.lst ((x :: y :: tl).map fun n : Nat => V.int n)) l = _) hlp
    have k3 := (k1.same S1).but hb3 mp
    have la : l ≠ a := fun z => by rw [z, hA1.ha] at hl; cases hl
    have lr : l ≠ r := fun z => by rw [z, h1] at hl; cases hl
    have hlH : l ∉ [p, a, r] := by simp [hlp, la, lr]
    rw [hxl] at hat
    refine seq_nx (fun σ' H' => ∃ (l' : Addr) (row : Row), σ' = [some (.ref p), some (.ref a), some (.int n), some (.int place), some (.ref l'), some (.int at_)] ∧ Keep [p, a, r] H H' ∧ Pool H' p ∧ PartAt K H' a r rs o n ∧ H' l' = some (.lst (row.map fun n : Nat => V.int n)) ∧ WFRow n row ∧ row.length ≤ 3) (fun D' hN _ _ _ => ?_) ?_
    · refine ⟨_, rfl, _, rfl, _, _, rfl, .inl (SqL.of hl3), rfl, _, rfl, ?_⟩
      cases hb2 : decide (V.int at_ = V.int (((x :: y :: tl).map fun n : Nat => V.int n).length : Nat)) with
      | true =>
        refine ifT rfl ?_
        refine ⟨_, rfl, _, rfl, l, _, rfl, SqL.of hl3, fun q5 hq5 => ⟨_, rfl, l, _, rfl, SqL.of ((Same.new hq5) _ _ hl3), by rw [hxl]; omega, fun q6 hq6 => ?_⟩⟩
        have S5 := (Same.new (o := .lst (cutV ((x :: y :: tl).map fun n : Nat => V.int n) none (some 1))) hq5).trans (Same.new (o := .lst (((x :: y :: tl).map fun n : Nat => V.int n).drop 1).reverse) hq6)
        have hq56 := (Same.new (o := .lst (((x :: y :: tl).map fun n : Nat => V.int n).drop 1).reverse) hq6) _ _ (upd_same : upd H3 q5 (.lst (cutV ((x :: y :: tl).map fun n : Nat => V.int n) none (some 1))) q5 = _)
        refine ⟨q5, q6, _, _, rfl, rfl, hq56, upd_same, ?_, fun q7 hq7 => ?_⟩
        · rw [List.map_cons, cutV_one, List.length_reverse]
          show 1 + ((y :: tl).map fun n : Nat => V.int n).length ≤ sizeLine
          rw [List.length_map]
          show 1 + (tl.length + 1) ≤ sizeLine
          rw [sizeLine_eq]; omega
        have S6 := S5.trans (Same.new (o := .lst (cutV ((x :: y :: tl).map fun n : Nat => V.int n) none (some 1) ++ (((x :: y :: tl).map fun n : Nat => V.int n).drop 1).reverse)) hq7)
        refine hN _ _ ⟨q7, x :: (y :: tl).reverse, rfl, k3.same S6, hp3.same S6, hA3.same S6, upd_same.trans ?_, ?_, ?_⟩
        · rw [List.map_cons, cutV_one]
          show some (HO.lst (V.int x :: ((y :: tl).map fun n : Nat => V.int n).reverse)) = some (HO.lst (V.int x :: (y :: tl).reverse.map fun n : Nat => V.int n))
          rw [List.map_reverse]
        · refine ⟨?_, ?_, hx0⟩
          · show (y :: tl).reverse.length + 1 = 2 ∨ (y :: tl).reverse.length + 1 = 3
            rw [List.length_reverse]
            show tl.length + 1 + 1 = 2 ∨ tl.length + 1 + 1 = 3
            omega
          · intro z hz
            refine hwr.all z ?_
            rcases List.mem_cons.mp hz with rfl | hz
            · exact List.mem_cons_self
            · exact List.mem_cons_of_mem _ (List.mem_reverse.mp hz)
        · show (y :: tl).reverse.length + 1 ≤ 3
          rw [List.length_reverse]
          show tl.length + 1 + 1 ≤ 3
          omega
      | false =>
        refine ifF rfl ?_
        have hat2 : at_ < tl.length + 2 := by
          have hne : ¬ at_ = tl.length + 2 := fun z => by
            rw [z, hxl] at hb2
            simp at hb2
          omega
        refine ⟨_, rfl, rfl, .inr ⟨_, rfl, _, rfl, _, rfl, p, n, rfl, hp3, hn1, by omega, fun v H4 hv hb4 hp4 => ⟨_, _, rfl, _, rfl, _, rfl, l, _, at_, at_, rfl, rfl, hb4.at hl3 hlp, ixN_nat (j := at_) (by omega), ?_⟩⟩⟩
        have hA4 := hA3.draw hp3 hb4 nap nrp
        have k4 := k3.but hb4 mp
        obtain ⟨m, em, hm1, hm2⟩ : ∃ m : Nat, (if (v : Int) > (if decide (V.int (at_ : Nat) = V.int 0) = true then 1 else 0) then (v : Int) else (if decide (V.int (at_ : Nat) = V.int 0) = true then 1 else 0)) = (m : Int) ∧ m < n ∧ (at_ = 0 → 0 < m) := by
          by_cases h0 : at_ = 0
          · subst h0
            have e1 : decide (V.int ((0 : Nat) : Int) = V.int 0) = true := by decide
            rw [e1, if_pos rfl]
            by_cases hv1 : (v : Int) > 1
            · exact ⟨v, if_pos hv1, hv, fun _ => by omega⟩
            · exact ⟨1, if_neg hv1, by omega, fun _ => by omega⟩
          · have e1 : decide (V.int (at_ : Nat) = V.int 0) = false := decide_eq_false fun z => by injection z with z; omega
            rw [e1, if_neg Bool.false_ne_true]
            by_cases hv1 : (v : Int) > 0
            · exact ⟨v, if_pos hv1, hv, fun z => absurd z h0⟩
            · exact ⟨0, if_neg hv1, by omega, fun z => absurd z h0⟩
        rw [em]
        have hl4 := hb4.at hl3 hlp
        have S2 : TK K H4 (upd H4 l (.lst (((x :: y :: tl).map fun n : Nat => V.int n).set at_ (V.int m)))) := TK.put hl4
        obtain ⟨xi, xj, ep1, ep2⟩ := hp4
        refine hN _ _ ⟨l, (x :: y :: tl).set at_ m, rfl, Keep.putNew k1 hl k4, ⟨xi, xj, by rw [upd_ne hlp.symm]; exact ep1, ep2⟩, hA4.other hl4 la lr, upd_same.trans (by rw [List.map_set]), ?_, by rw [List.length_set]; show tl.length + 1 + 1 ≤ 3; omega⟩
        refine ⟨by rw [List.length_set]; exact hwr.len, fun z hz => ?_, ?_⟩
        · rcases List.mem_or_eq_of_mem_set hz with hz | hz
          · exact hwr.all z hz
          · rw [hz]; exact hm1
        · cases at_ with
          | zero => exact hm2 rfl
          | succ k => exact hx0
    rintro σ' H5 ⟨l', row, rfl, k5, hp5, hA5, hl5, hw5, hlen5⟩
    -- part[0][place] = tuple(row)
    obtain ⟨RL5, f1, f2⟩ := id hA5.hr
    have hR5 : RL5.length = rs.length := by rw [DpAll.length f2, List.length_map]
    refine ⟨_, rfl, l', _, rfl, .inl ⟨SqL.of hl5, fun t ht => ?_⟩⟩
    have S6 := Same.new (o := .tup (row.map fun n : Nat => V.int n)) ht
    refine ⟨_, rfl, a, _, _, _, rfl, rfl, SqL.of (S6 _ _ hA5.ha), atI_nat (j := 0) rfl, _, rfl, r, RL5, _, place, rfl, rfl, S6 _ _ f1, ixN_nat (j := place) (by omega), ?_⟩
    have hA6 := (hA5.same S6).setR (m := n) nar (LD.set (x := row) (S6 _ _ f1) (DpAll.same S6 f2) (Dp.row (q := t) (SqT.of upd_same)) place) (fun x' hx => by
      rcases List.mem_or_eq_of_mem_set hx with hx | hx
      · exact hA5.rows x' hx
      · rw [hx]
        exact hw5) (Nat.le_refl _)
    exact q _ _ _ ((k5.same S6).put mr) (poolR (hp5.same S6)) hA6 (by rw [List.length_set]; exact Nat.le_refl _)
end
end U3


namespace U3
open PySem PySem.Spec PyProof.Rows L2
section
variable {P : Program} {w : World} {K : PySem.W.Frag} {mg : Str → Option Value} {base : Heap}
/-! _law_renamed(pool, registers, phases) -/
inductive Parts (K : PySem.W.Frag) (H : Hp) (n : Nat) : List (Addr × Addr) → List (List Row × Option Nat) → Prop
  | nil : Parts K H n [] []
  | cons {a r : Addr} {ph : List Row × Option Nat} {ps : List (Addr × Addr)} {phs : List (List Row × Option Nat)} : PartAt K H a r ph.1 ph.2 n → Parts K H n ps phs → Parts K H n ((a, r) :: ps) (ph :: phs)
section
variable {H H1 : Hp} {n : Nat}
theorem Parts.map {n' : Nat} : ∀ {ps : List (Addr × Addr)} {phs : List (List Row × Option Nat)}, (∀ a r rs o, (a, r) ∈ ps → PartAt K H a r rs o n → PartAt K H1 a r rs o n') → Parts K H n ps phs → Parts K H1 n' ps phs
  | _, _, _, .nil => .nil
  | _, _, f, .cons h r => .cons (f _ _ _ _ List.mem_cons_self h) (Parts.map (fun a r rs o m => f a r rs o (List.mem_cons_of_mem _ m)) r)
theorem Parts.same {ps : List (Addr × Addr)} {phs : List (List Row × Option Nat)} (h : Parts K H n ps phs) (e : Same H H1) : Parts K H1 n ps phs := h.map fun _ _ _ _ _ x => x.same e
theorem Parts.draw {p : Addr} {ps : List (Addr × Addr)} {phs : List (List Row × Option Nat)} (h : Parts K H n ps phs) (hP : Pool H p) (e : But p H H1) (np : ∀ x ∈ ps, x.1 ≠ p ∧ x.2 ≠ p) : Parts K H1 n ps phs :=
  h.map fun _ _ _ _ m x => x.draw hP e (np _ m).1 (np _ m).2
theorem Parts.length : ∀ {ps : List (Addr × Addr)} {phs : List (List Row × Option Nat)}, Parts K H n ps phs → ps.length = phs.length
  | _, _, .nil => rfl
  | _, _, .cons _ r => congrArg (· + 1) (Parts.length r)
theorem Parts.get : ∀ {ps : List (Addr × Addr)} {phs : List (List Row × Option Nat)} {i : Nat} {a r : Addr}, Parts K H n ps phs → ps[i]? = some (a, r) → ∃ ph, phs[i]? = some ph ∧ PartAt K H a r ph.1 ph.2 n
  | _, _, i, _, _, .nil, e => by simp at e
  | _, _, 0, _, _, .cons h _, e => by
    simp only [List.getElem?_cons_zero, Option.some.injEq, Prod.mk.injEq] at e
    obtain ⟨rfl, rfl⟩ := e
    exact ⟨_, rfl, h⟩
  | _, _, i + 1, _, _, .cons _ r, e => by
    obtain ⟨ph, h1, h2⟩ := Parts.get (i := i) r (by simpa using e)
    exact ⟨ph, by simpa using h1, h2⟩
end
theorem natL_get {nm : List Nat} {i z : Nat} (h : nm[i]? = some z) : (nm.map fun n : Nat => V.int n)[i]? = some (V.int z) := by
  rw [List.getElem?_map, h]
  rfl
def sp_law_renamed (K : PySem.W.Frag) : Sp := fun vs H Q _ => ∃ (p f : Addr) (ps : List (Addr × Addr)) (phs : List (List Row × Option Nat)) (n : Nat), vs = [.ref p, .int n, .ref f] ∧ Pool H p ∧ H f = some (.lst (ps.map fun x => V.ref x.1)) ∧ Parts K H n ps phs ∧ 1 ≤ n ∧ n ≤ 950 ∧ (∀ ph ∈ phs, ph.1.length ≤ 95) ∧ phs.length ≤ 200 ∧ f ≠ p ∧ (∀ x ∈ ps, x.1 ≠ p ∧ x.2 ≠ p) ∧
  ∀ v phs' H', But p H H' → Pool H' p → Dp K H' v (toD ⟨n, phs'⟩) → phs'.length = phs.length → (∀ ph ∈ phs', WFPh n ph) → Q v H'
-- slots: 0:pool_here 1:registers 2:phases 3:shift 4:flip 5:names 6:done 7:rows 8:told 9:k 10:row 11:one | cells: ['_law_registers', '_law_shift', '_law_flip', '_law_names']
theorem sc_law_renamed : FnScope ["_law_pool_here", "_law_registers", "_law_phases", "_law_shift", "_law_flip", "_law_names", "_law_done", "_law_rows", "_law_told", "_law_k", "_law_row", "_law_one"] ["_law_pool_here", "_law_registers", "_law_phases"] (defScope s_law_renamed) := ⟨rfl, rfl, rfl, by decide +kernel, rfl, by decide +kernel, by decide +kernel⟩
theorem ok_law_renamed (T : Txt K mg) : FnOk P w K mg base CX0 2 (He.ga K "_law_renamed") (fdA K (He.ga K "_law_renamed")) ["_law_pool_here", "_law_registers", "_law_phases"] (sp_law_renamed K) := by
  refine T.F_law_renamed.ok sc_law_renamed (fun vs H Q E h => by obtain ⟨p, f, ps, phs, n, rfl, _⟩ := h; rfl) (fun cdv A outer s H vs Q E hr h => ⟨_, PSs.nox ((pss_cons (ps_set (i := 3) sc_law_renamed.nd rfl (Or.inr rfl) (pe_call (ok_law_draw T) (hr.mono (by decide)) (by rfl) T.g_law_draw T.F_law_draw.kp T.b_law_draw .nil pass0 (pa_cons (pv 0) (pa_cons (pv 1) pa_nil))))
(pss_cons (ps_set (i := 4) sc_law_renamed.nd rfl (Or.inr rfl) (pe_op op_sub pe_int (pe_op op_mul pe_int (pe_call (ok_law_draw T) (hr.mono (by decide)) (by rfl) T.g_law_draw T.F_law_draw.kp T.b_law_draw .nil pass0 (pa_cons (pv 0) (pa_cons pe_int pa_nil))))))
(pss_cons (ps_set (i := 5) sc_law_renamed.nd rfl (Or.inr rfl) (pe_op op_cat (pe_lst (pa_cons pe_int pa_nil)) (pe_lc (own := [("_law_k", 9)]) (g := (gName 9)) rfl sc_law_renamed.nd (pi_range1 (by rfl) T.m_range (pa_cons (pe_op op_sub (pv 1) pe_int) pa_nil)) (blkOk_by (own := [("_law_k", 9)]) (by kernel_rfl)) (fun _ _ _ _ _ => (pg_name (i := 9) sc_law_renamed.nd rfl (Or.inl rfl))) (fun _ _ _ _ _ => pts_nil) (fun _ _ _ _ _ => (pe_op op_add pe_int (pe_op op_modN (pe_callTy call_int1 (by rfl) T.m_int bt_int (pa_cons (pe_op op_add (pe_op op_mul (pv 4) (pv 9)) (pv 3)) pa_nil)) (pe_op op_sub (pv 1) pe_int)))))))
(pss_cons (ps_set (i := 6) sc_law_renamed.nd rfl (Or.inl rfl) (pe_lst pa_nil))
(pss_cons (ps_for PassesOwn.never rfl (pi_list (pv 2)) (pg_lst rfl (pgs_cons (pg_name (i := 7) sc_law_renamed.nd rfl (Or.inl rfl)) (pgs_cons (pg_name (i := 8) sc_law_renamed.nd rfl (Or.inl rfl)) pgs_nil)))
(pss_cons (ps_if (pt_cmpR op_notN (pv 8) pe_non (nomark _))
(pss_cons (ps_set (i := 8) sc_law_renamed.nd rfl (Or.inl rfl) (pe_ix ix_list (pv 5) (pv 8) (fun _ _ => rfl)))
pss_nil)
pss_nil)
(pss_cons (ps_expr (pe_bm PySem.F.plainAttrs_list PySem.F.slot_list_append PySem.F.type_list_append mt_append (pv 6) (pa_cons (pe_tup (pa_cons (pe_callTy call_tuple_of (by rfl) T.m_tuple bt_tuple (pa_cons (pe_lc (own := [("_law_row", 10)]) (g := (gName 10)) rfl sc_law_renamed.nd (pi_list (pv 7)) (blkOk_by (own := [("_law_row", 10)]) (by kernel_rfl)) (fun _ _ _ _ _ => (pg_name (i := 10) sc_law_renamed.nd rfl (Or.inl rfl))) (fun _ _ _ _ _ => pts_nil) (fun _ _ _ _ _ => (pe_callTy (r := rTupOf K) call_tupK (by rfl) T.m_tuple bt_tuple (pa_cons (pe_lc (own := [("_law_one", 11)]) (g := (gName 11)) rfl sc_law_renamed.nd (pi_tupK (K := K) rfl (pv 10)) (blkOk_by (own := [("_law_one", 11)]) (by kernel_rfl)) (fun _ _ _ _ _ => (pg_name (i := 11) sc_law_renamed.nd rfl (Or.inl rfl))) (fun _ _ _ _ _ => pts_nil) (fun _ _ _ _ _ => (pe_ix (r := rIxL K) ix_list (pv 5) (pv 11) (fun _ _ => rfl)))) pa_nil)))) pa_nil)) (pa_cons (pv 8) pa_nil))) pa_nil)))
pss_nil)))
(pss_cons (ps_ret (pe_tup (pa_cons (pv 1) (pa_cons (pe_callTy call_tuple_of (by rfl) T.m_tuple bt_tuple (pa_cons (pv 6) pa_nil)) pa_nil))))
pss_nil))))))), ?_⟩)
  obtain ⟨p, f, ps, phs, n, rfl, hP, hf, hps, hn1, hn2, h95, h200, nfp, np, q⟩ := h
  -- shift = draw(pool, registers)
  refine ⟨_, rfl, _, rfl, p, n, rfl, hP, hn1, by omega, fun sh H1 hsh hb1 hp1 => ?_⟩
  -- flip = 1 - 2 * draw(pool, 2)
  refine ⟨_, rfl, p, 2, rfl, hp1, by omega, by omega, fun fl H2 hfl hb2 hp2 => ⟨_, _, rfl, rfl, .inl ⟨by omega, by omega⟩, _, _, rfl, rfl, ?_⟩⟩
  have hps2 := (hps.draw hP hb1 np).draw hp1 hb2 np
  have hB2 := hb1.trans hb2
  have hf2 := hB2.at hf nfp
  clear hps hP hb1 hp1 hb2 hf
  show tSeq _ _ _ (List.set _ 4 (some (V.int ((1 : Int) - 2 * (fl : Int))))) H2
  obtain ⟨fz, hfz, hfz1, hfz2⟩ : ∃ fz : Int, (1 : Int) - 2 * (fl : Int) = fz ∧ -1 ≤ fz ∧ fz ≤ 1 := ⟨_, rfl, by omega, by omega⟩
  rw [hfz]
  -- names = [0] + [1 + int(flip * k + shift) % (registers - 1) for k in range(registers - 1)]
  have en : ((n : Int) - 1).toNat = n - 1 := by omega
  refine ⟨(by show 1 ≤ sizeLine; decide), fun q1 hq1 => ⟨_, rfl, _, _, rfl, rfl, _, rfl, by omega, by omega, fun r1 hr1 => lc_it (walk_range (lo := 0) (n := ((n : Int) - 1).toNat)) (fun i H' => Same (upd H2 q1 (.lst [V.int 0])) H' ∧ ∃ ns : List Nat, H' r1 = some (.lst (ns.map fun n : Nat => V.int n)) ∧ ns.length = i ∧ ∀ z ∈ ns, 0 < z ∧ z < n) ?_ (fun _ _ _ _ => trivial) ?_ ?_⟩⟩
  · exact ⟨Same.new hr1, [], upd_same, rfl, fun z hz => by cases hz⟩
  · rintro i x' H3 H4 hi ⟨hS, ns, g1, g2, g3⟩ ⟨rfl, rfl⟩
    rw [en] at hi
    have hne : (n : Int) - 1 ≠ 0 := by omega
    refine ⟨rfl, _, rfl, _, rfl, _, _, rfl, rfl, .inl ⟨by omega, by omega⟩, _, rfl, _, _, rfl, rfl, .inl ⟨_, rfl, _, rfl, _, _, rfl, rfl, _, _, rfl, rfl, hne, _, _, rfl, rfl, ?_⟩⟩
    have e1 : (n : Int) - 1 = ((n - 1 : Nat) : Int) := by omega
    refine ⟨_, g1, (by rw [List.length_map, g2, sizeLine_eq]; omega), Same.put hS hr1, ns ++ [1 + fm (fz * (0 + (i : Nat)) + sh) (n - 1)], upd_same.trans ?_, ?_, ?_⟩
    · rw [List.map_append]
      show some (HO.lst (_ ++ [V.int (1 + (fz * (0 + (i : Nat)) + sh).fmod ((n : Int) - 1))])) = _
      rw [e1, fm_eq (by omega)]
      rfl
    · rw [List.length_append, g2]
      rfl
    · intro z hz
      rcases List.mem_append.mp hz with hz | hz
      · exact g3 z hz
      · rw [List.mem_singleton.mp hz]
        have := fm_lt (x := fz * (0 + (i : Nat)) + sh) (c := n - 1) (by omega)
        omega
  rintro H3 ⟨hS3, ns, g1, g2, g3⟩
  rw [en] at g2
  refine ⟨q1, r1, _, _, rfl, rfl, hS3 _ _ upd_same, g1, ?_, fun an han => ?_⟩
  · rw [List.length_map, g2, sizeLine_eq]
    show 1 + (n - 1) ≤ _
    omega
  have S4 := ((Same.new (o := .lst [V.int 0]) hq1).trans hS3).trans (Same.new (o := .lst ([V.int 0] ++ ns.map fun n : Nat => V.int n)) han)
  have hnm : upd H3 an (.lst ([V.int 0] ++ ns.map fun n : Nat => V.int n)) an = some (.lst ((0 :: ns).map fun n : Nat => V.int n)) := upd_same
  have nm_get : ∀ j, j < n → ∃ z, (0 :: ns)[j]? = some z ∧ z < n ∧ (0 < j → 0 < z) := by
    intro j hj
    cases j with
    | zero => exact ⟨0, rfl, by omega, fun h => absurd h (by omega)⟩
    | succ j =>
      have hj2 : j < ns.length := by omega
      have hm := g3 _ (List.getElem_mem hj2)
      exact ⟨ns[j], List.getElem?_eq_getElem hj2, hm.2, fun _ => hm.1⟩
  have hps4 := hps2.same S4
  have hf4 := S4 _ _ hf2
  have hp4 := hp2.same S4
  have hB4 := hB2.trans (But.of S4 (p := p))
  generalize upd H3 an (.lst ([V.int 0] ++ ns.map fun n : Nat => V.int n)) = H4 at *
  generalize 0 :: ns = nm at hnm nm_get
  clear g1 g2 g3 S4 hS3 hq1 hr1 han hps2 hf2 hp2 hB2
  -- done = []
  refine ⟨(by show 0 ≤ sizeLine; decide), fun ad had => ?_⟩
  refine ⟨_, rfl, f, rfl, ⟨_, SqL.of ((Same.new had) _ _ hf4)⟩, for_it (walk_list (xs := ps.map fun x => V.ref x.1))
    (fun i σ' H' => (∃ o7 o8 o9 o10 o11, σ' = [some (.ref p), some (.int n), some (.ref f), some (.int sh), some (.int fz), some (.ref an), some (.ref ad), o7, o8, o9, o10, o11]) ∧ Same H4 H' ∧ ∃ (DL : List V) (phs' : List (List Row × Option Nat)), H' ad = some (.lst DL) ∧ DpAll K H' DL (phs'.map phaseP) ∧ phs'.length = i ∧ ∀ ph ∈ phs', WFPh n ph) ?_ ?_ ?_ ?_⟩
  · exact ⟨⟨_, _, _, _, _, rfl⟩, Same.new had, [], [], upd_same, .nil, rfl, fun ph hph => by cases hph⟩
  · rintro i σ' H' _ ⟨_, hS, _⟩
    exact SqL.of (hS _ _ hf4)
  · rintro i x' σ' H5 H6 hi ⟨⟨o7, o8, o9, o10, o11, rfl⟩, hS, DL, phs', d1, d2, d3, d4⟩ ⟨rfl, hx'⟩
    rw [List.length_map] at hi
    rw [List.getElem?_map] at hx'
    obtain ⟨⟨a, r⟩, har, rfl⟩ := Option.map_eq_some_iff.mp hx'
    obtain ⟨ph, hph, hpa⟩ := (hps4.same hS).get har
    have hphm := List.mem_of_getElem? hph
    have hlen := h95 ph hphm
    obtain ⟨RL, f1, f2⟩ := id hpa.hr
    have hnm6 := hS _ _ hnm
    have hRl : RL.length = ph.1.length := by rw [DpAll.length f2, List.length_map]
    refine ⟨a, _, rfl, SqL.of hpa.ha, rfl, _, _, rfl, _, _, rfl, rfl, ?_⟩
    refine seq_by (fun σ' H' => ∃ o' : Option Nat, (∀ t, o' = some t → t < n) ∧ H' = H6 ∧ σ' = [some (.ref p), some (.int n), some (.ref f), some (.int sh), some (.int fz), some (.ref an), some (.ref ad), some (.ref r), some (toldV0 o'), o9, o10, o11]) (fun D' hN _ _ _ => ?_) ?_
    · have hto := hpa.told
      cases hph2 : ph.2 with
      | none =>
        refine ⟨_, rfl, rfl, _, rfl, ?_⟩
        refine ifF rfl ?_
        exact hN _ _ ⟨none, (fun t ht => by cases ht), rfl, rfl⟩
      | some t =>
        refine ⟨_, rfl, rfl, _, rfl, ?_⟩
        refine ifT rfl ?_
        obtain ⟨z, hz1, hz2, _⟩ := nm_get t (hto t hph2)
        refine ⟨_, rfl, _, rfl, an, _, _, _, rfl, rfl, SqL.of hnm6, atI_nat (natL_get hz1), ?_⟩
        exact hN _ _ ⟨some z, (fun t ht => by cases ht; exact hz2), rfl, rfl⟩
    rintro σ' H' ⟨o', ho', rfl, rfl⟩
    -- done.append((tuple([tuple([names[one] for one in row]) for row in rows]), told))
    refine ⟨_, rfl, .inl ⟨rfl, _, SqL.of d1⟩, _, rfl, r, rfl, ⟨_, SqL.of f1⟩, fun l1 hl1 => lc_it (walk_list (xs := RL))
      (fun j H'' => Same H' H'' ∧ ∃ (AL : List V) (rs' : List Row), H'' l1 = some (.lst AL) ∧ DpAll K H'' AL (rs'.map rowP) ∧ rs'.length = j ∧ ∀ x ∈ rs', WFRow n x) ?_ ?_ ?_ ?_⟩
    · exact ⟨Same.new hl1, [], [], upd_same, .nil, rfl, fun x hx => by cases hx⟩
    · rintro j H'' _ ⟨hS2, _⟩
      exact SqL.of (hS2 _ _ f1)
    · rintro j x' H7 H8 hj ⟨hS2, AL, rs', a1, a2, a3, a4⟩ ⟨rfl, hxj⟩
      rw [hRl] at hj
      obtain ⟨rv, hrv, hdrv⟩ := DpAll.get f2 (i := j) (d := rowP ph.1[j]) (by rw [List.getElem?_map, List.getElem?_eq_getElem hj]; rfl)
      rw [hxj] at hrv
      cases hrv
      have hwr := hpa.rows ph.1[j] (List.getElem_mem hj)
      generalize ph.1[j] = row at hdrv hwr
      obtain ⟨qr, rfl, hqr⟩ := rowP_inv hdrv
      have hqr8 := Same.tup hS2 hqr
      have hAl : AL.length = j := by rw [DpAll.length a2, List.length_map, a3]
      refine ⟨rfl, ?_⟩
      refine ⟨_, rfl, qr, rfl, ⟨_, hqr8⟩, fun l2 hl2 => lc_it (walk_tup (xs := row.map fun n : Nat => V.int n))
        (fun m H'' => Same H8 H'' ∧ ∃ ns : List Nat, H'' l2 = some (.lst (ns.map fun n : Nat => V.int n)) ∧ ns.length = m ∧ (∀ z ∈ ns, z < n) ∧ (0 < m → 0 < ns.headD 0)) ?_ ?_ ?_ ?_⟩
      · exact ⟨Same.new hl2, [], upd_same, rfl, (fun z hz => by cases hz), fun h => absurd h (by omega)⟩
      · rintro m H'' _ ⟨hS3, _⟩
        exact Same.tup hS3 hqr8
      · rintro m x' H9 H10 hm ⟨hS3, ns, b1, b2, b3, b4⟩ ⟨rfl, hxm⟩
        rw [List.length_map] at hm
        rw [List.getElem?_map] at hxm
        obtain ⟨one, hone, rfl⟩ := Option.map_eq_some_iff.mp hxm
        obtain ⟨z, hz1, hz2, hz3⟩ := nm_get one (hwr.all one (List.mem_of_getElem? hone))
        have hnm10 := (hS2.trans hS3) _ _ hnm6
        refine ⟨rfl, ?_⟩
        refine ⟨_, rfl, _, rfl, an, _, _, _, rfl, rfl, SqL.of hnm10, atI_nat (natL_get hz1), ?_⟩
        have h3 := hwr.len
        refine ⟨_, b1, (by rw [List.length_map, b2, sizeLine_eq]; omega), Same.put hS3 hl2, ns ++ [z], upd_same.trans (by rw [List.map_append]; rfl), by rw [List.length_append, b2]; rfl, ?_, ?_⟩
        · intro y hy
          rcases List.mem_append.mp hy with hy | hy
          · exact b3 y hy
          · rw [List.mem_singleton.mp hy]
            exact hz2
        · intro _
          cases ns with
          | nil =>
            have hm0 : m = 0 := b2.symm
            subst hm0
            refine hz3 ?_
            have := hwr.head
            cases row with
            | nil => simp at hone
            | cons x0 rr =>
              have : x0 = one := by simpa using hone
              rw [← this]
              exact hwr.head
          | cons y ys =>
            have hm0 : 0 < m := by rw [← b2]; exact Nat.succ_pos _
            exact b4 hm0
      · rintro H9 ⟨hS3, ns, b1, b2, b3, b4⟩
        rw [List.length_map] at b2 b4
        refine ⟨l2, _, rfl, .inl ⟨SqL.of b1, fun t2 ht2 => ?_⟩⟩
        have S5 := hS3.trans (Same.new (o := .tup (ns.map fun n : Nat => V.int n)) ht2)
        have h3 := hwr.len
        have a1' := S5 _ _ a1
        have hw : WFRow n ns := ⟨by rw [b2]; exact h3, b3, b4 (by omega)⟩
        obtain ⟨AL', e1, e2⟩ := LD.app a1' (DpAll.same S5 a2) (NLs_rows rs') (Dp.row (q := t2) (SqT.of upd_same)) (NL_rowP ns)
        refine ⟨AL, a1', (by rw [hAl, sizeLine_eq]; omega), Same.put (hS2.trans S5) hl1, AL', rs' ++ [ns], e1, ?_, ?_, ?_⟩
        · rw [List.map_append]
          exact e2
        · rw [List.length_append, a3]
          rfl
        · intro y hy
          rcases List.mem_append.mp hy with hy | hy
          · exact a4 y hy
          · rw [List.mem_singleton.mp hy]
            exact hw
    · rintro H7 ⟨hS2, AL, rs', a1, a2, a3, a4⟩
      rw [hRl] at a3
      refine ⟨l1, AL, rfl, .inl ⟨SqL.of a1, fun t1 ht1 => ⟨_, rfl, (by show 2 ≤ sizeLine; decide), fun q7 hq7 => ?_⟩⟩⟩
      have S8 := hS2.trans ((Same.new (o := .tup AL) ht1).trans (Same.new (o := .tup [.ref t1, toldV0 o']) hq7))
      have d1' := S8 _ _ d1
      have hDl : DL.length = i := by rw [DpAll.length d2, List.length_map, d3]
      have hpl := hps4.length
      refine ⟨ad, DL, _, rfl, rfl, d1', (by rw [hDl, sizeLine_eq]; omega), ?_⟩
      have hD : Dp K (upd (upd H7 t1 (.tup AL)) q7 (.tup [.ref t1, toldV0 o'])) (.ref q7) (phaseP (rs', o')) := dpPhase (Dp.same (Same.new hq7) (LD.tup a1 a2 ht1)) (dp_told0 _) (SqT.of upd_same)
      obtain ⟨DL', e1, e2⟩ := LD.app d1' (DpAll.same S8 d2) (NLs_phases phs') hD (NL_phaseP _)
      refine ⟨⟨_, _, _, _, _, rfl⟩, Same.put (hS.trans S8) had, DL', phs' ++ [(rs', o')], e1, ?_, ?_, ?_⟩
      · rw [List.map_append]
        exact e2
      · rw [List.length_append, d3]
        rfl
      · intro y hy
        rcases List.mem_append.mp hy with hy | hy
        · exact d4 y hy
        · rw [List.mem_singleton.mp hy]
          exact ⟨a4, by show rs'.length ≤ 100; omega, ho'⟩
  · rintro σ' H5 ⟨⟨o7, o8, o9, o10, o11, rfl⟩, hS, DL, phs', d1, d2, d3, d4⟩
    rw [List.length_map, hps4.length] at d3
    refine ⟨_, rfl, _, rfl, ad, DL, rfl, .inl ⟨SqL.of d1, fun p5 hp5 => ⟨(by show 2 ≤ sizeLine; decide), fun q5 hq5 => ?_⟩⟩⟩
    have S := (hS.trans (Same.new (o := .tup DL) hp5)).trans (Same.new (o := .tup [.int n, .ref p5]) hq5)
    exact q _ phs' _ (hB4.trans (But.of S)) (hp4.same S) (Dp.prog (l := p5) (SqT.of upd_same) (Dp.same (Same.new hq5) (LD.tup d1 d2 hp5))) d3 d4
end
end U3


namespace U3
open PySem PySem.Spec PyProof.Rows L2
section
variable {P : Program} {w : World} {K : PySem.W.Frag} {mg : Str → Option Value} {base : Heap}
/-! _law_edited(pool, program, edits, spoil) -/
def flat : List (Addr × Addr) → List Addr
  | [] => []
  | x :: xs => x.1 :: x.2 :: flat xs
theorem flat_mem : ∀ {ps : List (Addr × Addr)} {a r : Addr}, (a, r) ∈ ps → a ∈ flat ps ∧ r ∈ flat ps
  | x :: xs, a, r, h => by
    rcases List.mem_cons.mp h with rfl | h
    · exact ⟨List.mem_cons_self, List.mem_cons_of_mem _ List.mem_cons_self⟩
    · obtain ⟨h1, h2⟩ := flat_mem h
      exact ⟨List.mem_cons_of_mem _ (List.mem_cons_of_mem _ h1), List.mem_cons_of_mem _ (List.mem_cons_of_mem _ h2)⟩
theorem flat_snoc : ∀ (ps : List (Addr × Addr)) (a r : Addr), flat (ps ++ [(a, r)]) = flat ps ++ [a, r]
  | [], _, _ => rfl
  | x :: xs, a, r => by
    show x.1 :: x.2 :: flat (xs ++ [(a, r)]) = _
    rw [flat_snoc xs a r]
    rfl
theorem flat_of {ps : List (Addr × Addr)} {P' : Addr → Prop} (h : ∀ x ∈ ps, P' x.1 ∧ P' x.2) : ∀ z ∈ flat ps, P' z := by
  induction ps with
  | nil => intro z hz; cases hz
  | cons x xs ih =>
    intro z hz
    rcases List.mem_cons.mp hz with rfl | hz
    · exact (h x List.mem_cons_self).1
    · rcases List.mem_cons.mp hz with rfl | hz
      · exact (h x List.mem_cons_self).2
      · exact ih (fun y hy => h y (List.mem_cons_of_mem _ hy)) z hz
theorem Parts.snoc {H : Hp} {n : Nat} {a r : Addr} {ph : List Row × Option Nat} (h : PartAt K H a r ph.1 ph.2 n) : ∀ {ps : List (Addr × Addr)} {phs : List (List Row × Option Nat)}, Parts K H n ps phs → Parts K H n (ps ++ [(a, r)]) (phs ++ [ph])
  | _, _, .nil => .cons h .nil
  | _, _, .cons x y => .cons x (Parts.snoc h y)
theorem Parts.put {H H1 : Hp} {n n' : Nat} {p a r : Addr} {rs' : List Row} {o' : Option Nat} (k : Keep [p, a, r] H H1) (hl : ∀ b ∈ [p, a, r], ∃ xs, H b = some (.lst xs)) (hA : PartAt K H1 a r rs' o' n') (hn : n ≤ n') :
    ∀ {ps : List (Addr × Addr)} {phs : List (List Row × Option Nat)} {i : Nat}, Parts K H n ps phs → ps[i]? = some (a, r) → (flat ps).Nodup → (∀ x ∈ ps, x.1 ≠ p ∧ x.2 ≠ p) → Parts K H1 n' ps (phs.set i (rs', o'))
  | _, _, i, .nil, e, _, _ => by simp at e
  | _, _, 0, .cons (a := a0) (r := r0) (ps := ps) h t, e, nd, np => by
    simp only [List.getElem?_cons_zero, Option.some.injEq, Prod.mk.injEq] at e
    obtain ⟨rfl, rfl⟩ := e
    refine .cons hA (t.map fun a1 r1 rs o m x => (x.keep k hl ?_ ?_).mono hn)
    · have h1 := flat_mem m
      have nd' : (a0 :: r0 :: flat ps).Nodup := nd
      obtain ⟨n1, n2⟩ := List.nodup_cons.mp nd'
      obtain ⟨n3, n4⟩ := List.nodup_cons.mp n2
      have e1 := (np _ (List.mem_cons_of_mem _ m)).1
      intro z
      simp only [List.mem_cons, List.not_mem_nil, or_false] at z
      rcases z with rfl | rfl | rfl
      · exact e1 rfl
      · exact n1 (List.mem_cons_of_mem _ h1.1)
      · exact n3 h1.1
    · have h1 := flat_mem m
      have nd' : (a0 :: r0 :: flat ps).Nodup := nd
      obtain ⟨n1, n2⟩ := List.nodup_cons.mp nd'
      obtain ⟨n3, n4⟩ := List.nodup_cons.mp n2
      have e1 := (np _ (List.mem_cons_of_mem _ m)).2
      intro z
      simp only [List.mem_cons, List.not_mem_nil, or_false] at z
      rcases z with rfl | rfl | rfl
      · exact e1 rfl
      · exact n1 (List.mem_cons_of_mem _ h1.2)
      · exact n3 h1.2
  | _, _, i + 1, .cons (a := a0) (r := r0) (ps := ps) h t, e, nd, np => by
    have e' : ps[i]? = some (a, r) := by simpa using e
    have h1 := flat_mem (List.mem_of_getElem? e')
    have nd' : (a0 :: r0 :: flat ps).Nodup := nd
    obtain ⟨n1, n2⟩ := List.nodup_cons.mp nd'
    obtain ⟨n3, n4⟩ := List.nodup_cons.mp n2
    have e1 := np _ List.mem_cons_self
    refine .cons ((h.keep k hl ?_ ?_).mono hn) (Parts.put k hl hA hn t e' n4 fun x hx => np x (List.mem_cons_of_mem _ hx))
    · intro z
      simp only [List.mem_cons, List.not_mem_nil, or_false] at z
      rcases z with rfl | rfl | rfl
      · exact e1.1 rfl
      · exact n1 (List.mem_cons_of_mem _ h1.1)
      · exact n1 (List.mem_cons_of_mem _ h1.2)
    · intro z
      simp only [List.mem_cons, List.not_mem_nil, or_false] at z
      rcases z with rfl | rfl | rfl
      · exact e1.2 rfl
      · exact n3 h1.1
      · exact n3 h1.2
theorem told_inv {H : Hp} {t : V} : ∀ {o : Option Nat}, Dp K H t (toldP o) → t = toldV0 o
  | none, h => Dp.non_inv h
  | some _, h => Dp.int_inv h
/-- the parts as they lie while the edits go on -/
structure EI (K : PySem.W.Frag) (H0 : Hp) (p f : Addr) (ps : List (Addr × Addr)) (n L m : Nat) (H : Hp) : Prop where
  but : But p H0 H
  pool : Pool H p
  hf : H f = some (.lst (ps.map fun x => V.ref x.1))
  parts : ∃ phs, Parts K H n ps phs ∧ phs.length = L ∧ ∀ ph ∈ phs, ph.1.length ≤ m
def sp_law_edited (K : PySem.W.Frag) : Sp := fun vs H Q _ => ∃ (p : Addr) (x : V) (pr : Prog) (edits : Nat) (b : Bool), vs = [.ref p, x, .int edits, .bl b] ∧ Pool H p ∧ Dp K H x (toD pr) ∧ WF pr ∧ edits ≤ 3 ∧ pr.regs ≤ 800 ∧ (∀ ph ∈ pr.phases, ph.1.length ≤ 80) ∧ pr.phases.length ≤ 100 ∧
  ∀ v pr' H', But p H H' → Pool H' p → Dp K H' v (toD pr') → WF pr' → pr'.phases.length = pr.phases.length → Q v H'
-- slots: 0:pool_here 1:program 2:edits 3:spoil_here 4:fresh 5:phases 6:turn 7:part 8:rows 9:told | cells: []
theorem sc_law_edited : FnScope ["_law_pool_here", "_law_program", "_law_edits", "_law_spoil_here", "_law_fresh", "_law_phases", "_law_turn", "_law_part", "_law_rows", "_law_told"] ["_law_pool_here", "_law_program", "_law_edits", "_law_spoil_here"] (defScope s_law_edited) := ⟨rfl, rfl, rfl, by decide +kernel, rfl, by decide +kernel, by decide +kernel⟩
theorem ok_law_edited (T : Txt K mg) : FnOk P w K mg base CX0 3 (He.ga K "_law_edited") (fdA K (He.ga K "_law_edited")) ["_law_pool_here", "_law_program", "_law_edits", "_law_spoil_here"] (sp_law_edited K) := by
  refine T.F_law_edited.ok sc_law_edited (fun vs H Q E h => by obtain ⟨p, x, pr, edits, b, rfl, _⟩ := h; rfl) (fun cdv A outer s H vs Q E hr h => ⟨_, PSs.nox ((pss_cons (ps_set (i := 4) sc_law_edited.nd rfl (Or.inl rfl) (pe_ix ix_tup (pv 1) pe_int (fun _ _ => rfl)))
(pss_cons (ps_setLc (i := 5) (own := [("_law_rows", 8), ("_law_told", 9)]) (g := (gTup K 2 (gCons (gName 8) (gCons (gName 9) gNil)))) rfl sc_law_edited.nd rfl rfl (sw_true rfl rfl rfl (by decide +kernel)) (pi_tup (pe_ix ix_tup (pv 1) pe_int (fun _ _ => rfl))) (blkOk_by (own := [("_law_rows", 8), ("_law_told", 9)]) (by kernel_rfl)) (fun _ _ _ _ _ => (pg_tup rfl (pgs_cons (pg_name (i := 8) sc_law_edited.nd rfl (Or.inl rfl)) (pgs_cons (pg_name (i := 9) sc_law_edited.nd rfl (Or.inl rfl)) pgs_nil)))) (fun _ _ _ _ _ => pts_nil) (fun _ _ _ _ _ => (pe_lst (pa_cons (pe_callTy (r := rLstOf K) call_lstK (by rfl) T.m_list bt_list (pa_cons (pv 8) pa_nil)) (pa_cons (pv 9) pa_nil)))))
(pss_cons (ps_for PassesOwn.never rfl (pi_range1 (by rfl) T.m_range (pa_cons (pv 2) pa_nil)) (pg_name (i := 6) sc_law_edited.nd rfl (Or.inl rfl))
(pss_cons (ps_set (i := 7) sc_law_edited.nd rfl (Or.inl rfl) (pe_ix ix_list (pv 5) (pe_call (ok_law_draw T) (hr.mono (by decide)) (by rfl) T.g_law_draw T.F_law_draw.kp T.b_law_draw .nil pass0 (pa_cons (pv 0) (pa_cons (pe_callB call_len_seq (by rfl) T.m_len bt_len (pa_cons (pv 5) pa_nil)) pa_nil))) (fun _ _ => rfl)))
(pss_cons (ps_expr (pe_call (ok_law_edit T) (hr.mono (by decide)) (by rfl) T.g_law_edit T.F_law_edit.kp T.b_law_edit .nil pass0 (pa_cons (pv 0) (pa_cons (pv 7) (pa_cons (pe_ix ix_list (pv 7) pe_int (fun _ _ => rfl)) (pa_cons (pe_call (ok_law_draw T) (hr.mono (by decide)) (by rfl) T.g_law_draw T.F_law_draw.kp T.b_law_draw .nil pass0 (pa_cons (pv 0) (pa_cons (pe_op op_add (pe_callB call_len_seq (by rfl) T.m_len bt_len (pa_cons (pe_ix ix_list (pv 7) pe_int (fun _ _ => rfl)) pa_nil)) pe_int) pa_nil))) (pa_cons (pv 4) pa_nil)))))))
(pss_cons (ps_set (i := 4) sc_law_edited.nd rfl (Or.inl rfl) (pe_op op_add (pv 4) pe_int))
pss_nil))))
(pss_cons (ps_if (pt_val (pv 3))
(pss_cons (ps_expr (pe_call (ok_law_spoil T) (hr.mono (by decide)) (by rfl) T.g_law_spoil T.F_law_spoil.kp T.b_law_spoil .nil pass0 (pa_cons (pv 0) (pa_cons (pe_ix ix_list (pv 5) (pe_call (ok_law_draw T) (hr.mono (by decide)) (by rfl) T.g_law_draw T.F_law_draw.kp T.b_law_draw .nil pass0 (pa_cons (pv 0) (pa_cons (pe_callB call_len_seq (by rfl) T.m_len bt_len (pa_cons (pv 5) pa_nil)) pa_nil))) (fun _ _ => rfl)) (pa_cons (pv 4) pa_nil)))))
pss_nil)
pss_nil)
(pss_cons (ps_ret (pe_call (ok_law_renamed T) (hr.mono (by decide)) (by rfl) T.g_law_renamed T.F_law_renamed.kp T.b_law_renamed .nil pass0 (pa_cons (pv 0) (pa_cons (pv 4) (pa_cons (pv 5) pa_nil)))))
pss_nil)))))), ?_⟩)
  obtain ⟨p, x, pr, edits, b, rfl, hP, hx, W, he, hrg, h80, h100, q⟩ := h
  obtain ⟨a0, aph, ys, rfl, hs0, hsp, hly, hys⟩ := toD_inv hx
  have hp1 := W.p1
  -- fresh = program[0]
  refine ⟨_, rfl, a0, _, _, _, rfl, rfl, hs0, atI_nat (j := 0) rfl, ?_⟩
  -- phases = [[list(rows), told] for rows, told in program[1]]
  refine ⟨_, rfl, a0, _, _, _, rfl, rfl, hs0, atI_nat (j := 1) rfl, aph, rfl, ⟨_, hsp⟩, fun f hf => lc_it (walk_tup (xs := ys))
    (fun i H' => Same H H' ∧ ∃ ps : List (Addr × Addr), H' f = some (.lst (ps.map fun x => V.ref x.1)) ∧ Parts K H' pr.regs ps (pr.phases.take i) ∧ ps.length = i ∧ (flat ps).Nodup ∧ ∀ x ∈ ps, (H x.1 = none ∧ x.1 ≠ f) ∧ (H x.2 = none ∧ x.2 ≠ f)) ?_ ?_ ?_ ?_⟩
  · exact ⟨Same.new hf, [], upd_same, .nil, rfl, List.nodup_nil, fun x hx => by cases hx⟩
  · rintro i H' _ ⟨hS, _⟩
    exact Same.tup hS hsp
  · rintro i x' H1 H2 hi ⟨hS, ps, g1, g2, g3, g4, g5⟩ ⟨rfl, hx'⟩
    rw [hly] at hi
    obtain ⟨v, hv, hdv⟩ := DpAll.get hys (i := i) (d := phaseP pr.phases[i]) (by rw [List.getElem?_map, List.getElem?_eq_getElem hi]; rfl)
    rw [hx'] at hv
    cases hv
    have hW := W.ph _ (List.getElem_mem hi)
    have htk : pr.phases.take (i + 1) = pr.phases.take i ++ [pr.phases[i]] := by rw [List.take_succ, List.getElem?_eq_getElem hi]; rfl
    generalize pr.phases[i] = ph at hdv hW htk
    obtain ⟨t0, xs, rfl, ht0, hxs⟩ := Dp.tup_inv hdv
    obtain ⟨v1, v2, rfl, hv1, hv2⟩ := DpAll.two hxs
    obtain ⟨rr, RL, rfl, hrr, hRL⟩ := Dp.tup_inv hv1
    have ev2 := told_inv hv2
    subst ev2
    refine ⟨t0, _, rfl, Same.tup hS ht0, rfl, _, _, rfl, _, _, rfl, rfl, rfl, ?_⟩
    refine ⟨_, rfl, rr, RL, rfl, .inr (Same.tup hS hrr), fun r hr1 => ⟨_, rfl, (by show 2 ≤ sizeLine; decide), fun a ha => ?_⟩⟩
    have S2 := (Same.new (o := .lst RL) hr1).trans (Same.new (o := .lst [.ref r, toldV0 ph.2]) ha)
    have hfr := S2 _ _ g1
    have hpl : ps.length = i := g3
    have hA : PartAt K (upd (upd H2 r (.lst RL)) a (.lst [.ref r, toldV0 ph.2])) a r ph.1 ph.2 pr.regs := ⟨upd_same, ⟨RL, (Same.new ha) _ _ upd_same, DpAll.same (hS.trans S2) hRL⟩, hW.rows, hW.told⟩
    have naf : a ≠ f := fun z => by rw [z] at ha; rw [(Same.new hr1) _ _ g1] at ha; cases ha
    have nrf : r ≠ f := fun z => by rw [z, g1] at hr1; cases hr1
    have nar : a ≠ r := fun z => by rw [z, upd_same] at ha; cases ha
    have old : ∀ y ∈ ps, (y.1 ≠ r ∧ y.1 ≠ a) ∧ (y.2 ≠ r ∧ y.2 ≠ a) := by
      intro y hy
      obtain ⟨j, hj, ej⟩ := List.mem_iff_getElem.mp hy
      obtain ⟨ph', _, hp'⟩ := g2.get (i := j) (a := y.1) (r := y.2) (by rw [List.getElem?_eq_getElem hj, ej])
      obtain ⟨zs, hz, _⟩ := hp'.hr
      have e1 := hp'.ha
      refine ⟨⟨fun z => ?_, fun z => ?_⟩, ⟨fun z => ?_, fun z => ?_⟩⟩
      · rw [z, hr1] at e1; cases e1
      · have := (Same.new (o := .lst RL) hr1) _ _ e1
        rw [z, ha] at this; cases this
      · rw [z, hr1] at hz; cases hz
      · have := (Same.new (o := .lst RL) hr1) _ _ hz
        rw [z, ha] at this; cases this
    refine ⟨_, hfr, (by rw [List.length_map, hpl, sizeLine_eq]; omega), Same.put (hS.trans S2) hf, ps ++ [(a, r)], upd_same.trans (by rw [List.map_append]; rfl), ?_, by rw [List.length_append, g3]; rfl, ?_, ?_⟩
    · rw [htk]
      refine Parts.snoc (hA.other hfr naf.symm nrf.symm) ((g2.same S2).map fun a1 r1 rs o m x => x.other hfr (g5 _ m).1.2.symm (g5 _ m).2.2.symm)
    · rw [flat_snoc]
      refine List.nodup_append.mpr ⟨g4, ?_, ?_⟩
      · simp [nar]
      · intro z hz y hy
        have h1 := flat_of (P' := fun z => z ≠ r ∧ z ≠ a) old z hz
        simp only [List.mem_cons, List.not_mem_nil, or_false] at hy
        rcases hy with rfl | rfl
        · exact h1.2
        · exact h1.1
    · intro y hy
      rcases List.mem_append.mp hy with hy | hy
      · exact g5 y hy
      · rw [List.mem_singleton.mp hy]
        refine ⟨⟨?_, naf⟩, ⟨?_, nrf⟩⟩
        · exact Same.free (hS.trans (Same.new hr1)) ha
        · exact Same.free hS hr1
  rintro H1 ⟨hS, ps, g1, g2, g3, g4, g5⟩
  rw [hly] at g3
  rw [hly, List.take_length] at g2
  have hfp : f ≠ p := fun z => by
    obtain ⟨xs, hh⟩ := hP.some
    rw [z, hh] at hf
    cases hf
  have np : ∀ x ∈ ps, x.1 ≠ p ∧ x.2 ≠ p := fun x hx => by
    obtain ⟨xs, hh⟩ := hP.some
    refine ⟨fun z => ?_, fun z => ?_⟩
    · have := (g5 x hx).1.1
      rw [z, hh] at this
      cases this
    · have := (g5 x hx).2.1
      rw [z, hh] at this
      cases this
  have hll : (ps.map fun x => V.ref x.1).length = ps.length := List.length_map _
  -- what an edit leaves
  have turn : ∀ {n n' L m m' : Nat} {H2 H3 : Hp} {a r : Addr} {k : Nat} {phs : List (List Row × Option Nat)} {rs' : List Row} {o' : Option Nat}, EI K H p f ps n L m H2 → Parts K H2 n ps phs → phs.length = L → (∀ ph ∈ phs, ph.1.length ≤ m) → ps[k]? = some (a, r) →
      Keep [p, a, r] H2 H3 → Pool H3 p → PartAt K H3 a r rs' o' n' → n ≤ n' → rs'.length ≤ m' → m ≤ m' → EI K H p f ps n' L m' H3 := by
    intro n n' L m m' H2 H3 a r k phs rs' o' u hps hl hm hk hK hp3 hA hn hrl hmm
    have hmem := List.mem_of_getElem? hk
    obtain ⟨⟨hHa, naf⟩, ⟨hHr, nrf⟩⟩ := g5 _ hmem
    obtain ⟨ph, _, hpa⟩ := hps.get hk
    have hl3 : ∀ b ∈ [p, a, r], ∃ xs, H2 b = some (.lst xs) := by
      intro b hb
      simp only [List.mem_cons, List.not_mem_nil, or_false] at hb
      rcases hb with rfl | rfl | rfl
      · exact u.pool.some
      · exact ⟨_, hpa.ha⟩
      · obtain ⟨xs, h1, _⟩ := hpa.hr
        exact ⟨xs, h1⟩
    refine ⟨fun b o nb hb => hK _ _ ?_ (u.but b o nb hb), hp3, hK _ _ ?_ u.hf, _, Parts.put hK hl3 hA hn hps hk g4 np, by rw [List.length_set]; exact hl, fun ph hph => ?_⟩
    · intro z
      simp only [List.mem_cons, List.not_mem_nil, or_false] at z
      rcases z with rfl | rfl | rfl
      · exact nb rfl
      · rw [hHa] at hb; cases hb
      · rw [hHr] at hb; cases hb
    · intro z
      simp only [List.mem_cons, List.not_mem_nil, or_false] at z
      rcases z with rfl | rfl | rfl
      · exact hfp rfl
      · exact naf rfl
      · exact nrf rfl
    · rcases List.mem_or_eq_of_mem_set hph with h | h
      · exact Nat.le_trans (hm ph h) hmm
      · rw [h]; exact hrl
  -- for turn in range(edits)
  refine ⟨_, rfl, _, rfl, by omega, by omega, for_it (walk_range (lo := 0) (n := (edits : Int).toNat))
    (fun i σ' H' => (∃ o6 o7 o8 o9, σ' = [some (.ref p), some (.ref a0), some (.int edits), some (.bl b), some (.int (pr.regs + i : Nat)), some (.ref f), o6, o7, o8, o9]) ∧ EI K H p f ps (pr.regs + i) pr.phases.length (80 + i) H') ?_ (fun _ _ _ _ _ => trivial) ?_ ?_⟩
  · exact ⟨⟨_, _, _, _, rfl⟩, But.of hS, hP.same hS, g1, _, g2, rfl, h80⟩
  · rintro i x' σ' H2 H3 hi ⟨⟨o6, o7, o8, o9, rfl⟩, u⟩ ⟨rfl, rfl⟩
    have hi : i < edits := by simpa using hi
    obtain ⟨phs, c1, c2, c3⟩ := u.parts
    -- part = phases[draw(pool, len(phases))]
    refine ⟨_, rfl, _, rfl, _, rfl, _, _, rfl, .inl (SqL.of u.hf), p, (ps.map fun x => V.ref x.1).length, rfl, u.pool, by omega, by omega, fun k H4 hk hb4 hp4 => ?_⟩
    rw [hll] at hk
    obtain ⟨⟨a, r⟩, hps⟩ : ∃ y, ps[k]? = some y := ⟨ps[k], List.getElem?_eq_getElem hk⟩
    have hmem := List.mem_of_getElem? hps
    obtain ⟨nap, nrp⟩ := np _ hmem
    have hf4 := hb4.at u.hf hfp
    have c14 := c1.draw u.pool hb4 np
    have u4 : EI K H p f ps (pr.regs + i) pr.phases.length (80 + i) H4 := ⟨u.but.trans hb4, hp4, hf4, phs, c14, c2, c3⟩
    refine ⟨f, _, _, V.ref a, rfl, rfl, SqL.of hf4, atI_nat (j := k) (by rw [List.getElem?_map, hps]; rfl), ?_⟩
    clear u c1
    obtain ⟨ph, hph, hA4⟩ := c14.get hps
    obtain ⟨RL, r1, r2⟩ := id hA4.hr
    have hRl : RL.length = ph.1.length := by rw [DpAll.length r2, List.length_map]
    have hphl := c3 ph (List.mem_of_getElem? hph)
    -- edit(pool, part, part[0], draw(pool, len(part[0]) + 1), fresh)
    refine ⟨_, rfl, _, rfl, _, rfl, a, _, _, _, rfl, rfl, SqL.of hA4.ha, atI_nat (j := 0) rfl, _, rfl, _, rfl, a, _, _, _, rfl, rfl, SqL.of hA4.ha, atI_nat (j := 0) rfl, _, _, rfl, .inl (SqL.of r1), _, _, rfl, rfl, p, RL.length + 1, rfl, hp4, by omega, by omega, fun place H5 hpl hb5 hp5 => ?_⟩
    have c15 := c14.draw hp4 hb5 np
    have u5 : EI K H p f ps (pr.regs + i) pr.phases.length (80 + i) H5 := ⟨u4.but.trans hb5, hp5, hb5.at hf4 hfp, phs, c15, c2, c3⟩
    have hA5 := hA4.draw hp4 hb5 nap nrp
    have nar : a ≠ r := by
      have key : ∀ {qs : List (Addr × Addr)}, (flat qs).Nodup → (a, r) ∈ qs → a ≠ r := by
        intro qs
        induction qs with
        | nil => intro _ h; cases h
        | cons y ys ih =>
          intro nd h
          have nd' : (y.1 :: y.2 :: flat ys).Nodup := nd
          obtain ⟨n1, n2⟩ := List.nodup_cons.mp nd'
          obtain ⟨n3, n4⟩ := List.nodup_cons.mp n2
          rcases List.mem_cons.mp h with h | h
          · subst h
            intro z
            exact n1 (by rw [show (a, r).1 = (a, r).2 from z]; exact List.mem_cons_self)
          · exact ih n4 h
      exact key g4 hmem
    refine ⟨_, rfl, p, a, r, ph.1, ph.2, place, pr.regs + i, rfl, hp5, hA5, by omega, by omega, ?_, by omega, nap, nrp, nar, fun H6 rs' o' hK6 hp6 hA6 hl6 => ?_⟩
    · have := W.r1
      omega
    have u6 := turn u5 c15 c2 c3 hps hK6 hp6 hA6 (Nat.le_succ _) (show rs'.length ≤ 80 + (i + 1) by omega) (by omega)
    exact ⟨_, rfl, _, _, rfl, rfl, ⟨_, _, _, _, rfl⟩, u6⟩
  · rintro σ' H2 ⟨⟨o6, o7, o8, o9, rfl⟩, u⟩
    have hei : (edits : Int).toNat = edits := by simp
    rw [hei] at u ⊢
    refine seq_nx (fun σ' H' => σ' = [some (.ref p), some (.ref a0), some (.int edits), some (.bl b), some (.int (pr.regs + edits : Nat)), some (.ref f), o6, o7, o8, o9] ∧ EI K H p f ps (pr.regs + edits) pr.phases.length (80 + edits) H') (fun D' hN _ _ _ => ?_) ?_
    · refine ⟨_, rfl, _, rfl, ?_⟩
      cases b with
      | false =>
        refine ifF rfl ?_
        exact hN _ _ ⟨rfl, u⟩
      | true =>
        refine ifT rfl ?_
        obtain ⟨phs, c1, c2, c3⟩ := u.parts
        refine ⟨_, rfl, _, rfl, _, rfl, _, rfl, _, _, rfl, .inl (SqL.of u.hf), p, (ps.map fun x => V.ref x.1).length, rfl, u.pool, by omega, by omega, fun k H4 hk hb4 hp4 => ?_⟩
        rw [hll] at hk
        obtain ⟨⟨a, r⟩, hps⟩ : ∃ y, ps[k]? = some y := ⟨ps[k], List.getElem?_eq_getElem hk⟩
        have hmem := List.mem_of_getElem? hps
        obtain ⟨nap, nrp⟩ := np _ hmem
        have hf4 := hb4.at u.hf hfp
        have c14 := c1.draw u.pool hb4 np
        have u4 : EI K H p f ps (pr.regs + edits) pr.phases.length (80 + edits) H4 := ⟨u.but.trans hb4, hp4, hf4, phs, c14, c2, c3⟩
        obtain ⟨ph, hph, hA4⟩ := c14.get hps
        have hphl := c3 ph (List.mem_of_getElem? hph)
        have nar : a ≠ r := by
          have key : ∀ {qs : List (Addr × Addr)}, (flat qs).Nodup → (a, r) ∈ qs → a ≠ r := by
            intro qs
            induction qs with
            | nil => intro _ h; cases h
            | cons y ys ih =>
              intro nd h
              have nd' : (y.1 :: y.2 :: flat ys).Nodup := nd
              obtain ⟨n1, n2⟩ := List.nodup_cons.mp nd'
              obtain ⟨n3, n4⟩ := List.nodup_cons.mp n2
              rcases List.mem_cons.mp h with h | h
              · subst h
                intro z
                exact n1 (by rw [show (a, r).1 = (a, r).2 from z]; exact List.mem_cons_self)
              · exact ih n4 h
          exact key g4 hmem
        refine ⟨f, _, _, V.ref a, rfl, rfl, SqL.of hf4, atI_nat (j := k) (by rw [List.getElem?_map, hps]; rfl), _, rfl, p, a, r, ph.1, ph.2, pr.regs + edits, rfl, hp4, hA4, by omega, ?_, by omega, nap, nrp, nar, fun H6 rs' o' hK6 hp6 hA6 hl6 => ?_⟩
        · have := W.r1
          omega
        exact hN _ _ ⟨rfl, turn u4 c14 c2 c3 hps hK6 hp6 hA6 (Nat.le_refl _) (by omega) (Nat.le_refl _)⟩
    rintro σ' H3 ⟨rfl, u3⟩
    obtain ⟨phs, c1, c2, c3⟩ := u3.parts
    have hr1 := W.r1
    refine ⟨_, rfl, _, rfl, _, rfl, p, f, ps, phs, pr.regs + edits, rfl, u3.pool, u3.hf, c1, by omega, by omega, (fun ph hph => by have := c3 ph hph; omega), by omega, hfp, np, fun v phs' H' hb hp' hd hlen hw => ?_⟩
    exact q v ⟨pr.regs + edits, phs'⟩ H' (u3.but.trans hb) hp' hd ⟨by show 1 ≤ pr.regs + edits; omega, by show pr.regs + edits ≤ 1000; omega, by show 1 ≤ phs'.length; omega, by show phs'.length ≤ 1000; omega, hw⟩ (by show phs'.length = _; omega)
end
end U3


namespace U3
open PySem PySem.Spec PyProof.Rows L2
section
variable {P : Program} {w : World} {K : PySem.W.Frag} {mg : Str → Option Value} {base : Heap}
/-! expressions that are data -/
def Lit (K : PySem.W.Frag) (σ : L2.St) (H0 : Hp) (te : TE) (d : PyData) : Prop := ∀ (H : Hp) (Q : VK), Same H0 H → (∀ v H', Same H H' → Dp K H' v d → Q v H') → te σ H Q
def Lits (K : PySem.W.Frag) (σ : L2.St) (H0 : Hp) (ta : TA) (ds : List PyData) : Prop := ∀ (H : Hp) (Q : List V → Hp → Prop), Same H0 H → (∀ vs H', Same H H' → DpAll K H' vs ds → Q vs H') → ta σ H Q
section
variable {σ : L2.St} {H0 : Hp} {te : TE} {ta : TA} {d : PyData} {ds : List PyData}
theorem Lit.int {i : Int} : Lit K σ H0 (tC (.int i)) (.int i) := fun H Q e q => q _ _ (Same.refl _) (.int i)
theorem Lit.bl {b : Bool} : Lit K σ H0 (tC (.bl b)) (.bool b) := fun H Q e q => q _ _ (Same.refl _) (.bl b)
theorem Lit.str {x : Str} : Lit K σ H0 (tC (.str x)) (.str x) := fun H Q e q => q _ _ (Same.refl _) (.str x)
theorem Lit.non : Lit K σ H0 (tC .non) .none := fun H Q e q => q _ _ (Same.refl _) .non
theorem Lit.neg {i : Int} (h : Lit K σ H0 te (.int i)) : Lit K σ H0 (tUn (rU fun i => .int (-i)) te) (.int (-i)) := fun H Q e q => h H _ e fun v H1 e1 hd => by
  rw [Dp.int_inv hd]
  exact ⟨i, rfl, q _ _ e1 (.int _)⟩
theorem Lit.var {i : Nat} {v : V} (h : σ[i]? = some (some v)) (hd : Dp K H0 v d) : Lit K σ H0 (tVar i) d := fun H Q e q => ⟨v, h, q v H (Same.refl _) (Dp.same e hd)⟩
theorem Lits.nil : Lits K σ H0 tNil [] := fun H Q e q => q _ _ (Same.refl _) .nil
theorem Lits.cons (h : Lit K σ H0 te d) (r : Lits K σ H0 ta ds) : Lits K σ H0 (tCons te ta) (d :: ds) := fun H Q e q => h H _ e fun v H1 e1 hd => r H1 _ (e.trans e1) fun vs H2 e2 hds => q _ _ (e1.trans e2) (.cons (Dp.same e2 hd) hds)
theorem Lit.tup (h : Lits K σ H0 ta ds) (hz : ds.length ≤ 64) : Lit K σ H0 (tTup ta) (.tuple ds) := fun H Q e q => h H _ e fun vs H1 e1 hd => ⟨by rw [DpAll.length hd, sizeLine_eq]; omega, fun p hp => q _ _ (e1.trans (Same.new hp)) (.tup (SqT.of upd_same) (DpAll.same (Same.new hp) hd))⟩
theorem Lit.lst (h : Lits K σ H0 ta ds) (hz : ds.length ≤ 64) : Lit K σ H0 (tLst ta) (.list ds) := fun H Q e q => h H _ e fun vs H1 e1 hd => ⟨by rw [DpAll.length hd, sizeLine_eq]; omega, fun p hp => q _ _ (e1.trans (Same.new hp)) (.lst (SqL.of upd_same) (DpAll.same (Same.new hp) hd))⟩
theorem Lit.ix (j : Nat) (h : Lit K σ H0 te (.tuple ds)) (hj : ds[j]? = some d) : Lit K σ H0 (tOp (rIxT K) te (tC (.int (j : Nat)))) d := fun H Q e q => h H _ e fun v H1 e1 hd => by
  obtain ⟨a, xs, rfl, h1, h2⟩ := Dp.tup_inv hd
  obtain ⟨y, hy, hdy⟩ := DpAll.get h2 hj
  exact ⟨a, xs, _, y, rfl, rfl, h1, atI_nat hy, q _ _ e1 hdy⟩
theorem asg_lit {g : TG} {u : TS} {D : Ends} {H : Hp} (L : Lit K σ H te d) (h : ∀ v H', Same H H' → Dp K H' v d → g v σ H' (u D)) : tSeq (tAsg te g) u D σ H := L H _ (Same.refl _) h
theorem nx_lit {g : TG} {u : TS} {D : Ends} {r : VK} {b c : L2.St → Hp → Prop} {H : Hp} (L : Lit K σ H te d) (h : ∀ v H', Same H H' → Dp K H' v d → g v σ H' (u D)) : (Ends.mk (tSeq (tAsg te g) u D) r b c).nx σ H := L H _ (Same.refl _) h
theorem asg_op {r : R2} {tb : TE} {g : TG} {u : TS} {D : Ends} {H : Hp} (L : Lit K σ H te d) (h : ∀ v H', Same H H' → Dp K H' v d → tb σ H' fun y H2 => r v y H2 fun x H3 => g x σ H3 (u D)) : tSeq (tAsg (tOp r te tb) g) u D σ H := L H _ (Same.refl _) h
theorem nx_op {r : R2} {tb : TE} {g : TG} {u : TS} {D : Ends} {rt : VK} {b c : L2.St → Hp → Prop} {H : Hp} (L : Lit K σ H te d) (h : ∀ v H', Same H H' → Dp K H' v d → tb σ H' fun y H2 => r v y H2 fun x H3 => g x σ H3 (u D)) : (Ends.mk (tSeq (tAsg (tOp r te tb) g) u D) rt b c).nx σ H := L H _ (Same.refl _) h
end
theorem Lits.alloc {σ : L2.St} {ta : TA} {ds : List PyData} {H : Hp} {Q : VK} (L : Lits K σ H ta ds) (hz : ds.length ≤ 64) (h : ∀ q xs H', Same H H' → H q = none → H' q = some (.lst xs) → DpAll K H' xs ds → Q (.ref q) H') : tLst ta σ H Q :=
  L H _ (Same.refl _) fun vs H1 e1 hd => ⟨by rw [DpAll.length hd, sizeLine_eq]; omega, fun p hp => h p vs _ (e1.trans (Same.new hp)) (Same.free e1 hp) upd_same (DpAll.same (Same.new hp) hd)⟩
theorem asg_opl {σ : L2.St} {ta : TA} {ds : List PyData} {r : R2} {tb : TE} {g : TG} {u : TS} {D : Ends} {H : Hp} (L : Lits K σ H ta ds) (hz : ds.length ≤ 64) (h : ∀ q xs H', Same H H' → H q = none → H' q = some (.lst xs) → DpAll K H' xs ds → tb σ H' fun y H2 => r (.ref q) y H2 fun x H3 => g x σ H3 (u D)) : tSeq (tAsg (tOp r (tLst ta) tb) g) u D σ H :=
  show tLst ta σ H (fun x H1 => tb σ H1 fun y H2 => r x y H2 fun x H3 => g x σ H3 (u D)) from Lits.alloc L hz h
/-! scenes -/
structure Scn (pr : Prog) (width hop : Nat) : Prop where
  wf : WF pr
  phs : pr.phases.length ≤ 200
  w1 : 1 ≤ width
  w2 : width ≤ 8
  h1 : 1 ≤ hop
  h2 : hop ≤ 100
  few : Nat.lcm pr.phases.length hop ≤ 1000
def SceneQ (K : PySem.W.Frag) (H : Hp) (p : Addr) (Q : VK) : Prop := ∀ (l : Addr) (x : V) (pr : Prog) (width hop : Nat) (H' : Hp), But p H H' → Pool H' p → H' l = some (.lst [x, .int width, .int hop]) → Dp K H' x (toD pr) → Scn pr width hop → Q (.ref l) H'
def menuL : List (Nat × Nat) := [(100, 16), (80, 25), (57, 7), (50, 8), (39, 10), (25, 16), (120, 1), (24, 36), (7, 3), (5, 2), (9, 4), (11, 3), (8, 6), (5, 4), (7, 2), (9, 2)]
def pairP (x : Nat × Nat) : PyData := .tuple [.int x.1, .int x.2]
theorem menu_ok : ∀ x ∈ menuL, 1 ≤ x.1 ∧ x.1 ≤ 120 ∧ 1 ≤ x.2 ∧ x.2 ≤ 36 ∧ Nat.lcm x.1 x.2 ≤ 1000 := by decide
def phase0 : Nat → List Row × Option Nat
  | 0 => ([], some 0)
  | _ => ([[2, 1, 0], [1, 0]], some 2)
def spoilt0 (v : Nat) : Nat → List Row × Option Nat
  | 0 => ((phase0 v).1, none)
  | 1 => ((phase0 v).1, some 1)
  | 2 => ([], some (1 + v))
  | _ => ([[2, 0, 0], [1, 0]], some 2)
theorem NLs_pairs (l : List (Nat × Nat)) : NLs (l.map pairP) = true := NLs_all fun d hd => by
  obtain ⟨r, _, rfl⟩ := List.mem_map.mp hd
  rfl
theorem wf_rows1 : ∀ r ∈ ([[2, 1, 0], [1, 0]] : List Row), WFRow 3 r := fun r hr => by
  simp only [List.mem_cons, List.not_mem_nil, or_false] at hr
  rcases hr with rfl | rfl
  · exact wfRow3 (by decide) (by decide) (by decide) (by decide)
  · exact wfRow2 (by decide) (by decide) (by decide)
theorem wf_rows2 : ∀ r ∈ ([[2, 0, 0], [1, 0]] : List Row), WFRow 3 r := fun r hr => by
  simp only [List.mem_cons, List.not_mem_nil, or_false] at hr
  rcases hr with rfl | rfl
  · exact wfRow3 (by decide) (by decide) (by decide) (by decide)
  · exact wfRow2 (by decide) (by decide) (by decide)
theorem wf_rows0 (v : Nat) : ∀ r ∈ (phase0 v).1, WFRow 3 r := by
  cases v with
  | zero => intro r hr; cases hr
  | succ v => exact wf_rows1
theorem len_rows0 (v : Nat) : (phase0 v).1.length ≤ 2 := by
  cases v with
  | zero => exact Nat.zero_le _
  | succ v => exact Nat.le_refl _
theorem wf_phase0 (v : Nat) : WFPh 3 (phase0 v) := by
  refine ⟨wf_rows0 v, by have := len_rows0 v; omega, ?_⟩
  cases v with
  | zero => intro t ht; cases ht; decide
  | succ v => intro t ht; cases ht; decide
theorem wf_spoilt0 {v : Nat} (hv : v < 2) : ∀ k, WFPh 3 (spoilt0 v k)
  | 0 => ⟨wf_rows0 v, by show (phase0 v).1.length ≤ 100; have := len_rows0 v; omega, fun t ht => by cases ht⟩
  | 1 => ⟨wf_rows0 v, by show (phase0 v).1.length ≤ 100; have := len_rows0 v; omega, fun t ht => by cases ht; decide⟩
  | 2 => ⟨(fun r hr => by cases hr), Nat.zero_le _, fun t ht => by cases ht; omega⟩
  | _ + 3 => ⟨wf_rows2, (by show 2 ≤ 100; decide), fun t ht => by cases ht; decide⟩
def sp_law_sparse (K : PySem.W.Frag) : Sp := fun vs H Q _ => ∃ (p : Addr), vs = [.ref p] ∧ Pool H p ∧ SceneQ K H p Q
-- slots: 0:pool_here 1:menu 2:many 3:hop 4:width 5:phase 6:phases 7:spoilt | cells: []
theorem sc_law_sparse : FnScope ["_law_pool_here", "_law_menu", "_law_many", "_law_hop", "_law_width", "_law_phase", "_law_phases", "_law_spoilt"] ["_law_pool_here"] (defScope s_law_sparse) := ⟨rfl, rfl, rfl, by decide +kernel, rfl, by decide +kernel, by decide +kernel⟩
theorem ok_law_sparse (T : Txt K mg) : FnOk P w K mg base CX0 2 (He.ga K "_law_sparse") (fdA K (He.ga K "_law_sparse")) ["_law_pool_here"] (sp_law_sparse K) := by
  refine T.F_law_sparse.ok sc_law_sparse (fun vs H Q E h => by obtain ⟨p, rfl, _⟩ := h; rfl) (fun cdv A outer s H vs Q E hr h => ⟨_, PSs.nox ((pss_cons (ps_set (i := 1) sc_law_sparse.nd rfl (Or.inl rfl) (pe_tup (pa_cons (pe_tup (pa_cons pe_int (pa_cons pe_int pa_nil))) (pa_cons (pe_tup (pa_cons pe_int (pa_cons pe_int pa_nil))) (pa_cons (pe_tup (pa_cons pe_int (pa_cons pe_int pa_nil))) (pa_cons (pe_tup (pa_cons pe_int (pa_cons pe_int pa_nil))) (pa_cons (pe_tup (pa_cons pe_int (pa_cons pe_int pa_nil))) (pa_cons (pe_tup (pa_cons pe_int (pa_cons pe_int pa_nil))) (pa_cons (pe_tup (pa_cons pe_int (pa_cons pe_int pa_nil))) (pa_cons (pe_tup (pa_cons pe_int (pa_cons pe_int pa_nil))) (pa_cons (pe_tup (pa_cons pe_int (pa_cons pe_int pa_nil))) (pa_cons (pe_tup (pa_cons pe_int (pa_cons pe_int pa_nil))) (pa_cons (pe_tup (pa_cons pe_int (pa_cons pe_int pa_nil))) (pa_cons (pe_tup (pa_cons pe_int (pa_cons pe_int pa_nil))) (pa_cons (pe_tup (pa_cons pe_int (pa_cons pe_int pa_nil))) (pa_cons (pe_tup (pa_cons pe_int (pa_cons pe_int pa_nil))) (pa_cons (pe_tup (pa_cons pe_int (pa_cons pe_int pa_nil))) (pa_cons (pe_tup (pa_cons pe_int (pa_cons pe_int pa_nil))) pa_nil))))))))))))))))))
(pss_cons (ps_asg (pe_ix ix_tup (pv 1) (pe_call (ok_law_draw T) (hr.mono (by decide)) (by rfl) T.g_law_draw T.F_law_draw.kp T.b_law_draw .nil pass0 (pa_cons (pv 0) (pa_cons pe_int pa_nil))) (fun _ _ => rfl)) (pg_tup rfl (pgs_cons (pg_name (i := 2) sc_law_sparse.nd rfl (Or.inl rfl)) (pgs_cons (pg_name (i := 3) sc_law_sparse.nd rfl (Or.inl rfl)) pgs_nil))))
(pss_cons (ps_set (i := 4) sc_law_sparse.nd rfl (Or.inl rfl) (pe_op op_add pe_int (pe_call (ok_law_draw T) (hr.mono (by decide)) (by rfl) T.g_law_draw T.F_law_draw.kp T.b_law_draw .nil pass0 (pa_cons (pv 0) (pa_cons pe_int pa_nil)))))
(pss_cons (ps_set (i := 5) sc_law_sparse.nd rfl (Or.inl rfl) (pe_ix ix_list (pe_lst (pa_cons (pe_tup (pa_cons (pe_tup pa_nil) (pa_cons pe_int pa_nil))) (pa_cons (pe_tup (pa_cons (pe_tup (pa_cons (pe_tup (pa_cons pe_int (pa_cons pe_int (pa_cons pe_int pa_nil)))) (pa_cons (pe_tup (pa_cons pe_int (pa_cons pe_int pa_nil))) pa_nil))) (pa_cons pe_int pa_nil))) pa_nil))) (pe_op op_sub (pv 4) pe_int) (fun _ _ => rfl)))
(pss_cons (ps_set (i := 6) sc_law_sparse.nd rfl (Or.inl rfl) (pe_op op_rep (pe_lst (pa_cons (pv 5) pa_nil)) (pv 2)))
(pss_cons (ps_if (pt_cmpR op_gt (pe_call (ok_law_draw T) (hr.mono (by decide)) (by rfl) T.g_law_draw T.F_law_draw.kp T.b_law_draw .nil pass0 (pa_cons (pv 0) (pa_cons pe_int pa_nil))) pe_int (nomark _))
(pss_cons (ps_set (i := 7) sc_law_sparse.nd rfl (Or.inl rfl) (pe_ix ix_list (pe_lst (pa_cons (pe_tup (pa_cons (pe_ix ix_tup (pv 5) pe_int (fun _ _ => rfl)) (pa_cons pe_non pa_nil))) (pa_cons (pe_tup (pa_cons (pe_ix ix_tup (pv 5) pe_int (fun _ _ => rfl)) (pa_cons pe_int pa_nil))) (pa_cons (pe_tup (pa_cons (pe_tup pa_nil) (pa_cons (pv 4) pa_nil))) (pa_cons (pe_tup (pa_cons (pe_tup (pa_cons (pe_tup (pa_cons pe_int (pa_cons pe_int (pa_cons pe_int pa_nil)))) (pa_cons (pe_tup (pa_cons pe_int (pa_cons pe_int pa_nil))) pa_nil))) (pa_cons pe_int pa_nil))) pa_nil))))) (pe_call (ok_law_draw T) (hr.mono (by decide)) (by rfl) T.g_law_draw T.F_law_draw.kp T.b_law_draw .nil pass0 (pa_cons (pv 0) (pa_cons pe_int pa_nil))) (fun _ _ => rfl)))
(pss_cons (ps_asg (pv 7) (pg_sub (pv 6) (pe_call (ok_law_draw T) (hr.mono (by decide)) (by rfl) T.g_law_draw T.F_law_draw.kp T.b_law_draw .nil pass0 (pa_cons (pv 0) (pa_cons (pv 2) pa_nil))) set_list))
pss_nil))
pss_nil)
(pss_cons (ps_ret (pe_lst (pa_cons (pe_tup (pa_cons pe_int (pa_cons (pe_callTy call_tuple_of (by rfl) T.m_tuple bt_tuple (pa_cons (pv 6) pa_nil)) pa_nil))) (pa_cons (pv 4) (pa_cons (pv 3) pa_nil)))))
pss_nil)))))))), ?_⟩)
  obtain ⟨p, rfl, hP, q⟩ := h
  refine asg_lit (K := K) (d := .tuple (menuL.map pairP)) ?_ fun v1 H1 e1 hd1 => ?_
  · show Lit K _ _ _ (.tuple [.tuple [.int 100, .int 16], .tuple [.int 80, .int 25], .tuple [.int 57, .int 7], .tuple [.int 50, .int 8], .tuple [.int 39, .int 10], .tuple [.int 25, .int 16], .tuple [.int 120, .int 1], .tuple [.int 24, .int 36], .tuple [.int 7, .int 3], .tuple [.int 5, .int 2], .tuple [.int 9, .int 4], .tuple [.int 11, .int 3], .tuple [.int 8, .int 6], .tuple [.int 5, .int 4], .tuple [.int 7, .int 2], .tuple [.int 9, .int 2]])
    (repeat (first | exact Lits.nil | refine Lits.cons ?_ ?_ | exact Lit.int | exact Lit.non | exact Lit.str | exact Lit.bl | refine Lit.tup ?_ (Nat.le_of_ble_eq_true rfl) | refine Lit.lst ?_ (Nat.le_of_ble_eq_true rfl) | refine Lit.neg ?_))
  obtain ⟨am, xm, rfl, hm1, hm2⟩ := Dp.tup_inv hd1
  have hp1 := hP.same e1
  have hB1 := But.of (p := p) e1
  clear hP e1
  -- many, hop = menu[draw(pool, 16)]
  refine ⟨_, rfl, _, rfl, p, 16, rfl, hp1, by omega, by omega, fun k H2 hk hb2 hp2 => ?_⟩
  obtain ⟨ys, hys⟩ := hp1.some
  have tk2 := TK.but (K := K) hb2 hys
  have hkm : k < menuL.length := hk
  obtain ⟨y, hy, hdy⟩ := DpAll.get (DpAll.keep tk2 (NLs_pairs _) hm2) (i := k) (d := pairP menuL[k]) (by rw [List.getElem?_map, List.getElem?_eq_getElem hkm]; rfl)
  have hok := menu_ok _ (List.getElem_mem hkm)
  generalize menuL[k] = mh at hdy hok
  obtain ⟨many, hop⟩ := mh
  obtain ⟨hm1', hm120, hh1, hh36, hlcm⟩ := hok
  simp only at hm1' hm120 hh1 hh36 hlcm
  obtain ⟨ay, xy, rfl, hy1, hy2⟩ := Dp.tup_inv hdy
  obtain ⟨w1, w2, rfl, hw1, hw2⟩ := DpAll.two hy2
  have ew1 := Dp.int_inv hw1
  have ew2 := Dp.int_inv hw2
  subst ew1 ew2
  refine ⟨am, xm, _, _, rfl, rfl, tk2 _ _ hm1, atI_nat (j := k) hy, ay, _, rfl, hy1, rfl, _, _, rfl, _, _, rfl, rfl, ?_⟩
  have hB2 := hB1.trans hb2
  clear hp1 hB1 hb2 tk2 hys
  -- width = 1 + draw(pool, 2)
  refine ⟨_, rfl, p, 2, rfl, hp2, by omega, by omega, fun v H3 hv hb3 hp3 => ⟨_, _, rfl, rfl, ?_⟩⟩
  have hB3 := hB2.trans hb3
  clear hp2 hB2 hb3 hw1 hw2 hy1 hy hm1 hm2
  -- phase = [((), 0), (((2, 1, 0), (1, 0)), 2)][width - 1]
  refine nx_op (K := K) (d := .list [.tuple [.tuple [], .int 0], .tuple [.tuple [.tuple [.int 2, .int 1, .int 0], .tuple [.int 1, .int 0]], .int 2]]) (by (repeat (first | exact Lits.nil | refine Lits.cons ?_ ?_ | exact Lit.int | exact Lit.non | exact Lit.str | exact Lit.bl | refine Lit.tup ?_ (Nat.le_of_ble_eq_true rfl) | refine Lit.lst ?_ (Nat.le_of_ble_eq_true rfl) | refine Lit.neg ?_))) fun vl H4 e4 hd4 => ?_
  obtain ⟨al, xl, rfl, hl1, hl2⟩ := Dp.lst_inv hd4
  have hph : ([.tuple [.tuple [], .int 0], .tuple [.tuple [.tuple [.int 2, .int 1, .int 0], .tuple [.int 1, .int 0]], .int 2]] : List PyData)[v]? = some (phaseP (phase0 v)) := by
    match v, hv with
    | 0, _ => rfl
    | 1, _ => rfl
  obtain ⟨vp, hvp, hdp⟩ := DpAll.get hl2 hph
  have e1v : (1 : Int) + (v : Int) - 1 = (v : Int) := by omega
  refine ⟨_, rfl, _, _, rfl, rfl, al, xl, _, vp, rfl, rfl, hl1, at_of e1v hvp, ?_⟩
  have hp4 := hp3.same e4
  have hB4 := hB3.trans (But.of e4)
  clear hp3 hB3 e4 hl1 hl2 hvp hph
  -- phases = [phase] * many
  refine ⟨_, rfl, (by show 1 ≤ sizeLine; decide), fun q1 hq1 => ⟨_, rfl, q1, _, _, rfl, rfl, upd_same, by omega, by omega, ?_, fun q2 hq2 => ?_⟩⟩
  · show 1 * (many : Int).toNat ≤ sizeLine
    rw [sizeLine_eq]; omega
  have e5 := (Same.new (o := .lst [vp]) hq1).trans (Same.new (o := .lst (List.replicate (many : Int).toNat [vp]).flatten) hq2)
  have hp5 := hp4.same e5
  have hB5 := hB4.trans (But.of e5)
  have hdp5 := Dp.same e5 hdp
  have h5a : upd (upd H4 q1 (.lst [vp])) q2 (.lst (List.replicate (many : Int).toNat [vp]).flatten) q2 = some (.lst (List.replicate many vp)) := by
    rw [flat_rep]
    exact upd_same
  have hrepl : ∀ {H : Hp} (m : Nat), Dp K H vp (phaseP (phase0 v)) → DpAll K H (List.replicate m vp) ((List.replicate m (phase0 v)).map phaseP) := by
    intro H m hd
    induction m with
    | zero => exact .nil
    | succ m ih => exact .cons hd ih
  have h5b := hrepl many hdp5
  have hnp5 : q2 ≠ p := fun z => by
    obtain ⟨xs, hh⟩ := (hp4.same (Same.new (o := .lst [vp]) hq1)).some
    rw [z, hh] at hq2
    cases hq2
  have hnH : H q2 = none ∨ q2 = p := by
    by_cases hqp : q2 = p
    · exact .inr hqp
    · refine .inl ?_
      cases hh : H q2 with
      | none => rfl
      | some o =>
        have := (Same.new (o := .lst [vp]) hq1) _ _ (hB4 _ _ hqp hh)
        rw [hq2] at this
        cases this
  have hnH : H q2 = none := hnH.resolve_right hnp5
  generalize upd (upd H4 q1 (.lst [vp])) q2 (.lst (List.replicate (many : Int).toNat [vp]).flatten) = H5 at *
  clear e5 hp4 hB4 hq1 hq2 hdp
  have hlcm' : ∀ l : List (List Row × Option Nat), l.length = many → Nat.lcm l.length hop ≤ 1000 := fun l hl => by rw [hl]; exact hlcm
  -- if draw(pool, 4) > 0
  refine seq_nx (fun σ' H' => (∃ o7, σ' = [some (.ref p), some (.ref am), some (.int many), some (.int hop), some (.int (1 + v : Nat)), some vp, some (.ref q2), o7]) ∧ But p H H' ∧ Pool H' p ∧ ∃ (PL : List V) (phs : List (List Row × Option Nat)), H' q2 = some (.lst PL) ∧ DpAll K H' PL (phs.map phaseP) ∧ phs.length = many ∧ ∀ ph ∈ phs, WFPh 3 ph) (fun D' hN _ _ _ => ?_) ?_
  · refine ⟨_, rfl, p, 4, rfl, hp5, by omega, by omega, fun c H6 hc hb6 hp6 => ?_⟩
    obtain ⟨ys, hys⟩ := hp5.some
    have tk6 := TK.but (K := K) hb6 hys
    have h6a := hb6.at h5a hnp5
    have hd6 := Dp.keep tk6 (NL_phaseP _) hdp5
    have hB6 := hB5.trans hb6
    refine ⟨_, _, rfl, rfl, _, rfl, ?_⟩
    cases hcc : decide ((0 : Int) < (c : Int)) with
    | false =>
      refine ifF rfl ?_
      refine hN _ _ ⟨⟨_, rfl⟩, hB6, hp6, _, List.replicate many (phase0 v), h6a, hrepl many hd6, List.length_replicate, fun ph hph => ?_⟩
      rw [(List.mem_replicate.mp hph).2]
      exact wf_phase0 v
    | true =>
      refine ifT rfl ?_
      have hL : Lit K [some (.ref p), some (.ref am), some (.int many), some (.int hop), some (.int (1 + v : Nat)), some vp, some (.ref q2), none] H6 (tOp (rIxT K) (tVar 5) (tC (.int (0 : Nat)))) (.tuple ((phase0 v).1.map rowP)) := Lit.ix 0 (ds := [.tuple ((phase0 v).1.map rowP), toldP (phase0 v).2]) (Lit.var rfl hd6) rfl
      refine asg_opl (K := K) (ds := [.tuple [.tuple ((phase0 v).1.map rowP), .none], .tuple [.tuple ((phase0 v).1.map rowP), .int 1], .tuple [.tuple [], .int (1 + v : Nat)], .tuple [.tuple [.tuple [.int 2, .int 0, .int 0], .tuple [.int 1, .int 0]], .int 2]]) ?_ (Nat.le_of_ble_eq_true rfl) fun as xs H7 e7 has hs1 hs2 => ?_
      · refine Lits.cons (Lit.tup (Lits.cons hL (by (repeat (first | exact Lits.nil | refine Lits.cons ?_ ?_ | exact Lit.int | exact Lit.non | exact Lit.str | exact Lit.bl | refine Lit.tup ?_ (Nat.le_of_ble_eq_true rfl) | refine Lit.lst ?_ (Nat.le_of_ble_eq_true rfl) | refine Lit.neg ?_)))) (Nat.le_of_ble_eq_true rfl)) (Lits.cons (Lit.tup (Lits.cons hL (by (repeat (first | exact Lits.nil | refine Lits.cons ?_ ?_ | exact Lit.int | exact Lit.non | exact Lit.str | exact Lit.bl | refine Lit.tup ?_ (Nat.le_of_ble_eq_true rfl) | refine Lit.lst ?_ (Nat.le_of_ble_eq_true rfl) | refine Lit.neg ?_)))) (Nat.le_of_ble_eq_true rfl)) (Lits.cons (Lit.tup (Lits.cons (by (repeat (first | exact Lits.nil | refine Lits.cons ?_ ?_ | exact Lit.int | exact Lit.non | exact Lit.str | exact Lit.bl | refine Lit.tup ?_ (Nat.le_of_ble_eq_true rfl) | refine Lit.lst ?_ (Nat.le_of_ble_eq_true rfl) | refine Lit.neg ?_))) (Lits.cons (Lit.var rfl (.int _)) (by (repeat (first | exact Lits.nil | refine Lits.cons ?_ ?_ | exact Lit.int | exact Lit.non | exact Lit.str | exact Lit.bl | refine Lit.tup ?_ (Nat.le_of_ble_eq_true rfl) | refine Lit.lst ?_ (Nat.le_of_ble_eq_true rfl) | refine Lit.neg ?_))))) (Nat.le_of_ble_eq_true rfl)) (by (repeat (first | exact Lits.nil | refine Lits.cons ?_ ?_ | exact Lit.int | exact Lit.non | exact Lit.str | exact Lit.bl | refine Lit.tup ?_ (Nat.le_of_ble_eq_true rfl) | refine Lit.lst ?_ (Nat.le_of_ble_eq_true rfl) | refine Lit.neg ?_)))))
      have hnap : as ≠ p := fun z => by
        obtain ⟨zs, hz⟩ := hp6.some
        rw [z, hz] at has
        cases has
      have hp7 := hp6.same e7
      refine ⟨_, rfl, p, 4, rfl, hp7, by omega, by omega, fun j H8 hj hb8 hp8 => ?_⟩
      obtain ⟨ys8, hys8⟩ := hp7.some
      have hsp : ([.tuple [.tuple ((phase0 v).1.map rowP), .none], .tuple [.tuple ((phase0 v).1.map rowP), .int 1], .tuple [.tuple [], .int (1 + v : Nat)], .tuple [.tuple [.tuple [.int 2, .int 0, .int 0], .tuple [.int 1, .int 0]], .int 2]] : List PyData)[j]? = some (phaseP (spoilt0 v j)) := by
        match j, hj with
        | 0, _ => rfl
        | 1, _ => rfl
        | 2, _ => rfl
        | 3, _ => rfl
      obtain ⟨vj, hvj, hdj⟩ := DpAll.get hs2 hsp
      have hdj8 := Dp.keep (TK.but hb8 hys8) (NL_phaseP _) hdj
      refine ⟨as, xs, _, vj, rfl, rfl, SqL.of (hb8.at hs1 hnap), atI_nat (j := j) hvj, ?_⟩
      -- phases[draw(pool, many)] = spoilt
      refine ⟨_, rfl, _, rfl, _, rfl, _, rfl, p, many, rfl, hp8, hm1', by omega, fun i H9 hi hb9 hp9 => ?_⟩
      obtain ⟨ys9, hys9⟩ := hp8.some
      have hb79 := hb8.trans hb9
      have h9a := hb79.at (e7 _ _ h6a) hnp5
      have hd9 := Dp.keep (TK.but hb79 hys8) (NL_phaseP _) (Dp.same e7 hd6)
      have hdj9 := Dp.keep (TK.but hb9 hys9) (NL_phaseP _) hdj8
      refine ⟨q2, _, _, i, rfl, rfl, h9a, ixN_nat (j := i) (by rw [List.length_replicate]; exact hi), ?_⟩
      have hpool : Pool (upd H9 q2 (.lst ((List.replicate many vp).set i vj))) p := by
        obtain ⟨xi, xj, e1, e2⟩ := hp9
        exact ⟨xi, xj, by rw [upd_ne hnp5.symm]; exact e1, e2⟩
      have hB9 : But p H (upd H9 q2 (.lst ((List.replicate many vp).set i vj))) := fun b o nb hb => by
        rw [upd_ne (ne_of_none hb hnH)]
        exact ((hB6.trans (But.of e7)).trans hb79) _ _ nb hb
      refine hN _ _ ⟨⟨_, rfl⟩, hB9, hpool, _, (List.replicate many (phase0 v)).set i (spoilt0 v j), upd_same, ?_, by rw [List.length_set, List.length_replicate], fun ph hph => ?_⟩
      · rw [List.map_set]
        exact DpAll.keep (TK.put h9a) (by rw [← List.map_set]; exact NLs_phases _) (DpAll.set i (hrepl many hd9) hdj9)
      · rcases List.mem_or_eq_of_mem_set hph with h | h
        · rw [(List.mem_replicate.mp h).2]
          exact wf_phase0 v
        · rw [h]
          exact wf_spoilt0 hv j
  rintro σ' H6 ⟨⟨o7, rfl⟩, hB6, hp6, PL, phs, h1, h2, h3, h4⟩
  -- return [(3, tuple(phases)), width, hop]
  refine ⟨_, rfl, q2, PL, rfl, .inl ⟨SqL.of h1, fun t ht => ⟨(by show 2 ≤ sizeLine; decide), fun t2 ht2 => ⟨_, rfl, _, rfl, (by show 3 ≤ sizeLine; decide), fun l hl => ?_⟩⟩⟩⟩
  have S := ((Same.new (o := .tup PL) ht).trans (Same.new (o := .tup [.int 3, .ref t]) ht2)).trans (Same.new (o := .lst [.ref t2, .int (1 + v : Nat), .int hop]) hl)
  have hx : Dp K (upd (upd (upd H6 t (.tup PL)) t2 (.tup [.int 3, .ref t])) l (.lst [.ref t2, .int (1 + v : Nat), .int hop])) (.ref t2) (toD ⟨3, phs⟩) := by
    have e1 : SqT K (upd (upd (upd H6 t (.tup PL)) t2 (.tup [.int 3, .ref t])) l (.lst [.ref t2, .int (1 + v : Nat), .int hop])) t2 [.int (3 : Nat), .ref t] := SqT.of ((Same.new hl) _ _ upd_same)
    exact Dp.prog e1 (Dp.same ((Same.new ht2).trans (Same.new hl)) (LD.tup h1 h2 ht))
  refine q l (.ref t2) ⟨3, phs⟩ (1 + v) hop _ (hB6.trans (But.of S)) (hp6.same S) upd_same hx ⟨⟨by show 1 ≤ 3; decide, by show 3 ≤ 1000; decide, by show 1 ≤ phs.length; omega, by show phs.length ≤ 1000; omega, h4⟩, by show phs.length ≤ 200; omega, by omega, by omega, hh1, by omega, hlcm' phs h3⟩
end
end U3


namespace U3
open PySem PySem.Spec PyProof.Rows L2
section
variable {P : Program} {w : World} {K : PySem.W.Frag} {mg : Str → Option Value} {base : Heap}
/-! _law_random(pool) -/
theorem cutV_to {xs : List V} {n : Nat} : cutV xs none (some (n : Int)) = xs.take n := by
  unfold cutV
  rw [HT.sIx_nat, HT.sIx_none]
  show xs.take (min n xs.length - 0) = _
  by_cases h : n ≤ xs.length
  · rw [Nat.min_eq_left h, Nat.sub_zero]
  · rw [Nat.min_eq_right (by omega), Nat.sub_zero, List.take_of_length_le (Nat.le_refl _), List.take_of_length_le (by omega)]
/-- a[:n], of a tuple -/
theorem cutA_to {H : Hp} {a : Addr} {xs : List V} {Q : VK} (n : Nat) (ha : SqT K H a xs) (h : ∀ z H', Same H H' → SqT K H' z (xs.take n) → Q (.ref z) H') : rSlA K (.ref a) none (some (n : Int)) H Q := by
  refine ⟨a, xs, rfl, ha, fun e => ?_, fun _ p hp => ?_⟩
  · refine h a H (Same.refl _) ?_
    have e1 := e.2
    rw [HT.sIx_nat] at e1
    rw [List.take_of_length_le (by omega)]
    exact ha
  · rw [cutV_to]
    exact h p _ (Same.new hp) (SqT.of upd_same)
theorem Pool.put {H : Hp} {p q : Addr} {o : HO} (h : Pool H p) (n : q ≠ p) : Pool (upd H q o) p := by
  obtain ⟨xi, xj, e1, e2⟩ := h
  exact ⟨xi, xj, by rw [upd_ne n.symm]; exact e1, e2⟩
theorem But.putNew {H H1 : Hp} {p q : Addr} {o : HO} (h : But p H H1) (hq : H q = none) : But p H (upd H1 q o) := fun b u n hb => by
  rw [upd_ne (ne_of_none hb hq)]
  exact h b u n hb
/-- what is new is new from the start, and is not the pool -/
theorem new_of {H H1 : Hp} {p q : Addr} (h : But p H H1) (hp : Pool H1 p) (hq : H1 q = none) : q ≠ p ∧ H q = none := by
  have n : q ≠ p := fun z => by
    obtain ⟨xs, hx⟩ := hp.some
    rw [z, hx] at hq
    cases hq
  refine ⟨n, ?_⟩
  cases hh : H q with
  | none => rfl
  | some o =>
    have := h _ _ n hh
    rw [hq] at this
    cases this
/-- rows in a list, in the making -/
structure RI (K : PySem.W.Frag) (n : Nat) (r : Addr) (H : Hp) (rs : List Row) : Prop where
  hr : LD K H r (rs.map rowP)
  ok : ∀ x ∈ rs, WFRow n x
structure PI' (K : PySem.W.Frag) (n : Nat) (f : Addr) (H : Hp) (phs : List (List Row × Option Nat)) : Prop where
  hf : LD K H f (phs.map phaseP)
  ok : ∀ x ∈ phs, WFPh n x
theorem LD.drawn {H H1 : Hp} {a p : Addr} {ds : List PyData} (h : LD K H a ds) (hn : NLs ds = true) (hb : But p H H1) (hp : Pool H p) (ne : a ≠ p) : LD K H1 a ds := by
  obtain ⟨xs, h1, h2⟩ := h
  exact ⟨xs, LD.but h1 h2 hn hb hp.some ne⟩
theorem LD.appd {H : Hp} {a : Addr} {xs : List V} {ds : List PyData} {v : V} {d : PyData} (h : LD K H a ds) (h1 : H a = some (.lst xs)) (hn : NLs ds = true) (hd : Dp K H v d) (hnd : NL d = true) : LD K (upd H a (.lst (xs ++ [v]))) a (ds ++ [d]) :=
  LD.app h1 (h.len h1).2 hn hd hnd
theorem row_cut {a b d n : Nat} : ∀ {e : Nat}, e < 2 → 1 + a < n → b < n → d < n → ∃ row : Row, [V.int (1 + a : Nat), V.int b, V.int d].take (2 + e) = (row.map fun n : Nat => V.int n) ∧ WFRow n row
  | 0, _, ha, hb, hd => ⟨[1 + a, b], rfl, wfRow2 (by omega) ha hb⟩
  | 1, _, ha, hb, hd => ⟨[1 + a, b, d], rfl, wfRow3 (by omega) ha hb hd⟩
def sp_law_random (K : PySem.W.Frag) : Sp := fun vs H Q _ => ∃ (p : Addr), vs = [.ref p] ∧ Pool H p ∧ SceneQ K H p Q
-- slots: 0:pool_here 1:registers 2:phases 3:turn 4:rows 5:k 6:row | cells: []
theorem sc_law_random : FnScope ["_law_pool_here", "_law_registers", "_law_phases", "_law_turn", "_law_rows", "_law_k", "_law_row"] ["_law_pool_here"] (defScope s_law_random) := ⟨rfl, rfl, rfl, by decide +kernel, rfl, by decide +kernel, by decide +kernel⟩
theorem ok_law_random (T : Txt K mg) : FnOk P w K mg base CX0 2 (He.ga K "_law_random") (fdA K (He.ga K "_law_random")) ["_law_pool_here"] (sp_law_random K) := by
  refine T.F_law_random.ok sc_law_random (fun vs H Q E h => by obtain ⟨p, rfl, _⟩ := h; rfl) (fun cdv A outer s H vs Q E hr h => ⟨_, PSs.nox ((pss_cons (ps_set (i := 1) sc_law_random.nd rfl (Or.inl rfl) (pe_op op_add pe_int (pe_call (ok_law_draw T) (hr.mono (by decide)) (by rfl) T.g_law_draw T.F_law_draw.kp T.b_law_draw .nil pass0 (pa_cons (pv 0) (pa_cons pe_int pa_nil)))))
(pss_cons (ps_set (i := 2) sc_law_random.nd rfl (Or.inl rfl) (pe_lst pa_nil))
(pss_cons (ps_for PassesOwn.never rfl (pi_range1 (by rfl) T.m_range (pa_cons (pe_op op_add pe_int (pe_call (ok_law_draw T) (hr.mono (by decide)) (by rfl) T.g_law_draw T.F_law_draw.kp T.b_law_draw .nil pass0 (pa_cons (pv 0) (pa_cons pe_int pa_nil)))) pa_nil)) (pg_name (i := 3) sc_law_random.nd rfl (Or.inl rfl))
(pss_cons (ps_set (i := 4) sc_law_random.nd rfl (Or.inl rfl) (pe_lst pa_nil))
(pss_cons (ps_for PassesOwn.never rfl (pi_range1 (by rfl) T.m_range (pa_cons (pe_call (ok_law_draw T) (hr.mono (by decide)) (by rfl) T.g_law_draw T.F_law_draw.kp T.b_law_draw .nil pass0 (pa_cons (pv 0) (pa_cons pe_int pa_nil))) pa_nil)) (pg_name (i := 5) sc_law_random.nd rfl (Or.inl rfl))
(pss_cons (ps_set (i := 6) sc_law_random.nd rfl (Or.inl rfl) (pe_tup (pa_cons (pe_op op_add pe_int (pe_call (ok_law_draw T) (hr.mono (by decide)) (by rfl) T.g_law_draw T.F_law_draw.kp T.b_law_draw .nil pass0 (pa_cons (pv 0) (pa_cons (pe_op op_sub (pv 1) pe_int) pa_nil)))) (pa_cons (pe_call (ok_law_draw T) (hr.mono (by decide)) (by rfl) T.g_law_draw T.F_law_draw.kp T.b_law_draw .nil pass0 (pa_cons (pv 0) (pa_cons (pv 1) pa_nil))) (pa_cons (pe_call (ok_law_draw T) (hr.mono (by decide)) (by rfl) T.g_law_draw T.F_law_draw.kp T.b_law_draw .nil pass0 (pa_cons (pv 0) (pa_cons (pv 1) pa_nil))) pa_nil)))))
(pss_cons (ps_expr (pe_bm PySem.F.plainAttrs_list PySem.F.slot_list_append PySem.F.type_list_append mt_append (pv 4) (pa_cons (pe_slice sl_tupA (pv 6) po_none (po_some (pe_op op_add pe_int (pe_call (ok_law_draw T) (hr.mono (by decide)) (by rfl) T.g_law_draw T.F_law_draw.kp T.b_law_draw .nil pass0 (pa_cons (pv 0) (pa_cons pe_int pa_nil)))))) pa_nil)))
pss_nil)))
(pss_cons (ps_expr (pe_bm PySem.F.plainAttrs_list PySem.F.slot_list_append PySem.F.type_list_append mt_append (pv 2) (pa_cons (pe_tup (pa_cons (pe_callTy call_tuple_of (by rfl) T.m_tuple bt_tuple (pa_cons (pv 4) pa_nil)) (pa_cons (pe_ix ix_list (pe_op op_cat (pe_lst (pa_cons pe_non pa_nil)) (pe_listRg rfl (by rfl) T.m_list (prg_1 (by rfl) T.m_range (pv 1)))) (pe_call (ok_law_draw T) (hr.mono (by decide)) (by rfl) T.g_law_draw T.F_law_draw.kp T.b_law_draw .nil pass0 (pa_cons (pv 0) (pa_cons (pe_op op_add (pv 1) pe_int) pa_nil))) (fun _ _ => rfl)) pa_nil))) pa_nil)))
pss_nil))))
(pss_cons (ps_ret (pe_lst (pa_cons (pe_tup (pa_cons (pv 1) (pa_cons (pe_callTy call_tuple_of (by rfl) T.m_tuple bt_tuple (pa_cons (pv 2) pa_nil)) pa_nil))) (pa_cons (pe_op op_add pe_int (pe_call (ok_law_draw T) (hr.mono (by decide)) (by rfl) T.g_law_draw T.F_law_draw.kp T.b_law_draw .nil pass0 (pa_cons (pv 0) (pa_cons pe_int pa_nil)))) (pa_cons (pe_op op_add pe_int (pe_call (ok_law_draw T) (hr.mono (by decide)) (by rfl) T.g_law_draw T.F_law_draw.kp T.b_law_draw .nil pass0 (pa_cons (pv 0) (pa_cons pe_int pa_nil)))) pa_nil)))))
pss_nil))))), ?_⟩)
  obtain ⟨p, rfl, hP, q⟩ := h
  -- registers = 2 + draw(pool, 3)
  refine ⟨_, rfl, p, 3, rfl, hP, by omega, by omega, fun v H1 hv hb1 hp1 => ⟨_, _, rfl, rfl, ?_⟩⟩
  -- phases = []
  refine ⟨(by show 0 ≤ sizeLine; decide), fun f hf => ?_⟩
  obtain ⟨nfp, hfH⟩ := new_of hb1 hp1 hf
  have en0 : (2 : Int) + (v : Int) = ((2 + v : Nat) : Int) := by omega
  have hB2 : But p H (upd H1 f (.lst [])) := hb1.putNew hfH
  have hp2 : Pool (upd H1 f (.lst [])) p := hp1.put nfp
  have hI2 : PI' K (2 + v) f (upd H1 f (.lst [])) [] := ⟨⟨[], upd_same, .nil⟩, fun x hx => by cases hx⟩
  generalize upd H1 f (.lst []) = H2 at *
  clear hb1 hp1 hf hP
  -- for turn in range(1 + draw(pool, 3))
  refine ⟨_, rfl, p, 3, rfl, hp2, by omega, by omega, fun c H3 hc hb3 hp3 => ⟨_, _, rfl, rfl, _, rfl, by omega, by omega, for_it (walk_range (lo := 0) (n := ((1 : Int) + (c : Int)).toNat))
    (fun i σ' H' => (∃ o3 o4 o5 o6, σ' = [some (.ref p), some (.int (2 + v : Nat)), some (.ref f), o3, o4, o5, o6]) ∧ But p H H' ∧ Pool H' p ∧ ∃ phs : List (List Row × Option Nat), PI' K (2 + v) f H' phs ∧ phs.length = i) ?_ (fun _ _ _ _ _ => trivial) ?_ ?_⟩⟩
  · exact ⟨⟨_, _, _, _, rfl⟩, hB2.trans hb3, hp3, [], ⟨hI2.hf.drawn rfl hb3 hp2 nfp, fun x hx => by cases hx⟩, rfl⟩
  · clear hB2 hp2 hI2 hb3 hp3
    rintro i x' σ' H4 H5 hi ⟨⟨o3, o4, o5, o6, rfl⟩, hB, hp, phs, hI, hl⟩ ⟨rfl, rfl⟩
    -- rows = []
    refine ⟨(by show 0 ≤ sizeLine; decide), fun r hr1 => ?_⟩
    obtain ⟨nrp, hrH⟩ := new_of hB hp hr1
    obtain ⟨PL, f1, f2⟩ := id hI.hf
    have nrf : r ≠ f := fun z => by rw [z, f1] at hr1; cases hr1
    have hB6 : But p H (upd H5 r (.lst [])) := hB.putNew hrH
    have hp6 : Pool (upd H5 r (.lst [])) p := hp.put nrp
    have hI6 : LD K (upd H5 r (.lst [])) f (phs.map phaseP) := hI.hf.same (Same.new hr1)
    have hR6 : RI K (2 + v) r (upd H5 r (.lst [])) [] := ⟨⟨[], upd_same, .nil⟩, fun x hx => by cases hx⟩
    generalize upd H5 r (.lst []) = H6 at *
    clear hB hp hr1 f1 f2
    -- for k in range(draw(pool, 4))
    refine ⟨_, rfl, p, 4, rfl, hp6, by omega, by omega, fun c2 H7 hc2 hb7 hp7 => ⟨_, rfl, by omega, by omega, for_it (walk_range (lo := 0) (n := ((c2 : Nat) : Int).toNat))
      (fun j σ' H' => (∃ o5 o6, σ' = [some (.ref p), some (.int (2 + v : Nat)), some (.ref f), some (.int (0 + (i : Nat))), some (.ref r), o5, o6]) ∧ But p H H' ∧ Pool H' p ∧ LD K H' f (phs.map phaseP) ∧ ∃ rs : List Row, RI K (2 + v) r H' rs ∧ rs.length = j) ?_ (fun _ _ _ _ _ => trivial) ?_ ?_⟩⟩
    · exact ⟨⟨_, _, rfl⟩, hB6.trans hb7, hp7, hI6.drawn (NLs_phases _) hb7 hp6 nfp, [], ⟨hR6.hr.drawn rfl hb7 hp6 nrp, fun x hx => by cases hx⟩, rfl⟩
    · clear hB6 hp6 hI6 hR6 hb7 hp7
      rintro j x' σ' H8 H9 hj ⟨⟨o5, o6, rfl⟩, hB, hp, hF, rs, hR, hrl⟩ ⟨rfl, rfl⟩
      have hj : j < c2 := by simpa using hj
      have e1 : ((2 + v : Nat) : Int) - 1 = ((2 + v - 1 : Nat) : Int) := by omega
      -- row = (1 + draw(pool, registers - 1), draw(pool, registers), draw(pool, registers))
      refine ⟨_, rfl, _, rfl, _, _, rfl, rfl, p, 2 + v - 1, ?_, hp, by omega, by omega, fun a Ha ha hba hpa => ⟨_, _, rfl, rfl, _, rfl, _, rfl, p, 2 + v, rfl, hpa, by omega, by omega, fun b Hb hb hbb hpb => ⟨_, rfl, _, rfl, p, 2 + v, rfl, hpb, by omega, by omega, fun d Hd hd hbd hpd => ⟨(by show 3 ≤ sizeLine; decide), fun q1 hq1 => ?_⟩⟩⟩⟩
      · show [V.ref p, V.int (((2 + v : Nat) : Int) - 1)] = _
        rw [e1]
      have hab := (hba.trans hbb).trans hbd
      have hF1 := hF.drawn (NLs_phases _) hab hp nfp
      have hR1 := hR.hr.drawn (NLs_rows _) hab hp nrp
      have S1 := Same.new (o := .tup [V.int ((1 : Int) + (a : Int)), V.int b, V.int d]) hq1
      have hp1 := hpd.same S1
      have hF2 := hF1.same S1
      obtain ⟨RL, r1, r2⟩ := hR1.same S1
      have hrl' : RL.length = rs.length := by rw [DpAll.length r2, List.length_map]
      have hrow : upd Hd q1 (.tup [V.int ((1 : Int) + (a : Int)), V.int b, V.int d]) q1 = some (.tup [V.int (1 + a : Nat), V.int b, V.int d]) := upd_same
      have hB1 := (hB.trans hab).trans (But.of (p := p) S1)
      -- rows.append(row[:2 + draw(pool, 2)])
      refine ⟨_, rfl, .inl ⟨rfl, _, SqL.of r1⟩, _, rfl, _, rfl, p, 2, rfl, hp1, by omega, by omega, fun e He he hbe hpe => ⟨_, _, rfl, rfl, _, rfl, ?_⟩⟩
      have ne1 : q1 ≠ p := fun z => by
        obtain ⟨xs, hx⟩ := hpd.some
        rw [z, hx] at hq1
        cases hq1
      refine cutA_to (2 + e) (SqT.of (hbe.at hrow ne1)) fun z Hz ez hz => ?_
      obtain ⟨ys, hys⟩ := hp1.some
      have r1z := ez _ _ (hbe.at r1 nrp)
      have r2z := DpAll.same ez (DpAll.keep (TK.but hbe hys) (NLs_rows _) r2)
      have hFz := (hF2.drawn (NLs_phases _) hbe hp1 nfp).same ez
      obtain ⟨row, hrow1, hrow2⟩ := row_cut (a := a) (n := 2 + v) he (by omega) hb hd
      rw [hrow1] at hz
      refine ⟨r, RL, _, rfl, rfl, r1z, (by rw [hrl', sizeLine_eq]; omega), ?_⟩
      have hRz := LD.app r1z r2z (NLs_rows rs) (Dp.row hz) (NL_rowP row)
      refine ⟨⟨_, _, rfl⟩, ((hB1.trans hbe).trans (But.of ez)).putNew hrH, (hpe.same ez).put nrp, hFz.other (NLs_phases _) ⟨_, r1z⟩ nrf.symm, rs ++ [row], ⟨by rw [List.map_append]; exact hRz, fun x hx => ?_⟩, by rw [List.length_append, hrl]; rfl⟩
      rcases List.mem_append.mp hx with hx | hx
      · exact hR.ok x hx
      · rw [List.mem_singleton.mp hx]
        exact hrow2
    · rintro σ' H8 ⟨⟨o5, o6, rfl⟩, hB, hp, ⟨PL, f1, f2⟩, rs, hR, hrl⟩
      have hrl : rs.length = c2 := by simpa using hrl
      obtain ⟨RL, r1, r2⟩ := hR.hr
      have hPl : PL.length = i := by rw [DpAll.length f2, List.length_map, hl]
      -- phases.append((tuple(rows), ([None] + list(range(registers)))[draw(pool, registers + 1)]))
      refine ⟨_, rfl, .inl ⟨rfl, _, SqL.of f1⟩, _, rfl, r, RL, rfl, .inl ⟨SqL.of r1, fun t ht => ⟨(by show 1 ≤ sizeLine; decide), fun q1 hq1 => ⟨_, rfl, _, rfl, ⟨by omega, by omega, by omega, by omega, by omega⟩, fun q2 hq2 => ?_⟩⟩⟩⟩
      have S1 := (Same.new (o := .tup RL) ht).trans (Same.new (o := .lst [V.non]) hq1)
      have S2 := S1.trans (Same.new (o := .lst (rgV 0 (2 + v : Nat))) hq2)
      refine ⟨q1, q2, _, _, rfl, rfl, (Same.new hq2) _ _ upd_same, upd_same, ?_, fun q3 hq3 => ?_⟩
      · rw [rgV_length, sizeLine_eq]
        show 1 + (((2 + v : Nat) : Int) - 0).toNat ≤ _
        omega
      have S3 := S2.trans (Same.new (o := .lst ([V.non] ++ rgV 0 (2 + v : Nat))) hq3)
      have hp3 := hp.same S3
      have hq3p : q3 ≠ p := fun z => by
        obtain ⟨ys', hys'⟩ := (hp.same S2).some
        rw [z, hys'] at hq3
        cases hq3
      refine ⟨_, rfl, _, rfl, _, _, rfl, rfl, p, 2 + v + 1, rfl, hp3, by omega, by omega, fun u H9 hu hb9 hp9 => ?_⟩
      obtain ⟨o', ho1, ho2⟩ := menu_get hu
      refine ⟨q3, _, _, _, rfl, rfl, SqL.of (hb9.at upd_same hq3p), atI_nat (j := u) ho1, (by show 2 ≤ sizeLine; decide), fun q4 hq4 => ?_⟩
      have htD : Dp K _ (.ref t) (.tuple (rs.map rowP)) := LD.tup r1 r2 ht
      have htD3 := Dp.same (((Same.new (o := .lst [V.non]) hq1).trans (Same.new (o := .lst (rgV 0 (2 + v : Nat))) hq2)).trans (Same.new (o := .lst ([V.non] ++ rgV 0 (2 + v : Nat))) hq3)) htD
      obtain ⟨ys, hys⟩ := hp3.some
      have htD9 := Dp.keep (TK.but hb9 hys) (by show NLs (rs.map rowP) = true; exact NLs_rows _) htD3
      have S4 := Same.new (o := .tup [.ref t, toldV0 o']) hq4
      have f19 := S4 _ _ (hb9.at (S3 _ _ f1) nfp)
      have f29 := DpAll.same S4 (DpAll.keep (TK.but hb9 hys) (NLs_phases _) (DpAll.same S3 f2))
      refine ⟨f, PL, _, rfl, rfl, f19, (by rw [hPl, sizeLine_eq]; have : ((1 : Int) + (c : Int)).toNat = 1 + c := by omega
                                           omega), ?_⟩
      have hD := dpPhase (ph := (rs, o')) (Dp.same S4 htD9) (dp_told0 o') (SqT.of upd_same)
      have hF9 := LD.app f19 f29 (NLs_phases phs) hD (NL_phaseP _)
      refine ⟨⟨_, _, _, _, rfl⟩, (((hB.trans (But.of S3)).trans hb9).trans (But.of S4)).putNew hfH, (hp9.same S4).put nfp, phs ++ [(rs, o')], ⟨by rw [List.map_append]; exact hF9, fun x hx => ?_⟩, by rw [List.length_append, hl]; rfl⟩
      rcases List.mem_append.mp hx with hx | hx
      · exact hI.ok x hx
      · rw [List.mem_singleton.mp hx]
        exact ⟨hR.ok, by show rs.length ≤ 100; omega, ho2⟩
  · rintro σ' H4 ⟨⟨o3, o4, o5, o6, rfl⟩, hB, hp, phs, hI, hl⟩
    have ec : ((1 : Int) + (c : Int)).toNat = 1 + c := by omega
    rw [ec] at hl
    obtain ⟨PL, f1, f2⟩ := hI.hf
    -- return [(registers, tuple(phases)), 1 + draw(pool, 3), 1 + draw(pool, 3)]
    refine ⟨_, rfl, _, rfl, f, PL, rfl, .inl ⟨SqL.of f1, fun t ht => ⟨(by show 2 ≤ sizeLine; decide), fun t2 ht2 => ?_⟩⟩⟩
    have S1 := (Same.new (o := .tup PL) ht).trans (Same.new (o := .tup [.int (2 + v : Nat), .ref t]) ht2)
    have hx : Dp K (upd (upd H4 t (.tup PL)) t2 (.tup [.int (2 + v : Nat), .ref t])) (.ref t2) (toD ⟨2 + v, phs⟩) := Dp.prog (SqT.of upd_same) (Dp.same (Same.new ht2) (LD.tup f1 f2 ht))
    have hp1 := hp.same S1
    refine ⟨_, rfl, p, 3, rfl, hp1, by omega, by omega, fun w5 H5 hw5 hb5 hp5 => ⟨_, _, rfl, rfl, _, rfl, p, 3, rfl, hp5, by omega, by omega, fun h6 H6 hh6 hb6 hp6 => ⟨_, _, rfl, rfl, (by show 3 ≤ sizeLine; decide), fun l hl' => ?_⟩⟩⟩
    have hb56 := hb5.trans hb6
    obtain ⟨ys, hys⟩ := hp1.some
    have S2 := Same.new (o := .lst [.ref t2, .int (1 + w5 : Nat), .int (1 + h6 : Nat)]) hl'
    have hx6 := Dp.same S2 (Dp.keep (TK.but hb56 hys) (NL_toD _) hx)
    refine q l (.ref t2) ⟨2 + v, phs⟩ (1 + w5) (1 + h6) _ (((hB.trans (But.of S1)).trans hb56).trans (But.of S2)) (hp6.same S2) upd_same hx6 ⟨⟨by show 1 ≤ 2 + v; omega, by show 2 + v ≤ 1000; omega, by show 1 ≤ phs.length; omega, by show phs.length ≤ 1000; omega, hI.ok⟩, by show phs.length ≤ 200; omega, by omega, by omega, by omega, by omega, ?_⟩
    have h1 : Nat.lcm phs.length (1 + h6) ≤ phs.length * (1 + h6) := Nat.le_of_dvd (Nat.mul_pos (by omega) (by omega)) (Nat.lcm_dvd_mul _ _)
    have h2 : phs.length * (1 + h6) ≤ 3 * 3 := Nat.mul_le_mul (by omega) (by omega)
    exact Nat.le_trans h1 (Nat.le_trans h2 (by decide))
end
end U3


namespace U3
open PySem PySem.Spec PyProof.Rows L2
section
variable {P : Program} {w : World} {K : PySem.W.Frag} {mg : Str → Option Value} {base : Heap}
/-! _law_scene(pool) -/
theorem prog_but {H H' : Hp} {p : Addr} {x : V} {pr : Prog} (h : Dp K H x (toD pr)) (hb : But p H H') (hp : Pool H p) : Dp K H' x (toD pr) := by
  obtain ⟨ys, hys⟩ := hp.some
  exact Dp.keep (TK.but hb hys) (NL_toD pr) h
/-- phases, in a tuple -/
def Phs (K : PySem.W.Frag) (H : Hp) (z : Addr) (n : Nat) (phs : List (List Row × Option Nat)) : Prop := (∃ ys, SqT K H z ys ∧ DpAll K H ys (phs.map phaseP)) ∧ ∀ ph ∈ phs, WFPh n ph ∧ ph.1.length ≤ 20
theorem Phs.but {H H' : Hp} {p z : Addr} {n : Nat} {phs : List (List Row × Option Nat)} (h : Phs K H z n phs) (hb : But p H H') (hp : Pool H p) : Phs K H' z n phs := by
  obtain ⟨⟨ys, h1, h2⟩, h3⟩ := h
  obtain ⟨xs, hx⟩ := hp.some
  exact ⟨⟨ys, TK.but hb hx _ _ h1, DpAll.keep (TK.but hb hx) (NLs_phases phs) h2⟩, h3⟩
def widthL : List Nat := [1, 2, 3, 3, 4, 4, 5, 6]
theorem width_ok : ∀ x ∈ widthL, 1 ≤ x ∧ x ≤ 6 := by decide
def sp_law_scene (K : PySem.W.Frag) : Sp := fun vs H Q _ => ∃ (p : Addr), vs = [.ref p] ∧ Pool H p ∧ SceneQ K H p Q
-- slots: 0:pool_here 1:kind 2:width 3:hop 4:program 5:phases 6:by | cells: []
theorem sc_law_scene : FnScope ["_law_pool_here", "_law_kind", "_law_width", "_law_hop", "_law_program", "_law_phases", "_law_by"] ["_law_pool_here"] (defScope s_law_scene) := ⟨rfl, rfl, rfl, by decide +kernel, rfl, by decide +kernel, by decide +kernel⟩
theorem ok_law_scene (T : Txt K mg) : FnOk P w K mg base CX0 4 (He.ga K "_law_scene") (fdA K (He.ga K "_law_scene")) ["_law_pool_here"] (sp_law_scene K) := by
  refine T.F_law_scene.ok sc_law_scene (fun vs H Q E h => by obtain ⟨p, rfl, _⟩ := h; rfl) (fun cdv A outer s H vs Q E hr h => ⟨_, PSs.nox ((pss_cons (ps_set (i := 1) sc_law_scene.nd rfl (Or.inl rfl) (pe_call (ok_law_draw T) (hr.mono (by decide)) (by rfl) T.g_law_draw T.F_law_draw.kp T.b_law_draw .nil pass0 (pa_cons (pv 0) (pa_cons pe_int pa_nil))))
(pss_cons (ps_if (pt_cmpR op_gt (pv 1) pe_int (nomark _))
(pss_cons (ps_ret (pe_call (ok_law_sparse T) (hr.mono (by decide)) (by rfl) T.g_law_sparse T.F_law_sparse.kp T.b_law_sparse .nil pass0 (pa_cons (pv 0) pa_nil)))
pss_nil)
pss_nil)
(pss_cons (ps_if (pt_cmpR op_gt (pv 1) pe_int (nomark _))
(pss_cons (ps_ret (pe_call (ok_law_random T) (hr.mono (by decide)) (by rfl) T.g_law_random T.F_law_random.kp T.b_law_random .nil pass0 (pa_cons (pv 0) pa_nil)))
pss_nil)
pss_nil)
(pss_cons (ps_set (i := 2) sc_law_scene.nd rfl (Or.inl rfl) (pe_ix ix_tup (pe_tup (pa_cons pe_int (pa_cons pe_int (pa_cons pe_int (pa_cons pe_int (pa_cons pe_int (pa_cons pe_int (pa_cons pe_int (pa_cons pe_int pa_nil))))))))) (pe_call (ok_law_draw T) (hr.mono (by decide)) (by rfl) T.g_law_draw T.F_law_draw.kp T.b_law_draw .nil pass0 (pa_cons (pv 0) (pa_cons pe_int pa_nil))) (fun _ _ => rfl)))
(pss_cons (ps_set (i := 3) sc_law_scene.nd rfl (Or.inl rfl) pe_int)
(pss_cons (ps_if (pt_cmpR op_gt (pv 1) pe_int (nomark _))
(pss_cons (ps_set (i := 3) sc_law_scene.nd rfl (Or.inl rfl) (pe_callB (call_min2 rfl) (by rfl) T.m_min bt_min (pa_cons (pv 2) (pa_cons (pe_op op_add pe_int (pe_call (ok_law_draw T) (hr.mono (by decide)) (by rfl) T.g_law_draw T.F_law_draw.kp T.b_law_draw .nil pass0 (pa_cons (pv 0) (pa_cons pe_int pa_nil)))) pa_nil))))
pss_nil)
pss_nil)
(pss_cons (ps_set (i := 4) sc_law_scene.nd rfl (Or.inl rfl) (pe_call (ok_law_hopper T) (hr.mono (by decide)) (by rfl) T.g_law_hopper T.F_law_hopper.kp T.b_law_hopper .nil pass0 (pa_cons (pv 2) (pa_cons (pv 3) (pa_cons (pe_call (ok_law_chords T) (hr.mono (by decide)) (by rfl) T.g_law_chords T.F_law_chords.kp T.b_law_chords .nil pass0 (pa_cons (pv 0) (pa_cons (pe_op op_add (pe_op op_fdivN (pv 2) (pv 3)) pe_int) pa_nil))) pa_nil)))))
(pss_cons (ps_if (PW.pt (pw_and (pt_cmpR op_lt (pv 1) pe_int (nomark _)) (pw_and1 (pt_cmpR op_gt (pv 2) pe_int (nomark _)))))
(pss_cons (ps_set (i := 4) sc_law_scene.nd rfl (Or.inl rfl) (pe_call (ok_law_ready T) (hr.mono (by decide)) (by rfl) T.g_law_ready T.F_law_ready.kp T.b_law_ready .nil pass0 (pa_cons (pv 2) (pa_cons (pe_call (ok_law_chords T) (hr.mono (by decide)) (by rfl) T.g_law_chords T.F_law_chords.kp T.b_law_chords .nil pass0 (pa_cons (pv 0) (pa_cons (pv 2) pa_nil))) pa_nil))))
pss_nil)
pss_nil)
(pss_cons (ps_if (pt_cmpR op_eq (pv 1) pe_int (nomark _))
(pss_cons (ps_set (i := 4) sc_law_scene.nd rfl (Or.inl rfl) (pe_call (ok_law_line T) (hr.mono (by decide)) (by rfl) T.g_law_line T.F_law_line.kp T.b_law_line .nil pass0 (pa_cons (pv 0) (pa_cons (pv 2) pa_nil))))
pss_nil)
pss_nil)
(pss_cons (ps_set (i := 5) sc_law_scene.nd rfl (Or.inl rfl) (pe_op op_repA (pe_ix ix_tup (pv 4) pe_int (fun _ _ => rfl)) (pe_op op_add pe_int (pe_callTy call_int1 (by rfl) T.m_int bt_int (pa_cons (pe_and (pe_cmpR op_lt (pe_callB call_len_seq (by rfl) T.m_len bt_len (pa_cons (pe_ix ix_tup (pv 4) pe_int (fun _ _ => rfl)) pa_nil)) pe_int (nomark _)) (pe_one (pe_cmpR op_eq (pe_call (ok_law_draw T) (hr.mono (by decide)) (by rfl) T.g_law_draw T.F_law_draw.kp T.b_law_draw .nil pass0 (pa_cons (pv 0) (pa_cons pe_int pa_nil))) pe_int (nomark _)))) pa_nil)))))
(pss_cons (ps_set (i := 6) sc_law_scene.nd rfl (Or.inl rfl) (pe_op op_mul (pe_op op_fdivN (pe_call (ok_law_draw T) (hr.mono (by decide)) (by rfl) T.g_law_draw T.F_law_draw.kp T.b_law_draw .nil pass0 (pa_cons (pv 0) (pa_cons (pe_callB call_len_seq (by rfl) T.m_len bt_len (pa_cons (pv 5) pa_nil)) pa_nil))) (pv 3)) (pv 3)))
(pss_cons (ps_set (i := 4) sc_law_scene.nd rfl (Or.inl rfl) (pe_tup (pa_cons (pe_ix ix_tup (pv 4) pe_int (fun _ _ => rfl)) (pa_cons (pe_op op_catA (pe_slice sl_tupA (pv 5) (po_some (pv 6)) po_none) (pe_slice sl_tupA (pv 5) po_none (po_some (pv 6)))) pa_nil))))
(pss_cons (ps_set (i := 4) sc_law_scene.nd rfl (Or.inl rfl) (pe_call (ok_law_edited T) (hr.mono (by decide)) (by rfl) T.g_law_edited T.F_law_edited.kp T.b_law_edited .nil pass0 (pa_cons (pv 0) (pa_cons (pv 4) (pa_cons (pe_call (ok_law_draw T) (hr.mono (by decide)) (by rfl) T.g_law_draw T.F_law_draw.kp T.b_law_draw .nil pass0 (pa_cons (pv 0) (pa_cons pe_int pa_nil))) (pa_cons (pe_cmpR op_eq (pe_call (ok_law_draw T) (hr.mono (by decide)) (by rfl) T.g_law_draw T.F_law_draw.kp T.b_law_draw .nil pass0 (pa_cons (pv 0) (pa_cons pe_int pa_nil))) pe_int (nomark _)) pa_nil))))))
(pss_cons (ps_if (pt_cmpR op_eq (pe_call (ok_law_draw T) (hr.mono (by decide)) (by rfl) T.g_law_draw T.F_law_draw.kp T.b_law_draw .nil pass0 (pa_cons (pv 0) (pa_cons pe_int pa_nil))) pe_int (nomark _))
(pss_cons (ps_set (i := 2) sc_law_scene.nd rfl (Or.inl rfl) (pe_callB (call_max2 rfl) (by rfl) T.m_max bt_max (pa_cons pe_int (pa_cons (pe_op op_sub (pe_op op_add (pv 2) (pe_op op_mul pe_int (pe_call (ok_law_draw T) (hr.mono (by decide)) (by rfl) T.g_law_draw T.F_law_draw.kp T.b_law_draw .nil pass0 (pa_cons (pv 0) (pa_cons pe_int pa_nil))))) pe_int) pa_nil))))
pss_nil)
pss_nil)
(pss_cons (ps_ret (pe_lst (pa_cons (pv 4) (pa_cons (pv 2) (pa_cons (pe_op op_mul (pv 3) (pe_callB (call_max2 rfl) (by rfl) T.m_max bt_max (pa_cons pe_int (pa_cons (pe_op op_sub (pe_call (ok_law_draw T) (hr.mono (by decide)) (by rfl) T.g_law_draw T.F_law_draw.kp T.b_law_draw .nil pass0 (pa_cons (pv 0) (pa_cons pe_int pa_nil))) pe_int) pa_nil)))) pa_nil)))))
pss_nil)))))))))))))))), ?_⟩)
  obtain ⟨p, rfl, hP, q⟩ := h
  -- kind = draw(pool, 16)
  refine ⟨_, rfl, p, 16, rfl, hP, by omega, by omega, fun kd H1 hkd hb1 hp1 => ?_⟩
  -- if kind > 13
  refine ⟨_, rfl, _, _, rfl, rfl, _, rfl, ?_⟩
  cases hk1 : decide ((13 : Int) < (kd : Int)) with
  | true =>
    refine ifT rfl ?_
    exact ⟨_, rfl, p, rfl, hp1, fun l x pr width hop H' hb hp hl hx hs => q l x pr width hop H' (hb1.trans hb) hp hl hx hs⟩
  | false =>
  refine ifF rfl ?_
  refine ⟨_, rfl, _, _, rfl, rfl, _, rfl, ?_⟩
  cases hk2 : decide ((11 : Int) < (kd : Int)) with
  | true =>
    refine ifT rfl ?_
    exact ⟨_, rfl, p, rfl, hp1, fun l x pr width hop H' hb hp hl hx hs => q l x pr width hop H' (hb1.trans hb) hp hl hx hs⟩
  | false =>
  refine ifF rfl ?_
  -- width = (1, 2, 3, 3, 4, 4, 5, 6)[draw(pool, 8)]
  refine nx_op (K := K) (d := .tuple (widthL.map fun n : Nat => PyData.int n)) ?_ fun v1 H2 e2 hd2 => ?_
  · show Lit K _ _ _ (.tuple [.int 1, .int 2, .int 3, .int 3, .int 4, .int 4, .int 5, .int 6])
    (repeat (first | exact Lits.nil | refine Lits.cons ?_ ?_ | exact Lit.int | exact Lit.non | exact Lit.str | exact Lit.bl | refine Lit.tup ?_ (Nat.le_of_ble_eq_true rfl) | refine Lit.lst ?_ (Nat.le_of_ble_eq_true rfl) | refine Lit.neg ?_))
  obtain ⟨am, xm, rfl, hm1, hm2⟩ := Dp.tup_inv hd2
  have hp2 := hp1.same e2
  have hB2 := hb1.trans (But.of (p := p) e2)
  clear hP hb1 hp1 e2
  refine ⟨_, rfl, p, 8, rfl, hp2, by omega, by omega, fun k H3 hk hb3 hp3 => ?_⟩
  obtain ⟨ys, hys⟩ := hp2.some
  have hkm : k < widthL.length := hk
  have hxm := DpAll.nats_of hm2
  subst hxm
  have hwok := width_ok _ (List.getElem_mem hkm)
  have hgw : (widthL.map fun n : Nat => V.int n)[k]? = some (V.int widthL[k]) := natL_get (List.getElem?_eq_getElem hkm)
  generalize widthL[k] = wd at hwok hgw
  obtain ⟨hw1, hw6⟩ := hwok
  have tk3 := TK.but (K := K) hb3 hys
  refine ⟨am, _, _, _, rfl, rfl, tk3 _ _ hm1, atI_nat (j := k) hgw, ?_⟩
  have hB3 := hB2.trans hb3
  clear hB2 hb3 hp2 hys tk3 hm1 hm2 hd2
  -- hop = 1
  -- if kind > 7
  refine seq_nx (fun σ' H' => ∃ hop : Nat, σ' = [some (.ref p), some (.int kd), some (.int wd), some (.int hop), none, none, none] ∧ But p H H' ∧ Pool H' p ∧ 1 ≤ hop ∧ hop ≤ wd ∧ hop ≤ 3) (fun D' hN _ _ _ => ?_) ?_
  · refine ⟨_, rfl, _, _, rfl, rfl, _, rfl, ?_⟩
    cases hk3 : decide ((7 : Int) < (kd : Int)) with
    | false =>
      refine ifF rfl ?_
      exact hN _ _ ⟨1, rfl, hB3, hp3, Nat.le_refl _, hw1, by omega⟩
    | true =>
      refine ifT rfl ?_
      refine ⟨_, rfl, _, rfl, p, 2, rfl, hp3, by omega, by omega, fun v H4 hv hb4 hp4 => ⟨_, _, rfl, rfl, _, _, rfl, ?_⟩⟩
      obtain ⟨m, em, hm1, hm2, hm3⟩ : ∃ m : Nat, (if (2 : Int) + (v : Int) < (wd : Int) then (2 : Int) + (v : Int) else (wd : Int)) = (m : Int) ∧ 1 ≤ m ∧ m ≤ wd ∧ m ≤ 3 := by
        by_cases hc : (2 : Int) + (v : Int) < (wd : Int)
        · exact ⟨2 + v, if_pos hc, by omega, by omega, by omega⟩
        · exact ⟨wd, if_neg hc, by omega, by omega, by omega⟩
      refine hN _ _ ⟨m, congrArg (fun z : Int => [some (V.ref p), some (V.int (kd : Int)), some (.int (wd : Int)), some (.int z), none, none, none]) em, hB3.trans hb4, hp4, hm1, hm2, hm3⟩
  rintro σ' H4 ⟨hop, rfl, hB4, hp4, hh1, hhw, hh3⟩
  clear hB3 hp3
  have hhne : (hop : Int) ≠ 0 := by omega
  have ec : (wd : Int).fdiv (hop : Int) + 1 = ((wd / hop + 1 : Nat) : Int) := by rw [fdivN]; omega
  have hc1 : 2 ≤ wd / hop + 1 := by
    have : 1 ≤ wd / hop := (Nat.le_div_iff_mul_le (by omega)).mpr (by omega)
    omega
  have hc2 : wd / hop + 1 ≤ 100 := by
    have : wd / hop ≤ wd := Nat.div_le_self _ _
    omega
  -- program = hopper(width, hop, chords(pool, width // hop + 1))
  refine seq_by (fun σ' H' => ∃ (x : V) (pr : Prog), σ' = [some (.ref p), some (.int kd), some (.int wd), some (.int hop), some x, none, none] ∧ But p H H' ∧ Pool H' p ∧ Dp K H' x (toD pr) ∧ Mk pr 20) (fun D' hN _ _ _ => ?_) ?_
  · refine ⟨_, rfl, _, rfl, _, rfl, _, rfl, _, rfl, _, _, rfl, rfl, ⟨by omega, by show (hop : Int).natAbs < _; omega⟩, _, _, rfl, rfl, p, wd / hop + 1, ?_, hp4, hc1, hc2, fun v H5 ds hb5 hp5 hd5 hch => ⟨wd, hop, v, ds, rfl, hh1, hhw, by omega, hd5, hch, fun u pr H6 hS hd hmk => hN _ _ ⟨u, pr, rfl, (hB4.trans hb5).trans (But.of hS), hp5.same hS, hd, hmk⟩⟩⟩
    show [V.ref p, V.int ((wd : Int).fdiv (hop : Int) + 1)] = _
    rw [ec]
  clear hB4 hp4
  rintro σ' H4 ⟨x, pr, rfl, hB4, hp4, hx, hmk⟩
  -- if kind < 3 and width > 1
  refine seq_by (fun σ' H' => ∃ (x : V) (pr : Prog), σ' = [some (.ref p), some (.int kd), some (.int wd), some (.int hop), some x, none, none] ∧ But p H H' ∧ Pool H' p ∧ Dp K H' x (toD pr) ∧ Mk pr 20) (fun D' hN _ _ _ => ?_) ?_
  · refine ⟨_, rfl, _, _, rfl, rfl, _, rfl, ?_⟩
    cases hk4 : decide ((kd : Int) < 3) with
    | false =>
      refine iteF ?_
      refine iteF ?_
      exact hN _ _ ⟨x, pr, rfl, hB4, hp4, hx, hmk⟩
    | true =>
      refine iteT ?_
      refine ⟨_, rfl, _, _, rfl, rfl, _, rfl, ?_⟩
      by_cases hw : (1 : Int) < (wd : Int)
      · refine ifT (decide_eq_true hw) ?_
        refine ⟨_, rfl, _, rfl, _, rfl, p, wd, rfl, hp4, by omega, by omega, fun v H5 ds hb5 hp5 hd5 hch => ⟨wd, v, ds, rfl, by omega, by omega, hd5, hch, fun u pr H6 hS hd hmk => hN _ _ ⟨u, pr, rfl, (hB4.trans hb5).trans (But.of hS), hp5.same hS, hd, hmk⟩⟩⟩
      · refine ifF (decide_eq_false hw) ?_
        exact hN _ _ ⟨x, pr, rfl, hB4, hp4, hx, hmk⟩
  clear hB4 hp4 hx hmk
  rintro σ' H4 ⟨x, pr, rfl, hB4, hp4, hx, hmk⟩
  -- if kind == 3
  refine seq_by (fun σ' H' => ∃ (x : V) (pr : Prog), σ' = [some (.ref p), some (.int kd), some (.int wd), some (.int hop), some x, none, none] ∧ But p H H' ∧ Pool H' p ∧ Dp K H' x (toD pr) ∧ Mk pr 20) (fun D' hN _ _ _ => ?_) ?_
  · refine ⟨_, rfl, rfl, _, rfl, ?_⟩
    cases hk4 : decide (V.int kd = V.int 3) with
    | false =>
      refine ifF rfl ?_
      exact hN _ _ ⟨x, pr, rfl, hB4, hp4, hx, hmk⟩
    | true =>
      refine ifT rfl ?_
      refine ⟨_, rfl, _, rfl, p, wd, rfl, hp4, hw1, by omega, fun u pr H6 hb hp hd hmk => hN _ _ ⟨u, pr, rfl, hB4.trans hb, hp, hd, hmk⟩⟩
  clear hB4 hp4 hx hmk
  rintro σ' H4 ⟨x, pr, rfl, hB4, hp4, hx, hmk⟩
  obtain ⟨a0, ph, ys, rfl, hs0, hsp, hly, hys⟩ := toD_inv hx
  have hpl1 := hmk.wf.p1
  have hpl2 := hmk.phs
  have hprW : ∀ z ∈ pr.phases, WFPh pr.regs z ∧ z.1.length ≤ 20 := fun z hz => ⟨hmk.wf.ph z hz, hmk.rows z hz⟩
  -- phases = program[1] * (1 + int(len(program[1]) < 8 and draw(pool, 4) == 0))
  refine seq_by (fun σ' H' => ∃ (z : Addr) (phs : List (List Row × Option Nat)), σ' = [some (.ref p), some (.int kd), some (.int wd), some (.int hop), some (.ref a0), some (.ref z), none] ∧ But p H H' ∧ Pool H' p ∧ SqT K H' a0 [.int pr.regs, .ref ph] ∧ Phs K H' z pr.regs phs ∧ 1 ≤ phs.length ∧ phs.length ≤ 20) (fun D' hN _ _ _ => ?_) ?_
  · refine ⟨_, rfl, a0, _, _, _, rfl, rfl, hs0, atI_nat (j := 1) rfl, _, rfl, a0, _, _, _, rfl, rfl, hs0, atI_nat (j := 1) rfl, _, _, rfl, .inr hsp, _, _, rfl, rfl, _, rfl, ?_⟩
    by_cases hlt : (ys.length : Int) < 8
    · rw [decide_eq_true hlt]
      refine iteT ?_
      refine ⟨_, rfl, p, 4, rfl, hp4, by omega, by omega, fun c H5 hc hb5 hp5 => ⟨rfl, .inr ⟨_, rfl, _, _, rfl, rfl, ?_⟩⟩⟩
      obtain ⟨zs, hzs⟩ := hp4.some
      have tk5 := TK.but (K := K) hb5 hzs
      have hsp5 := tk5 _ _ hsp
      have hys5 := DpAll.keep tk5 (NLs_phases _) hys
      refine ⟨ph, _, ys, rfl, rfl, hsp5, fun z => by rw [z] at hly; exact absurd hly (by show ¬ 0 = _; omega), ?_, ?_, by omega, fun hk1' => ?_, fun hk2' z hz => ?_⟩
      · split <;> decide
      · split <;> decide
      · exact hN _ _ ⟨ph, pr.phases, rfl, hB4.trans hb5, hp5, tk5 _ _ hs0, ⟨⟨ys, hsp5, hys5⟩, hprW⟩, hpl1, hpl2⟩
      · have e2 : (1 + (if decide (V.int (c : Int) = V.int 0) = true then (1 : Int) else 0)).toNat = 2 := by
          cases hdc : decide (V.int (c : Int) = V.int 0) with
          | true => rfl
          | false => rw [hdc] at hk2'; exact absurd rfl hk2'
        have S := Same.new (o := .tup (List.replicate (1 + (if decide (V.int (c : Int) = V.int 0) = true then (1 : Int) else 0)).toNat ys).flatten) hz
        refine hN _ _ ⟨z, pr.phases ++ pr.phases, rfl, (hB4.trans hb5).trans (But.of S), hp5.same S, Same.tup S (tk5 _ _ hs0), ⟨⟨ys ++ ys, SqT.of (upd_same.trans ?_), ?_⟩, fun x hx => ?_⟩, by rw [List.length_append]; omega, by rw [List.length_append]; omega⟩
        · rw [e2]
          show some (HO.tup (ys ++ (ys ++ []))) = _
          rw [List.append_nil]
        · rw [List.map_append]
          exact DpAll.append (DpAll.same S hys5) (DpAll.same S hys5)
        · exact (List.mem_append.mp hx).elim (hprW x) (hprW x)
    · rw [decide_eq_false hlt]
      refine iteF ?_
      refine .inr ⟨_, rfl, _, _, rfl, rfl, ?_⟩
      refine ⟨ph, _, ys, rfl, rfl, hsp, fun z => by rw [z] at hly; exact absurd hly (by show ¬ 0 = _; omega), by decide, by decide, by omega, fun _ => ?_, fun hk2' => absurd rfl hk2'⟩
      exact hN _ _ ⟨ph, pr.phases, rfl, hB4, hp4, hs0, ⟨⟨ys, hsp, hys⟩, hprW⟩, hpl1, hpl2⟩
  clear hB4 hp4 hs0 hsp hys hx
  rintro σ' H4 ⟨z, phs, rfl, hB4, hp4, hs0, hZ, hz1, hz2⟩
  obtain ⟨⟨zs, hzs1, hzs2⟩, hzW⟩ := id hZ
  have hzl : zs.length = phs.length := by rw [DpAll.length hzs2, List.length_map]
  -- by = draw(pool, len(phases)) // hop * hop
  refine ⟨_, rfl, _, rfl, _, _, rfl, .inr hzs1, p, zs.length, rfl, hp4, by omega, by omega, fun v H5 hv hb5 hp5 => ⟨_, rfl, _, _, rfl, rfl, ⟨by omega, by show (hop : Int).natAbs < _; omega⟩, _, rfl, _, _, rfl, rfl, .inr ⟨by omega, by omega⟩, ?_⟩⟩
  refine set_eq (show V.int ((v : Int).fdiv (hop : Int) * (hop : Int)) = V.int ((v / hop * hop : Nat) : Int) from by rw [fdivN, Int.natCast_mul]) ?_
  generalize v / hop * hop = b
  have hB5 := hB4.trans hb5
  have hZ5 := hZ.but hb5 hp4
  obtain ⟨gs, hgs⟩ := hp4.some
  have hs05 := TK.but (K := K) hb5 hgs _ _ hs0
  clear hB4 hp4 hs0 hb5 hZ hzs1 hzs2 hzl hgs
  obtain ⟨⟨zs5, hz51, hz52⟩, _⟩ := id hZ5
  have hzl : zs5.length = phs.length := by rw [DpAll.length hz52, List.length_map]
  -- program = (program[0], phases[by:] + phases[:by])
  refine seq_nx (fun σ' H' => ∃ (x : V) (pr : Prog), σ' = [some (.ref p), some (.int kd), some (.int wd), some (.int hop), some x, some (.ref z), some (.int b)] ∧ But p H H' ∧ Pool H' p ∧ Dp K H' x (toD pr) ∧ Mk pr 20) (fun D' hN _ _ _ => ?_) ?_
  · refine ⟨_, rfl, a0, _, _, _, rfl, rfl, hs05, atI_nat (j := 0) rfl, _, rfl, _, rfl, _, rfl, ?_⟩
    refine noPart_by ?_
    refine cutA_by b hz51 fun z1 H6 e6 h6 => ?_
    refine ⟨_, rfl, _, rfl, _, rfl, ?_⟩
    refine cutA_to b (Same.tup e6 hz51) fun z2 H7 e7 h7 => ?_
    refine catA_by (Same.tup e7 h6) h7 ?_ fun z3 H8 e8 h8 => ?_
    · rw [List.length_drop, List.length_take, sizeLine_eq]; omega
    refine ⟨(by show 2 ≤ sizeLine; decide), fun q9 hq9 => ?_⟩
    have S := ((e6.trans e7).trans e8).trans (Same.new (o := .tup [.int pr.regs, .ref z3]) hq9)
    refine hN _ _ ⟨.ref q9, ⟨pr.regs, phs.drop b ++ phs.take b⟩, rfl, hB5.trans (But.of S), hp5.same S, Dp.prog (l := z3) (SqT.of upd_same) (.tup (Same.tup (Same.new hq9) h8) ?_), Mk.of hmk.wf.r1 hmk.regs ?_ ?_ ?_ (by omega)⟩
    · rw [List.map_append, List.map_drop, List.map_take]
      exact DpAll.append (DpAll.drop b (DpAll.same S hz52)) (DpAll.take b (DpAll.same S hz52))
    · rw [List.length_append, List.length_drop, List.length_take]; omega
    · rw [List.length_append, List.length_drop, List.length_take]; omega
    · intro y hy
      rcases List.mem_append.mp hy with hy | hy
      · exact hzW y (List.mem_of_mem_drop hy)
      · exact hzW y (List.mem_of_mem_take hy)
  clear hB5 hp5 hZ5 hs05 hz51 hz52 hzl hz1 hz2 hzW hmk hprW hpl1 hpl2 hly
  rintro σ' H4 ⟨x, pr2, rfl, hB4, hp4, hx, hmk⟩
  -- program = edited(pool, program, draw(pool, 3), draw(pool, 2) == 0)
  refine seq_by (fun σ' H' => ∃ (x : V) (pr : Prog), σ' = [some (.ref p), some (.int kd), some (.int wd), some (.int hop), some x, some (.ref z), some (.int b)] ∧ But p H H' ∧ Pool H' p ∧ Dp K H' x (toD pr) ∧ WF pr ∧ pr.phases.length ≤ 20) (fun D' hN _ _ _ => ?_) ?_
  · refine ⟨_, rfl, _, rfl, _, rfl, p, 3, rfl, hp4, by omega, by omega, fun e H5 he hb5 hp5 => ⟨_, rfl, p, 2, rfl, hp5, by omega, by omega, fun c H6 hc hb6 hp6 => ⟨rfl, p, x, pr2, e, _, rfl, hp6, prog_but (prog_but hx hb5 hp4) hb6 hp5, hmk.wf, by omega, ?_, fun y hy => ?_, ?_, fun u pr' H' hb hp' hd hw hlen => hN _ _ ⟨u, pr', rfl, ((hB4.trans hb5).trans hb6).trans hb, hp', hd, hw, ?_⟩⟩⟩⟩
    · have := hmk.regs
      omega
    · have := hmk.rows y hy
      omega
    · have := hmk.phs
      omega
    · have := hmk.phs
      omega
  clear hB4 hp4 hx hmk
  rintro σ' H4 ⟨x, pr, rfl, hB4, hp4, hx, hW, hpl⟩
  -- if draw(pool, 8) == 0
  refine seq_by (fun σ' H' => ∃ wd : Nat, σ' = [some (.ref p), some (.int kd), some (.int wd), some (.int hop), some x, some (.ref z), some (.int b)] ∧ But p H H' ∧ Pool H' p ∧ Dp K H' x (toD pr) ∧ 1 ≤ wd ∧ wd ≤ 8) (fun D' hN _ _ _ => ?_) ?_
  · refine ⟨_, rfl, p, 8, rfl, hp4, by omega, by omega, fun c H5 hc hb5 hp5 => ⟨rfl, _, rfl, ?_⟩⟩
    have hx5 := prog_but hx hb5 hp4
    cases hdc : decide (V.int c = V.int 0) with
    | false =>
      refine ifF rfl ?_
      exact hN _ _ ⟨wd, rfl, hB4.trans hb5, hp5, hx5, hw1, by omega⟩
    | true =>
      refine ifT rfl ?_
      refine ⟨_, rfl, _, rfl, p, 2, rfl, hp5, by omega, by omega, fun v H6 hv hb6 hp6 => ⟨_, _, rfl, rfl, .inl ⟨by omega, by omega⟩, _, _, rfl, rfl, _, _, rfl, rfl, _, _, rfl, ?_⟩⟩
      obtain ⟨m, em, hm1, hm2⟩ : ∃ m : Nat, (if (wd : Int) + 2 * (v : Int) - 1 > 1 then (wd : Int) + 2 * (v : Int) - 1 else 1) = (m : Int) ∧ 1 ≤ m ∧ m ≤ 8 := by
        by_cases hc : (wd : Int) + 2 * (v : Int) - 1 > 1
        · exact ⟨wd + 2 * v - 1, by rw [if_pos hc]; omega, by omega, by omega⟩
        · exact ⟨1, if_neg hc, by omega, by omega⟩
      exact hN _ _ ⟨m, congrArg (fun y : Int => [some (V.ref p), some (V.int (kd : Int)), some (.int y), some (.int (hop : Int)), some x, some (.ref z), some (.int (b : Int))]) em, (hB4.trans hb5).trans hb6, hp6, prog_but hx5 hb6 hp5, hm1, hm2⟩
  clear hB4 hp4 hx
  rintro σ' H4 ⟨wd', rfl, hB4, hp4, hx, hwd1, hwd2⟩
  -- return [program, width, hop * max(1, draw(pool, 5) - 1)]
  refine ⟨_, rfl, _, rfl, _, rfl, _, rfl, p, 5, rfl, hp4, by omega, by omega, fun v H5 hv hb5 hp5 => ⟨_, _, rfl, rfl, _, _, rfl, _, _, rfl, rfl, .inl ⟨by omega, by omega⟩, (by show 3 ≤ sizeLine; decide), fun l hl => ?_⟩⟩
  obtain ⟨m, em, hm1, hm2⟩ : ∃ m : Nat, (if (v : Int) - 1 > 1 then (v : Int) - 1 else 1) = (m : Int) ∧ 1 ≤ m ∧ m ≤ 3 := by
    by_cases hc : (v : Int) - 1 > 1
    · exact ⟨v - 1, by rw [if_pos hc]; omega, by omega, by omega⟩
    · exact ⟨1, if_neg hc, by omega, by omega⟩
  have S := Same.new (o := .lst [x, .int wd', .int ((hop : Int) * (if (v : Int) - 1 > 1 then (v : Int) - 1 else 1))]) hl
  have hhm : hop * m ≤ 3 * 3 := Nat.mul_le_mul hh3 hm2
  have hhm1 : 1 ≤ hop * m := Nat.mul_pos hh1 hm1
  refine q l x pr wd' (hop * m) _ ((hB4.trans hb5).trans (But.of S)) (hp5.same S) (upd_same.trans ?_) (Dp.same S (prog_but hx hb5 hp4)) ⟨hW, by omega, hwd1, hwd2, hhm1, by omega, ?_⟩
  · show some (HO.lst [x, .int wd', .int ((hop : Int) * (if (v : Int) - 1 > 1 then (v : Int) - 1 else 1))]) = _
    rw [em, Int.natCast_mul]
  · have h1 : Nat.lcm pr.phases.length (hop * m) ≤ pr.phases.length * (hop * m) := Nat.le_of_dvd (Nat.mul_pos hW.p1 hhm1) (Nat.lcm_dvd_mul _ _)
    have h2 : pr.phases.length * (hop * m) ≤ 20 * 9 := Nat.mul_le_mul hpl (by omega)
    exact Nat.le_trans h1 (Nat.le_trans h2 (by decide))
end
end U3


namespace U3
open PySem PySem.Spec PyProof.Rows L2
section
variable {P : Program} {w : World} {K : PySem.W.Frag} {mg : Str → Option Value} {base : Heap}
/-! _law_machine(program, steps): what it keeps -/
def ivs (w : List Nat) : List V := w.map fun n : Nat => V.int n
/-- the node i holds the word w, cut behind N -/
def NodeW (H0 H : Hp) (S : List Addr) (NL : List V) (N i : Nat) (w : Wd) : Prop :=
  ∃ (na wa : Addr) (a b c : V), NL[i]? = some (.ref na) ∧ H na = some (.lst [a, b, c, .ref wa]) ∧ H wa = some (.lst (ivs (w.take N))) ∧ (na ∉ S ∧ H0 na = none) ∧ (wa ∉ S ∧ H0 wa = none)
def OfI (H0 H : Hp) (S : List Addr) (NL : List V) (N : Nat) : Option Wd → V → Prop
  | none, v => v = .int (-1)
  | some w, v => ∃ i : Nat, v = .int i ∧ NodeW H0 H S NL N i w
section
variable {H0 H H' H2 : Hp} {S : List Addr} {NL NL' : List V} {N : Nat} {o : Option Wd} {v : V}
theorem NodeW.keep {i : Nat} {w : Wd} (h : NodeW H0 H S NL N i w) (k : Keep S H H') (hn : ∀ (i : Nat) (x : V), NL[i]? = some x → NL'[i]? = some x) : NodeW H0 H' S NL' N i w := by
  obtain ⟨na, wa, a, b, c, h1, h2, h3, h4, h5⟩ := h
  exact ⟨na, wa, a, b, c, hn _ _ h1, k _ _ h4.1 h2, k _ _ h5.1 h3, h4, h5⟩
theorem OfI.keep (h : OfI H0 H S NL N o v) (k : Keep S H H') (hn : ∀ (i : Nat) (x : V), NL[i]? = some x → NL'[i]? = some x) : OfI H0 H' S NL' N o v := by
  cases o with
  | none => exact h
  | some w =>
    obtain ⟨i, h1, h2⟩ := h
    exact ⟨i, h1, h2.keep k hn⟩
theorem OfI.int (h : OfI H0 H S NL N o v) : ∃ z : Int, v = .int z ∧ (o = none → z = -1) ∧ (o ≠ none → 0 ≤ z) := by
  cases o with
  | none => exact ⟨-1, h, fun _ => rfl, fun z => absurd rfl z⟩
  | some w =>
    obtain ⟨i, h1, _⟩ := h
    exact ⟨i, h1, (fun z => by cases z), fun _ => by omega⟩
/-- the sides of a row, and what they are -/
inductive Sd (H0 H : Hp) (S : List Addr) (NL : List V) (N : Nat) (st : Rg) : List Nat → List Int → Prop
  | nil : Sd H0 H S NL N st [] []
  | cons {b : Nat} {bs : List Nat} {z : Int} {zs : List Int} : OfI H0 H S NL N (st b) (.int z) → Sd H0 H S NL N st bs zs → Sd H0 H S NL N st (b :: bs) (z :: zs)
inductive Wds (H0 H : Hp) (S : List Addr) (NL : List V) (N : Nat) (st : Rg) : List Nat → List Int → List Wd → Prop
  | nil : Wds H0 H S NL N st [] [] []
  | cons {b i : Nat} {bs : List Nat} {zs : List Int} {w : Wd} {ws : List Wd} : st b = some w → NodeW H0 H S NL N i w → Wds H0 H S NL N st bs zs ws → Wds H0 H S NL N st (b :: bs) (i :: zs) (w :: ws)
variable {st : Rg}
theorem Sd.snoc {b : Nat} {z : Int} (h : OfI H0 H S NL N (st b) (.int z)) : ∀ {bs : List Nat} {zs : List Int}, Sd H0 H S NL N st bs zs → Sd H0 H S NL N st (bs ++ [b]) (zs ++ [z])
  | _, _, .nil => .cons h .nil
  | _, _, .cons x r => .cons x (Sd.snoc h r)
theorem Sd.length : ∀ {bs : List Nat} {zs : List Int}, Sd H0 H S NL N st bs zs → zs.length = bs.length
  | _, _, .nil => rfl
  | _, _, .cons _ r => congrArg (· + 1) r.length
theorem Sd.all : ∀ {bs : List Nat} {zs : List Int}, Sd H0 H S NL N st bs zs → (∀ z ∈ zs, 0 ≤ z) → ∃ ws, Wds H0 H S NL N st bs zs ws
  | _, _, .nil, _ => ⟨[], .nil⟩
  | _, _, .cons (b := b) (z := z) x r, h => by
    obtain ⟨ws, hw⟩ := r.all fun z hz => h z (List.mem_cons_of_mem _ hz)
    cases hb : st b with
    | none =>
      rw [hb] at x
      have x : V.int z = .int (-1) := x
      injection x with x
      have := h z List.mem_cons_self
      omega
    | some w =>
      rw [hb] at x
      obtain ⟨i, e, hn⟩ := x
      injection e with e
      subst e
      exact ⟨w :: ws, .cons hb hn hw⟩
theorem Sd.some_ : ∀ {bs : List Nat} {zs : List Int}, Sd H0 H S NL N st bs zs → (∃ z ∈ zs, z < 0) → ∃ b ∈ bs, st b = none
  | _, _, .nil, h => by obtain ⟨z, hz, _⟩ := h; cases hz
  | _, _, .cons (b := b) (z := z) x r, h => by
    cases hb : st b with
    | none => exact ⟨b, List.mem_cons_self, hb⟩
    | some w =>
      rw [hb] at x
      obtain ⟨i, e, hn⟩ := x
      injection e with e
      obtain ⟨y, hy, hy0⟩ := h
      rcases List.mem_cons.mp hy with rfl | hy
      · omega
      · obtain ⟨b', h1, h2⟩ := r.some_ ⟨y, hy, hy0⟩
        exact ⟨b', List.mem_cons_of_mem _ h1, h2⟩
theorem Wds.length : ∀ {bs : List Nat} {zs : List Int} {ws : List Wd}, Wds H0 H S NL N st bs zs ws → ws.length = bs.length ∧ zs.length = bs.length
  | _, _, _, .nil => ⟨rfl, rfl⟩
  | _, _, _, .cons _ _ r => ⟨congrArg (· + 1) r.length.1, congrArg (· + 1) r.length.2⟩
theorem Wds.get : ∀ {bs : List Nat} {zs : List Int} {ws : List Wd} {j : Nat} {z : Int}, Wds H0 H S NL N st bs zs ws → zs[j]? = some z → ∃ w i, ws[j]? = some w ∧ z = (i : Nat) ∧ NodeW H0 H S NL N i w
  | _, _, _, j, z, .nil, e => by simp at e
  | _, _, _, 0, z, .cons (i := i) (w := w) _ h _, e => ⟨w, i, rfl, by simpa using e.symm, h⟩
  | _, _, _, j + 1, z, .cons _ _ r, e => by
    obtain ⟨w, i, h1, h2, h3⟩ := r.get (j := j) (by simpa using e)
    exact ⟨w, i, by simpa using h1, h2, h3⟩
/-- the word of the sides' words, each cut, cut again -/
def catN (N : Nat) (ws : List Wd) : Wd := (ws.map (·.take N)).flatten
theorem made_some {bs : List Nat} {zs : List Int} {ws : List Wd} {h : Nat} (hw : Wds H0 H S NL N st bs zs ws) (hl : bs.length = 1 ∨ bs.length = 2) : ∃ w, made st (h :: bs) = some w ∧ (catN N ws).take N = w.take N := by
  cases hw with
  | nil => simp at hl
  | @cons b i bs zs w ws e1 _ r =>
    cases r with
    | nil => exact ⟨w, e1, by simp [catN, List.take_take]⟩
    | @cons b2 i2 bs zs w2 ws e2 _ r2 =>
      cases r2 with
      | nil =>
        refine ⟨w ++ w2, ?_, ?_⟩
        · show cat2 (st b) (st b2) = _
          rw [e1, e2]
          rfl
        · show (w.take N ++ (w2.take N ++ [])).take N = _
          rw [List.append_nil]
          exact take_cat N w w2
      | cons _ _ _ => simp at hl
theorem made_none {bs : List Nat} {h b : Nat} (hb : b ∈ bs) (e : st b = none) (hl : bs.length = 1 ∨ bs.length = 2) : made st (h :: bs) = none := by
  match bs, hl with
  | [x], _ =>
    rw [List.mem_singleton.mp hb] at e
    exact e
  | [x, y], _ =>
    show cat2 (st x) (st y) = none
    simp only [List.mem_cons, List.not_mem_nil, or_false] at hb
    rcases hb with rfl | rfl
    · rw [e]; rfl
    · rw [e]; cases st x <;> rfl
end
structure MI (H0 : Hp) (p : Prog) (N nt nb : Nat) (as an at_ ab : Addr) (st : Rg) (SL NL TL BL : List V) (H : Hp) : Prop where
  same : Same H0 H
  fs : H0 as = none
  fn : H0 an = none
  ft : H0 at_ = none
  fb : H0 ab = none
  dif : [as, an, at_, ab].Nodup
  hs : H as = some (.lst SL)
  hn : H an = some (.lst NL)
  ht : H at_ = some (.lst TL)
  hb : H ab = some (.lst BL)
  ls : SL.length = p.regs
  lt : TL.length = nt
  lb : BL.length = nb
  regs : ∀ r, r < p.regs → ∃ v, SL[r]? = some v ∧ OfI H0 H [as, an, at_, ab] NL N (st r) v
  told : ∀ k, k < nt → ∃ v, TL[k]? = some v ∧ OfI H0 H [as, an, at_, ab] NL N (tellAt p k) v
section
variable {H0 H H' : Hp} {p : Prog} {N nt nb : Nat} {st : Rg} {as an at_ ab : Addr} {SL NL TL BL : List V}
theorem MI.up (u : MI H0 p N nt nb as an at_ ab st SL NL TL BL H) (e : Same H H') : MI H0 p N nt nb as an at_ ab st SL NL TL BL H' :=
  ⟨u.same.trans e, u.fs, u.fn, u.ft, u.fb, u.dif, e _ _ u.hs, e _ _ u.hn, e _ _ u.ht, e _ _ u.hb, u.ls, u.lt, u.lb,
    fun r h => (u.regs r h).imp fun v q => ⟨q.1, q.2.keep (Keep.refl.same e) fun _ _ h => h⟩, fun r h => (u.told r h).imp fun v q => ⟨q.1, q.2.keep (Keep.refl.same e) fun _ _ h => h⟩⟩
theorem MI.dn (u : MI H0 p N nt nb as an at_ ab st SL NL TL BL H) : (as ≠ an ∧ as ≠ at_ ∧ as ≠ ab) ∧ (an ≠ at_ ∧ an ≠ ab) ∧ at_ ≠ ab := by
  have := u.dif
  simpa [List.nodup_cons, and_assoc] using this
theorem MI.setS (u : MI H0 p N nt nb as an at_ ab st SL NL TL BL H) {r : Nat} {o : Option Wd} {v : V} (hr : r < p.regs) (hv : OfI H0 H [as, an, at_, ab] NL N o v) :
    MI H0 p N nt nb as an at_ ab (setR st r o) (SL.set r v) NL TL BL (upd H as (.lst (SL.set r v))) := by
  obtain ⟨⟨a1, a2, a3⟩, _⟩ := u.dn
  have k : Keep [as, an, at_, ab] H (upd H as (.lst (SL.set r v))) := Keep.refl.put List.mem_cons_self
  refine ⟨Same.put u.same u.fs, u.fs, u.fn, u.ft, u.fb, u.dif, upd_same, by rw [upd_ne a1.symm]; exact u.hn, by rw [upd_ne a2.symm]; exact u.ht, by rw [upd_ne a3.symm]; exact u.hb, by rw [List.length_set]; exact u.ls, u.lt, u.lb,
    fun j hj => ?_, fun r h => (u.told r h).imp fun v q => ⟨q.1, q.2.keep k fun _ _ h => h⟩⟩
  by_cases hjr : j = r
  · subst hjr
    refine ⟨v, by rw [List.getElem?_set_self (by rw [u.ls]; exact hj)], ?_⟩
    have e : setR st j o j = o := if_pos rfl
    rw [e]
    exact hv.keep k fun _ _ h => h
  · obtain ⟨v', h1, h2⟩ := u.regs j hj
    refine ⟨v', by rw [List.getElem?_set_ne (Ne.symm hjr)]; exact h1, ?_⟩
    have e : setR st r o j = st j := if_neg hjr
    rw [e]
    exact h2.keep k fun _ _ h => h
/-- state[r] = len(nodes), and then the node -/
theorem MI.node (u : MI H0 p N nt nb as an at_ ab st SL NL TL BL H) {r : Nat} {w : Wd} {na wa : Addr} {a b c : V} (hr : r < p.regs) (e : Same (upd H as (.lst (SL.set r (.int NL.length)))) H')
    (h1 : H' na = some (.lst [a, b, c, .ref wa])) (h2 : H' wa = some (.lst (ivs (w.take N)))) (n1 : H na = none) (n2 : H wa = none) :
    MI H0 p N nt nb as an at_ ab (setR st r (some w)) (SL.set r (.int NL.length)) (NL ++ [.ref na]) TL BL (upd H' an (.lst (NL ++ [.ref na]))) := by
  obtain ⟨⟨a1, a2, a3⟩, ⟨b1, b2⟩, _⟩ := u.dn
  have ms : as ∈ [as, an, at_, ab] := List.mem_cons_self
  have mn : an ∈ [as, an, at_, ab] := List.mem_cons_of_mem _ List.mem_cons_self
  have k : Keep [as, an, at_, ab] H (upd H' an (.lst (NL ++ [.ref na]))) := ((Keep.refl.put ms).same e).put mn
  have out : ∀ {x : Addr}, H x = none → x ∉ [as, an, at_, ab] ∧ H0 x = none := fun {x} hx => by
    refine ⟨fun z => ?_, Same.free u.same hx⟩
    simp only [List.mem_cons, List.not_mem_nil, or_false] at z
    rcases z with rfl | rfl | rfl | rfl
    · have := u.hs; rw [hx] at this; cases this
    · have := u.hn; rw [hx] at this; cases this
    · have := u.ht; rw [hx] at this; cases this
    · have := u.hb; rw [hx] at this; cases this
  have grow : ∀ (i : Nat) (x : V), NL[i]? = some x → (NL ++ [V.ref na])[i]? = some x := fun i x hi => by
    rw [List.getElem?_append_left (List.getElem?_eq_some_iff.mp hi).1]
    exact hi
  have hnn : na ≠ an := fun z => (out n1).1 (z ▸ mn)
  have hwn : wa ≠ an := fun z => (out n2).1 (z ▸ mn)
  refine ⟨Same.put (fun b o hb => e _ _ (Same.put u.same u.fs b o hb)) u.fn, u.fs, u.fn, u.ft, u.fb, u.dif, by rw [upd_ne a1]; exact e _ _ upd_same, upd_same, by rw [upd_ne b1.symm]; exact e _ _ (by rw [upd_ne a2.symm]; exact u.ht), by rw [upd_ne b2.symm]; exact e _ _ (by rw [upd_ne a3.symm]; exact u.hb), by rw [List.length_set]; exact u.ls, u.lt, u.lb,
    fun j hj => ?_, fun r h => (u.told r h).imp fun v q => ⟨q.1, q.2.keep k grow⟩⟩
  by_cases hjr : j = r
  · subst hjr
    refine ⟨_, by rw [List.getElem?_set_self (by rw [u.ls]; exact hj)], ?_⟩
    have e' : setR st j (some w) j = some w := if_pos rfl
    rw [e']
    exact ⟨NL.length, rfl, na, wa, a, b, c, by rw [List.getElem?_append_right (Nat.le_refl _), Nat.sub_self]; rfl, by rw [upd_ne hnn]; exact h1, by rw [upd_ne hwn]; exact h2, out n1, out n2⟩
  · obtain ⟨v', h1, h2⟩ := u.regs j hj
    refine ⟨v', by rw [List.getElem?_set_ne (Ne.symm hjr)]; exact h1, ?_⟩
    have e' : setR st r (some w) j = st j := if_neg hjr
    rw [e']
    exact h2.keep k grow
theorem MI.appT (u : MI H0 p N nt nb as an at_ ab st SL NL TL BL H) {v : V} (hv : OfI H0 H [as, an, at_, ab] NL N (tellAt p nt) v) :
    MI H0 p N (nt + 1) nb as an at_ ab st SL NL (TL ++ [v]) BL (upd H at_ (.lst (TL ++ [v]))) := by
  obtain ⟨⟨a1, a2, a3⟩, ⟨b1, b2⟩, c1⟩ := u.dn
  have mt : at_ ∈ [as, an, at_, ab] := List.mem_cons_of_mem _ (List.mem_cons_of_mem _ List.mem_cons_self)
  have k : Keep [as, an, at_, ab] H (upd H at_ (.lst (TL ++ [v]))) := Keep.refl.put mt
  refine ⟨Same.put u.same u.ft, u.fs, u.fn, u.ft, u.fb, u.dif, by rw [upd_ne a2]; exact u.hs, by rw [upd_ne b1]; exact u.hn, upd_same, by rw [upd_ne c1.symm]; exact u.hb, u.ls, by rw [List.length_append, u.lt]; rfl, u.lb,
    fun r h => (u.regs r h).imp fun v q => ⟨q.1, q.2.keep k fun _ _ h => h⟩, fun j hj => ?_⟩
  by_cases hjr : j = nt
  · subst hjr
    refine ⟨v, by rw [List.getElem?_append_right (by rw [u.lt]; exact Nat.le_refl _), u.lt, Nat.sub_self]; rfl, hv.keep k fun _ _ h => h⟩
  · obtain ⟨v', h1, h2⟩ := u.told j (by omega)
    exact ⟨v', by rw [List.getElem?_append_left (by rw [u.lt]; omega)]; exact h1, h2.keep k fun _ _ h => h⟩
theorem MI.appB (u : MI H0 p N nt nb as an at_ ab st SL NL TL BL H) {v : V} : MI H0 p N nt (nb + 1) as an at_ ab st SL NL TL (BL ++ [v]) (upd H ab (.lst (BL ++ [v]))) := by
  obtain ⟨⟨a1, a2, a3⟩, ⟨b1, b2⟩, c1⟩ := u.dn
  have mb : ab ∈ [as, an, at_, ab] := List.mem_cons_of_mem _ (List.mem_cons_of_mem _ (List.mem_cons_of_mem _ List.mem_cons_self))
  have k : Keep [as, an, at_, ab] H (upd H ab (.lst (BL ++ [v]))) := Keep.refl.put mb
  exact ⟨Same.put u.same u.fb, u.fs, u.fn, u.ft, u.fb, u.dif, by rw [upd_ne a3]; exact u.hs, by rw [upd_ne b2]; exact u.hn, by rw [upd_ne c1]; exact u.ht, upd_same, u.ls, u.lt, by rw [List.length_append, u.lb]; rfl,
    fun r h => (u.regs r h).imp fun v q => ⟨q.1, q.2.keep k fun _ _ h => h⟩, fun r h => (u.told r h).imp fun v q => ⟨q.1, q.2.keep k fun _ _ h => h⟩⟩
end
/-- a run, as it lies: nodes and what is told; F holds of its cells -/
def RunAt (F : Addr → Prop) (p : Prog) (S : Nat) (H : Hp) (run : Addr) : Prop :=
  ∃ (an at_ : Addr) (NL TL : List V) (x : V), F run ∧ F an ∧ F at_ ∧ H run = some (.lst [.ref an, .ref at_, x]) ∧ H an = some (.lst NL) ∧ H at_ = some (.lst TL) ∧ TL.length = S ∧ ∀ k, k < S → ∃ v, TL[k]? = some v ∧
    match tellAt p k with
    | none => v = .int (-1)
    | some w => ∃ (i : Nat) (na wa : Addr) (a b c : V), v = .int i ∧ F na ∧ F wa ∧ NL[i]? = some (.ref na) ∧ H na = some (.lst [a, b, c, .ref wa]) ∧ H wa = some (.lst (ivs (w.take (S + 1))))
theorem RunAt.keep {F : Addr → Prop} {p : Prog} {S : Nat} {H H' : Hp} {run : Addr} (h : RunAt F p S H run) (k : ∀ b o, F b → H b = some o → H' b = some o) : RunAt F p S H' run := by
  obtain ⟨an, at_, NL, TL, x, f1, f2, f3, h1, h2, h3, h4, h5⟩ := h
  refine ⟨an, at_, NL, TL, x, f1, f2, f3, k _ _ f1 h1, k _ _ f2 h2, k _ _ f3 h3, h4, fun j hj => ?_⟩
  obtain ⟨v, hv, ho⟩ := h5 j hj
  refine ⟨v, hv, ?_⟩
  cases e : tellAt p j with
  | none => rw [e] at ho; exact ho
  | some w =>
    rw [e] at ho
    obtain ⟨i, na, wa, a, b, c, g1, g2, g3, g4, g5, g6⟩ := ho
    exact ⟨i, na, wa, a, b, c, g1, g2, g3, g4, k _ _ g2 g5, k _ _ g3 g6⟩
end
end U3


namespace U3
open PySem PySem.Spec PyProof.Rows L2
section
variable {P : Program} {w : World} {K : PySem.W.Frag} {mg : Str → Option Value} {base : Heap}
/-! _law_machine(program, steps): the walk -/
theorem atI_last {xs : List V} {v : V} : atI (xs ++ [v]) (-1) = some v := by
  have e : ixN (xs ++ [v]).length (-1) = some xs.length := by
    unfold ixN
    rw [if_neg (by decide), List.length_append, if_pos (by show -(((xs.length + 1 : Nat)) : Int) ≤ -1; omega)]
    show some ((-1 : Int) + ((xs.length + 1 : Nat) : Int)).toNat = _
    congr 1
    omega
  unfold atI
  rw [e]
  show (xs ++ [v])[xs.length]? = some v
  simp
theorem setR_setR (s : Rg) (r : Nat) (a b : Option Wd) : setR (setR s r a) r b = setR s r b := by
  funext k
  unfold setR
  by_cases h : k = r
  · rw [if_pos h, if_pos h]
  · rw [if_neg h, if_neg h, if_neg h]
theorem ivs_take (w : List Nat) (n : Nat) : (ivs w).take n = ivs (w.take n) := by
  unfold ivs
  rw [List.map_take]
theorem catN_snoc {N : Nat} {ws : List Wd} {w : Wd} {m : Nat} (h : ws[m]? = some w) : catN N (ws.take (m + 1)) = catN N (ws.take m) ++ w.take N := by
  have e : ws.take (m + 1) = ws.take m ++ [w] := by rw [List.take_succ, h]; rfl
  rw [e]
  unfold catN
  rw [List.map_append, List.flatten_append]
  simp
theorem catN_len {N : Nat} : ∀ (ws : List Wd), (catN N ws).length ≤ ws.length * N
  | [] => Nat.zero_le _
  | w :: ws => by
    show (w.take N ++ catN N ws).length ≤ (ws.length + 1) * N
    rw [List.length_append, Nat.succ_mul, List.length_take]
    have := catN_len (N := N) ws
    omega
def sp_law_machine (K : PySem.W.Frag) : Sp := fun vs H Q _ => ∃ (x : V) (p : Prog) (S : Nat), vs = [x, .int S] ∧ Dp K H x (toD p) ∧ WF p ∧ S ≤ 20000 ∧ ∀ run H', Same H H' → RunAt (fun b => H b = none) p S H' run → Q (.ref run) H'
-- slots: 0:program 1:steps 2:state 3:nodes 4:told 5:behind 6:step 7:rows 8:tells 9:place 10:one 11:sides 12:word | cells: ['_law_state']
theorem sc_law_machine : FnScope ["_law_program", "_law_steps", "_law_state", "_law_nodes", "_law_told", "_law_behind", "_law_step", "_law_rows", "_law_tells", "_law_place", "_law_one", "_law_sides", "_law_word"] ["_law_program", "_law_steps"] (defScope s_law_machine) := ⟨rfl, rfl, rfl, by decide +kernel, rfl, by decide +kernel, by decide +kernel⟩
theorem ok_law_machine (T : Txt K mg) : FnOk P w K mg base CX0 1 (He.ga K "_law_machine") (fdA K (He.ga K "_law_machine")) ["_law_program", "_law_steps"] (sp_law_machine K) := by
  refine T.F_law_machine.ok sc_law_machine (fun vs H Q E h => by obtain ⟨x, p, S, rfl, _⟩ := h; rfl) (fun cdv A outer s H vs Q E hr h => ⟨_, PSs.nox ((pss_cons (ps_set (i := 2) sc_law_machine.nd rfl (Or.inr rfl) (pe_op op_rep (pe_lst (pa_cons (pe_un un_neg pe_int) pa_nil)) (pe_ix ix_tup (pv 0) pe_int (fun _ _ => rfl))))
(pss_cons (ps_set (i := 3) sc_law_machine.nd rfl (Or.inl rfl) (pe_lst pa_nil))
(pss_cons (ps_set (i := 4) sc_law_machine.nd rfl (Or.inl rfl) (pe_lst pa_nil))
(pss_cons (ps_set (i := 5) sc_law_machine.nd rfl (Or.inl rfl) (pe_lst pa_nil))
(pss_cons (ps_for PassesOwn.never rfl (pi_range2 (by rfl) T.m_range (pa_cons pe_int (pa_cons (pe_op op_add (pv 1) pe_int) pa_nil))) (pg_name (i := 6) sc_law_machine.nd rfl (Or.inl rfl))
(pss_cons (ps_asg (pe_ix ix_tup (pe_ix ix_tup (pv 0) pe_int (fun _ _ => rfl)) (pe_op op_modN (pe_callTy call_int1 (by rfl) T.m_int bt_int (pa_cons (pe_op op_sub (pv 6) pe_int) pa_nil)) (pe_callB call_len_seq (by rfl) T.m_len bt_len (pa_cons (pe_ix ix_tup (pv 0) pe_int (fun _ _ => rfl)) pa_nil))) (fun _ _ => rfl)) (pg_tup rfl (pgs_cons (pg_name (i := 7) sc_law_machine.nd rfl (Or.inl rfl)) (pgs_cons (pg_name (i := 8) sc_law_machine.nd rfl (Or.inl rfl)) pgs_nil))))
(pss_cons (ps_asg (pe_callB call_len_seq (by rfl) T.m_len bt_len (pa_cons (pv 3) pa_nil)) (pg_sub (pv 2) pe_int set_list))
(pss_cons (ps_expr (pe_bm PySem.F.plainAttrs_list PySem.F.slot_list_append PySem.F.type_list_append mt_append (pv 3) (pa_cons (pe_lst (pa_cons (pv 6) (pa_cons (pe_un un_neg pe_int) (pa_cons (pe_lst pa_nil) (pa_cons (pe_lst (pa_cons (pe_op op_sub (pv 6) pe_int) pa_nil)) pa_nil))))) pa_nil)))
(pss_cons (ps_for PassesOwn.never rfl (pi_range1 (by rfl) T.m_range (pa_cons (pe_callB call_len_seq (by rfl) T.m_len bt_len (pa_cons (pv 7) pa_nil)) pa_nil)) (pg_name (i := 9) sc_law_machine.nd rfl (Or.inl rfl))
(pss_cons (ps_setLc (i := 11) (own := [("_law_one", 10)]) (g := (gName 10)) rfl sc_law_machine.nd rfl rfl (sw_true rfl rfl rfl (by decide +kernel)) (pi_tup (pe_slice sl_tupA (pe_ix ix_tup (pv 7) (pv 9) (fun _ _ => rfl)) (po_some pe_int) po_none)) (blkOk_by (own := [("_law_one", 10)]) (by kernel_rfl)) (fun _ _ _ _ _ => (pg_name (i := 10) sc_law_machine.nd rfl (Or.inl rfl))) (fun _ _ _ _ _ => pts_nil) (fun _ _ _ _ _ => (pe_ix (r := rIxL K) ix_list (pv 2) (pv 10) (fun _ _ => rfl))))
(pss_cons (ps_asg (pe_un un_neg pe_int) (pg_sub (pv 2) (pe_ix ix_tup (pe_ix ix_tup (pv 7) (pv 9) (fun _ _ => rfl)) pe_int (fun _ _ => rfl)) set_list))
(pss_cons (ps_if (pt_cmpR op_ge (pe_callB (cr_min rfl) (by rfl) T.m_min bt_min (pa_cons (pv 11) pa_nil)) pe_int (nomark _))
(pss_cons (ps_set (i := 12) sc_law_machine.nd rfl (Or.inl rfl) (pe_lst pa_nil))
(pss_cons (ps_for PassesOwn.never rfl (pi_list (pv 11)) (pg_name (i := 10) sc_law_machine.nd rfl (Or.inl rfl))
(pss_cons (ps_set (i := 12) sc_law_machine.nd rfl (Or.inl rfl) (pe_op op_cat (pv 12) (pe_ix ix_list (pe_ix ix_list (pv 3) (pv 10) (fun _ _ => rfl)) pe_int (fun _ _ => rfl))))
pss_nil))
(pss_cons (ps_asg (pe_callB call_len_seq (by rfl) T.m_len bt_len (pa_cons (pv 3) pa_nil)) (pg_sub (pv 2) (pe_ix ix_tup (pe_ix ix_tup (pv 7) (pv 9) (fun _ _ => rfl)) pe_int (fun _ _ => rfl)) set_list))
(pss_cons (ps_expr (pe_bm PySem.F.plainAttrs_list PySem.F.slot_list_append PySem.F.type_list_append mt_append (pv 3) (pa_cons (pe_lst (pa_cons (pv 6) (pa_cons (pv 9) (pa_cons (pv 11) (pa_cons (pe_slice sl_list (pv 12) po_none (po_some (pe_op op_add (pv 1) pe_int))) pa_nil))))) pa_nil)))
pss_nil))))
pss_nil)
pss_nil))))
(pss_cons (ps_expr (pe_bm PySem.F.plainAttrs_list PySem.F.slot_list_append PySem.F.type_list_append mt_append (pv 4) (pa_cons (pe_ix ix_list (pe_op op_cat (pv 2) (pe_lst (pa_cons (pe_un un_neg pe_int) pa_nil))) (pe_ifExp (pt_cmpR op_isN (pv 8) pe_non (nomark _)) (pe_un un_neg pe_int) (pv 8)) (fun _ _ => rfl)) pa_nil)))
(pss_cons (ps_expr (pe_bm PySem.F.plainAttrs_list PySem.F.slot_list_append PySem.F.type_list_append mt_append (pv 5) (pa_cons (pe_callTy call_list_of (by rfl) T.m_list bt_list (pa_cons (pv 2) pa_nil)) pa_nil)))
pss_nil)))))))
(pss_cons (ps_ret (pe_lst (pa_cons (pv 3) (pa_cons (pv 4) (pa_cons (pv 5) pa_nil)))))
pss_nil))))))), ?_⟩)
  obtain ⟨x, p, S, rfl, hx, W, hS, q⟩ := h
  obtain ⟨a0, aph, ys, rfl, hs0, hsp, hly, hys⟩ := toD_inv hx
  have hr1 := W.r1
  have hr2 := W.r2
  have hp1 := W.p1
  -- state = [-1] * program[0], nodes = [], told = [], behind = []
  refine ⟨_, rfl, (by show 1 ≤ sizeLine; decide), fun q1 hq1 => ⟨_, rfl, a0, _, _, _, rfl, rfl, Same.tup (Same.new hq1) hs0, atI_nat (j := 0) rfl, q1, _, _, rfl, rfl, upd_same, by omega, by omega, ?_, fun as has => ⟨(by show 0 ≤ sizeLine; decide), fun an han => ⟨(by show 0 ≤ sizeLine; decide), fun at_ hat => ⟨(by show 0 ≤ sizeLine; decide), fun ab hab => ?_⟩⟩⟩⟩⟩
  · show 1 * (p.regs : Int).toNat ≤ sizeLine
    rw [sizeLine_eq]; omega
  have e0 : (List.replicate (p.regs : Int).toNat [V.int (-1)]).flatten = List.replicate p.regs (V.int (-1)) := flat_rep _ _
  have u0 : MI H p (S + 1) 0 0 as an at_ ab (stAt p 0) (List.replicate p.regs (V.int (-1))) [] [] [] (upd (upd (upd (upd (upd H q1 (.lst [V.int (-1)])) as (.lst (List.replicate (p.regs : Int).toNat [V.int (-1)]).flatten)) an (.lst [])) at_ (.lst [])) ab (.lst [])) := by
    rw [e0]
    rw [show (List.replicate (p.regs : Int).toNat [V.int (-1)]).flatten = List.replicate p.regs (V.int (-1)) from e0] at han hat hab
    have s1 := Same.new (o := .lst [V.int (-1)]) hq1
    have s2 := Same.new (o := .lst (List.replicate p.regs (V.int (-1)))) has
    have s3 := Same.new (o := .lst []) han
    have s4 := Same.new (o := .lst []) hat
    have s5 := Same.new (o := .lst []) hab
    have n1 : as ≠ an := ne_of_none upd_same han
    have n2 : as ≠ at_ := ne_of_none (s3 _ _ upd_same) hat
    have n3 : as ≠ ab := ne_of_none ((s3.trans s4) _ _ upd_same) hab
    have n4 : an ≠ at_ := ne_of_none upd_same hat
    have n5 : an ≠ ab := ne_of_none (s4 _ _ upd_same) hab
    have n6 : at_ ≠ ab := ne_of_none upd_same hab
    refine ⟨(((s1.trans s2).trans s3).trans s4).trans s5, Same.free s1 has, Same.free (s1.trans s2) han, Same.free ((s1.trans s2).trans s3) hat, Same.free (((s1.trans s2).trans s3).trans s4) hab, ?_, ((s3.trans s4).trans s5) _ _ upd_same, (s4.trans s5) _ _ upd_same, s5 _ _ upd_same, upd_same, List.length_replicate, rfl, rfl, fun r hr => ⟨.int (-1), ?_, rfl⟩, fun k hk => absurd hk (Nat.not_lt_zero k)⟩
    · simp [List.nodup_cons, n1, n2, n3, n4, n5, n6]
    · rw [List.getElem?_replicate, if_pos hr]
  generalize List.replicate p.regs (V.int (-1)) = SL0 at u0
  show tSeq _ _ _ _ (upd (upd (upd (upd (upd H q1 (.lst [V.int (-1)])) as (.lst (List.replicate (p.regs : Int).toNat [V.int (-1)]).flatten)) an (.lst [])) at_ (.lst [])) ab (.lst []))
  generalize upd (upd (upd (upd (upd H q1 (.lst [V.int (-1)])) as (.lst (List.replicate (p.regs : Int).toNat [V.int (-1)]).flatten)) an (.lst [])) at_ (.lst [])) ab (.lst []) = H1 at *
  clear hq1 has han hat hab e0
  -- for step in range(1, steps + 1)
  have en : ((S : Int) + 1 - 1).toNat = S := by omega
  refine ⟨_, rfl, _, _, rfl, rfl, _, _, rfl, ⟨by omega, by omega, by omega, by omega⟩, for_it (walk_range (lo := 1) (n := ((S : Int) + 1 - 1).toNat))
    (fun i σ' H' => ∃ o6 o7 o8 o9 o10 o11 o12 SL NL TL BL, σ' = [some (.ref a0), some (.int S), some (.ref as), some (.ref an), some (.ref at_), some (.ref ab), o6, o7, o8, o9, o10, o11, o12] ∧ MI H p (S + 1) i i as an at_ ab (stAt p i) SL NL TL BL H' ∧ NL.length ≤ 101 * i) ?_ (fun _ _ _ _ _ => trivial) ?_ ?_⟩
  · exact ⟨_, _, _, _, _, _, _, _, _, _, _, rfl, u0, Nat.zero_le _⟩
  · clear u0
    rintro i x' σ' H2 H3 hi ⟨o6, o7, o8, o9, o10, o11, o12, SL, NL, TL, BL, rfl, u, hNL⟩ ⟨rfl, rfl⟩
    rw [en] at hi
    obtain ⟨hph, hwph⟩ := W.at i
    obtain ⟨v, hv, hdv⟩ := DpAll.get hys (i := i % p.phases.length) (d := phaseP (phaseAt p i)) (by rw [List.getElem?_map, hph]; rfl)
    have htell : tellAt p i = (phaseAt p i).2.bind (stAt p (i + 1)) := rfl
    have hst1 : stAt p (i + 1) = doRows (setR (stAt p i) 0 (some [i])) (phaseAt p i).1 := rfl
    generalize phaseAt p i = ph at hwph hdv htell hst1
    obtain ⟨t0, xs, rfl, ht0, hxs⟩ := Dp.tup_inv hdv
    obtain ⟨v1, v2, rfl, hv1, hv2⟩ := DpAll.two hxs
    obtain ⟨rr, RL, rfl, hrr, hRL⟩ := Dp.tup_inv hv1
    have ev2 := told_inv hv2
    subst ev2
    have hRl : RL.length = ph.1.length := by rw [DpAll.length hRL, List.length_map]
    have hs3 := Same.tup u.same hs0
    have hsp3 := Same.tup u.same hsp
    have hLne : ((ys.length : Nat) : Int) ≠ 0 := by omega
    have emod : ((1 : Int) + (i : Nat) - 1).fmod ((ys.length : Nat) : Int) = ((i % p.phases.length : Nat) : Int) := by
      have e : (1 : Int) + (i : Nat) - 1 = (i : Int) := by omega
      rw [e, hly, fmodN]
    -- rows, tells = program[1][int(step - 1) % len(program[1])]
    refine ⟨_, rfl, a0, _, _, _, rfl, rfl, hs3, atI_nat (j := 1) rfl, _, rfl, _, _, rfl, rfl, .inl ⟨_, rfl, _, rfl, a0, _, _, _, rfl, rfl, hs3, atI_nat (j := 1) rfl, _, _, rfl, .inr hsp3, _, _, rfl, rfl, hLne, aph, ys, _, _, rfl, rfl, hsp3, at_of emod hv, t0, _, rfl, Same.tup u.same ht0, rfl, _, _, rfl, _, _, rfl, rfl, ?_⟩⟩
    -- state[0] = len(nodes)
    refine ⟨_, rfl, _, _, rfl, .inl (SqL.of u.hn), _, rfl, as, SL, 0, 0, rfl, rfl, u.hs, ixN_nat (j := 0) (by rw [u.ls]; exact hr1), ?_⟩
    obtain ⟨⟨a1, a2, a3⟩, ⟨b1, b2⟩, c1⟩ := u.dn
    have hn4 : upd H3 as (.lst (SL.set 0 (.int NL.length))) an = some (.lst NL) := by rw [upd_ne a1.symm]; exact u.hn
    have noS : ∀ {b : Addr} {o : HO}, upd H3 as o b = none → H3 b = none := fun {b o} hb => by
      by_cases hba : b = as
      · rw [hba, upd_same] at hb; cases hb
      · rw [upd_ne hba] at hb; exact hb
    -- nodes.append([step, -1, [], [step - 1]])
    refine ⟨_, rfl, .inl ⟨rfl, _, SqL.of hn4⟩, _, rfl, _, rfl, (by show 0 ≤ sizeLine; decide), fun q1 hq1 => ⟨_, rfl, _, _, rfl, rfl, (by show 1 ≤ sizeLine; decide), fun q2 hq2 => ⟨(by show 4 ≤ sizeLine; decide), fun q3 hq3 => ?_⟩⟩⟩
    have S1 := Same.new (o := .lst []) hq1
    have S2 := S1.trans (Same.new (o := .lst [V.int ((1 : Int) + (i : Nat) - 1)]) hq2)
    have S3 := S2.trans (Same.new (o := .lst [V.int ((1 : Int) + (i : Nat)), V.int (-1), .ref q1, .ref q2]) hq3)
    refine ⟨an, NL, _, rfl, rfl, S3 _ _ hn4, (by rw [sizeLine_eq]; omega), ?_⟩
    have hq2H := noS (Same.free S1 hq2)
    have hq3H := noS (Same.free S2 hq3)
    have hwd : upd (upd (upd (upd H3 as (.lst (SL.set 0 (.int NL.length)))) q1 (.lst [])) q2 (.lst [V.int ((1 : Int) + (i : Nat) - 1)])) q3 (.lst [V.int ((1 : Int) + (i : Nat)), V.int (-1), .ref q1, .ref q2]) q2 = some (.lst (ivs (([i] : Wd).take (S + 1)))) := by
      refine ((Same.new hq3) _ _ upd_same).trans ?_
      have e : (1 : Int) + (i : Nat) - 1 = (i : Int) := by omega
      have e2 : ([i] : Wd).take (S + 1) = [i] := by rw [List.take_succ_cons, List.take_nil]
      show some (HO.lst [V.int ((1 : Int) + (i : Nat) - 1)]) = _
      rw [e, e2]
      rfl
    have u1 := u.node (r := 0) (w := [i]) hr1 S3 (upd_same : _ = some (.lst [V.int ((1 : Int) + (i : Nat)), V.int (-1), .ref q1, .ref q2])) hwd hq3H hq2H
    have hNL1 : (NL ++ [V.ref q3]).length ≤ 101 * i + 1 + 0 := by rw [List.length_append]; show NL.length + 1 ≤ _; omega
    show tSeq _ _ _ _ (upd (upd (upd (upd (upd H3 as (.lst (SL.set 0 (.int NL.length)))) q1 (.lst [])) q2 (.lst [V.int ((1 : Int) + (i : Nat) - 1)])) q3 (.lst [V.int ((1 : Int) + (i : Nat)), V.int (-1), .ref q1, .ref q2])) an (.lst (NL ++ [.ref q3])))
    generalize upd (upd (upd (upd (upd H3 as (.lst (SL.set 0 (.int NL.length)))) q1 (.lst [])) q2 (.lst [V.int ((1 : Int) + (i : Nat) - 1)])) q3 (.lst [V.int ((1 : Int) + (i : Nat)), V.int (-1), .ref q1, .ref q2])) an (.lst (NL ++ [.ref q3])) = H4 at u1 ⊢
    generalize NL ++ [V.ref q3] = NL1 at u1 hNL1
    generalize SL.set 0 (.int NL.length) = SL1 at u1
    generalize hst : setR (stAt p i) 0 (some [i]) = st1 at u1 hst1
    clear hwd S1 S2 S3 hq1 hq2 hq3 hq2H hq3H hn4 noS u hNL hs3 hsp3
    have hrr4 := Same.tup u1.same hrr
    -- for place in range(len(rows))
    have enR : ((RL.length : Nat) : Int).toNat = ph.1.length := by omega
    refine ⟨_, rfl, _, _, rfl, .inr hrr4, _, rfl, by have := hwph.few; omega, by have := hwph.few; omega, for_it (walk_range (lo := 0) (n := ((RL.length : Nat) : Int).toNat))
      (fun j σ' H' => ∃ o9 o10 o11 o12 SL NL, σ' = [some (.ref a0), some (.int S), some (.ref as), some (.ref an), some (.ref at_), some (.ref ab), some (.int (1 + (i : Nat))), some (.ref rr), some (toldV0 ph.2), o9, o10, o11, o12] ∧ MI H p (S + 1) i i as an at_ ab (doRows st1 (ph.1.take j)) SL NL TL BL H' ∧ NL.length ≤ 101 * i + 1 + j) ?_ (fun _ _ _ _ _ => trivial) ?_ ?_⟩
    · exact ⟨_, _, _, _, _, _, rfl, u1, hNL1⟩
    · clear u1 hNL1 hrr4
      rintro j x' σ' H5 H6 hj ⟨o9, o10, o11, o12, SL, NL, rfl, u, hNL⟩ ⟨rfl, rfl⟩
      rw [enR] at hj
      have ej : (0 : Int) + (j : Nat) = (j : Int) := by omega
      have hrow : ph.1[j]? = some ph.1[j] := List.getElem?_eq_getElem hj
      have hdoR : doRows st1 (ph.1.take (j + 1)) = setR (doRows st1 (ph.1.take j)) (ph.1[j].headD 0) (made (doRows st1 (ph.1.take j)) ph.1[j]) := doRows_take hrow
      obtain ⟨rv, hrv, hdrv⟩ := DpAll.get hRL (i := j) (d := rowP ph.1[j]) (by rw [List.getElem?_map, hrow]; rfl)
      have hwr := hwph.rows ph.1[j] (List.getElem_mem hj)
      obtain ⟨hd, y0, tl0, erow, _⟩ := row_split hwr
      rw [erow] at hdrv hwr hdoR
      obtain ⟨hx0, hxn, hyn, htn, htl⟩ := hwr.cons_inv
      have hbl : (y0 :: tl0).length = 1 ∨ (y0 :: tl0).length = 2 := by
        show tl0.length + 1 = 1 ∨ tl0.length + 1 = 2
        omega
      have hbn : ∀ b ∈ y0 :: tl0, b < p.regs := fun b hb => by
        rcases List.mem_cons.mp hb with rfl | hb
        · exact hyn
        · exact htn b hb
      generalize y0 :: tl0 = bs at hdrv hdoR hbl hbn
      generalize hstj : doRows st1 (ph.1.take j) = stj at u hdoR
      have hdoR : doRows st1 (ph.1.take (j + 1)) = setR stj hd (made stj (hd :: bs)) := hdoR
      obtain ⟨qr, rfl, hqr⟩ := rowP_inv hdrv
      have hrr6 := Same.tup u.same hrr
      have hqr6 := Same.tup u.same hqr
      have hSlen := u.ls
      -- sides = [state[one] for one in rows[place][1:]]
      refine ⟨_, rfl, _, rfl, rr, RL, _, _, rfl, rfl, hrr6, at_of ej hrv, _, rfl, ?_⟩
      refine noPart_by ?_
      refine cutA_by 1 hqr6 fun z H7 e7 hz => ?_
      have hz : SqT K H7 z (bs.map fun n : Nat => V.int n) := hz
      refine ⟨z, rfl, ⟨_, hz⟩, fun sd hsd => lc_it (walk_tup (xs := bs.map fun n : Nat => V.int n)) (fun m H'' => Same H7 H'' ∧ ∃ zs : List Int, H'' sd = some (.lst (zs.map V.int)) ∧ zs.length = m ∧ Sd H H6 [as, an, at_, ab] NL (S + 1) stj (bs.take m) zs) ?_ ?_ ?_ ?_⟩
      · exact ⟨Same.new hsd, [], upd_same, rfl, .nil⟩
      · rintro m H'' _ ⟨hS', _⟩
        exact Same.tup hS' hz
      · rintro m x' H8 H9 hm ⟨hS', zs, g1, g2, g3⟩ ⟨rfl, hxm⟩
        rw [List.length_map] at hm
        rw [List.getElem?_map] at hxm
        obtain ⟨one, hone, rfl⟩ := Option.map_eq_some_iff.mp hxm
        obtain ⟨vv, hvv, ho⟩ := u.regs one (hbn one (List.mem_of_getElem? hone))
        obtain ⟨zz, rfl, _⟩ := ho.int
        have hs9 := (e7.trans hS') _ _ u.hs
        refine ⟨rfl, ?_⟩
        refine ⟨_, rfl, _, rfl, as, SL, _, _, rfl, rfl, SqL.of hs9, atI_nat hvv, ?_⟩
        refine ⟨_, g1, (by rw [List.length_map, g2, sizeLine_eq]; omega), Same.put hS' hsd, zs ++ [zz], upd_same.trans (by rw [List.map_append]; rfl), by rw [List.length_append, g2]; rfl, ?_⟩
        have et : bs.take (m + 1) = bs.take m ++ [one] := by rw [List.take_succ, hone]; rfl
        rw [et]
        exact Sd.snoc ho g3
      rintro H8 ⟨hS', zs, g1, g2, g3⟩
      rw [List.length_map] at g2 g3
      rw [List.take_length] at g3
      have e8 := e7.trans hS'
      have u8 := u.up e8
      -- state[rows[place][0]] = -1
      refine ⟨_, rfl, _, rfl, _, rfl, _, rfl, rr, RL, _, _, rfl, rfl, Same.tup e8 hrr6, at_of ej hrv, qr, _, _, _, rfl, rfl, Same.tup e8 hqr6, atI_nat (j := 0) rfl, as, SL, _, hd, rfl, rfl, u8.hs, ixN_nat (j := hd) (by rw [hSlen]; exact hxn), ?_⟩
      have u9 := u8.setS (r := hd) (o := none) (v := .int (-1)) hxn rfl
      have hsdas : sd ≠ as := fun h => by
        have := e7 _ _ u.hs
        rw [h, this] at hsd
        cases hsd
      have g1' : upd H8 as (.lst (SL.set hd (.int (-1)))) sd = some (.lst (zs.map V.int)) := by rw [upd_ne hsdas]; exact g1
      have k9 : Keep [as, an, at_, ab] H6 (upd H8 as (.lst (SL.set hd (.int (-1))))) := (Keep.refl.same e8).put List.mem_cons_self
      have hrr9 : SqT K (upd H8 as (.lst (SL.set hd (.int (-1))))) rr RL := TK.put u8.hs _ _ (Same.tup e8 hrr6)
      have hqr9 : SqT K (upd H8 as (.lst (SL.set hd (.int (-1))))) qr ((hd :: bs).map fun n : Nat => V.int n) := TK.put u8.hs _ _ (Same.tup e8 hqr6)
      show tSeq _ _ _ _ (upd H8 as (.lst (SL.set hd (.int (-1)))))
      generalize upd H8 as (.lst (SL.set hd (.int (-1)))) = H9 at *
      generalize SL.set hd (.int (-1)) = SL9 at *
      clear u u8 hS' g1 hrr6 hqr6 hsd hz hsdas e7 e8
      have hzpos : 0 < zs.length := by omega
      -- if min(sides) >= 0
      refine ⟨_, rfl, sd, zs, rfl, SqL.of g1', hzpos, fun mn hmn hmin => ⟨_, _, rfl, rfl, _, rfl, ?_⟩⟩
      by_cases hm0 : 0 ≤ mn
      · refine ifT (decide_eq_true hm0) ?_
        obtain ⟨ws, hws⟩ := g3.all fun z hz => by have := hmin z hz; omega
        obtain ⟨wd, hmade, hcat⟩ := made_some (h := hd) hws hbl
        have hwl := hws.length.1
        -- word = []
        refine ⟨(by show 0 ≤ sizeLine; decide), fun wr0 hwr0 => ?_⟩
        have g1'' := (Same.new (o := .lst []) hwr0) _ _ g1'
        refine ⟨_, rfl, sd, rfl, ⟨_, SqL.of g1''⟩, for_it (walk_list (xs := zs.map V.int))
          (fun m σ' H'' => ∃ o10 wr, σ' = [some (.ref a0), some (.int S), some (.ref as), some (.ref an), some (.ref at_), some (.ref ab), some (.int (1 + (i : Nat))), some (.ref rr), some (toldV0 ph.2), some (.int (0 + (j : Nat))), o10, some (.ref sd), some (.ref wr)] ∧ Same H9 H'' ∧ H9 wr = none ∧ H'' wr = some (.lst (ivs (catN (S + 1) (ws.take m))))) ?_ ?_ ?_ ?_⟩
        · exact ⟨_, wr0, rfl, Same.new hwr0, hwr0, upd_same⟩
        · rintro m σ' H'' _ ⟨_, _, _, hS', _⟩
          exact SqL.of (hS' _ _ g1')
        · rintro m x' σ' H10 H11 hm ⟨o10, wr, rfl, hS', hwrn, hwr⟩ ⟨rfl, hxm⟩
          rw [List.length_map] at hm
          rw [List.getElem?_map] at hxm
          obtain ⟨zz, hzz, rfl⟩ := Option.map_eq_some_iff.mp hxm
          obtain ⟨w1, i1, hw1, rfl, hnode⟩ := hws.get hzz
          obtain ⟨na, wa, na1, na2, na3, m1, m2, m3, m4, m5⟩ := hnode.keep (k9.same hS') fun _ _ h => h
          have hn11 := hS' _ _ u9.hn
          refine ⟨_, rfl, _, rfl, _, rfl, an, NL, _, _, rfl, rfl, SqL.of hn11, atI_nat m1, na, _, _, _, rfl, rfl, SqL.of m2, atI_nat (j := 3) rfl, wr, wa, _, _, rfl, rfl, hwr, m3, ?_, fun q5 hq5 => ?_⟩
          · have h1 : (ivs (catN (S + 1) (ws.take m))).length ≤ 2 * (S + 1) := by
              unfold ivs
              rw [List.length_map]
              refine Nat.le_trans (catN_len _) (Nat.mul_le_mul_right _ ?_)
              rw [List.length_take]
              omega
            have h2 : (ivs (w1.take (S + 1))).length ≤ S + 1 := by
              unfold ivs
              rw [List.length_map, List.length_take]
              omega
            rw [sizeLine_eq]
            omega
          · refine ⟨_, q5, rfl, hS'.trans (Same.new hq5), Same.free hS' hq5, upd_same.trans ?_⟩
            rw [catN_snoc hw1]
            unfold ivs
            rw [List.map_append]
        rintro σ' H10 ⟨o10, wr, rfl, hS', hwrn, hwr⟩
        have hzl : (zs.map V.int).length = ws.length := by rw [List.length_map, g2, hwl]
        rw [hzl, List.take_length] at hwr
        have u10 := u9.up hS'
        -- state[rows[place][0]] = len(nodes)
        refine ⟨_, rfl, _, _, rfl, .inl (SqL.of u10.hn), _, rfl, _, rfl, _, rfl, rr, RL, _, _, rfl, rfl, Same.tup hS' hrr9, at_of ej hrv, qr, _, _, _, rfl, rfl, Same.tup hS' hqr9, atI_nat (j := 0) rfl, as, SL9, _, hd, rfl, rfl, u10.hs, ixN_nat (j := hd) (by rw [u10.ls]; exact hxn), ?_⟩
        have hn12 : upd H10 as (.lst (SL9.set hd (.int NL.length))) an = some (.lst NL) := by rw [upd_ne a1.symm]; exact u10.hn
        have hwras : wr ≠ as := fun h => by
          rw [h, u9.hs] at hwrn
          cases hwrn
        have hwr12 : upd H10 as (.lst (SL9.set hd (.int NL.length))) wr = some (.lst (ivs (catN (S + 1) ws))) := by rw [upd_ne hwras]; exact hwr
        have noS : ∀ {b : Addr} {o : HO}, upd H10 as o b = none → H10 b = none := fun {b o} hb => by
          by_cases hba : b = as
          · rw [hba, upd_same] at hb; cases hb
          · rw [upd_ne hba] at hb; exact hb
        -- nodes.append([step, place, sides, word[:steps + 1]])
        refine ⟨_, rfl, .inl ⟨rfl, _, SqL.of hn12⟩, _, rfl, _, rfl, _, rfl, _, rfl, _, rfl, _, _, rfl, rfl, _, rfl, wr, _, rfl, SqL.of hwr12, fun q1 hq1 => ⟨(by show 4 ≤ sizeLine; decide), fun q2 hq2 => ?_⟩⟩
        have S12 := (Same.new (o := .lst (cutV (ivs (catN (S + 1) ws)) none (some ((S : Int) + 1)))) hq1).trans (Same.new (o := .lst [V.int ((1 : Int) + (i : Nat)), V.int ((0 : Int) + (j : Nat)), .ref sd, .ref q1]) hq2)
        refine ⟨an, NL, _, rfl, rfl, S12 _ _ hn12, (by have := hwph.few; rw [sizeLine_eq]; omega), ?_⟩
        have hq1H := noS hq1
        have hq2H := noS (Same.free (Same.new hq1) hq2)
        have hwd : upd (upd (upd H10 as (.lst (SL9.set hd (.int NL.length)))) q1 (.lst (cutV (ivs (catN (S + 1) ws)) none (some ((S : Int) + 1))))) q2 (.lst [V.int ((1 : Int) + (i : Nat)), V.int ((0 : Int) + (j : Nat)), .ref sd, .ref q1]) q1 = some (.lst (ivs (wd.take (S + 1)))) := by
          refine ((Same.new hq2) _ _ upd_same).trans ?_
          have e : cutV (ivs (catN (S + 1) ws)) none (some (((S + 1 : Nat) : Int))) = ivs (wd.take (S + 1)) := by rw [cutV_to, ivs_take, hcat]
          exact congrArg (fun l => some (HO.lst l)) e
        have u11 := u10.node (r := hd) (w := wd) hxn S12 (upd_same : _ = some (.lst [V.int ((1 : Int) + (i : Nat)), V.int ((0 : Int) + (j : Nat)), .ref sd, .ref q1])) hwd hq2H hq1H
        rw [setR_setR] at u11
        refine ⟨_, _, _, _, SL9.set hd (.int NL.length), NL ++ [.ref q2], rfl, ?_, ?_⟩
        · rw [hdoR, hmade]
          exact u11
        · rw [List.length_append]
          show NL.length + 1 ≤ _
          omega
      · refine ifF (decide_eq_false hm0) ?_
        obtain ⟨b, hb1, hb2⟩ := g3.some_ ⟨mn, hmn, by omega⟩
        have hmade := made_none (h := hd) hb1 hb2 hbl
        refine ⟨_, _, _, _, SL9, NL, rfl, ?_, by omega⟩
        rw [hdoR, hmade]
        exact u9
    · rintro σ' H5 ⟨o9, o10, o11, o12, SL, NL, rfl, u, hNL⟩
      rw [enR] at u hNL
      rw [List.take_length, ← hst1] at u
      have hf100 := hwph.few
      have hSLl := u.ls
      have hTl := u.lt
      have hBl := u.lb
      -- told.append((state + [-1])[-1 if tells is None else tells])
      refine ⟨_, rfl, .inl ⟨rfl, _, SqL.of u.ht⟩, _, rfl, _, rfl, (by show 1 ≤ sizeLine; decide), fun q1 hq1 => ?_⟩
      have S1 := Same.new (o := .lst [V.int (-1)]) hq1
      refine ⟨as, q1, SL, [V.int (-1)], rfl, rfl, S1 _ _ u.hs, upd_same, (by rw [sizeLine_eq]; show SL.length + 1 ≤ _; omega), fun q2 hq2 => ?_⟩
      have u2 := u.up (S1.trans (Same.new (o := .lst (SL ++ [V.int (-1)])) hq2))
      have fin : ∀ v : V, OfI H (upd (upd H5 q1 (.lst [V.int (-1)])) q2 (.lst (SL ++ [V.int (-1)]))) [as, an, at_, ab] NL (S + 1) (tellAt p i) v →
          ∃ (l : Addr) (xs : List V) (y : V), V.ref at_ = .ref l ∧ [v] = [y] ∧ (upd (upd H5 q1 (.lst [V.int (-1)])) q2 (.lst (SL ++ [V.int (-1)]))) l = some (.lst xs) ∧ xs.length < sizeLine ∧
            MI H p (S + 1) (i + 1) i as an at_ ab (stAt p (i + 1)) SL NL (TL ++ [v]) BL (upd (upd (upd H5 q1 (.lst [V.int (-1)])) q2 (.lst (SL ++ [V.int (-1)]))) l (.lst (xs ++ [y]))) := fun v hv =>
        ⟨at_, TL, v, rfl, rfl, u2.ht, by rw [hTl, sizeLine_eq]; omega, u2.appT hv⟩
      have next : ∀ (v : V) (H6 : Hp), MI H p (S + 1) (i + 1) i as an at_ ab (stAt p (i + 1)) SL NL (TL ++ [v]) BL H6 → ∀ D : Ends, (∀ σ' H', (∃ o6 o7 o8 o9 o10 o11 o12 SL NL TL BL, σ' = [some (V.ref a0), some (V.int (S : Nat)), some (V.ref as), some (.ref an), some (.ref at_), some (.ref ab), o6, o7, o8, o9, o10, o11, o12] ∧ MI H p (S + 1) (i + 1) (i + 1) as an at_ ab (stAt p (i + 1)) SL NL TL BL H' ∧ NL.length ≤ 101 * (i + 1)) → D.nx σ' H') → True := fun _ _ _ _ _ => trivial
      clear next
      have hlast : ∀ (v : V) (H6 : Hp), MI H p (S + 1) (i + 1) i as an at_ ab (stAt p (i + 1)) SL NL (TL ++ [v]) BL H6 → ∀ q : Addr, H6 q = none →
          ∃ (l : Addr) (xs : List V) (y : V), V.ref ab = .ref l ∧ [V.ref q] = [y] ∧ (upd H6 q (.lst SL)) l = some (.lst xs) ∧ xs.length < sizeLine ∧ MI H p (S + 1) (i + 1) (i + 1) as an at_ ab (stAt p (i + 1)) SL NL (TL ++ [v]) (BL ++ [V.ref q]) (upd (upd H6 q (.lst SL)) l (.lst (xs ++ [y]))) := fun v H6 u6 q hq =>
        ⟨ab, BL, .ref q, rfl, rfl, (u6.up (Same.new hq)).hb, by rw [hBl, sizeLine_eq]; omega, (u6.up (Same.new hq)).appB⟩
      cases hto : ph.2 with
      | none =>
        refine ⟨_, rfl, rfl, _, rfl, ?_⟩
        refine ifT rfl ?_
        have hte : tellAt p i = none := by rw [htell, hto]; rfl
        obtain ⟨l, xs, y, g1, g2, g3, g4, g5⟩ := fin (.int (-1)) (by rw [hte]; exact rfl)
        refine ⟨_, rfl, q2, _, _, _, rfl, rfl, SqL.of upd_same, atI_last, l, xs, y, g1, g2, g3, g4, ?_⟩
        refine ⟨_, rfl, .inl ⟨rfl, _, SqL.of g5.hb⟩, _, rfl, as, SL, rfl, .inl (SqL.of g5.hs), fun q5 hq5 => ?_⟩
        obtain ⟨l2, xs2, y2, k1, k2, k3, k4, k5⟩ := hlast _ _ g5 q5 hq5
        exact ⟨l2, xs2, y2, k1, k2, k3, k4, _, _, _, _, _, _, _, _, _, _, _, rfl, k5, by omega⟩
      | some t =>
        refine ⟨_, rfl, rfl, _, rfl, ?_⟩
        refine ifF rfl ?_
        have hte : tellAt p i = stAt p (i + 1) t := by rw [htell, hto]; rfl
        obtain ⟨v, hv, ho⟩ := u2.regs t (hwph.told t hto)
        obtain ⟨l, xs, y, g1, g2, g3, g4, g5⟩ := fin v (by rw [hte]; exact ho)
        have hv2 : (SL ++ [V.int (-1)])[t]? = some v := by rw [List.getElem?_append_left (List.getElem?_eq_some_iff.mp hv).1]; exact hv
        refine ⟨_, rfl, q2, _, _, v, rfl, rfl, SqL.of upd_same, atI_nat hv2, l, xs, y, g1, g2, g3, g4, ?_⟩
        refine ⟨_, rfl, .inl ⟨rfl, _, SqL.of g5.hb⟩, _, rfl, as, SL, rfl, .inl (SqL.of g5.hs), fun q5 hq5 => ?_⟩
        obtain ⟨l2, xs2, y2, k1, k2, k3, k4, k5⟩ := hlast _ _ g5 q5 hq5
        exact ⟨l2, xs2, y2, k1, k2, k3, k4, _, _, _, _, _, _, _, _, _, _, _, rfl, k5, by omega⟩
  · rintro σ' H2 ⟨o6, o7, o8, o9, o10, o11, o12, SL, NL, TL, BL, rfl, u, hNL⟩
    rw [en] at u
    -- return [nodes, told, behind]
    refine ⟨_, rfl, _, rfl, _, rfl, (by show 3 ≤ sizeLine; decide), fun run hrun => ?_⟩
    have S9 := Same.new (o := .lst [.ref an, .ref at_, .ref ab]) hrun
    have u9 := u.up S9
    refine q run _ u9.same ⟨an, at_, NL, TL, _, Same.free u.same hrun, u.fn, u.ft, upd_same, u9.hn, u9.ht, u9.lt, fun k hk => ?_⟩
    obtain ⟨v, hv, ho⟩ := u9.told k hk
    refine ⟨v, hv, ?_⟩
    cases e : tellAt p k with
    | none =>
      rw [e] at ho
      exact ho
    | some w =>
      rw [e] at ho
      obtain ⟨i, rfl, na, wa, a, b, c, m1, m2, m3, m4, m5⟩ := ho
      exact ⟨i, na, wa, a, b, c, rfl, m4.2, m5.2, m1, m2, m3⟩
end
end U3


namespace U3
open PySem PySem.Spec PyProof.Rows L2
section
variable {P : Program} {w : World} {K : PySem.W.Frag} {mg : Str → Option Value} {base : Heap}
/-! _law_wrong(run, width, hop), _law_telling(run, step) -/
theorem filter_snoc {f : Nat → Bool} {l : List Nat} {i s : Nat} (h : l[i]? = some s) : (l.take (i + 1)).filter f = (l.take i).filter f ++ (if f s = true then [s] else []) := by
  have e : l.take (i + 1) = l.take i ++ [s] := by rw [List.take_succ, h]; rfl
  rw [e, List.filter_append]
  cases h : f s <;> simp [h]
def sp_law_wrong : Sp := fun vs H Q _ => ∃ (F : Addr → Prop) (run : Addr) (p : Prog) (S width hop : Nat), vs = [.ref run, .int width, .int hop] ∧ RunAt F p S H run ∧ 1 ≤ width ∧ width ≤ S ∧ S ≤ 20000 ∧ 1 ≤ hop ∧ hop ≤ 1000 ∧
  ∀ l H', Same H H' → H l = none → H' l = some (.lst (ivs (wrongs p width hop S))) → Q (.ref l) H'
-- slots: 0:run 1:width 2:hop 3:wrong_here 4:step 5:top | cells: []
theorem sc_law_wrong : FnScope ["_law_run", "_law_width", "_law_hop", "_law_wrong_here", "_law_step", "_law_top"] ["_law_run", "_law_width", "_law_hop"] (defScope s_law_wrong) := ⟨rfl, rfl, rfl, by decide +kernel, rfl, by decide +kernel, by decide +kernel⟩
theorem ok_law_wrong (T : Txt K mg) : FnOk P w K mg base CX0 1 (He.ga K "_law_wrong") (fdA K (He.ga K "_law_wrong")) ["_law_run", "_law_width", "_law_hop"] sp_law_wrong := by
  refine T.F_law_wrong.ok sc_law_wrong (fun vs H Q E h => by obtain ⟨F, run, p, S, width, hop, rfl, _⟩ := h; rfl) (fun cdv A outer s H vs Q E hr h => ⟨_, PSs.nox ((pss_cons (ps_set (i := 3) sc_law_wrong.nd rfl (Or.inl rfl) (pe_lst pa_nil))
(pss_cons (ps_for PassesOwn.never rfl (pi_range3 (by rfl) T.m_range (pa_cons (pv 1) (pa_cons (pe_op op_add (pe_callB call_len_seq (by rfl) T.m_len bt_len (pa_cons (pe_ix ix_list (pv 0) pe_int (fun _ _ => rfl)) pa_nil)) pe_int) (pa_cons (pv 2) pa_nil)))) (pg_name (i := 4) sc_law_wrong.nd rfl (Or.inl rfl))
(pss_cons (ps_set (i := 5) sc_law_wrong.nd rfl (Or.inl rfl) (pe_ix ix_list (pe_ix ix_list (pv 0) pe_int (fun _ _ => rfl)) (pe_op op_sub (pv 4) pe_int) (fun _ _ => rfl)))
(pss_cons (ps_if (PW.pt (pw_or (pt_cmpR op_lt (pv 5) pe_int (nomark _)) (pw_or1 (pt_cmpR (op_neD hr.units) (pe_ix ix_list (pe_ix ix_list (pe_ix ix_list (pv 0) pe_int (fun _ _ => rfl)) (pv 5) (fun _ _ => rfl)) pe_int (fun _ _ => rfl)) (pe_listRg rfl (by rfl) T.m_list (prg_2 (by rfl) T.m_range (pe_op op_sub (pv 4) (pv 1)) (pv 4))) (nomark _)))))
(pss_cons (ps_expr (pe_bm PySem.F.plainAttrs_list PySem.F.slot_list_append PySem.F.type_list_append mt_append (pv 3) (pa_cons (pv 4) pa_nil)))
pss_nil)
pss_nil)
pss_nil)))
(pss_cons (ps_ret (pv 3))
pss_nil)))), ?_⟩)
  obtain ⟨F, run, p, S, width, hop, rfl, hR, hw1, hwS, hS2, hh1, hh2, q⟩ := h
  obtain ⟨an, at_, NL, TL, x, f1, f2, f3, r1, r2, r3, r4, r5⟩ := hR
  subst r4
  -- wrong = []
  refine ⟨(by show 0 ≤ sizeLine; decide), fun wl hwl => ?_⟩
  have r11 := (Same.new (o := .lst []) hwl) _ _ r1
  have r31 := (Same.new (o := .lst []) hwl) _ _ r3
  have en : ((TL.length + 1) - width + hop - 1) / hop = (TL.length + hop - width) / hop := by
    congr 1
    omega
  refine ⟨_, rfl, _, rfl, run, _, _, _, rfl, rfl, SqL.of r11, atI_nat (j := 1) rfl, _, _, rfl, .inl (SqL.of r31), _, _, rfl, rfl, _, rfl, (width : Int), ((TL.length + 1 : Nat) : Int), (hop : Int), _, rfl, RgC_up (by omega) (by omega) hh1 (by omega), for_it (walk_rangeC (lo := (width : Int)) (c := (hop : Int)) (n := ((TL.length + 1) - width + hop - 1) / hop))
    (fun i σ' H' => (∃ o4 o5, σ' = [some (.ref run), some (.int width), some (.int hop), some (.ref wl), o4, o5]) ∧ Same H H' ∧ H' wl = some (.lst (ivs (((asked width hop TL.length).take i).filter fun s => !right p width s)))) ?_ (fun _ _ _ _ _ => trivial) ?_ ?_⟩
  · exact ⟨⟨_, _, rfl⟩, Same.new hwl, upd_same⟩
  · clear r11 r31
    rintro i x' σ' H1 H2 hi ⟨⟨o4, o5, rfl⟩, hS, hl⟩ ⟨rfl, rfl⟩
    rw [en] at hi
    have hst := (asked_count (width := width) (n := TL.length) hh1).mp hi
    have ha := asked_get (width := width) (n := TL.length) hi
    have es : (width : Int) + (i : Nat) * (hop : Int) = ((width + i * hop : Nat) : Int) := by
      rw [Int.natCast_add, Int.natCast_mul]
    show tSeq _ _ _ (List.set _ 4 (some (V.int ((width : Int) + (i : Nat) * (hop : Int))))) H2
    rw [es]
    have hcount : i ≤ TL.length := by
      have : i * 1 ≤ i * hop := Nat.mul_le_mul_left _ hh1
      omega
    generalize hstep : width + i * hop = step at hst ha ⊢
    obtain ⟨v, hv, ho⟩ := r5 (step - 1) (by omega)
    have e1 : ((step : Int) - 1) = ((step - 1 : Nat) : Int) := by omega
    have r12 := hS _ _ r1
    have r32 := hS _ _ r3
    have flen : (ivs (((asked width hop TL.length).take i).filter fun s => !right p width s)).length ≤ i := by
      unfold ivs
      rw [List.length_map]
      refine Nat.le_trans (List.length_filter_le _ _) ?_
      rw [List.length_take]
      exact Nat.min_le_left _ _
    -- the step at hand is appended or not
    have yes : right p width step = false → ∀ (H3 : Hp), Same H2 H3 → ∃ (l : Addr) (xs : List V) (y : V), V.ref wl = .ref l ∧ [V.int (step : Nat)] = [y] ∧ H3 l = some (.lst xs) ∧ xs.length < sizeLine ∧
        (Same H (upd H3 l (.lst (xs ++ [y]))) ∧ (upd H3 l (.lst (xs ++ [y]))) wl = some (.lst (ivs (((asked width hop TL.length).take (i + 1)).filter fun s => !right p width s)))) := by
      intro hr H3 e3
      refine ⟨wl, _, _, rfl, rfl, e3 _ _ hl, by rw [sizeLine_eq]; omega, Same.put (hS.trans e3) hwl, upd_same.trans ?_⟩
      rw [filter_snoc ha, hr]
      unfold ivs
      rw [List.map_append]
      rfl
    have no : right p width step = true → ((asked width hop TL.length).take (i + 1)).filter (fun s => !right p width s) = ((asked width hop TL.length).take i).filter fun s => !right p width s := by
      intro hr
      rw [filter_snoc ha, hr]
      exact List.append_nil _
    have hright : right p width step = (tellAt p (step - 1) == some (due width step)) := rfl
    refine ⟨_, rfl, run, _, _, _, rfl, rfl, SqL.of r12, atI_nat (j := 1) rfl, _, rfl, _, _, rfl, rfl, at_, TL, _, v, rfl, rfl, SqL.of r32, at_of e1 hv, ?_⟩
    cases ht : tellAt p (step - 1) with
    | none =>
      rw [ht] at ho
      have ho : v = .int (-1) := ho
      subst ho
      have hrt : right p width step = false := by rw [hright, ht]; rfl
      refine ⟨_, rfl, _, _, rfl, rfl, _, rfl, ?_⟩
      refine iteT ?_
      refine iteT ?_
      obtain ⟨l, xs, y, g1, g2, g3, g4, g5, g6⟩ := yes hrt H2 (Same.refl _)
      exact ⟨_, rfl, .inl ⟨rfl, _, SqL.of hl⟩, _, rfl, l, xs, y, g1, g2, g3, g4, ⟨_, _, rfl⟩, g5, g6⟩
    | some wd =>
      rw [ht] at ho
      obtain ⟨j, na, wa, a, b, c, rfl, f4, f5, m1, m2, m3⟩ := ho
      refine ⟨_, rfl, _, _, rfl, rfl, _, rfl, ?_⟩
      rw [decide_eq_false (by omega : ¬ ((j : Int) < 0))]
      refine iteF ?_
      have m22 := hS _ _ m2
      have m32 := hS _ _ m3
      have ea : (step : Int) - (width : Int) = ((step - width : Nat) : Int) := by omega
      refine ⟨_, rfl, run, _, _, _, rfl, rfl, SqL.of r12, atI_nat (j := 0) rfl, _, rfl, an, NL, _, _, rfl, rfl, SqL.of (hS _ _ r2), atI_nat m1, na, _, _, _, rfl, rfl, SqL.of m22, atI_nat (j := 3) rfl, _, rfl, _, rfl, _, _, rfl, rfl, _, rfl, _, _, rfl, rfl, ?_⟩
      rw [ea]
      refine ⟨RgOk.of_le (by omega) (by omega) (by omega) (by omega), fun q1 hq1 => ?_⟩
      rw [rgV_nats]
      have e2 : step - (step - width) = width := by omega
      rw [e2]
      have S1 := Same.new (o := .lst ((List.range' (step - width) width).map fun n : Nat => V.int n)) hq1
      refine ⟨.list ((wd.take (TL.length + 1)).map fun n : Nat => PyData.int n), .list ((List.range' (step - width) width).map fun n : Nat => PyData.int n), .lst (SqL.of (S1 _ _ m32)) (DpAll.nats _), .lst (SqL.of upd_same) (DpAll.nats _), shaped_nats _, shaped_nats _, _, rfl, ?_⟩
      have e3 : PyData.eqv (.list ((wd.take (TL.length + 1)).map fun n : Nat => PyData.int n)) (.list ((List.range' (step - width) width).map fun n : Nat => PyData.int n)) = right p width step := by
        rw [PyData.eqv, eqv_nats, hright, ht]
        have e4 := take_due (w := wd) (width := width) (step := step) (N := TL.length + 1) (by omega)
        show decide (wd.take (TL.length + 1) = due width step) = _
        by_cases hd : wd = due width step
        · rw [decide_eq_true (e4.mpr hd), hd]
          exact (beq_self_eq_true _).symm
        · rw [decide_eq_false (fun z => hd (e4.mp z))]
          symm
          simp [hd]
      rw [e3]
      cases hrt : right p width step with
      | true =>
        refine iteF ?_
        refine ⟨⟨_, _, rfl⟩, hS.trans S1, ?_⟩
        rw [no hrt]
        exact S1 _ _ hl
      | false =>
        refine iteT ?_
        obtain ⟨l, xs, y, g1, g2, g3, g4, g5, g6⟩ := yes hrt _ S1
        exact ⟨_, rfl, .inl ⟨rfl, _, SqL.of (S1 _ _ hl)⟩, _, rfl, l, xs, y, g1, g2, g3, g4, ⟨_, _, rfl⟩, g5, g6⟩
  · rintro σ' H1 ⟨⟨o4, o5, rfl⟩, hS, hl⟩
    rw [en, ← asked_len, List.take_length] at hl
    exact ⟨_, rfl, q _ _ hS hwl hl⟩
def sp_law_telling (K : PySem.W.Frag) : Sp := fun vs H Q _ => ∃ (F : Addr → Prop) (run : Addr) (p : Prog) (S step : Nat), vs = [.ref run, .int step] ∧ RunAt F p S H run ∧ 1 ≤ step ∧ step ≤ S ∧ S ≤ 20000 ∧
  ∀ v H', Same H H' → Dp K H' v (toldV (tellAt p (step - 1))) → Q v H'
-- slots: 0:run 1:step 2:top | cells: []
theorem sc_law_telling : FnScope ["_law_run", "_law_step", "_law_top"] ["_law_run", "_law_step"] (defScope s_law_telling) := ⟨rfl, rfl, rfl, by decide +kernel, rfl, by decide +kernel, by decide +kernel⟩
theorem ok_law_telling (T : Txt K mg) : FnOk P w K mg base CX0 2 (He.ga K "_law_telling") (fdA K (He.ga K "_law_telling")) ["_law_run", "_law_step"] (sp_law_telling K) := by
  refine T.F_law_telling.ok sc_law_telling (fun vs H Q E h => by obtain ⟨F, run, p, S, step, rfl, _⟩ := h; rfl) (fun cdv A outer s H vs Q E hr h => ⟨_, PSs.nox ((pss_cons (ps_set (i := 2) sc_law_telling.nd rfl (Or.inl rfl) (pe_ix ix_list (pe_ix ix_list (pv 0) pe_int (fun _ _ => rfl)) (pe_op op_sub (pv 1) pe_int) (fun _ _ => rfl)))
(pss_cons (ps_if (pt_cmpR op_lt (pv 2) pe_int (nomark _))
(pss_cons (ps_ret (pe_tup pa_nil))
pss_nil)
pss_nil)
(pss_cons (ps_ret (pe_tup (pa_cons (pe_call (ok_law_span T) (hr.mono (by decide)) (by rfl) T.g_law_span T.F_law_span.kp T.b_law_span .nil pass0 (pa_cons (pe_ix ix_list (pe_ix ix_list (pe_ix ix_list (pv 0) pe_int (fun _ _ => rfl)) (pv 2) (fun _ _ => rfl)) pe_int (fun _ _ => rfl)) pa_nil)) pa_nil)))
pss_nil)))), ?_⟩)
  obtain ⟨F, run, p, S, step, rfl, hR, hs1, hsS, hS2, q⟩ := h
  obtain ⟨an, at_, NL, TL, x, f1, f2, f3, r1, r2, r3, r4, r5⟩ := hR
  obtain ⟨v, hv, ho⟩ := r5 (step - 1) (by omega)
  have e1 : ((step : Int) - 1) = ((step - 1 : Nat) : Int) := by omega
  refine ⟨_, rfl, run, _, _, _, rfl, rfl, SqL.of r1, atI_nat (j := 1) rfl, _, rfl, _, _, rfl, rfl, at_, TL, _, v, rfl, rfl, SqL.of r3, at_of e1 hv, ?_⟩
  cases ht : tellAt p (step - 1) with
  | none =>
    rw [ht] at ho q
    have ho : v = .int (-1) := ho
    subst ho
    refine ⟨_, rfl, _, _, rfl, rfl, _, rfl, ?_⟩
    refine ifT rfl ?_
    exact ⟨(by show 0 ≤ sizeLine; decide), fun q2 hq2 => q _ _ (Same.new hq2) (.tup (SqT.of upd_same) .nil)⟩
  | some wd =>
    rw [ht] at ho q
    obtain ⟨j, na, wa, a, b, c, rfl, f4, f5, m1, m2, m3⟩ := ho
    obtain ⟨hne, hlt⟩ := sound_tell ht
    refine ⟨_, rfl, _, _, rfl, rfl, _, rfl, ?_⟩
    refine ifF (decide_eq_false (by omega : ¬ ((j : Int) < 0))) ?_
    have hsp := spanW_take (w := wd) (S := step - 1 + 1) (N := S + 1) hne hlt (by omega)
    refine ⟨_, rfl, run, _, _, _, rfl, rfl, SqL.of r1, atI_nat (j := 0) rfl, _, rfl, an, NL, _, _, rfl, rfl, SqL.of r2, atI_nat m1, na, _, _, _, rfl, rfl, SqL.of m2, atI_nat (j := 3) rfl, wa, wd.take (S + 1), rfl, SqL.of m3, ?_, ?_, ?_, fun v H' hS hd => ⟨(by show 1 ≤ sizeLine; decide), fun q2 hq2 => ?_⟩⟩
    · cases wd with
      | nil => exact absurd rfl hne
      | cons a b => rw [List.take_succ_cons]; exact List.cons_ne_nil _ _
    · rw [List.length_take]; omega
    · intro x hx
      have := hlt x (List.mem_of_mem_take hx)
      omega
    · rw [hsp] at hd
      exact q _ _ (hS.trans (Same.new hq2)) (.tup (SqT.of upd_same) (.cons (Dp.same (Same.new hq2) hd) .nil))
end
end U3


namespace U3
open PySem PySem.Spec PyProof.Rows L2
section
variable {P : Program} {w : World} {K : PySem.W.Frag} {mg : Str → Option Value} {base : Heap}
/-! data that stays, whatever happens to what was there before -/
def NewK (H H1 H2 : Hp) : Prop := ∀ b o, H b = none → H1 b = some o → H2 b = some o
theorem NewK.of {H H1 H2 : Hp} (e : Same H1 H2) : NewK H H1 H2 := fun b o _ h => e b o h
theorem NewK.but {H H1 H2 : Hp} {p : Addr} (e : But p H1 H2) (hp : H p ≠ none) : NewK H H1 H2 := fun b o h h1 => e b o (fun z => hp (z ▸ h)) h1
def LitN (K : PySem.W.Frag) (σ : L2.St) (te : TE) (d : PyData) : Prop := ∀ (H : Hp) (Q : VK), (∀ v H', Same H H' → (∀ H2, NewK H H' H2 → Dp K H2 v d) → Q v H') → te σ H Q
def LitsN (K : PySem.W.Frag) (σ : L2.St) (ta : TA) (ds : List PyData) : Prop := ∀ (H : Hp) (Q : List V → Hp → Prop), (∀ vs H', Same H H' → (∀ H2, NewK H H' H2 → DpAll K H2 vs ds) → Q vs H') → ta σ H Q
section
variable {σ : L2.St} {te : TE} {ta : TA} {d : PyData} {ds : List PyData}
theorem LitN.int {i : Int} : LitN K σ (tC (.int i)) (.int i) := fun H Q q => q _ _ (Same.refl _) fun _ _ => .int i
theorem LitN.bl {b : Bool} : LitN K σ (tC (.bl b)) (.bool b) := fun H Q q => q _ _ (Same.refl _) fun _ _ => .bl b
theorem LitN.str {x : Str} : LitN K σ (tC (.str x)) (.str x) := fun H Q q => q _ _ (Same.refl _) fun _ _ => .str x
theorem LitN.non : LitN K σ (tC .non) .none := fun H Q q => q _ _ (Same.refl _) fun _ _ => .non
theorem LitN.neg {i : Int} (h : LitN K σ te (.int i)) : LitN K σ (tUn (rU fun i => .int (-i)) te) (.int (-i)) := fun H Q q => h H _ fun v H1 e1 hd => by
  rw [Dp.int_inv (hd H1 (NewK.of (Same.refl _)))]
  exact ⟨i, rfl, q _ _ e1 fun _ _ => .int _⟩
theorem LitsN.nil : LitsN K σ tNil [] := fun H Q q => q _ _ (Same.refl _) fun _ _ => .nil
theorem LitsN.cons (h : LitN K σ te d) (r : LitsN K σ ta ds) : LitsN K σ (tCons te ta) (d :: ds) := fun H Q q => h H _ fun v H1 e1 hd => r H1 _ fun vs H2 e2 hds => q _ _ (e1.trans e2) fun H3 k =>
  .cons (hd H3 fun b o h0 h1 => k b o h0 (e2 b o h1)) (hds H3 fun b o h0 h1 => k b o (Same.free e1 h0) h1)
theorem LitN.tup (h : LitsN K σ ta ds) (hz : ds.length ≤ 64) : LitN K σ (tTup ta) (.tuple ds) := fun H Q q => h H _ fun vs H1 e1 hd =>
  ⟨by rw [DpAll.length (hd H1 (NewK.of (Same.refl _))), sizeLine_eq]; omega, fun p hp => q _ _ (e1.trans (Same.new hp)) fun H3 k => .tup (SqT.of (k p _ (Same.free e1 hp) upd_same)) (hd H3 fun b o h0 h1 => k b o h0 ((Same.new hp) _ _ h1))⟩
theorem LitN.lst (h : LitsN K σ ta ds) (hz : ds.length ≤ 64) : LitN K σ (tLst ta) (.list ds) := fun H Q q => h H _ fun vs H1 e1 hd =>
  ⟨by rw [DpAll.length (hd H1 (NewK.of (Same.refl _))), sizeLine_eq]; omega, fun p hp => q _ _ (e1.trans (Same.new hp)) fun H3 k => .lst (SqL.of (k p _ (Same.free e1 hp) upd_same)) (hd H3 fun b o h0 h1 => k b o h0 ((Same.new hp) _ _ h1))⟩
/-- a list of such, that itself stays -/
theorem LitsN.alloc {H : Hp} {Q : VK} (L : LitsN K σ ta ds) (hz : ds.length ≤ 64) (h : ∀ q xs H', Same H H' → H q = none → H' q = some (.lst xs) → (∀ H2, NewK H H' H2 → DpAll K H2 xs ds) → Q (.ref q) H') : tLst ta σ H Q :=
  L H _ fun vs H1 e1 hd => ⟨by rw [DpAll.length (hd H1 (NewK.of (Same.refl _))), sizeLine_eq]; omega, fun p hp => h p vs _ (e1.trans (Same.new hp)) (Same.free e1 hp) upd_same fun H3 k => hd H3 fun b o h0 h1 => k b o h0 ((Same.new hp) _ _ h1)⟩
theorem asg_lstN {g : TG} {u : TS} {D : Ends} {H : Hp} (L : LitsN K σ ta ds) (hz : ds.length ≤ 64) (h : ∀ q xs H', Same H H' → H q = none → H' q = some (.lst xs) → (∀ H2, NewK H H' H2 → DpAll K H2 xs ds) → g (.ref q) σ H' (u D)) : tSeq (tAsg (tLst ta) g) u D σ H :=
  show tLst ta σ H (fun x H1 => g x σ H1 (u D)) from LitsN.alloc L hz h
theorem nx_lstN {g : TG} {u : TS} {D : Ends} {rt : VK} {b c : L2.St → Hp → Prop} {H : Hp} (L : LitsN K σ ta ds) (hz : ds.length ≤ 64) (h : ∀ q xs H', Same H H' → H q = none → H' q = some (.lst xs) → (∀ H2, NewK H H' H2 → DpAll K H2 xs ds) → g (.ref q) σ H' (u D)) : (Ends.mk (tSeq (tAsg (tLst ta) g) u D) rt b c).nx σ H :=
  asg_lstN L hz h
theorem asg_opN {r : R2} {tb : TE} {g : TG} {u : TS} {D : Ends} {H : Hp} (L : LitsN K σ ta ds) (hz : ds.length ≤ 64) (h : ∀ q xs H', Same H H' → H q = none → H' q = some (.lst xs) → (∀ H2, NewK H H' H2 → DpAll K H2 xs ds) → tb σ H' fun y H2 => r (.ref q) y H2 fun x H3 => g x σ H3 (u D)) : tSeq (tAsg (tOp r (tLst ta) tb) g) u D σ H :=
  show tLst ta σ H (fun x H1 => tb σ H1 fun y H2 => r x y H2 fun x H3 => g x σ H3 (u D)) from LitsN.alloc L hz h
end
theorem gn_by {i : Nat} {v : V} {σ : L2.St} {H : Hp} {N : L2.St → Hp → Prop} (h : N (σ.set i (some v)) H) : gName i v σ H N := h
theorem Pool.ne {H : Hp} {p : Addr} (h : Pool H p) : H p ≠ none := fun z => by
  obtain ⟨xs, hx⟩ := h.some
  rw [z] at hx
  cases hx
/-! _law_bad(pool) -/
def ph00 : PyData := .tuple [.tuple [], .int 0]
def badL : List PyData := [.none, .int 3, .str "2; 1 0: 1", .tuple [.int 0, .tuple [ph00]], .tuple [.bool true, .tuple [ph00]], .tuple [.int 1, .tuple []], .tuple [.int 1, .list [ph00]], .list [.int 1, .tuple [ph00]], .tuple [.int 1, .tuple [ph00], .int 0],
  .tuple [.int 1, .tuple [.tuple [.tuple [], .int 1]]], .tuple [.int 1, .tuple [.tuple [.tuple [], .bool true]]], .tuple [.int 1, .tuple [.tuple [.list [], .int 0]]], .tuple [.int 2, .tuple [.tuple [.tuple [.tuple [.int 0, .int 1]], .int 0]]], .tuple [.int 2, .tuple [.tuple [.tuple [.tuple [.int 1, .int 2]], .int 0]]],
  .tuple [.int 2, .tuple [.tuple [.tuple [.tuple [.int 1, .int 0, .int 0, .int 0]], .int 1]]], .tuple [.int 2, .tuple [.tuple [.list [.tuple [.int 1, .int 0]], .int 1]]], .tuple [.int 2, .tuple [.tuple [.tuple [.tuple [.int 1, .int (-1)]], .int 1]]], .tuple [.int 2, .tuple [.tuple [.tuple [.tuple [.int 1, .bool false]], .int 1]]],
  .tuple [.int 2, .tuple [.tuple [.tuple [.list [.int 1, .int 0]], .int 1]]], .tuple [.int 2, .tuple [.tuple [.tuple [.tuple [.int 1]], .int 1]]], .tuple [.int 2, .tuple [ph00, .tuple [.tuple [], .int 2]]]]
def fewL : List PyData := [.int 0, .int (-1), .bool true, .none, .str "2", .tuple [.int 2]]
theorem bad_ok : ∀ d ∈ badL, progD d = false := by
  have h : badL.all (fun d => !progD d) = true := by decide +kernel
  intro d hd
  have := List.all_eq_true.mp h d hd
  simpa using this
theorem few_ok : ∀ d ∈ fewL, posD d = false := by
  have h : fewL.all (fun d => !posD d) = true := by decide +kernel
  intro d hd
  have := List.all_eq_true.mp h d hd
  simpa using this
def sp_law_bad (K : PySem.W.Frag) : Sp := fun vs H Q _ => ∃ (p : Addr), vs = [.ref p] ∧ Pool H p ∧ ∀ (l : Addr) (x y z : V) (dx dy dz : PyData) (H' : Hp), But p H H' → Pool H' p → H l = none → H' l = some (.lst [x, y, z]) →
  (∀ H2, NewK H H' H2 → Dp K H2 x dx ∧ Dp K H2 y dy ∧ Dp K H2 z dz) → progD dx = false → posD dy = false → posD dz = false → Q (.ref l) H'
-- slots: 0:pool_here 1:menu 2:few | cells: []
theorem sc_law_bad : FnScope ["_law_pool_here", "_law_menu", "_law_few"] ["_law_pool_here"] (defScope s_law_bad) := ⟨rfl, rfl, rfl, by decide +kernel, rfl, by decide +kernel, by decide +kernel⟩
theorem ok_law_bad (T : Txt K mg) : FnOk P w K mg base CX0 2 (He.ga K "_law_bad") (fdA K (He.ga K "_law_bad")) ["_law_pool_here"] (sp_law_bad K) := by
  refine T.F_law_bad.ok sc_law_bad (fun vs H Q E h => by obtain ⟨p, rfl, _⟩ := h; rfl) (fun cdv A outer s H vs Q E hr h => ⟨_, PSs.nox ((pss_cons (ps_set (i := 1) sc_law_bad.nd rfl (Or.inl rfl) (pe_lst (pa_cons pe_non (pa_cons pe_int (pa_cons pe_str (pa_cons (pe_tup (pa_cons pe_int (pa_cons (pe_tup (pa_cons (pe_tup (pa_cons (pe_tup pa_nil) (pa_cons pe_int pa_nil))) pa_nil)) pa_nil))) (pa_cons (pe_tup (pa_cons pe_bl (pa_cons (pe_tup (pa_cons (pe_tup (pa_cons (pe_tup pa_nil) (pa_cons pe_int pa_nil))) pa_nil)) pa_nil))) (pa_cons (pe_tup (pa_cons pe_int (pa_cons (pe_tup pa_nil) pa_nil))) (pa_cons (pe_tup (pa_cons pe_int (pa_cons (pe_lst (pa_cons (pe_tup (pa_cons (pe_tup pa_nil) (pa_cons pe_int pa_nil))) pa_nil)) pa_nil))) (pa_cons (pe_lst (pa_cons pe_int (pa_cons (pe_tup (pa_cons (pe_tup (pa_cons (pe_tup pa_nil) (pa_cons pe_int pa_nil))) pa_nil)) pa_nil))) (pa_cons (pe_tup (pa_cons pe_int (pa_cons (pe_tup (pa_cons (pe_tup (pa_cons (pe_tup pa_nil) (pa_cons pe_int pa_nil))) pa_nil)) (pa_cons pe_int pa_nil)))) (pa_cons (pe_tup (pa_cons pe_int (pa_cons (pe_tup (pa_cons (pe_tup (pa_cons (pe_tup pa_nil) (pa_cons pe_int pa_nil))) pa_nil)) pa_nil))) (pa_cons (pe_tup (pa_cons pe_int (pa_cons (pe_tup (pa_cons (pe_tup (pa_cons (pe_tup pa_nil) (pa_cons pe_bl pa_nil))) pa_nil)) pa_nil))) (pa_cons (pe_tup (pa_cons pe_int (pa_cons (pe_tup (pa_cons (pe_tup (pa_cons (pe_lst pa_nil) (pa_cons pe_int pa_nil))) pa_nil)) pa_nil))) (pa_cons (pe_tup (pa_cons pe_int (pa_cons (pe_tup (pa_cons (pe_tup (pa_cons (pe_tup (pa_cons (pe_tup (pa_cons pe_int (pa_cons pe_int pa_nil))) pa_nil)) (pa_cons pe_int pa_nil))) pa_nil)) pa_nil))) (pa_cons (pe_tup (pa_cons pe_int (pa_cons (pe_tup (pa_cons (pe_tup (pa_cons (pe_tup (pa_cons (pe_tup (pa_cons pe_int (pa_cons pe_int pa_nil))) pa_nil)) (pa_cons pe_int pa_nil))) pa_nil)) pa_nil))) (pa_cons (pe_tup (pa_cons pe_int (pa_cons (pe_tup (pa_cons (pe_tup (pa_cons (pe_tup (pa_cons (pe_tup (pa_cons pe_int (pa_cons pe_int (pa_cons pe_int (pa_cons pe_int pa_nil))))) pa_nil)) (pa_cons pe_int pa_nil))) pa_nil)) pa_nil))) (pa_cons (pe_tup (pa_cons pe_int (pa_cons (pe_tup (pa_cons (pe_tup (pa_cons (pe_lst (pa_cons (pe_tup (pa_cons pe_int (pa_cons pe_int pa_nil))) pa_nil)) (pa_cons pe_int pa_nil))) pa_nil)) pa_nil))) (pa_cons (pe_tup (pa_cons pe_int (pa_cons (pe_tup (pa_cons (pe_tup (pa_cons (pe_tup (pa_cons (pe_tup (pa_cons pe_int (pa_cons (pe_un un_neg pe_int) pa_nil))) pa_nil)) (pa_cons pe_int pa_nil))) pa_nil)) pa_nil))) (pa_cons (pe_tup (pa_cons pe_int (pa_cons (pe_tup (pa_cons (pe_tup (pa_cons (pe_tup (pa_cons (pe_tup (pa_cons pe_int (pa_cons pe_bl pa_nil))) pa_nil)) (pa_cons pe_int pa_nil))) pa_nil)) pa_nil))) (pa_cons (pe_tup (pa_cons pe_int (pa_cons (pe_tup (pa_cons (pe_tup (pa_cons (pe_tup (pa_cons (pe_lst (pa_cons pe_int (pa_cons pe_int pa_nil))) pa_nil)) (pa_cons pe_int pa_nil))) pa_nil)) pa_nil))) (pa_cons (pe_tup (pa_cons pe_int (pa_cons (pe_tup (pa_cons (pe_tup (pa_cons (pe_tup (pa_cons (pe_tup (pa_cons pe_int pa_nil)) pa_nil)) (pa_cons pe_int pa_nil))) pa_nil)) pa_nil))) (pa_cons (pe_tup (pa_cons pe_int (pa_cons (pe_tup (pa_cons (pe_tup (pa_cons (pe_tup pa_nil) (pa_cons pe_int pa_nil))) (pa_cons (pe_tup (pa_cons (pe_tup pa_nil) (pa_cons pe_int pa_nil))) pa_nil))) pa_nil))) pa_nil)))))))))))))))))))))))
(pss_cons (ps_set (i := 2) sc_law_bad.nd rfl (Or.inl rfl) (pe_lst (pa_cons pe_int (pa_cons (pe_un un_neg pe_int) (pa_cons pe_bl (pa_cons pe_non (pa_cons pe_str (pa_cons (pe_tup (pa_cons pe_int pa_nil)) pa_nil))))))))
(pss_cons (ps_ret (pe_lst (pa_cons (pe_ix ix_list (pv 1) (pe_call (ok_law_draw T) (hr.mono (by decide)) (by rfl) T.g_law_draw T.F_law_draw.kp T.b_law_draw .nil pass0 (pa_cons (pv 0) (pa_cons (pe_callB call_len_seq (by rfl) T.m_len bt_len (pa_cons (pv 1) pa_nil)) pa_nil))) (fun _ _ => rfl)) (pa_cons (pe_ix ix_list (pv 2) (pe_call (ok_law_draw T) (hr.mono (by decide)) (by rfl) T.g_law_draw T.F_law_draw.kp T.b_law_draw .nil pass0 (pa_cons (pv 0) (pa_cons pe_int pa_nil))) (fun _ _ => rfl)) (pa_cons (pe_ix ix_list (pv 2) (pe_call (ok_law_draw T) (hr.mono (by decide)) (by rfl) T.g_law_draw T.F_law_draw.kp T.b_law_draw .nil pass0 (pa_cons (pv 0) (pa_cons pe_int pa_nil))) (fun _ _ => rfl)) pa_nil)))))
pss_nil)))), ?_⟩)
  obtain ⟨p, rfl, hP, q⟩ := h
  refine asg_lstN (K := K) (ds := badL) ?_ (Nat.le_of_ble_eq_true rfl) fun am xm H1 e1 nm hm1 hm2 => ?_
  · unfold badL ph00
    (repeat (first | exact LitsN.nil | refine LitsN.cons ?_ ?_ | exact LitN.int | exact LitN.non | exact LitN.str | exact LitN.bl | refine LitN.tup ?_ (Nat.le_of_ble_eq_true rfl) | refine LitN.lst ?_ (Nat.le_of_ble_eq_true rfl) | refine LitN.neg ?_))
  refine gn_by ?_
  refine asg_lstN (K := K) (ds := fewL) ?_ (Nat.le_of_ble_eq_true rfl) fun af xf H2 e2 nf hf1 hf2 => ?_
  · unfold fewL
    (repeat (first | exact LitsN.nil | refine LitsN.cons ?_ ?_ | exact LitN.int | exact LitN.non | exact LitN.str | exact LitN.bl | refine LitN.tup ?_ (Nat.le_of_ble_eq_true rfl) | refine LitN.lst ?_ (Nat.le_of_ble_eq_true rfl) | refine LitN.neg ?_))
  have hm12 := e2 _ _ hm1
  have hp2 := hP.same (e1.trans e2)
  have hB2 : But p H H2 := But.of (e1.trans e2)
  have hml : xm.length = 21 := by rw [DpAll.length (hm2 H1 (NewK.of (Same.refl _)))]; rfl
  have hfl : xf.length = 6 := by rw [DpAll.length (hf2 H2 (NewK.of (Same.refl _)))]; rfl
  have nmp : am ≠ p := fun z => hP.ne (z ▸ nm)
  have nfp : af ≠ p := fun z => (hP.same e1).ne (z ▸ nf)
  refine ⟨_, rfl, _, rfl, _, rfl, _, _, rfl, .inl (SqL.of hm12), p, xm.length, rfl, hp2, by omega, by omega, fun k1 H3 hk1 hb3 hp3 => ?_⟩
  obtain ⟨d1, hd1⟩ : ∃ d, badL[k1]? = some d := ⟨_, List.getElem?_eq_getElem (by show k1 < 21; omega)⟩
  obtain ⟨v1, hv1⟩ : ∃ v, xm[k1]? = some v := ⟨_, List.getElem?_eq_getElem hk1⟩
  refine ⟨am, xm, _, v1, rfl, rfl, SqL.of (hb3.at hm12 nmp), atI_nat (j := k1) hv1, ?_⟩
  refine ⟨_, rfl, _, rfl, p, 6, rfl, hp3, by omega, by omega, fun k2 H4 hk2 hb4 hp4 => ?_⟩
  obtain ⟨d2, hd2⟩ : ∃ d, fewL[k2]? = some d := ⟨_, List.getElem?_eq_getElem (by show k2 < 6; omega)⟩
  obtain ⟨v2, hv2⟩ : ∃ v, xf[k2]? = some v := ⟨_, List.getElem?_eq_getElem (by omega)⟩
  have hb24 := hb3.trans hb4
  refine ⟨af, xf, _, v2, rfl, rfl, SqL.of (hb24.at hf1 nfp), atI_nat (j := k2) hv2, ?_⟩
  refine ⟨_, rfl, _, rfl, p, 6, rfl, hp4, by omega, by omega, fun k3 H5 hk3 hb5 hp5 => ?_⟩
  obtain ⟨d3, hd3⟩ : ∃ d, fewL[k3]? = some d := ⟨_, List.getElem?_eq_getElem (by show k3 < 6; omega)⟩
  obtain ⟨v3, hv3⟩ : ∃ v, xf[k3]? = some v := ⟨_, List.getElem?_eq_getElem (by omega)⟩
  have hb25 := hb24.trans hb5
  refine ⟨af, xf, _, v3, rfl, rfl, SqL.of (hb25.at hf1 nfp), atI_nat (j := k3) hv3, (by show 3 ≤ sizeLine; decide), fun l hl => ?_⟩
  have S6 := Same.new (o := .lst [v1, v2, v3]) hl
  have hB5 := hB2.trans hb25
  refine q l v1 v2 v3 d1 d2 d3 _ (hB5.trans (But.of S6)) (hp5.same S6) (new_of hB5 hp5 hl).2 upd_same (fun H9 k => ?_) (bad_ok _ (List.mem_of_getElem? hd1)) (few_ok _ (List.mem_of_getElem? hd2)) (few_ok _ (List.mem_of_getElem? hd3))
  have b29 : ∀ b o, b ≠ p → H2 b = some o → upd H5 l (.lst [v1, v2, v3]) b = some o := fun b o nb h => S6 _ _ (hb25 b o nb h)
  have k1' : NewK H H1 H9 := fun b o h0 h1 => k b o h0 (b29 b o (fun z => hP.ne (z ▸ h0)) (e2 _ _ h1))
  have k2' : NewK H1 H2 H9 := fun b o h0 h1 => k b o (Same.free e1 h0) (b29 b o (fun z => (hP.same e1).ne (z ▸ h0)) h1)
  have pick : ∀ {xs : List V} {ds : List PyData} {j : Nat} {v : V} {d : PyData}, DpAll K H9 xs ds → xs[j]? = some v → ds[j]? = some d → Dp K H9 v d := fun h hv hd => by
    obtain ⟨d', h1, h2⟩ := DpAll.of h hv
    rw [hd] at h1
    cases h1
    exact h2
  exact ⟨pick (hm2 H9 k1') hv1 hd1, pick (hf2 H9 k2') hv2 hd2, pick (hf2 H9 k2') hv3 hd3⟩
/-! _law_paper(wrong, width, hop, size, thing) -/
def paperD (ws : List Nat) (width hop size : Nat) (d : PyData) : PyData :=
  if stepOk width hop d = true then (if decide (width + ((intOf d - width).fmod size).toNat ∈ ws) = true then .list [.int 0, dueV width (intOf d)] else .list [.int 2, .str "right", .int (-1)]) else .list [.int 2, .str "step", .int (-1)]
theorem inV_ivs (n : Nat) : ∀ ws : List Nat, inV (.int n) (ivs ws) = decide (n ∈ ws)
  | [] => rfl
  | a :: ws => by
    have ih := inV_ivs n ws
    show (eqV (.int (a : Nat)) (.int (n : Nat)) || inV (.int n) (ivs ws)) = _
    rw [ih]
    show ((a : Int) == (n : Int) || decide (n ∈ ws)) = _
    by_cases h : n = a
    · subst h
      simp
    · have : ((a : Int) == (n : Int)) = false := by simp; omega
      rw [this]
      simp [h]
theorem flat_ivs : ∀ ws : List Nat, (ivs ws).all flatV = true
  | [] => rfl
  | _ :: ws => by
    show (true && (ivs ws).all flatV) = true
    rw [flat_ivs ws]
    rfl
def sp_law_paper (K : PySem.W.Frag) : Sp := fun vs H Q _ => ∃ (l : Addr) (ws : List Nat) (width hop size : Nat) (u : V) (du : PyData), vs = [.ref l, .int width, .int hop, .int size, u] ∧ H l = some (.lst (ivs ws)) ∧ Dp K H u du ∧ 1 ≤ hop ∧ 1 ≤ size ∧
  ∀ v H', Same H H' → (∀ H2, NewK H H' H2 → Dp K H2 v (paperD ws width hop size du)) → Q v H'
-- slots: 0:wrong_here 1:width 2:hop 3:size 4:thing | cells: []
theorem sc_law_paper : FnScope ["_law_wrong_here", "_law_width", "_law_hop", "_law_size", "_law_thing"] ["_law_wrong_here", "_law_width", "_law_hop", "_law_size", "_law_thing"] (defScope s_law_paper) := ⟨rfl, rfl, rfl, by decide +kernel, rfl, by decide +kernel, by decide +kernel⟩
theorem ok_law_paper (T : Txt K mg) : FnOk P w K mg base CX0 1 (He.ga K "_law_paper") (fdA K (He.ga K "_law_paper")) ["_law_wrong_here", "_law_width", "_law_hop", "_law_size", "_law_thing"] (sp_law_paper K) := by
  refine T.F_law_paper.ok sc_law_paper (fun vs H Q E h => by obtain ⟨l, ws, width, hop, size, u, du, rfl, _⟩ := h; rfl) (fun cdv A outer s H vs Q E hr h => ⟨_, PSs.nox ((pss_cons (ps_if (PW.pt (pw_or (pt_val (pe_callB (call_is isT_bool) (by rfl) T.m_isinstance bt_isinstance (pa_cons (pv 4) (pa_cons (pe_bltn (v := .ty "bool") (by rfl) T.m_bool bt_bool rfl) pa_nil)))) (pw_or1 (pt_not (pt_val (pe_callB (call_is isT_int) (by rfl) T.m_isinstance bt_isinstance (pa_cons (pv 4) (pa_cons (pe_bltn (v := .ty "int") (by rfl) T.m_int bt_int rfl) pa_nil))))))))
(pss_cons (ps_ret (pe_lst (pa_cons pe_int (pa_cons pe_str (pa_cons (pe_un un_neg pe_int) pa_nil)))))
pss_nil)
pss_nil)
(pss_cons (ps_if (PW.pt (pw_or (pt_cmpR op_lt (pv 4) (pv 1) (nomark _)) (pw_or1 (pt_cmpR op_gt (pe_op op_modN (pe_callTy call_int1 (by rfl) T.m_int bt_int (pa_cons (pe_op op_sub (pv 4) (pv 1)) pa_nil)) (pv 2)) pe_int (nomark _)))))
(pss_cons (ps_ret (pe_lst (pa_cons pe_int (pa_cons pe_str (pa_cons (pe_un un_neg pe_int) pa_nil)))))
pss_nil)
pss_nil)
(pss_cons (ps_if (pt_cmpR op_in_seq (pe_op op_add (pv 1) (pe_op op_modN (pe_callTy call_int1 (by rfl) T.m_int bt_int (pa_cons (pe_op op_sub (pv 4) (pv 1)) pa_nil)) (pv 3))) (pv 0) (by rfl))
(pss_cons (ps_ret (pe_lst (pa_cons pe_int (pa_cons (pe_tup (pa_cons (pe_op op_sub (pv 4) (pv 1)) (pa_cons (pv 4) pa_nil))) pa_nil))))
pss_nil)
pss_nil)
(pss_cons (ps_ret (pe_lst (pa_cons pe_int (pa_cons pe_str (pa_cons (pe_un un_neg pe_int) pa_nil)))))
pss_nil))))), ?_⟩)
  obtain ⟨l, ws, width, hop, size, u, du, rfl, hl, hu, hh, hsz, q⟩ := h
  have bad : stepOk width hop du = false → ∀ z, H z = none → Q (.ref z) (upd H z (.lst [.int 2, .str "step", .int (-1)])) := fun hb z hz => by
    refine q _ _ (Same.new hz) fun H9 k => ?_
    unfold paperD
    rw [hb]
    exact .lst (SqL.of (k z _ hz upd_same)) (.cons (.int _) (.cons (.str _) (.cons (.int _) .nil)))
  -- isinstance(thing, bool) or not isinstance(thing, int)
  refine ⟨_, rfl, u, du, rfl, hu, _, rfl, ?_⟩
  cases hb : isBool du with
  | true =>
    refine iteT ?_
    refine iteT ?_
    refine ⟨_, rfl, (by show 3 ≤ sizeLine; decide), fun z hz => bad ?_ z hz⟩
    unfold stepOk isI
    rw [hb]
    cases isInt du <;> rfl
  | false =>
  refine iteF ?_
  refine ⟨_, rfl, u, du, rfl, hu, _, rfl, ?_⟩
  cases hi : isInt du with
  | false =>
    refine iteT ?_
    refine ⟨_, rfl, (by show 3 ≤ sizeLine; decide), fun z hz => bad ?_ z hz⟩
    unfold stepOk isI
    rw [hi]
    rfl
  | true =>
  refine iteF ?_
  have hI : isI du = true := by unfold isI; rw [hi, hb]; rfl
  have hdu := isI_int hI
  generalize hz0 : intOf du = t at hdu
  subst hdu
  have eu := Dp.int_inv hu
  subst eu
  have hhne : (hop : Int) ≠ 0 := by omega
  have hsne : (size : Int) ≠ 0 := by omega
  have hst : stepOk width hop (.int t) = (decide ((width : Int) ≤ t) && decide ((t - width).fmod hop = 0)) := rfl
  refine ⟨_, rfl, _, rfl, _, _, rfl, rfl, _, rfl, ?_⟩
  by_cases hlt : t < (width : Int)
  · rw [decide_eq_true hlt]
    refine iteT ?_
    refine iteT ?_
    refine ⟨_, rfl, (by show 3 ≤ sizeLine; decide), fun z hz => bad ?_ z hz⟩
    rw [hst, decide_eq_false (by omega)]
    rfl
  · rw [decide_eq_false hlt]
    refine iteF ?_
    refine ⟨_, rfl, _, rfl, _, _, rfl, rfl, .inl ⟨_, rfl, _, rfl, _, _, rfl, rfl, hhne, _, _, rfl, rfl, _, rfl, ?_⟩⟩
    have hnn : 0 ≤ (t - (width : Int)).fmod (hop : Int) := Int.fmod_nonneg_of_pos _ (by omega)
    by_cases hm : (0 : Int) < (t - (width : Int)).fmod (hop : Int)
    · rw [decide_eq_true hm]
      refine iteT ?_
      refine ⟨_, rfl, (by show 3 ≤ sizeLine; decide), fun z hz => bad ?_ z hz⟩
      rw [hst, decide_eq_true (by omega), decide_eq_false (by omega)]
      rfl
    · rw [decide_eq_false hm]
      refine iteF ?_
      have hok : stepOk width hop (.int t) = true := by
        rw [hst, decide_eq_true (by omega), decide_eq_true (by omega)]
        rfl
      have hsn : 0 ≤ (t - (width : Int)).fmod (size : Int) := Int.fmod_nonneg_of_pos _ (by omega)
      have es : (width : Int) + (t - (width : Int)).fmod (size : Int) = ((width + ((t - (width : Int)).fmod (size : Int)).toNat : Nat) : Int) := by omega
      refine ⟨_, rfl, _, rfl, _, rfl, _, _, rfl, rfl, .inl ⟨_, rfl, _, rfl, _, _, rfl, rfl, hsne, _, _, rfl, rfl, _, rfl, l, ivs ws, rfl, .inl (SqL.of hl), rfl, flat_ivs ws, _, rfl, ?_⟩⟩
      have ein : (if false = true then !inV (.int ((width : Int) + (t - (width : Int)).fmod (size : Int))) (ivs ws) else inV (.int ((width : Int) + (t - (width : Int)).fmod (size : Int))) (ivs ws)) = decide (width + ((t - (width : Int)).fmod (size : Int)).toNat ∈ ws) := by
        rw [if_neg Bool.false_ne_true, es, inV_ivs]
      have hpd : paperD ws width hop size (.int t) = if decide (width + ((t - (width : Int)).fmod (size : Int)).toNat ∈ ws) = true then .list [.int 0, dueV width t] else .list [.int 2, .str "right", .int (-1)] := by
        unfold paperD
        rw [if_pos hok]
        rfl
      cases hc : decide (width + ((t - (width : Int)).fmod (size : Int)).toNat ∈ ws) with
      | true =>
        rw [hc] at hpd ein
        refine ifT ein ?_
        refine ⟨_, rfl, _, rfl, _, _, rfl, rfl, _, rfl, (by show 2 ≤ sizeLine; decide), fun z1 hz1 => ⟨(by show 2 ≤ sizeLine; decide), fun z2 hz2 => q _ _ ((Same.new hz1).trans (Same.new hz2)) fun H9 k => ?_⟩⟩
        rw [hpd]
        exact .lst (SqL.of (k z2 _ (Same.free (Same.new hz1) hz2) upd_same)) (.cons (.int _) (.cons (.tup (SqT.of (k z1 _ hz1 ((Same.new hz2) _ _ upd_same))) (.cons (.int _) (.cons (.int _) .nil))) .nil))
      | false =>
        rw [hc] at hpd ein
        refine ifF ein ?_
        refine ⟨_, rfl, (by show 3 ≤ sizeLine; decide), fun z hz => q _ _ (Same.new hz) fun H9 k => ?_⟩
        rw [hpd]
        exact .lst (SqL.of (k z _ hz upd_same)) (.cons (.int _) (.cons (.str _) (.cons (.int _) .nil)))
end
end U3


namespace U3
open PySem PySem.Spec PyProof.Rows L2
section
variable {P : Program} {w : World} {K : PySem.W.Frag} {mg : Str → Option Value} {base : Heap}
/-! _law_same(actual, due) -/
/-- data no deeper than n, and not too long -/
def Sm : Nat → PyData → Prop
  | 0, d => isSeq d = false
  | n + 1, .list ds => ds.length ≤ 1000000 ∧ ∀ x ∈ ds, Sm n x
  | n + 1, .tuple ds => ds.length ≤ 1000000 ∧ ∀ x ∈ ds, Sm n x
  | _ + 1, _ => True
def sp_law_same (K : PySem.W.Frag) : Nat → Sp
  | 0 => fun _ _ _ _ => False
  | n + 1 => fun vs H Q _ => ∃ (x y : V) (d : PyData), vs = [x, y] ∧ Dp K H x d ∧ Dp K H y d ∧ Sm n d ∧ ∀ H', Same H H' → Q (.bl true) H'
-- slots: 0:actual 1:due 2:k | cells: []
theorem sc_law_same : FnScope ["_law_actual", "_law_due", "_law_k"] ["_law_actual", "_law_due"] (defScope s_law_same) := ⟨rfl, rfl, rfl, by decide +kernel, rfl, by decide +kernel, by decide +kernel⟩
theorem same_zero (T : Txt K mg) : FnOk P w K mg base CX0 1 (He.ga K "_law_same") (fdA K (He.ga K "_law_same")) ["_law_actual", "_law_due"] (sp_law_same K 0) :=
  T.F_law_same.ok sc_law_same (fun vs H Q E h => False.elim h) (fun cdv A outer s H vs Q E hr h => False.elim h)
theorem same_step (T : Txt K mg) (n : Nat) (G : FnOk P w K mg base CX0 (n + 1) (He.ga K "_law_same") (fdA K (He.ga K "_law_same")) ["_law_actual", "_law_due"] (sp_law_same K n)) : FnOk P w K mg base CX0 (n + 2) (He.ga K "_law_same") (fdA K (He.ga K "_law_same")) ["_law_actual", "_law_due"] (sp_law_same K (n + 1)) := by
  refine T.F_law_same.ok sc_law_same (fun vs H Q E h => by obtain ⟨x, y, d, rfl, _⟩ := h; rfl) (fun cdv A outer s H vs Q E hr h => ⟨_, PSs.nox ((pss_cons (ps_if (pt_val (pe_callB call_is2 (by rfl) T.m_isinstance bt_isinstance (pa_cons (pv 1) (pa_cons (pe_tup (pa_cons (pe_bltn (v := .ty "tuple") (by rfl) T.m_tuple bt_tuple rfl) (pa_cons (pe_bltn (v := .ty "list") (by rfl) T.m_list bt_list rfl) pa_nil))) pa_nil))))
(pss_cons (ps_if (PW.pt (pw_or (pt_not (pt_val (pe_callB call_is2 (by rfl) T.m_isinstance bt_isinstance (pa_cons (pv 0) (pa_cons (pe_tup (pa_cons (pe_bltn (v := .ty "tuple") (by rfl) T.m_tuple bt_tuple rfl) (pa_cons (pe_bltn (v := .ty "list") (by rfl) T.m_list bt_list rfl) pa_nil))) pa_nil))))) (pw_or1 (pt_cmpR op_ne (pe_callB (call_is isT_lst) (by rfl) T.m_isinstance bt_isinstance (pa_cons (pv 0) (pa_cons (pe_bltn (v := .ty "list") (by rfl) T.m_list bt_list rfl) pa_nil))) (pe_callB (call_is isT_lst) (by rfl) T.m_isinstance bt_isinstance (pa_cons (pv 1) (pa_cons (pe_bltn (v := .ty "list") (by rfl) T.m_list bt_list rfl) pa_nil))) (nomark _)))))
(pss_cons (ps_ret pe_bl)
pss_nil)
pss_nil)
(pss_cons (ps_if (pt_cmpR op_ne (pe_callB call_len_seq (by rfl) T.m_len bt_len (pa_cons (pv 0) pa_nil)) (pe_callB call_len_seq (by rfl) T.m_len bt_len (pa_cons (pv 1) pa_nil)) (nomark _))
(pss_cons (ps_ret pe_bl)
pss_nil)
pss_nil)
(pss_cons (ps_for PassesOwn.never rfl (pi_range1 (by rfl) T.m_range (pa_cons (pe_callB call_len_seq (by rfl) T.m_len bt_len (pa_cons (pv 1) pa_nil)) pa_nil)) (pg_name (i := 2) sc_law_same.nd rfl (Or.inl rfl))
(pss_cons (ps_if (pt_not (pt_val (pe_call G (hr.mono (by omega)) (by rfl) T.g_law_same T.F_law_same.kp T.b_law_same .nil pass0 (pa_cons (pe_ix ix_seq (pv 0) (pv 2) (fun _ _ => rfl)) (pa_cons (pe_ix ix_seq (pv 1) (pv 2) (fun _ _ => rfl)) pa_nil)))))
(pss_cons (ps_ret pe_bl)
pss_nil)
pss_nil)
pss_nil))
(pss_cons (ps_ret pe_bl)
pss_nil))))
pss_nil)
(pss_cons (ps_if (pt_cmpR op_isN (pv 1) pe_non (nomark _))
(pss_cons (ps_ret (pe_cmpR op_isN (pv 0) pe_non (nomark _)))
pss_nil)
pss_nil)
(pss_cons (ps_if (pt_val (pe_callB (call_is isT_bool) (by rfl) T.m_isinstance bt_isinstance (pa_cons (pv 1) (pa_cons (pe_bltn (v := .ty "bool") (by rfl) T.m_bool bt_bool rfl) pa_nil))))
(pss_cons (ps_ret (pe_and (pe_callB (call_is isT_bool) (by rfl) T.m_isinstance bt_isinstance (pa_cons (pv 0) (pa_cons (pe_bltn (v := .ty "bool") (by rfl) T.m_bool bt_bool rfl) pa_nil))) (pe_one (pe_cmpR op_eq (pv 0) (pv 1) (nomark _)))))
pss_nil)
pss_nil)
(pss_cons (ps_if (pt_val (pe_callB (call_is isT_str) (by rfl) T.m_isinstance bt_isinstance (pa_cons (pv 1) (pa_cons (pe_bltn (v := .ty "str") (by rfl) T.m_str bt_str rfl) pa_nil))))
(pss_cons (ps_ret (pe_and (pe_callB (call_is isT_str) (by rfl) T.m_isinstance bt_isinstance (pa_cons (pv 0) (pa_cons (pe_bltn (v := .ty "str") (by rfl) T.m_str bt_str rfl) pa_nil))) (pe_one (pe_cmpR op_eq (pv 0) (pv 1) (nomark _)))))
pss_nil)
pss_nil)
(pss_cons (ps_ret (pe_and (pe_callB (call_is isT_int) (by rfl) T.m_isinstance bt_isinstance (pa_cons (pv 0) (pa_cons (pe_bltn (v := .ty "int") (by rfl) T.m_int bt_int rfl) pa_nil))) (pe_and (pe_not (pe_callB (call_is isT_bool) (by rfl) T.m_isinstance bt_isinstance (pa_cons (pv 0) (pa_cons (pe_bltn (v := .ty "bool") (by rfl) T.m_bool bt_bool rfl) pa_nil)))) (pe_one (pe_cmpR op_eq (pv 0) (pv 1) (nomark _))))))
pss_nil)))))), ?_⟩)
  obtain ⟨x, y, d, rfl, hx, hy, hsm, q⟩ := h
  refine ⟨_, rfl, (by show 2 ≤ sizeLine; decide), fun tp htp => ⟨y, d, tp, rfl, upd_same, Dp.same (Same.new htp) hy, _, rfl, ?_⟩⟩
  have S1 := Same.new (o := .tup [V.ty "tuple", V.ty "list"]) htp
  cases hs : isSeq d with
  | false =>
    refine ifF rfl ?_
    have hx1 := Dp.same S1 hx
    have hy1 := Dp.same S1 hy
    generalize upd H tp (.tup [V.ty "tuple", V.ty "list"]) = H1 at *
    have q1 := q H1 S1
    clear hx hy
    cases hx1 with
    | non =>
      cases hy1
      refine ⟨_, rfl, rfl, _, rfl, ?_⟩
      refine ifT rfl ?_
      exact ⟨_, rfl, rfl, q1⟩
    | bl b =>
      cases hy1
      refine ⟨_, rfl, rfl, _, rfl, ?_⟩
      refine ifF rfl ?_
      refine ⟨_, rfl, _, .bool b, rfl, .bl b, _, rfl, ?_⟩
      refine ifT rfl ?_
      refine ⟨_, rfl, _, .bool b, rfl, .bl b, _, rfl, ?_⟩
      refine iteT ⟨_, rfl, _, rfl, rfl, ?_⟩
      rw [decide_eq_true rfl]
      exact q1
    | int i =>
      cases hy1
      refine ⟨_, rfl, rfl, _, rfl, ?_⟩
      refine ifF rfl ?_
      refine ⟨_, rfl, _, .int i, rfl, .int i, _, rfl, ?_⟩
      refine ifF rfl ?_
      refine ⟨_, rfl, _, .int i, rfl, .int i, _, rfl, ?_⟩
      refine ifF rfl ?_
      refine ⟨_, rfl, _, .int i, rfl, .int i, _, rfl, ?_⟩
      refine iteT ⟨_, rfl, _, .int i, rfl, .int i, _, rfl, _, rfl, ?_⟩
      refine iteT ⟨_, rfl, _, rfl, rfl, ?_⟩
      rw [decide_eq_true rfl]
      exact q1
    | str z =>
      cases hy1
      refine ⟨_, rfl, rfl, _, rfl, ?_⟩
      refine ifF rfl ?_
      refine ⟨_, rfl, _, .str z, rfl, .str z, _, rfl, ?_⟩
      refine ifF rfl ?_
      refine ⟨_, rfl, _, .str z, rfl, .str z, _, rfl, ?_⟩
      refine ifT rfl ?_
      refine ⟨_, rfl, _, .str z, rfl, .str z, _, rfl, ?_⟩
      refine iteT ⟨_, rfl, _, rfl, rfl, ?_⟩
      rw [decide_eq_true rfl]
      exact q1
    | lst _ _ => simp [isSeq, isTup, isLst] at hs
    | tup _ _ => simp [isSeq, isTup, isLst] at hs
  | true =>
    refine ifT rfl ?_
    have hx1 := Dp.same S1 hx
    have hy1 := Dp.same S1 hy
    -- what it is made of
    obtain ⟨ds, a, b, xs, ys, n', rfl, rfl, hlen, hxa, hyb, hax, hay, hn, hsm'⟩ : ∃ (ds : List PyData) (a b : Addr) (xs ys : List V) (n' : Nat), x = .ref a ∧ y = .ref b ∧ ds.length ≤ 1000000 ∧ (SqL K (upd H tp (.tup [V.ty "tuple", V.ty "list"])) a xs ∨ SqT K (upd H tp (.tup [V.ty "tuple", V.ty "list"])) a xs) ∧ (SqL K (upd H tp (.tup [V.ty "tuple", V.ty "list"])) b ys ∨ SqT K (upd H tp (.tup [V.ty "tuple", V.ty "list"])) b ys) ∧
        DpAll K (upd H tp (.tup [V.ty "tuple", V.ty "list"])) xs ds ∧ DpAll K (upd H tp (.tup [V.ty "tuple", V.ty "list"])) ys ds ∧ n = n' + 1 ∧ ∀ z ∈ ds, Sm n' z := by
      cases n with
      | zero =>
        have : isSeq d = false := hsm
        rw [hs] at this
        cases this
      | succ n' =>
        cases hx1 with
        | lst h1 h2 =>
          cases hy1 with
          | lst h3 h4 => exact ⟨_, _, _, _, _, n', rfl, rfl, hsm.1, .inl h1, .inl h3, h2, h4, rfl, hsm.2⟩
        | tup h1 h2 =>
          cases hy1 with
          | tup h3 h4 => exact ⟨_, _, _, _, _, n', rfl, rfl, hsm.1, .inr h1, .inr h3, h2, h4, rfl, hsm.2⟩
        | non => cases hs
        | bl _ => cases hs
        | int _ => cases hs
        | str _ => cases hs
    have hxl := DpAll.length hax
    have hyl := DpAll.length hay
    refine ⟨_, rfl, (by show 2 ≤ sizeLine; decide), fun tp2 htp2 => ⟨_, d, tp2, rfl, upd_same, Dp.same (Same.new htp2) hx1, _, rfl, ?_⟩⟩
    rw [hs]
    refine iteF ?_
    have S2 := Same.new (o := .tup [V.ty "tuple", V.ty "list"]) htp2
    refine ⟨_, rfl, _, d, rfl, Dp.same S2 hx1, _, rfl, _, d, rfl, Dp.same S2 hy1, rfl, _, rfl, ?_⟩
    rw [decide_eq_true rfl]
    refine iteF ?_
    -- len(actual) != len(due)
    have seq2 : ∀ {H' : Hp} {c : Addr} {zs : List V}, Same (upd H tp (.tup [V.ty "tuple", V.ty "list"])) H' → (SqL K (upd H tp (.tup [V.ty "tuple", V.ty "list"])) c zs ∨ SqT K (upd H tp (.tup [V.ty "tuple", V.ty "list"])) c zs) → (SqL K H' c zs ∨ SqT K H' c zs) := fun e h => h.elim (fun h => .inl (L2.Same.seq e h)) (fun h => .inr (Same.tup e h))
    refine ⟨_, rfl, a, xs, rfl, seq2 S2 hxa, _, rfl, b, ys, rfl, seq2 S2 hyb, rfl, _, rfl, ?_⟩
    rw [hxl, hyl, decide_eq_true rfl]
    refine ifF rfl ?_
    -- for k in range(len(due))
    refine ⟨_, rfl, b, ys, rfl, seq2 S2 hyb, _, rfl, by omega, by omega, for_it (walk_range (lo := 0) (n := ((ys.length : Nat) : Int).toNat))
      (fun i σ' H' => (∃ o, σ' = [some (.ref a), some (.ref b), o]) ∧ Same (upd H tp (.tup [V.ty "tuple", V.ty "list"])) H') ?_ (fun _ _ _ _ _ => trivial) ?_ ?_⟩
    · exact ⟨⟨_, rfl⟩, S2⟩
    · rintro i x' σ' H1 H2 hi ⟨⟨o, rfl⟩, hS⟩ ⟨rfl, rfl⟩
      have hi : i < ds.length := by omega
      have ei : (0 : Int) + (i : Nat) = (i : Int) := by omega
      obtain ⟨u, hu, hdu⟩ := DpAll.get hax (i := i) (List.getElem?_eq_getElem hi)
      obtain ⟨v, hv, hdv⟩ := DpAll.get hay (i := i) (List.getElem?_eq_getElem hi)
      have ix : ∀ {c : Addr} {zs : List V} {v : V} {Q : VK}, (SqL K (upd H tp (.tup [V.ty "tuple", V.ty "list"])) c zs ∨ SqT K (upd H tp (.tup [V.ty "tuple", V.ty "list"])) c zs) → zs[i]? = some v → Q v H2 → rIx K (.ref c) (.int ((0 : Int) + (i : Nat))) H2 Q := fun {c zs v Q} h hz hq =>
        (seq2 hS h).elim (fun h => .inl ⟨c, zs, _, v, rfl, rfl, h, at_of ei hz, hq⟩) (fun h => .inr (.inl ⟨c, zs, _, v, rfl, rfl, h, at_of ei hz, hq⟩))
      refine ⟨_, rfl, _, rfl, ?_⟩
      refine ix hxa hu ?_
      refine ⟨_, rfl, _, rfl, ?_⟩
      refine ix hyb hv ?_
      subst hn
      refine ⟨u, v, ds[i], rfl, Dp.same hS hdu, Dp.same hS hdv, hsm' _ (List.getElem_mem hi), fun H' hS' => ⟨_, rfl, ?_⟩⟩
      refine ifF rfl ?_
      exact ⟨⟨_, rfl⟩, hS.trans hS'⟩
    · rintro σ' H1 ⟨⟨o, rfl⟩, hS⟩
      exact q _ (S1.trans hS)
theorem ok_same (T : Txt K mg) : ∀ n, FnOk P w K mg base CX0 (n + 1) (He.ga K "_law_same") (fdA K (He.ga K "_law_same")) ["_law_actual", "_law_due"] (sp_law_same K n)
  | 0 => same_zero T
  | n + 1 => same_step T n (ok_same T n)
theorem ok_law_same (T : Txt K mg) : FnOk P w K mg base CX0 9 (He.ga K "_law_same") (fdA K (He.ga K "_law_same")) ["_law_actual", "_law_due"] (sp_law_same K 8) := ok_same T 8
end
end U3


namespace U3
open PySem PySem.Spec PyProof.Rows L2
section
variable {P : Program} {w : World} {K : PySem.W.Frag} {mg : Str → Option Value} {base : Heap}
/-! calls with keywords alone -/
theorem kbN {x qual : Str} {params : Arguments} {body : List Stmt} {scope : Scope} {kws : List (Str × V)} {f : Addr} {fd : FuncData} {ps ks : List Str} {g : List Value → List Value → List Value} {gV : List V → List V → List V} (F : FunD K x qual params body scope [] kws f fd)
    (h : ∀ (kV doc pm : Value) (an : Option Addr) (cdv ct : Value) (us ws : List Value), (g us ws).length = ps.length → bindArgs (PySem.W.fnOf x qual params body scope .none kV doc pm an cdv ct) ⟨us, ks.zip ws⟩ = pure (ps.zip (g us ws)))
    (r : ∀ {vs : List V} {us : List Value} {zs : List V} {ws : List Value}, Vals vs us → Vals zs ws → Vals (gV vs zs) (g us ws)) : KBinds K fd ps ks g gV := by
  obtain ⟨oc, od, dV, kV, doc, pm, an, cdv, ct, osl, rfl, lk, hcd, hD, hK⟩ := F.ex
  rcases hD with ⟨_, rfl⟩ | ⟨e, _⟩
  · exact ⟨fun s us ws _ hl => .of_eq (h kV doc pm an cdv ct us ws hl), r⟩
  · exact absurd rfl e
section
variable {α : Type}
def q2 : List α → List α → List α
  | [], [a, b] => [b, a]
  | _, _ => []
def q3a : List α → List α → List α
  | [], [a, b, c] => [c, b, a]
  | _, _ => []
def q3b : List α → List α → List α
  | [], [a, b, c] => [c, a, b]
  | _, _ => []
def q3c : List α → List α → List α
  | [], [a, b, c] => [b, c, a]
  | _, _ => []
def q4 : List α → List α → List α
  | [], [a, b, c, d] => [d, c, b, a]
  | _, _ => []
theorem q2_inv {us ws : List α} (h : (q2 us ws).length = 2) : ∃ a b, us = [] ∧ ws = [a, b] := by
  unfold q2 at h
  split at h
  · exact ⟨_, _, rfl, rfl⟩
  · cases h
theorem q3a_inv {us ws : List α} (h : (q3a us ws).length = 3) : ∃ a b c, us = [] ∧ ws = [a, b, c] := by
  unfold q3a at h
  split at h
  · exact ⟨_, _, _, rfl, rfl⟩
  · cases h
theorem q3b_inv {us ws : List α} (h : (q3b us ws).length = 3) : ∃ a b c, us = [] ∧ ws = [a, b, c] := by
  unfold q3b at h
  split at h
  · exact ⟨_, _, _, rfl, rfl⟩
  · cases h
theorem q3c_inv {us ws : List α} (h : (q3c us ws).length = 3) : ∃ a b c, us = [] ∧ ws = [a, b, c] := by
  unfold q3c at h
  split at h
  · exact ⟨_, _, _, rfl, rfl⟩
  · cases h
theorem q4_inv {us ws : List α} (h : (q4 us ws).length = 4) : ∃ a b c d, us = [] ∧ ws = [a, b, c, d] := by
  unfold q4 at h
  split at h
  · exact ⟨_, _, _, _, rfl, rfl⟩
  · cases h
end
theorem q2_rel {vs : List V} {us : List Value} {zs : List V} {ws : List Value} (h1 : Vals vs us) (h2 : Vals zs ws) : Vals (q2 vs zs) (q2 us ws) := by
  cases h1 with
  | cons _ _ => exact .nil
  | nil =>
    cases h2 with
    | nil => exact .nil
    | cons a r => cases r with
      | nil => exact .nil
      | cons b r => cases r with
        | nil => exact .cons b (.cons a .nil)
        | cons _ _ => exact .nil
theorem q3a_rel {vs : List V} {us : List Value} {zs : List V} {ws : List Value} (h1 : Vals vs us) (h2 : Vals zs ws) : Vals (q3a vs zs) (q3a us ws) := by
  cases h1 with
  | cons _ _ => exact .nil
  | nil =>
    cases h2 with
    | nil => exact .nil
    | cons a r => cases r with
      | nil => exact .nil
      | cons b r => cases r with
        | nil => exact .nil
        | cons c r => cases r with
          | nil => exact .cons c (.cons b (.cons a .nil))
          | cons _ _ => exact .nil
theorem q3b_rel {vs : List V} {us : List Value} {zs : List V} {ws : List Value} (h1 : Vals vs us) (h2 : Vals zs ws) : Vals (q3b vs zs) (q3b us ws) := by
  cases h1 with
  | cons _ _ => exact .nil
  | nil =>
    cases h2 with
    | nil => exact .nil
    | cons a r => cases r with
      | nil => exact .nil
      | cons b r => cases r with
        | nil => exact .nil
        | cons c r => cases r with
          | nil => exact .cons c (.cons a (.cons b .nil))
          | cons _ _ => exact .nil
theorem q3c_rel {vs : List V} {us : List Value} {zs : List V} {ws : List Value} (h1 : Vals vs us) (h2 : Vals zs ws) : Vals (q3c vs zs) (q3c us ws) := by
  cases h1 with
  | cons _ _ => exact .nil
  | nil =>
    cases h2 with
    | nil => exact .nil
    | cons a r => cases r with
      | nil => exact .nil
      | cons b r => cases r with
        | nil => exact .nil
        | cons c r => cases r with
          | nil => exact .cons b (.cons c (.cons a .nil))
          | cons _ _ => exact .nil
theorem q4_rel {vs : List V} {us : List Value} {zs : List V} {ws : List Value} (h1 : Vals vs us) (h2 : Vals zs ws) : Vals (q4 vs zs) (q4 us ws) := by
  cases h1 with
  | cons _ _ => exact .nil
  | nil =>
    cases h2 with
    | nil => exact .nil
    | cons a r => cases r with
      | nil => exact .nil
      | cons b r => cases r with
        | nil => exact .nil
        | cons c r => cases r with
          | nil => exact .nil
          | cons d r => cases r with
            | nil => exact .cons d (.cons c (.cons b (.cons a .nil)))
            | cons _ _ => exact .nil
theorem kb_round_of_hp (T : Txt K mg) : KBinds K (fdA K (He.ga K "round_of")) ["program", "hop"] ["hop", "program"] q2 q2 := kbN T.F_round_of (fun kV doc pm an cdv ct us ws hl => by
  obtain ⟨a, b, rfl, rfl⟩ := q2_inv hl
  rfl) q2_rel
theorem kb_told_spans_mp (T : Txt K mg) : KBinds K (fdA K (He.ga K "told_spans")) ["program", "many"] ["many", "program"] q2 q2 := kbN T.F_told_spans (fun kV doc pm an cdv ct us ws hl => by
  obtain ⟨a, b, rfl, rfl⟩ := q2_inv hl
  rfl) q2_rel
theorem kb_right_forever_hwp (T : Txt K mg) : KBinds K (fdA K (He.ga K "right_forever")) ["program", "width", "hop"] ["hop", "width", "program"] q3a q3a := kbN T.F_right_forever (fun kV doc pm an cdv ct us ws hl => by
  obtain ⟨a, b, c, rfl, rfl⟩ := q3a_inv hl
  rfl) q3a_rel
theorem kb_wrong_step_whp (T : Txt K mg) : KBinds K (fdA K (He.ga K "wrong_step")) ["program", "width", "hop"] ["width", "hop", "program"] q3b q3b := kbN T.F_wrong_step (fun kV doc pm an cdv ct us ws hl => by
  obtain ⟨a, b, c, rfl, rfl⟩ := q3b_inv hl
  rfl) q3b_rel
theorem kb_wrong_told_hpw (T : Txt K mg) : KBinds K (fdA K (He.ga K "wrong_told")) ["program", "width", "hop"] ["hop", "program", "width"] q3c q3c := kbN T.F_wrong_told (fun kV doc pm an cdv ct us ws hl => by
  obtain ⟨a, b, c, rfl, rfl⟩ := q3c_inv hl
  rfl) q3c_rel
theorem kb_lets_wrong_thwp (T : Txt K mg) : KBinds K (fdA K (He.ga K "lets_wrong")) ["program", "width", "hop", "thing"] ["thing", "hop", "width", "program"] q4 q4 := kbN T.F_lets_wrong (fun kV doc pm an cdv ct us ws hl => by
  obtain ⟨a, b, c, d, rfl, rfl⟩ := q4_inv hl
  rfl) q4_rel
-- slots: 0:which 1:program 2:width 3:hop 4:more 5:e | cells: []
theorem sc_law_call : FnScope ["_law_which", "_law_program", "_law_width", "_law_hop", "_law_more", "e"] ["_law_which", "_law_program", "_law_width", "_law_hop", "_law_more"] (defScope s_law_call) := ⟨rfl, rfl, rfl, by decide +kernel, rfl, by decide +kernel, by decide +kernel⟩
end
end U3


namespace U3
open PySem PySem.Spec PyProof.Rows L2
section
variable {P : Program} {w : World} {K : PySem.W.Frag} {mg : Str → Option Value} {base : Heap}
/-! _law_call(which, program, width, hop, more) -/
theorem lk_word (v k : V) : List.lookup (Str.ofString "word") (errFs v k) = some v := by rfl
theorem lk_at (v k : V) : List.lookup (Str.ofString "at") (errFs v k) = some k := by rfl
theorem seq_fn {f : TS} {u : TS} {D : Ends} {σ : L2.St} {H : Hp} (h : f { D with nx := u D } σ H) : tSeq f u D σ H := h
def errD (k : Int) (word : Str) : PyData := .list [.int k, .str word, .int (-1)]
def optD : Option Nat → PyData
  | none => .none
  | some s => .int s
theorem dp_opt {H : Hp} : ∀ o : Option Nat, Dp K H (optV o) (optD o)
  | none => .non
  | some _ => .int _
/-- the cases of judged_kinds, R what is wished of the data given back -/
def JW (dz dx dy : PyData) (R : PyData → Prop) (ok : Prop) : Prop :=
  (progD dz = false ∧ R (errD 1 "program")) ∨ (progD dz = true ∧ posD dx = false ∧ R (errD 1 "width")) ∨ (progD dz = true ∧ posD dx = true ∧ posD dy = false ∧ R (errD 1 "hop")) ∨ (progD dz = true ∧ posD dx = true ∧ posD dy = true ∧ ok)
def CallW (K : PySem.W.Frag) (m : Nat) (dz dx dy du : PyData) (R : PyData → Prop) : Prop := match m with
  | 0 => JW dz (.int 1) dy R (∃ p hop, dz = toD p ∧ dy = .int (hop : Nat) ∧ Fit p 1 hop ∧ R (.list [.int 0, .int (Nat.lcm p.phases.length hop : Nat)]))
  | 1 => (progD dz = false ∧ R (errD 1 "program")) ∨ (progD dz = true ∧ isN du = false ∧ R (errD 1 "many")) ∨ ∃ p many, dz = toD p ∧ du = .int (many : Nat) ∧ WF p ∧ many ≤ 10000 ∧ R (.list [.int 0, .tuple (tolds p many)])
  | 2 => JW dz dx dy R (∃ p width hop, dz = toD p ∧ dx = .int (width : Nat) ∧ dy = .int (hop : Nat) ∧ Fit p width hop ∧ R (.list [.int 0, .bool (firstWrong p width hop).isNone]))
  | 3 => JW dz dx dy R (∃ p width hop, dz = toD p ∧ dx = .int (width : Nat) ∧ dy = .int (hop : Nat) ∧ Fit p width hop ∧ R (.list [.int 0, optD (firstWrong p width hop)]))
  | 4 => JW dz dx dy R (∃ p width hop, dz = toD p ∧ dx = .int (width : Nat) ∧ dy = .int (hop : Nat) ∧ Fit p width hop ∧ R (.list [.int 0, wrongTold p width hop]))
  | _ => JW dz dx dy R (∃ p width hop, dz = toD p ∧ dx = .int (width : Nat) ∧ dy = .int (hop : Nat) ∧ Fit p width hop ∧ (stepOk width hop du = false → R (errD 2 "step")) ∧ (stepOk width hop du = true → right p width (stepAt p width hop du) = true → R (errD 2 "right")) ∧
    (stepOk width hop du = true → right p width (stepAt p width hop du) = false → R (.list [.int 0, dueV width (intOf du)])))
def sp_call (K : PySem.W.Frag) (i : Int) (m : Nat) : Sp := fun vs H Q _ => ∃ (z x y u : V) (dz dx dy du : PyData), vs = [.int i, z, x, y, u] ∧ Dp K H z dz ∧ Dp K H x dx ∧ Dp K H y dy ∧ Dp K H u du ∧ CallW K m dz dx dy du (fun d => ∀ v H', Same H H' → Dp K H' v d → Q v H')
theorem ok_call_0 (T : Txt K mg) : FnOk P w K mg base CX0 11 (He.ga K "_law_call") (fdA K (He.ga K "_law_call")) ["_law_which", "_law_program", "_law_width", "_law_hop", "_law_more"] (sp_call K 0 0) := by
  refine T.F_law_call.ok sc_law_call (fun vs H Q E h => by obtain ⟨z, x, y, u, dz, dx, dy, du, rfl, _⟩ := h; rfl) (fun cdv A outer s H vs Q E hr h => ⟨_, PSs.nox ((pss_cons (ps_try_manyA (i := 5) rfl rfl sc_law_call.nd rfl rfl takes0 (fun W pn xe tk _ => (pss_cons (ps_if (pt_cmpR op_eq (pv 0) pe_int (nomark _))
(pss_cons (ps_ret (pe_lst (pa_cons pe_int (pa_cons (pe_callS (E := WE W) (ok_round_of T) (hr.mono (by decide)) (by rfl) T.g_round_of T.F_round_of.kp T.b_round_of (fun σ => passAt tk σ) (pa_cons (pv 1) (pa_cons (pv 3) pa_nil))) pa_nil))))
pss_nil)
pss_nil)
(pss_cons (ps_if (pt_cmpR op_eq (pv 0) pe_int (nomark _))
(pss_cons (ps_ret (pe_lst (pa_cons pe_int (pa_cons (pe_callS (E := WE W) (ok_told_spans T) (hr.mono (by decide)) (by rfl) T.g_told_spans T.F_told_spans.kp T.b_told_spans (fun σ => passAt tk σ) (pa_cons (pv 1) (pa_cons (pv 4) pa_nil))) pa_nil))))
pss_nil)
pss_nil)
(pss_cons (ps_if (pt_cmpR op_eq (pv 0) pe_int (nomark _))
(pss_cons (ps_ret (pe_lst (pa_cons pe_int (pa_cons (pe_callS (E := WE W) (ok_right_forever T) (hr.mono (by decide)) (by rfl) T.g_right_forever T.F_right_forever.kp T.b_right_forever (fun σ => passAt tk σ) (pa_cons (pv 1) (pa_cons (pv 2) (pa_cons (pv 3) pa_nil)))) pa_nil))))
pss_nil)
pss_nil)
(pss_cons (ps_if (pt_cmpR op_eq (pv 0) pe_int (nomark _))
(pss_cons (ps_ret (pe_lst (pa_cons pe_int (pa_cons (pe_callS (E := WE W) (ok_wrong_step T) (hr.mono (by decide)) (by rfl) T.g_wrong_step T.F_wrong_step.kp T.b_wrong_step (fun σ => passAt tk σ) (pa_cons (pv 1) (pa_cons (pv 2) (pa_cons (pv 3) pa_nil)))) pa_nil))))
pss_nil)
pss_nil)
(pss_cons (ps_if (pt_cmpR op_eq (pv 0) pe_int (nomark _))
(pss_cons (ps_ret (pe_lst (pa_cons pe_int (pa_cons (pe_callS (E := WE W) (ok_wrong_told T) (hr.mono (by decide)) (by rfl) T.g_wrong_told T.F_wrong_told.kp T.b_wrong_told (fun σ => passAt tk σ) (pa_cons (pv 1) (pa_cons (pv 2) (pa_cons (pv 3) pa_nil)))) pa_nil))))
pss_nil)
pss_nil)
(pss_cons (ps_if (pt_cmpR op_eq (pv 0) pe_int (nomark _))
(pss_cons (ps_ret (pe_lst (pa_cons pe_int (pa_cons (pe_callS (E := WE W) (ok_lets_wrong T) (hr.mono (by decide)) (by rfl) T.g_lets_wrong T.F_lets_wrong.kp T.b_lets_wrong (fun σ => passAt tk σ) (pa_cons (pv 1) (pa_cons (pv 2) (pa_cons (pv 3) (pa_cons (pv 4) pa_nil))))) pa_nil))))
pss_nil)
pss_nil)
(pss_cons (ps_if (pt_cmpR op_eq (pv 0) pe_int (nomark _))
(pss_cons (ps_ret (pe_lst (pa_cons pe_int (pa_cons (pe_callK0 (E := WE W) (ok_round_of T) (hr.mono (by decide)) (by rfl) T.g_round_of T.F_round_of.kp (kb_round_of_hp T) (fun σ => passAt tk σ) (pk_cons (pv 3) (pk_cons (pv 1) pk_nil))) pa_nil))))
pss_nil)
pss_nil)
(pss_cons (ps_if (pt_cmpR op_eq (pv 0) pe_int (nomark _))
(pss_cons (ps_ret (pe_lst (pa_cons pe_int (pa_cons (pe_callK0 (E := WE W) (ok_told_spans T) (hr.mono (by decide)) (by rfl) T.g_told_spans T.F_told_spans.kp (kb_told_spans_mp T) (fun σ => passAt tk σ) (pk_cons (pv 4) (pk_cons (pv 1) pk_nil))) pa_nil))))
pss_nil)
pss_nil)
(pss_cons (ps_if (pt_cmpR op_eq (pv 0) pe_int (nomark _))
(pss_cons (ps_ret (pe_lst (pa_cons pe_int (pa_cons (pe_callK0 (E := WE W) (ok_right_forever T) (hr.mono (by decide)) (by rfl) T.g_right_forever T.F_right_forever.kp (kb_right_forever_hwp T) (fun σ => passAt tk σ) (pk_cons (pv 3) (pk_cons (pv 2) (pk_cons (pv 1) pk_nil)))) pa_nil))))
pss_nil)
pss_nil)
(pss_cons (ps_if (pt_cmpR op_eq (pv 0) pe_int (nomark _))
(pss_cons (ps_ret (pe_lst (pa_cons pe_int (pa_cons (pe_callK0 (E := WE W) (ok_wrong_step T) (hr.mono (by decide)) (by rfl) T.g_wrong_step T.F_wrong_step.kp (kb_wrong_step_whp T) (fun σ => passAt tk σ) (pk_cons (pv 2) (pk_cons (pv 3) (pk_cons (pv 1) pk_nil)))) pa_nil))))
pss_nil)
pss_nil)
(pss_cons (ps_if (pt_cmpR op_eq (pv 0) pe_int (nomark _))
(pss_cons (ps_ret (pe_lst (pa_cons pe_int (pa_cons (pe_callK0 (E := WE W) (ok_wrong_told T) (hr.mono (by decide)) (by rfl) T.g_wrong_told T.F_wrong_told.kp (kb_wrong_told_hpw T) (fun σ => passAt tk σ) (pk_cons (pv 3) (pk_cons (pv 1) (pk_cons (pv 2) pk_nil)))) pa_nil))))
pss_nil)
pss_nil)
(pss_cons (ps_ret (pe_lst (pa_cons pe_int (pa_cons (pe_callK0 (E := WE W) (ok_lets_wrong T) (hr.mono (by decide)) (by rfl) T.g_lets_wrong T.F_lets_wrong.kp (kb_lets_wrong_thwp T) (fun σ => passAt tk σ) (pk_cons (pv 4) (pk_cons (pv 3) (pk_cons (pv 2) (pk_cons (pv 1) pk_nil))))) pa_nil))))
pss_nil))))))))))))) (.cons ⟨rfl, by decide, .inl T.g_NotUsable⟩ (fun a oe cls d pn hz hf => (pss_cons (ps_ret (pe_lst (pa_cons pe_int (pa_cons (pe_xf T.errN.xf T.errN.nw hz hf (pv 5)) (pa_cons (pe_xf T.errN.xf T.errN.na hz hf (pv 5)) pa_nil)))))
pss_nil)) (.cons ⟨rfl, by decide, .inl T.g_InvalidPaper⟩ (fun a oe cls d pn hz hf => (pss_cons (ps_ret (pe_lst (pa_cons pe_int (pa_cons (pe_xf T.errP.xf T.errP.nw hz hf (pv 5)) (pa_cons (pe_xf T.errP.xf T.errP.na hz hf (pv 5)) pa_nil)))))
pss_nil)) .nil)))
pss_nil)), ?_⟩)
  obtain ⟨z, x, y, u, dz, dx, dy, du, rfl, hz, hx, hy, hu, j⟩ := h
  refine seq_fn ?_
  generalize hW : wManyA _ 5 _ _ _ = W
  have hN : ∀ word, (∀ v H', Same H H' → Dp K H' v (errD 1 word) → Q v H') → ErrN K word H (WE W (L2.start ["_law_which", "_law_program", "_law_width", "_law_hop", "_law_more", "e"] [.int 0, z, x, y, u])) := fun word r H' d hS hd => by
    show W _ _ _ _
    rw [← hW]
    exact ⟨true, T.mNN, fun _ a ha => ⟨_, rfl, rfl, rfl, _, _, _, rfl, hd, lk_word _ _, _, rfl, rfl, rfl, _, _, _, rfl, hd, lk_at _ _, (by show 3 ≤ sizeLine; decide), fun l hl => r _ _ (hS.trans (Same.new hl)) (.lst (SqL.of upd_same) (.cons (.int _) (.cons (.str _) (.cons (.int _) .nil))))⟩, fun h => by cases h⟩
  have hP : ∀ word, (∀ v H', Same H H' → Dp K H' v (errD 2 word) → Q v H') → ErrP K word H (WE W (L2.start ["_law_which", "_law_program", "_law_width", "_law_hop", "_law_more", "e"] [.int 0, z, x, y, u])) := fun word r H' d hS hd => by
    show W _ _ _ _
    rw [← hW]
    exact ⟨false, T.mPN, (fun h => by cases h), fun _ => ⟨true, T.mPP, fun _ a ha => ⟨_, rfl, rfl, rfl, _, _, _, rfl, hd, lk_word _ _, _, rfl, rfl, rfl, _, _, _, rfl, hd, lk_at _ _, (by show 3 ≤ sizeLine; decide), fun l hl => r _ _ (hS.trans (Same.new hl)) (.lst (SqL.of upd_same) (.cons (.int _) (.cons (.str _) (.cons (.int _) .nil))))⟩, fun h => by cases h⟩⟩
  clear hW
  refine ⟨_, rfl, rfl, _, rfl, ?_⟩
  refine ifT (by decide) ?_
  refine ⟨_, rfl, _, rfl, z, y, dz, dy, rfl, hz, hy, ?_⟩
  rcases j with ⟨j0, r⟩ | ⟨j0, j1, r⟩ | ⟨j0, j1, j2, r⟩ | ⟨j0, j1, j2, p, hop, rfl, rfl, F, r⟩
  · exact .inl ⟨j0, hN _ r⟩
  · exact .inr (.inl ⟨j0, j1, hN _ r⟩)
  · exact .inr (.inr (.inl ⟨j0, j1, j2, hN _ r⟩))
  · exact .inr (.inr (.inr ⟨j0, j1, j2, p, hop, rfl, rfl, F, fun H' hS => ⟨(by show 2 ≤ sizeLine; decide), fun l hl => r _ _ (hS.trans (Same.new hl)) (.lst (SqL.of upd_same) (.cons (.int _) (.cons (.int _) .nil)))⟩⟩))
theorem ok_call_6 (T : Txt K mg) : FnOk P w K mg base CX0 11 (He.ga K "_law_call") (fdA K (He.ga K "_law_call")) ["_law_which", "_law_program", "_law_width", "_law_hop", "_law_more"] (sp_call K 6 0) := by
  refine T.F_law_call.ok sc_law_call (fun vs H Q E h => by obtain ⟨z, x, y, u, dz, dx, dy, du, rfl, _⟩ := h; rfl) (fun cdv A outer s H vs Q E hr h => ⟨_, PSs.nox ((pss_cons (ps_try_manyA (i := 5) rfl rfl sc_law_call.nd rfl rfl takes0 (fun W pn xe tk _ => (pss_cons (ps_if (pt_cmpR op_eq (pv 0) pe_int (nomark _))
(pss_cons (ps_ret (pe_lst (pa_cons pe_int (pa_cons (pe_callS (E := WE W) (ok_round_of T) (hr.mono (by decide)) (by rfl) T.g_round_of T.F_round_of.kp T.b_round_of (fun σ => passAt tk σ) (pa_cons (pv 1) (pa_cons (pv 3) pa_nil))) pa_nil))))
pss_nil)
pss_nil)
(pss_cons (ps_if (pt_cmpR op_eq (pv 0) pe_int (nomark _))
(pss_cons (ps_ret (pe_lst (pa_cons pe_int (pa_cons (pe_callS (E := WE W) (ok_told_spans T) (hr.mono (by decide)) (by rfl) T.g_told_spans T.F_told_spans.kp T.b_told_spans (fun σ => passAt tk σ) (pa_cons (pv 1) (pa_cons (pv 4) pa_nil))) pa_nil))))
pss_nil)
pss_nil)
(pss_cons (ps_if (pt_cmpR op_eq (pv 0) pe_int (nomark _))
(pss_cons (ps_ret (pe_lst (pa_cons pe_int (pa_cons (pe_callS (E := WE W) (ok_right_forever T) (hr.mono (by decide)) (by rfl) T.g_right_forever T.F_right_forever.kp T.b_right_forever (fun σ => passAt tk σ) (pa_cons (pv 1) (pa_cons (pv 2) (pa_cons (pv 3) pa_nil)))) pa_nil))))
pss_nil)
pss_nil)
(pss_cons (ps_if (pt_cmpR op_eq (pv 0) pe_int (nomark _))
(pss_cons (ps_ret (pe_lst (pa_cons pe_int (pa_cons (pe_callS (E := WE W) (ok_wrong_step T) (hr.mono (by decide)) (by rfl) T.g_wrong_step T.F_wrong_step.kp T.b_wrong_step (fun σ => passAt tk σ) (pa_cons (pv 1) (pa_cons (pv 2) (pa_cons (pv 3) pa_nil)))) pa_nil))))
pss_nil)
pss_nil)
(pss_cons (ps_if (pt_cmpR op_eq (pv 0) pe_int (nomark _))
(pss_cons (ps_ret (pe_lst (pa_cons pe_int (pa_cons (pe_callS (E := WE W) (ok_wrong_told T) (hr.mono (by decide)) (by rfl) T.g_wrong_told T.F_wrong_told.kp T.b_wrong_told (fun σ => passAt tk σ) (pa_cons (pv 1) (pa_cons (pv 2) (pa_cons (pv 3) pa_nil)))) pa_nil))))
pss_nil)
pss_nil)
(pss_cons (ps_if (pt_cmpR op_eq (pv 0) pe_int (nomark _))
(pss_cons (ps_ret (pe_lst (pa_cons pe_int (pa_cons (pe_callS (E := WE W) (ok_lets_wrong T) (hr.mono (by decide)) (by rfl) T.g_lets_wrong T.F_lets_wrong.kp T.b_lets_wrong (fun σ => passAt tk σ) (pa_cons (pv 1) (pa_cons (pv 2) (pa_cons (pv 3) (pa_cons (pv 4) pa_nil))))) pa_nil))))
pss_nil)
pss_nil)
(pss_cons (ps_if (pt_cmpR op_eq (pv 0) pe_int (nomark _))
(pss_cons (ps_ret (pe_lst (pa_cons pe_int (pa_cons (pe_callK0 (E := WE W) (ok_round_of T) (hr.mono (by decide)) (by rfl) T.g_round_of T.F_round_of.kp (kb_round_of_hp T) (fun σ => passAt tk σ) (pk_cons (pv 3) (pk_cons (pv 1) pk_nil))) pa_nil))))
pss_nil)
pss_nil)
(pss_cons (ps_if (pt_cmpR op_eq (pv 0) pe_int (nomark _))
(pss_cons (ps_ret (pe_lst (pa_cons pe_int (pa_cons (pe_callK0 (E := WE W) (ok_told_spans T) (hr.mono (by decide)) (by rfl) T.g_told_spans T.F_told_spans.kp (kb_told_spans_mp T) (fun σ => passAt tk σ) (pk_cons (pv 4) (pk_cons (pv 1) pk_nil))) pa_nil))))
pss_nil)
pss_nil)
(pss_cons (ps_if (pt_cmpR op_eq (pv 0) pe_int (nomark _))
(pss_cons (ps_ret (pe_lst (pa_cons pe_int (pa_cons (pe_callK0 (E := WE W) (ok_right_forever T) (hr.mono (by decide)) (by rfl) T.g_right_forever T.F_right_forever.kp (kb_right_forever_hwp T) (fun σ => passAt tk σ) (pk_cons (pv 3) (pk_cons (pv 2) (pk_cons (pv 1) pk_nil)))) pa_nil))))
pss_nil)
pss_nil)
(pss_cons (ps_if (pt_cmpR op_eq (pv 0) pe_int (nomark _))
(pss_cons (ps_ret (pe_lst (pa_cons pe_int (pa_cons (pe_callK0 (E := WE W) (ok_wrong_step T) (hr.mono (by decide)) (by rfl) T.g_wrong_step T.F_wrong_step.kp (kb_wrong_step_whp T) (fun σ => passAt tk σ) (pk_cons (pv 2) (pk_cons (pv 3) (pk_cons (pv 1) pk_nil)))) pa_nil))))
pss_nil)
pss_nil)
(pss_cons (ps_if (pt_cmpR op_eq (pv 0) pe_int (nomark _))
(pss_cons (ps_ret (pe_lst (pa_cons pe_int (pa_cons (pe_callK0 (E := WE W) (ok_wrong_told T) (hr.mono (by decide)) (by rfl) T.g_wrong_told T.F_wrong_told.kp (kb_wrong_told_hpw T) (fun σ => passAt tk σ) (pk_cons (pv 3) (pk_cons (pv 1) (pk_cons (pv 2) pk_nil)))) pa_nil))))
pss_nil)
pss_nil)
(pss_cons (ps_ret (pe_lst (pa_cons pe_int (pa_cons (pe_callK0 (E := WE W) (ok_lets_wrong T) (hr.mono (by decide)) (by rfl) T.g_lets_wrong T.F_lets_wrong.kp (kb_lets_wrong_thwp T) (fun σ => passAt tk σ) (pk_cons (pv 4) (pk_cons (pv 3) (pk_cons (pv 2) (pk_cons (pv 1) pk_nil))))) pa_nil))))
pss_nil))))))))))))) (.cons ⟨rfl, by decide, .inl T.g_NotUsable⟩ (fun a oe cls d pn hz hf => (pss_cons (ps_ret (pe_lst (pa_cons pe_int (pa_cons (pe_xf T.errN.xf T.errN.nw hz hf (pv 5)) (pa_cons (pe_xf T.errN.xf T.errN.na hz hf (pv 5)) pa_nil)))))
pss_nil)) (.cons ⟨rfl, by decide, .inl T.g_InvalidPaper⟩ (fun a oe cls d pn hz hf => (pss_cons (ps_ret (pe_lst (pa_cons pe_int (pa_cons (pe_xf T.errP.xf T.errP.nw hz hf (pv 5)) (pa_cons (pe_xf T.errP.xf T.errP.na hz hf (pv 5)) pa_nil)))))
pss_nil)) .nil)))
pss_nil)), ?_⟩)
  obtain ⟨z, x, y, u, dz, dx, dy, du, rfl, hz, hx, hy, hu, j⟩ := h
  refine seq_fn ?_
  generalize hW : wManyA _ 5 _ _ _ = W
  have hN : ∀ word, (∀ v H', Same H H' → Dp K H' v (errD 1 word) → Q v H') → ErrN K word H (WE W (L2.start ["_law_which", "_law_program", "_law_width", "_law_hop", "_law_more", "e"] [.int 6, z, x, y, u])) := fun word r H' d hS hd => by
    show W _ _ _ _
    rw [← hW]
    exact ⟨true, T.mNN, fun _ a ha => ⟨_, rfl, rfl, rfl, _, _, _, rfl, hd, lk_word _ _, _, rfl, rfl, rfl, _, _, _, rfl, hd, lk_at _ _, (by show 3 ≤ sizeLine; decide), fun l hl => r _ _ (hS.trans (Same.new hl)) (.lst (SqL.of upd_same) (.cons (.int _) (.cons (.str _) (.cons (.int _) .nil))))⟩, fun h => by cases h⟩
  have hP : ∀ word, (∀ v H', Same H H' → Dp K H' v (errD 2 word) → Q v H') → ErrP K word H (WE W (L2.start ["_law_which", "_law_program", "_law_width", "_law_hop", "_law_more", "e"] [.int 6, z, x, y, u])) := fun word r H' d hS hd => by
    show W _ _ _ _
    rw [← hW]
    exact ⟨false, T.mPN, (fun h => by cases h), fun _ => ⟨true, T.mPP, fun _ a ha => ⟨_, rfl, rfl, rfl, _, _, _, rfl, hd, lk_word _ _, _, rfl, rfl, rfl, _, _, _, rfl, hd, lk_at _ _, (by show 3 ≤ sizeLine; decide), fun l hl => r _ _ (hS.trans (Same.new hl)) (.lst (SqL.of upd_same) (.cons (.int _) (.cons (.str _) (.cons (.int _) .nil))))⟩, fun h => by cases h⟩⟩
  clear hW
  refine ⟨_, rfl, rfl, _, rfl, ?_⟩
  refine ifF (by decide) ?_
  refine ⟨_, rfl, rfl, _, rfl, ?_⟩
  refine ifF (by decide) ?_
  refine ⟨_, rfl, rfl, _, rfl, ?_⟩
  refine ifF (by decide) ?_
  refine ⟨_, rfl, rfl, _, rfl, ?_⟩
  refine ifF (by decide) ?_
  refine ⟨_, rfl, rfl, _, rfl, ?_⟩
  refine ifF (by decide) ?_
  refine ⟨_, rfl, rfl, _, rfl, ?_⟩
  refine ifF (by decide) ?_
  refine ⟨_, rfl, rfl, _, rfl, ?_⟩
  refine ifT (by decide) ?_
  refine ⟨_, rfl, _, rfl, z, y, dz, dy, rfl, hz, hy, ?_⟩
  rcases j with ⟨j0, r⟩ | ⟨j0, j1, r⟩ | ⟨j0, j1, j2, r⟩ | ⟨j0, j1, j2, p, hop, rfl, rfl, F, r⟩
  · exact .inl ⟨j0, hN _ r⟩
  · exact .inr (.inl ⟨j0, j1, hN _ r⟩)
  · exact .inr (.inr (.inl ⟨j0, j1, j2, hN _ r⟩))
  · exact .inr (.inr (.inr ⟨j0, j1, j2, p, hop, rfl, rfl, F, fun H' hS => ⟨(by show 2 ≤ sizeLine; decide), fun l hl => r _ _ (hS.trans (Same.new hl)) (.lst (SqL.of upd_same) (.cons (.int _) (.cons (.int _) .nil)))⟩⟩))
theorem ok_call_1 (T : Txt K mg) : FnOk P w K mg base CX0 11 (He.ga K "_law_call") (fdA K (He.ga K "_law_call")) ["_law_which", "_law_program", "_law_width", "_law_hop", "_law_more"] (sp_call K 1 1) := by
  refine T.F_law_call.ok sc_law_call (fun vs H Q E h => by obtain ⟨z, x, y, u, dz, dx, dy, du, rfl, _⟩ := h; rfl) (fun cdv A outer s H vs Q E hr h => ⟨_, PSs.nox ((pss_cons (ps_try_manyA (i := 5) rfl rfl sc_law_call.nd rfl rfl takes0 (fun W pn xe tk _ => (pss_cons (ps_if (pt_cmpR op_eq (pv 0) pe_int (nomark _))
(pss_cons (ps_ret (pe_lst (pa_cons pe_int (pa_cons (pe_callS (E := WE W) (ok_round_of T) (hr.mono (by decide)) (by rfl) T.g_round_of T.F_round_of.kp T.b_round_of (fun σ => passAt tk σ) (pa_cons (pv 1) (pa_cons (pv 3) pa_nil))) pa_nil))))
pss_nil)
pss_nil)
(pss_cons (ps_if (pt_cmpR op_eq (pv 0) pe_int (nomark _))
(pss_cons (ps_ret (pe_lst (pa_cons pe_int (pa_cons (pe_callS (E := WE W) (ok_told_spans T) (hr.mono (by decide)) (by rfl) T.g_told_spans T.F_told_spans.kp T.b_told_spans (fun σ => passAt tk σ) (pa_cons (pv 1) (pa_cons (pv 4) pa_nil))) pa_nil))))
pss_nil)
pss_nil)
(pss_cons (ps_if (pt_cmpR op_eq (pv 0) pe_int (nomark _))
(pss_cons (ps_ret (pe_lst (pa_cons pe_int (pa_cons (pe_callS (E := WE W) (ok_right_forever T) (hr.mono (by decide)) (by rfl) T.g_right_forever T.F_right_forever.kp T.b_right_forever (fun σ => passAt tk σ) (pa_cons (pv 1) (pa_cons (pv 2) (pa_cons (pv 3) pa_nil)))) pa_nil))))
pss_nil)
pss_nil)
(pss_cons (ps_if (pt_cmpR op_eq (pv 0) pe_int (nomark _))
(pss_cons (ps_ret (pe_lst (pa_cons pe_int (pa_cons (pe_callS (E := WE W) (ok_wrong_step T) (hr.mono (by decide)) (by rfl) T.g_wrong_step T.F_wrong_step.kp T.b_wrong_step (fun σ => passAt tk σ) (pa_cons (pv 1) (pa_cons (pv 2) (pa_cons (pv 3) pa_nil)))) pa_nil))))
pss_nil)
pss_nil)
(pss_cons (ps_if (pt_cmpR op_eq (pv 0) pe_int (nomark _))
(pss_cons (ps_ret (pe_lst (pa_cons pe_int (pa_cons (pe_callS (E := WE W) (ok_wrong_told T) (hr.mono (by decide)) (by rfl) T.g_wrong_told T.F_wrong_told.kp T.b_wrong_told (fun σ => passAt tk σ) (pa_cons (pv 1) (pa_cons (pv 2) (pa_cons (pv 3) pa_nil)))) pa_nil))))
pss_nil)
pss_nil)
(pss_cons (ps_if (pt_cmpR op_eq (pv 0) pe_int (nomark _))
(pss_cons (ps_ret (pe_lst (pa_cons pe_int (pa_cons (pe_callS (E := WE W) (ok_lets_wrong T) (hr.mono (by decide)) (by rfl) T.g_lets_wrong T.F_lets_wrong.kp T.b_lets_wrong (fun σ => passAt tk σ) (pa_cons (pv 1) (pa_cons (pv 2) (pa_cons (pv 3) (pa_cons (pv 4) pa_nil))))) pa_nil))))
pss_nil)
pss_nil)
(pss_cons (ps_if (pt_cmpR op_eq (pv 0) pe_int (nomark _))
(pss_cons (ps_ret (pe_lst (pa_cons pe_int (pa_cons (pe_callK0 (E := WE W) (ok_round_of T) (hr.mono (by decide)) (by rfl) T.g_round_of T.F_round_of.kp (kb_round_of_hp T) (fun σ => passAt tk σ) (pk_cons (pv 3) (pk_cons (pv 1) pk_nil))) pa_nil))))
pss_nil)
pss_nil)
(pss_cons (ps_if (pt_cmpR op_eq (pv 0) pe_int (nomark _))
(pss_cons (ps_ret (pe_lst (pa_cons pe_int (pa_cons (pe_callK0 (E := WE W) (ok_told_spans T) (hr.mono (by decide)) (by rfl) T.g_told_spans T.F_told_spans.kp (kb_told_spans_mp T) (fun σ => passAt tk σ) (pk_cons (pv 4) (pk_cons (pv 1) pk_nil))) pa_nil))))
pss_nil)
pss_nil)
(pss_cons (ps_if (pt_cmpR op_eq (pv 0) pe_int (nomark _))
(pss_cons (ps_ret (pe_lst (pa_cons pe_int (pa_cons (pe_callK0 (E := WE W) (ok_right_forever T) (hr.mono (by decide)) (by rfl) T.g_right_forever T.F_right_forever.kp (kb_right_forever_hwp T) (fun σ => passAt tk σ) (pk_cons (pv 3) (pk_cons (pv 2) (pk_cons (pv 1) pk_nil)))) pa_nil))))
pss_nil)
pss_nil)
(pss_cons (ps_if (pt_cmpR op_eq (pv 0) pe_int (nomark _))
(pss_cons (ps_ret (pe_lst (pa_cons pe_int (pa_cons (pe_callK0 (E := WE W) (ok_wrong_step T) (hr.mono (by decide)) (by rfl) T.g_wrong_step T.F_wrong_step.kp (kb_wrong_step_whp T) (fun σ => passAt tk σ) (pk_cons (pv 2) (pk_cons (pv 3) (pk_cons (pv 1) pk_nil)))) pa_nil))))
pss_nil)
pss_nil)
(pss_cons (ps_if (pt_cmpR op_eq (pv 0) pe_int (nomark _))
(pss_cons (ps_ret (pe_lst (pa_cons pe_int (pa_cons (pe_callK0 (E := WE W) (ok_wrong_told T) (hr.mono (by decide)) (by rfl) T.g_wrong_told T.F_wrong_told.kp (kb_wrong_told_hpw T) (fun σ => passAt tk σ) (pk_cons (pv 3) (pk_cons (pv 1) (pk_cons (pv 2) pk_nil)))) pa_nil))))
pss_nil)
pss_nil)
(pss_cons (ps_ret (pe_lst (pa_cons pe_int (pa_cons (pe_callK0 (E := WE W) (ok_lets_wrong T) (hr.mono (by decide)) (by rfl) T.g_lets_wrong T.F_lets_wrong.kp (kb_lets_wrong_thwp T) (fun σ => passAt tk σ) (pk_cons (pv 4) (pk_cons (pv 3) (pk_cons (pv 2) (pk_cons (pv 1) pk_nil))))) pa_nil))))
pss_nil))))))))))))) (.cons ⟨rfl, by decide, .inl T.g_NotUsable⟩ (fun a oe cls d pn hz hf => (pss_cons (ps_ret (pe_lst (pa_cons pe_int (pa_cons (pe_xf T.errN.xf T.errN.nw hz hf (pv 5)) (pa_cons (pe_xf T.errN.xf T.errN.na hz hf (pv 5)) pa_nil)))))
pss_nil)) (.cons ⟨rfl, by decide, .inl T.g_InvalidPaper⟩ (fun a oe cls d pn hz hf => (pss_cons (ps_ret (pe_lst (pa_cons pe_int (pa_cons (pe_xf T.errP.xf T.errP.nw hz hf (pv 5)) (pa_cons (pe_xf T.errP.xf T.errP.na hz hf (pv 5)) pa_nil)))))
pss_nil)) .nil)))
pss_nil)), ?_⟩)
  obtain ⟨z, x, y, u, dz, dx, dy, du, rfl, hz, hx, hy, hu, j⟩ := h
  refine seq_fn ?_
  generalize hW : wManyA _ 5 _ _ _ = W
  have hN : ∀ word, (∀ v H', Same H H' → Dp K H' v (errD 1 word) → Q v H') → ErrN K word H (WE W (L2.start ["_law_which", "_law_program", "_law_width", "_law_hop", "_law_more", "e"] [.int 1, z, x, y, u])) := fun word r H' d hS hd => by
    show W _ _ _ _
    rw [← hW]
    exact ⟨true, T.mNN, fun _ a ha => ⟨_, rfl, rfl, rfl, _, _, _, rfl, hd, lk_word _ _, _, rfl, rfl, rfl, _, _, _, rfl, hd, lk_at _ _, (by show 3 ≤ sizeLine; decide), fun l hl => r _ _ (hS.trans (Same.new hl)) (.lst (SqL.of upd_same) (.cons (.int _) (.cons (.str _) (.cons (.int _) .nil))))⟩, fun h => by cases h⟩
  have hP : ∀ word, (∀ v H', Same H H' → Dp K H' v (errD 2 word) → Q v H') → ErrP K word H (WE W (L2.start ["_law_which", "_law_program", "_law_width", "_law_hop", "_law_more", "e"] [.int 1, z, x, y, u])) := fun word r H' d hS hd => by
    show W _ _ _ _
    rw [← hW]
    exact ⟨false, T.mPN, (fun h => by cases h), fun _ => ⟨true, T.mPP, fun _ a ha => ⟨_, rfl, rfl, rfl, _, _, _, rfl, hd, lk_word _ _, _, rfl, rfl, rfl, _, _, _, rfl, hd, lk_at _ _, (by show 3 ≤ sizeLine; decide), fun l hl => r _ _ (hS.trans (Same.new hl)) (.lst (SqL.of upd_same) (.cons (.int _) (.cons (.str _) (.cons (.int _) .nil))))⟩, fun h => by cases h⟩⟩
  clear hW
  refine ⟨_, rfl, rfl, _, rfl, ?_⟩
  refine ifF (by decide) ?_
  refine ⟨_, rfl, rfl, _, rfl, ?_⟩
  refine ifT (by decide) ?_
  refine ⟨_, rfl, _, rfl, z, u, dz, du, rfl, hz, hu, ?_⟩
  rcases j with ⟨j0, r⟩ | ⟨j0, j1, r⟩ | ⟨p, many, rfl, rfl, hW, hmany, r⟩
  · exact .inl ⟨j0, hN _ r⟩
  · exact .inr (.inl ⟨j0, j1, hN _ r⟩)
  · exact .inr (.inr ⟨p, many, rfl, rfl, hW, hmany, fun v H' hS hd => ⟨(by show 2 ≤ sizeLine; decide), fun l hl => r _ _ (hS.trans (Same.new hl)) (.lst (SqL.of upd_same) (.cons (.int _) (.cons (Dp.same (Same.new hl) hd) .nil)))⟩⟩)
theorem ok_call_7 (T : Txt K mg) : FnOk P w K mg base CX0 11 (He.ga K "_law_call") (fdA K (He.ga K "_law_call")) ["_law_which", "_law_program", "_law_width", "_law_hop", "_law_more"] (sp_call K 7 1) := by
  refine T.F_law_call.ok sc_law_call (fun vs H Q E h => by obtain ⟨z, x, y, u, dz, dx, dy, du, rfl, _⟩ := h; rfl) (fun cdv A outer s H vs Q E hr h => ⟨_, PSs.nox ((pss_cons (ps_try_manyA (i := 5) rfl rfl sc_law_call.nd rfl rfl takes0 (fun W pn xe tk _ => (pss_cons (ps_if (pt_cmpR op_eq (pv 0) pe_int (nomark _))
(pss_cons (ps_ret (pe_lst (pa_cons pe_int (pa_cons (pe_callS (E := WE W) (ok_round_of T) (hr.mono (by decide)) (by rfl) T.g_round_of T.F_round_of.kp T.b_round_of (fun σ => passAt tk σ) (pa_cons (pv 1) (pa_cons (pv 3) pa_nil))) pa_nil))))
pss_nil)
pss_nil)
(pss_cons (ps_if (pt_cmpR op_eq (pv 0) pe_int (nomark _))
(pss_cons (ps_ret (pe_lst (pa_cons pe_int (pa_cons (pe_callS (E := WE W) (ok_told_spans T) (hr.mono (by decide)) (by rfl) T.g_told_spans T.F_told_spans.kp T.b_told_spans (fun σ => passAt tk σ) (pa_cons (pv 1) (pa_cons (pv 4) pa_nil))) pa_nil))))
pss_nil)
pss_nil)
(pss_cons (ps_if (pt_cmpR op_eq (pv 0) pe_int (nomark _))
(pss_cons (ps_ret (pe_lst (pa_cons pe_int (pa_cons (pe_callS (E := WE W) (ok_right_forever T) (hr.mono (by decide)) (by rfl) T.g_right_forever T.F_right_forever.kp T.b_right_forever (fun σ => passAt tk σ) (pa_cons (pv 1) (pa_cons (pv 2) (pa_cons (pv 3) pa_nil)))) pa_nil))))
pss_nil)
pss_nil)
(pss_cons (ps_if (pt_cmpR op_eq (pv 0) pe_int (nomark _))
(pss_cons (ps_ret (pe_lst (pa_cons pe_int (pa_cons (pe_callS (E := WE W) (ok_wrong_step T) (hr.mono (by decide)) (by rfl) T.g_wrong_step T.F_wrong_step.kp T.b_wrong_step (fun σ => passAt tk σ) (pa_cons (pv 1) (pa_cons (pv 2) (pa_cons (pv 3) pa_nil)))) pa_nil))))
pss_nil)
pss_nil)
(pss_cons (ps_if (pt_cmpR op_eq (pv 0) pe_int (nomark _))
(pss_cons (ps_ret (pe_lst (pa_cons pe_int (pa_cons (pe_callS (E := WE W) (ok_wrong_told T) (hr.mono (by decide)) (by rfl) T.g_wrong_told T.F_wrong_told.kp T.b_wrong_told (fun σ => passAt tk σ) (pa_cons (pv 1) (pa_cons (pv 2) (pa_cons (pv 3) pa_nil)))) pa_nil))))
pss_nil)
pss_nil)
(pss_cons (ps_if (pt_cmpR op_eq (pv 0) pe_int (nomark _))
(pss_cons (ps_ret (pe_lst (pa_cons pe_int (pa_cons (pe_callS (E := WE W) (ok_lets_wrong T) (hr.mono (by decide)) (by rfl) T.g_lets_wrong T.F_lets_wrong.kp T.b_lets_wrong (fun σ => passAt tk σ) (pa_cons (pv 1) (pa_cons (pv 2) (pa_cons (pv 3) (pa_cons (pv 4) pa_nil))))) pa_nil))))
pss_nil)
pss_nil)
(pss_cons (ps_if (pt_cmpR op_eq (pv 0) pe_int (nomark _))
(pss_cons (ps_ret (pe_lst (pa_cons pe_int (pa_cons (pe_callK0 (E := WE W) (ok_round_of T) (hr.mono (by decide)) (by rfl) T.g_round_of T.F_round_of.kp (kb_round_of_hp T) (fun σ => passAt tk σ) (pk_cons (pv 3) (pk_cons (pv 1) pk_nil))) pa_nil))))
pss_nil)
pss_nil)
(pss_cons (ps_if (pt_cmpR op_eq (pv 0) pe_int (nomark _))
(pss_cons (ps_ret (pe_lst (pa_cons pe_int (pa_cons (pe_callK0 (E := WE W) (ok_told_spans T) (hr.mono (by decide)) (by rfl) T.g_told_spans T.F_told_spans.kp (kb_told_spans_mp T) (fun σ => passAt tk σ) (pk_cons (pv 4) (pk_cons (pv 1) pk_nil))) pa_nil))))
pss_nil)
pss_nil)
(pss_cons (ps_if (pt_cmpR op_eq (pv 0) pe_int (nomark _))
(pss_cons (ps_ret (pe_lst (pa_cons pe_int (pa_cons (pe_callK0 (E := WE W) (ok_right_forever T) (hr.mono (by decide)) (by rfl) T.g_right_forever T.F_right_forever.kp (kb_right_forever_hwp T) (fun σ => passAt tk σ) (pk_cons (pv 3) (pk_cons (pv 2) (pk_cons (pv 1) pk_nil)))) pa_nil))))
pss_nil)
pss_nil)
(pss_cons (ps_if (pt_cmpR op_eq (pv 0) pe_int (nomark _))
(pss_cons (ps_ret (pe_lst (pa_cons pe_int (pa_cons (pe_callK0 (E := WE W) (ok_wrong_step T) (hr.mono (by decide)) (by rfl) T.g_wrong_step T.F_wrong_step.kp (kb_wrong_step_whp T) (fun σ => passAt tk σ) (pk_cons (pv 2) (pk_cons (pv 3) (pk_cons (pv 1) pk_nil)))) pa_nil))))
pss_nil)
pss_nil)
(pss_cons (ps_if (pt_cmpR op_eq (pv 0) pe_int (nomark _))
(pss_cons (ps_ret (pe_lst (pa_cons pe_int (pa_cons (pe_callK0 (E := WE W) (ok_wrong_told T) (hr.mono (by decide)) (by rfl) T.g_wrong_told T.F_wrong_told.kp (kb_wrong_told_hpw T) (fun σ => passAt tk σ) (pk_cons (pv 3) (pk_cons (pv 1) (pk_cons (pv 2) pk_nil)))) pa_nil))))
pss_nil)
pss_nil)
(pss_cons (ps_ret (pe_lst (pa_cons pe_int (pa_cons (pe_callK0 (E := WE W) (ok_lets_wrong T) (hr.mono (by decide)) (by rfl) T.g_lets_wrong T.F_lets_wrong.kp (kb_lets_wrong_thwp T) (fun σ => passAt tk σ) (pk_cons (pv 4) (pk_cons (pv 3) (pk_cons (pv 2) (pk_cons (pv 1) pk_nil))))) pa_nil))))
pss_nil))))))))))))) (.cons ⟨rfl, by decide, .inl T.g_NotUsable⟩ (fun a oe cls d pn hz hf => (pss_cons (ps_ret (pe_lst (pa_cons pe_int (pa_cons (pe_xf T.errN.xf T.errN.nw hz hf (pv 5)) (pa_cons (pe_xf T.errN.xf T.errN.na hz hf (pv 5)) pa_nil)))))
pss_nil)) (.cons ⟨rfl, by decide, .inl T.g_InvalidPaper⟩ (fun a oe cls d pn hz hf => (pss_cons (ps_ret (pe_lst (pa_cons pe_int (pa_cons (pe_xf T.errP.xf T.errP.nw hz hf (pv 5)) (pa_cons (pe_xf T.errP.xf T.errP.na hz hf (pv 5)) pa_nil)))))
pss_nil)) .nil)))
pss_nil)), ?_⟩)
  obtain ⟨z, x, y, u, dz, dx, dy, du, rfl, hz, hx, hy, hu, j⟩ := h
  refine seq_fn ?_
  generalize hW : wManyA _ 5 _ _ _ = W
  have hN : ∀ word, (∀ v H', Same H H' → Dp K H' v (errD 1 word) → Q v H') → ErrN K word H (WE W (L2.start ["_law_which", "_law_program", "_law_width", "_law_hop", "_law_more", "e"] [.int 7, z, x, y, u])) := fun word r H' d hS hd => by
    show W _ _ _ _
    rw [← hW]
    exact ⟨true, T.mNN, fun _ a ha => ⟨_, rfl, rfl, rfl, _, _, _, rfl, hd, lk_word _ _, _, rfl, rfl, rfl, _, _, _, rfl, hd, lk_at _ _, (by show 3 ≤ sizeLine; decide), fun l hl => r _ _ (hS.trans (Same.new hl)) (.lst (SqL.of upd_same) (.cons (.int _) (.cons (.str _) (.cons (.int _) .nil))))⟩, fun h => by cases h⟩
  have hP : ∀ word, (∀ v H', Same H H' → Dp K H' v (errD 2 word) → Q v H') → ErrP K word H (WE W (L2.start ["_law_which", "_law_program", "_law_width", "_law_hop", "_law_more", "e"] [.int 7, z, x, y, u])) := fun word r H' d hS hd => by
    show W _ _ _ _
    rw [← hW]
    exact ⟨false, T.mPN, (fun h => by cases h), fun _ => ⟨true, T.mPP, fun _ a ha => ⟨_, rfl, rfl, rfl, _, _, _, rfl, hd, lk_word _ _, _, rfl, rfl, rfl, _, _, _, rfl, hd, lk_at _ _, (by show 3 ≤ sizeLine; decide), fun l hl => r _ _ (hS.trans (Same.new hl)) (.lst (SqL.of upd_same) (.cons (.int _) (.cons (.str _) (.cons (.int _) .nil))))⟩, fun h => by cases h⟩⟩
  clear hW
  refine ⟨_, rfl, rfl, _, rfl, ?_⟩
  refine ifF (by decide) ?_
  refine ⟨_, rfl, rfl, _, rfl, ?_⟩
  refine ifF (by decide) ?_
  refine ⟨_, rfl, rfl, _, rfl, ?_⟩
  refine ifF (by decide) ?_
  refine ⟨_, rfl, rfl, _, rfl, ?_⟩
  refine ifF (by decide) ?_
  refine ⟨_, rfl, rfl, _, rfl, ?_⟩
  refine ifF (by decide) ?_
  refine ⟨_, rfl, rfl, _, rfl, ?_⟩
  refine ifF (by decide) ?_
  refine ⟨_, rfl, rfl, _, rfl, ?_⟩
  refine ifF (by decide) ?_
  refine ⟨_, rfl, rfl, _, rfl, ?_⟩
  refine ifT (by decide) ?_
  refine ⟨_, rfl, _, rfl, z, u, dz, du, rfl, hz, hu, ?_⟩
  rcases j with ⟨j0, r⟩ | ⟨j0, j1, r⟩ | ⟨p, many, rfl, rfl, hW, hmany, r⟩
  · exact .inl ⟨j0, hN _ r⟩
  · exact .inr (.inl ⟨j0, j1, hN _ r⟩)
  · exact .inr (.inr ⟨p, many, rfl, rfl, hW, hmany, fun v H' hS hd => ⟨(by show 2 ≤ sizeLine; decide), fun l hl => r _ _ (hS.trans (Same.new hl)) (.lst (SqL.of upd_same) (.cons (.int _) (.cons (Dp.same (Same.new hl) hd) .nil)))⟩⟩)
theorem ok_call_2 (T : Txt K mg) : FnOk P w K mg base CX0 11 (He.ga K "_law_call") (fdA K (He.ga K "_law_call")) ["_law_which", "_law_program", "_law_width", "_law_hop", "_law_more"] (sp_call K 2 2) := by
  refine T.F_law_call.ok sc_law_call (fun vs H Q E h => by obtain ⟨z, x, y, u, dz, dx, dy, du, rfl, _⟩ := h; rfl) (fun cdv A outer s H vs Q E hr h => ⟨_, PSs.nox ((pss_cons (ps_try_manyA (i := 5) rfl rfl sc_law_call.nd rfl rfl takes0 (fun W pn xe tk _ => (pss_cons (ps_if (pt_cmpR op_eq (pv 0) pe_int (nomark _))
(pss_cons (ps_ret (pe_lst (pa_cons pe_int (pa_cons (pe_callS (E := WE W) (ok_round_of T) (hr.mono (by decide)) (by rfl) T.g_round_of T.F_round_of.kp T.b_round_of (fun σ => passAt tk σ) (pa_cons (pv 1) (pa_cons (pv 3) pa_nil))) pa_nil))))
pss_nil)
pss_nil)
(pss_cons (ps_if (pt_cmpR op_eq (pv 0) pe_int (nomark _))
(pss_cons (ps_ret (pe_lst (pa_cons pe_int (pa_cons (pe_callS (E := WE W) (ok_told_spans T) (hr.mono (by decide)) (by rfl) T.g_told_spans T.F_told_spans.kp T.b_told_spans (fun σ => passAt tk σ) (pa_cons (pv 1) (pa_cons (pv 4) pa_nil))) pa_nil))))
pss_nil)
pss_nil)
(pss_cons (ps_if (pt_cmpR op_eq (pv 0) pe_int (nomark _))
(pss_cons (ps_ret (pe_lst (pa_cons pe_int (pa_cons (pe_callS (E := WE W) (ok_right_forever T) (hr.mono (by decide)) (by rfl) T.g_right_forever T.F_right_forever.kp T.b_right_forever (fun σ => passAt tk σ) (pa_cons (pv 1) (pa_cons (pv 2) (pa_cons (pv 3) pa_nil)))) pa_nil))))
pss_nil)
pss_nil)
(pss_cons (ps_if (pt_cmpR op_eq (pv 0) pe_int (nomark _))
(pss_cons (ps_ret (pe_lst (pa_cons pe_int (pa_cons (pe_callS (E := WE W) (ok_wrong_step T) (hr.mono (by decide)) (by rfl) T.g_wrong_step T.F_wrong_step.kp T.b_wrong_step (fun σ => passAt tk σ) (pa_cons (pv 1) (pa_cons (pv 2) (pa_cons (pv 3) pa_nil)))) pa_nil))))
pss_nil)
pss_nil)
(pss_cons (ps_if (pt_cmpR op_eq (pv 0) pe_int (nomark _))
(pss_cons (ps_ret (pe_lst (pa_cons pe_int (pa_cons (pe_callS (E := WE W) (ok_wrong_told T) (hr.mono (by decide)) (by rfl) T.g_wrong_told T.F_wrong_told.kp T.b_wrong_told (fun σ => passAt tk σ) (pa_cons (pv 1) (pa_cons (pv 2) (pa_cons (pv 3) pa_nil)))) pa_nil))))
pss_nil)
pss_nil)
(pss_cons (ps_if (pt_cmpR op_eq (pv 0) pe_int (nomark _))
(pss_cons (ps_ret (pe_lst (pa_cons pe_int (pa_cons (pe_callS (E := WE W) (ok_lets_wrong T) (hr.mono (by decide)) (by rfl) T.g_lets_wrong T.F_lets_wrong.kp T.b_lets_wrong (fun σ => passAt tk σ) (pa_cons (pv 1) (pa_cons (pv 2) (pa_cons (pv 3) (pa_cons (pv 4) pa_nil))))) pa_nil))))
pss_nil)
pss_nil)
(pss_cons (ps_if (pt_cmpR op_eq (pv 0) pe_int (nomark _))
(pss_cons (ps_ret (pe_lst (pa_cons pe_int (pa_cons (pe_callK0 (E := WE W) (ok_round_of T) (hr.mono (by decide)) (by rfl) T.g_round_of T.F_round_of.kp (kb_round_of_hp T) (fun σ => passAt tk σ) (pk_cons (pv 3) (pk_cons (pv 1) pk_nil))) pa_nil))))
pss_nil)
pss_nil)
(pss_cons (ps_if (pt_cmpR op_eq (pv 0) pe_int (nomark _))
(pss_cons (ps_ret (pe_lst (pa_cons pe_int (pa_cons (pe_callK0 (E := WE W) (ok_told_spans T) (hr.mono (by decide)) (by rfl) T.g_told_spans T.F_told_spans.kp (kb_told_spans_mp T) (fun σ => passAt tk σ) (pk_cons (pv 4) (pk_cons (pv 1) pk_nil))) pa_nil))))
pss_nil)
pss_nil)
(pss_cons (ps_if (pt_cmpR op_eq (pv 0) pe_int (nomark _))
(pss_cons (ps_ret (pe_lst (pa_cons pe_int (pa_cons (pe_callK0 (E := WE W) (ok_right_forever T) (hr.mono (by decide)) (by rfl) T.g_right_forever T.F_right_forever.kp (kb_right_forever_hwp T) (fun σ => passAt tk σ) (pk_cons (pv 3) (pk_cons (pv 2) (pk_cons (pv 1) pk_nil)))) pa_nil))))
pss_nil)
pss_nil)
(pss_cons (ps_if (pt_cmpR op_eq (pv 0) pe_int (nomark _))
(pss_cons (ps_ret (pe_lst (pa_cons pe_int (pa_cons (pe_callK0 (E := WE W) (ok_wrong_step T) (hr.mono (by decide)) (by rfl) T.g_wrong_step T.F_wrong_step.kp (kb_wrong_step_whp T) (fun σ => passAt tk σ) (pk_cons (pv 2) (pk_cons (pv 3) (pk_cons (pv 1) pk_nil)))) pa_nil))))
pss_nil)
pss_nil)
(pss_cons (ps_if (pt_cmpR op_eq (pv 0) pe_int (nomark _))
(pss_cons (ps_ret (pe_lst (pa_cons pe_int (pa_cons (pe_callK0 (E := WE W) (ok_wrong_told T) (hr.mono (by decide)) (by rfl) T.g_wrong_told T.F_wrong_told.kp (kb_wrong_told_hpw T) (fun σ => passAt tk σ) (pk_cons (pv 3) (pk_cons (pv 1) (pk_cons (pv 2) pk_nil)))) pa_nil))))
pss_nil)
pss_nil)
(pss_cons (ps_ret (pe_lst (pa_cons pe_int (pa_cons (pe_callK0 (E := WE W) (ok_lets_wrong T) (hr.mono (by decide)) (by rfl) T.g_lets_wrong T.F_lets_wrong.kp (kb_lets_wrong_thwp T) (fun σ => passAt tk σ) (pk_cons (pv 4) (pk_cons (pv 3) (pk_cons (pv 2) (pk_cons (pv 1) pk_nil))))) pa_nil))))
pss_nil))))))))))))) (.cons ⟨rfl, by decide, .inl T.g_NotUsable⟩ (fun a oe cls d pn hz hf => (pss_cons (ps_ret (pe_lst (pa_cons pe_int (pa_cons (pe_xf T.errN.xf T.errN.nw hz hf (pv 5)) (pa_cons (pe_xf T.errN.xf T.errN.na hz hf (pv 5)) pa_nil)))))
pss_nil)) (.cons ⟨rfl, by decide, .inl T.g_InvalidPaper⟩ (fun a oe cls d pn hz hf => (pss_cons (ps_ret (pe_lst (pa_cons pe_int (pa_cons (pe_xf T.errP.xf T.errP.nw hz hf (pv 5)) (pa_cons (pe_xf T.errP.xf T.errP.na hz hf (pv 5)) pa_nil)))))
pss_nil)) .nil)))
pss_nil)), ?_⟩)
  obtain ⟨z, x, y, u, dz, dx, dy, du, rfl, hz, hx, hy, hu, j⟩ := h
  refine seq_fn ?_
  generalize hW : wManyA _ 5 _ _ _ = W
  have hN : ∀ word, (∀ v H', Same H H' → Dp K H' v (errD 1 word) → Q v H') → ErrN K word H (WE W (L2.start ["_law_which", "_law_program", "_law_width", "_law_hop", "_law_more", "e"] [.int 2, z, x, y, u])) := fun word r H' d hS hd => by
    show W _ _ _ _
    rw [← hW]
    exact ⟨true, T.mNN, fun _ a ha => ⟨_, rfl, rfl, rfl, _, _, _, rfl, hd, lk_word _ _, _, rfl, rfl, rfl, _, _, _, rfl, hd, lk_at _ _, (by show 3 ≤ sizeLine; decide), fun l hl => r _ _ (hS.trans (Same.new hl)) (.lst (SqL.of upd_same) (.cons (.int _) (.cons (.str _) (.cons (.int _) .nil))))⟩, fun h => by cases h⟩
  have hP : ∀ word, (∀ v H', Same H H' → Dp K H' v (errD 2 word) → Q v H') → ErrP K word H (WE W (L2.start ["_law_which", "_law_program", "_law_width", "_law_hop", "_law_more", "e"] [.int 2, z, x, y, u])) := fun word r H' d hS hd => by
    show W _ _ _ _
    rw [← hW]
    exact ⟨false, T.mPN, (fun h => by cases h), fun _ => ⟨true, T.mPP, fun _ a ha => ⟨_, rfl, rfl, rfl, _, _, _, rfl, hd, lk_word _ _, _, rfl, rfl, rfl, _, _, _, rfl, hd, lk_at _ _, (by show 3 ≤ sizeLine; decide), fun l hl => r _ _ (hS.trans (Same.new hl)) (.lst (SqL.of upd_same) (.cons (.int _) (.cons (.str _) (.cons (.int _) .nil))))⟩, fun h => by cases h⟩⟩
  clear hW
  refine ⟨_, rfl, rfl, _, rfl, ?_⟩
  refine ifF (by decide) ?_
  refine ⟨_, rfl, rfl, _, rfl, ?_⟩
  refine ifF (by decide) ?_
  refine ⟨_, rfl, rfl, _, rfl, ?_⟩
  refine ifT (by decide) ?_
  refine ⟨_, rfl, _, rfl, _, rfl, z, x, y, dz, dx, dy, rfl, hz, hx, hy, ?_⟩
  rcases j with ⟨j0, r⟩ | ⟨j0, j1, r⟩ | ⟨j0, j1, j2, r⟩ | ⟨j0, j1, j2, p, width, hop, rfl, rfl, rfl, F, r⟩
  · exact .inl ⟨j0, hN _ r⟩
  · exact .inr (.inl ⟨j0, j1, hN _ r⟩)
  · exact .inr (.inr (.inl ⟨j0, j1, j2, hN _ r⟩))
  · exact .inr (.inr (.inr ⟨j0, j1, j2, p, width, hop, rfl, rfl, rfl, F, fun H' hS => ⟨(by show 2 ≤ sizeLine; decide), fun l hl => r _ _ (hS.trans (Same.new hl)) (.lst (SqL.of upd_same) (.cons (.int _) (.cons (.bl _) .nil)))⟩⟩))
theorem ok_call_8 (T : Txt K mg) : FnOk P w K mg base CX0 11 (He.ga K "_law_call") (fdA K (He.ga K "_law_call")) ["_law_which", "_law_program", "_law_width", "_law_hop", "_law_more"] (sp_call K 8 2) := by
  refine T.F_law_call.ok sc_law_call (fun vs H Q E h => by obtain ⟨z, x, y, u, dz, dx, dy, du, rfl, _⟩ := h; rfl) (fun cdv A outer s H vs Q E hr h => ⟨_, PSs.nox ((pss_cons (ps_try_manyA (i := 5) rfl rfl sc_law_call.nd rfl rfl takes0 (fun W pn xe tk _ => (pss_cons (ps_if (pt_cmpR op_eq (pv 0) pe_int (nomark _))
(pss_cons (ps_ret (pe_lst (pa_cons pe_int (pa_cons (pe_callS (E := WE W) (ok_round_of T) (hr.mono (by decide)) (by rfl) T.g_round_of T.F_round_of.kp T.b_round_of (fun σ => passAt tk σ) (pa_cons (pv 1) (pa_cons (pv 3) pa_nil))) pa_nil))))
pss_nil)
pss_nil)
(pss_cons (ps_if (pt_cmpR op_eq (pv 0) pe_int (nomark _))
(pss_cons (ps_ret (pe_lst (pa_cons pe_int (pa_cons (pe_callS (E := WE W) (ok_told_spans T) (hr.mono (by decide)) (by rfl) T.g_told_spans T.F_told_spans.kp T.b_told_spans (fun σ => passAt tk σ) (pa_cons (pv 1) (pa_cons (pv 4) pa_nil))) pa_nil))))
pss_nil)
pss_nil)
(pss_cons (ps_if (pt_cmpR op_eq (pv 0) pe_int (nomark _))
(pss_cons (ps_ret (pe_lst (pa_cons pe_int (pa_cons (pe_callS (E := WE W) (ok_right_forever T) (hr.mono (by decide)) (by rfl) T.g_right_forever T.F_right_forever.kp T.b_right_forever (fun σ => passAt tk σ) (pa_cons (pv 1) (pa_cons (pv 2) (pa_cons (pv 3) pa_nil)))) pa_nil))))
pss_nil)
pss_nil)
(pss_cons (ps_if (pt_cmpR op_eq (pv 0) pe_int (nomark _))
(pss_cons (ps_ret (pe_lst (pa_cons pe_int (pa_cons (pe_callS (E := WE W) (ok_wrong_step T) (hr.mono (by decide)) (by rfl) T.g_wrong_step T.F_wrong_step.kp T.b_wrong_step (fun σ => passAt tk σ) (pa_cons (pv 1) (pa_cons (pv 2) (pa_cons (pv 3) pa_nil)))) pa_nil))))
pss_nil)
pss_nil)
(pss_cons (ps_if (pt_cmpR op_eq (pv 0) pe_int (nomark _))
(pss_cons (ps_ret (pe_lst (pa_cons pe_int (pa_cons (pe_callS (E := WE W) (ok_wrong_told T) (hr.mono (by decide)) (by rfl) T.g_wrong_told T.F_wrong_told.kp T.b_wrong_told (fun σ => passAt tk σ) (pa_cons (pv 1) (pa_cons (pv 2) (pa_cons (pv 3) pa_nil)))) pa_nil))))
pss_nil)
pss_nil)
(pss_cons (ps_if (pt_cmpR op_eq (pv 0) pe_int (nomark _))
(pss_cons (ps_ret (pe_lst (pa_cons pe_int (pa_cons (pe_callS (E := WE W) (ok_lets_wrong T) (hr.mono (by decide)) (by rfl) T.g_lets_wrong T.F_lets_wrong.kp T.b_lets_wrong (fun σ => passAt tk σ) (pa_cons (pv 1) (pa_cons (pv 2) (pa_cons (pv 3) (pa_cons (pv 4) pa_nil))))) pa_nil))))
pss_nil)
pss_nil)
(pss_cons (ps_if (pt_cmpR op_eq (pv 0) pe_int (nomark _))
(pss_cons (ps_ret (pe_lst (pa_cons pe_int (pa_cons (pe_callK0 (E := WE W) (ok_round_of T) (hr.mono (by decide)) (by rfl) T.g_round_of T.F_round_of.kp (kb_round_of_hp T) (fun σ => passAt tk σ) (pk_cons (pv 3) (pk_cons (pv 1) pk_nil))) pa_nil))))
pss_nil)
pss_nil)
(pss_cons (ps_if (pt_cmpR op_eq (pv 0) pe_int (nomark _))
(pss_cons (ps_ret (pe_lst (pa_cons pe_int (pa_cons (pe_callK0 (E := WE W) (ok_told_spans T) (hr.mono (by decide)) (by rfl) T.g_told_spans T.F_told_spans.kp (kb_told_spans_mp T) (fun σ => passAt tk σ) (pk_cons (pv 4) (pk_cons (pv 1) pk_nil))) pa_nil))))
pss_nil)
pss_nil)
(pss_cons (ps_if (pt_cmpR op_eq (pv 0) pe_int (nomark _))
(pss_cons (ps_ret (pe_lst (pa_cons pe_int (pa_cons (pe_callK0 (E := WE W) (ok_right_forever T) (hr.mono (by decide)) (by rfl) T.g_right_forever T.F_right_forever.kp (kb_right_forever_hwp T) (fun σ => passAt tk σ) (pk_cons (pv 3) (pk_cons (pv 2) (pk_cons (pv 1) pk_nil)))) pa_nil))))
pss_nil)
pss_nil)
(pss_cons (ps_if (pt_cmpR op_eq (pv 0) pe_int (nomark _))
(pss_cons (ps_ret (pe_lst (pa_cons pe_int (pa_cons (pe_callK0 (E := WE W) (ok_wrong_step T) (hr.mono (by decide)) (by rfl) T.g_wrong_step T.F_wrong_step.kp (kb_wrong_step_whp T) (fun σ => passAt tk σ) (pk_cons (pv 2) (pk_cons (pv 3) (pk_cons (pv 1) pk_nil)))) pa_nil))))
pss_nil)
pss_nil)
(pss_cons (ps_if (pt_cmpR op_eq (pv 0) pe_int (nomark _))
(pss_cons (ps_ret (pe_lst (pa_cons pe_int (pa_cons (pe_callK0 (E := WE W) (ok_wrong_told T) (hr.mono (by decide)) (by rfl) T.g_wrong_told T.F_wrong_told.kp (kb_wrong_told_hpw T) (fun σ => passAt tk σ) (pk_cons (pv 3) (pk_cons (pv 1) (pk_cons (pv 2) pk_nil)))) pa_nil))))
pss_nil)
pss_nil)
(pss_cons (ps_ret (pe_lst (pa_cons pe_int (pa_cons (pe_callK0 (E := WE W) (ok_lets_wrong T) (hr.mono (by decide)) (by rfl) T.g_lets_wrong T.F_lets_wrong.kp (kb_lets_wrong_thwp T) (fun σ => passAt tk σ) (pk_cons (pv 4) (pk_cons (pv 3) (pk_cons (pv 2) (pk_cons (pv 1) pk_nil))))) pa_nil))))
pss_nil))))))))))))) (.cons ⟨rfl, by decide, .inl T.g_NotUsable⟩ (fun a oe cls d pn hz hf => (pss_cons (ps_ret (pe_lst (pa_cons pe_int (pa_cons (pe_xf T.errN.xf T.errN.nw hz hf (pv 5)) (pa_cons (pe_xf T.errN.xf T.errN.na hz hf (pv 5)) pa_nil)))))
pss_nil)) (.cons ⟨rfl, by decide, .inl T.g_InvalidPaper⟩ (fun a oe cls d pn hz hf => (pss_cons (ps_ret (pe_lst (pa_cons pe_int (pa_cons (pe_xf T.errP.xf T.errP.nw hz hf (pv 5)) (pa_cons (pe_xf T.errP.xf T.errP.na hz hf (pv 5)) pa_nil)))))
pss_nil)) .nil)))
pss_nil)), ?_⟩)
  obtain ⟨z, x, y, u, dz, dx, dy, du, rfl, hz, hx, hy, hu, j⟩ := h
  refine seq_fn ?_
  generalize hW : wManyA _ 5 _ _ _ = W
  have hN : ∀ word, (∀ v H', Same H H' → Dp K H' v (errD 1 word) → Q v H') → ErrN K word H (WE W (L2.start ["_law_which", "_law_program", "_law_width", "_law_hop", "_law_more", "e"] [.int 8, z, x, y, u])) := fun word r H' d hS hd => by
    show W _ _ _ _
    rw [← hW]
    exact ⟨true, T.mNN, fun _ a ha => ⟨_, rfl, rfl, rfl, _, _, _, rfl, hd, lk_word _ _, _, rfl, rfl, rfl, _, _, _, rfl, hd, lk_at _ _, (by show 3 ≤ sizeLine; decide), fun l hl => r _ _ (hS.trans (Same.new hl)) (.lst (SqL.of upd_same) (.cons (.int _) (.cons (.str _) (.cons (.int _) .nil))))⟩, fun h => by cases h⟩
  have hP : ∀ word, (∀ v H', Same H H' → Dp K H' v (errD 2 word) → Q v H') → ErrP K word H (WE W (L2.start ["_law_which", "_law_program", "_law_width", "_law_hop", "_law_more", "e"] [.int 8, z, x, y, u])) := fun word r H' d hS hd => by
    show W _ _ _ _
    rw [← hW]
    exact ⟨false, T.mPN, (fun h => by cases h), fun _ => ⟨true, T.mPP, fun _ a ha => ⟨_, rfl, rfl, rfl, _, _, _, rfl, hd, lk_word _ _, _, rfl, rfl, rfl, _, _, _, rfl, hd, lk_at _ _, (by show 3 ≤ sizeLine; decide), fun l hl => r _ _ (hS.trans (Same.new hl)) (.lst (SqL.of upd_same) (.cons (.int _) (.cons (.str _) (.cons (.int _) .nil))))⟩, fun h => by cases h⟩⟩
  clear hW
  refine ⟨_, rfl, rfl, _, rfl, ?_⟩
  refine ifF (by decide) ?_
  refine ⟨_, rfl, rfl, _, rfl, ?_⟩
  refine ifF (by decide) ?_
  refine ⟨_, rfl, rfl, _, rfl, ?_⟩
  refine ifF (by decide) ?_
  refine ⟨_, rfl, rfl, _, rfl, ?_⟩
  refine ifF (by decide) ?_
  refine ⟨_, rfl, rfl, _, rfl, ?_⟩
  refine ifF (by decide) ?_
  refine ⟨_, rfl, rfl, _, rfl, ?_⟩
  refine ifF (by decide) ?_
  refine ⟨_, rfl, rfl, _, rfl, ?_⟩
  refine ifF (by decide) ?_
  refine ⟨_, rfl, rfl, _, rfl, ?_⟩
  refine ifF (by decide) ?_
  refine ⟨_, rfl, rfl, _, rfl, ?_⟩
  refine ifT (by decide) ?_
  refine ⟨_, rfl, _, rfl, _, rfl, z, x, y, dz, dx, dy, rfl, hz, hx, hy, ?_⟩
  rcases j with ⟨j0, r⟩ | ⟨j0, j1, r⟩ | ⟨j0, j1, j2, r⟩ | ⟨j0, j1, j2, p, width, hop, rfl, rfl, rfl, F, r⟩
  · exact .inl ⟨j0, hN _ r⟩
  · exact .inr (.inl ⟨j0, j1, hN _ r⟩)
  · exact .inr (.inr (.inl ⟨j0, j1, j2, hN _ r⟩))
  · exact .inr (.inr (.inr ⟨j0, j1, j2, p, width, hop, rfl, rfl, rfl, F, fun H' hS => ⟨(by show 2 ≤ sizeLine; decide), fun l hl => r _ _ (hS.trans (Same.new hl)) (.lst (SqL.of upd_same) (.cons (.int _) (.cons (.bl _) .nil)))⟩⟩))
theorem ok_call_3 (T : Txt K mg) : FnOk P w K mg base CX0 11 (He.ga K "_law_call") (fdA K (He.ga K "_law_call")) ["_law_which", "_law_program", "_law_width", "_law_hop", "_law_more"] (sp_call K 3 3) := by
  refine T.F_law_call.ok sc_law_call (fun vs H Q E h => by obtain ⟨z, x, y, u, dz, dx, dy, du, rfl, _⟩ := h; rfl) (fun cdv A outer s H vs Q E hr h => ⟨_, PSs.nox ((pss_cons (ps_try_manyA (i := 5) rfl rfl sc_law_call.nd rfl rfl takes0 (fun W pn xe tk _ => (pss_cons (ps_if (pt_cmpR op_eq (pv 0) pe_int (nomark _))
(pss_cons (ps_ret (pe_lst (pa_cons pe_int (pa_cons (pe_callS (E := WE W) (ok_round_of T) (hr.mono (by decide)) (by rfl) T.g_round_of T.F_round_of.kp T.b_round_of (fun σ => passAt tk σ) (pa_cons (pv 1) (pa_cons (pv 3) pa_nil))) pa_nil))))
pss_nil)
pss_nil)
(pss_cons (ps_if (pt_cmpR op_eq (pv 0) pe_int (nomark _))
(pss_cons (ps_ret (pe_lst (pa_cons pe_int (pa_cons (pe_callS (E := WE W) (ok_told_spans T) (hr.mono (by decide)) (by rfl) T.g_told_spans T.F_told_spans.kp T.b_told_spans (fun σ => passAt tk σ) (pa_cons (pv 1) (pa_cons (pv 4) pa_nil))) pa_nil))))
pss_nil)
pss_nil)
(pss_cons (ps_if (pt_cmpR op_eq (pv 0) pe_int (nomark _))
(pss_cons (ps_ret (pe_lst (pa_cons pe_int (pa_cons (pe_callS (E := WE W) (ok_right_forever T) (hr.mono (by decide)) (by rfl) T.g_right_forever T.F_right_forever.kp T.b_right_forever (fun σ => passAt tk σ) (pa_cons (pv 1) (pa_cons (pv 2) (pa_cons (pv 3) pa_nil)))) pa_nil))))
pss_nil)
pss_nil)
(pss_cons (ps_if (pt_cmpR op_eq (pv 0) pe_int (nomark _))
(pss_cons (ps_ret (pe_lst (pa_cons pe_int (pa_cons (pe_callS (E := WE W) (ok_wrong_step T) (hr.mono (by decide)) (by rfl) T.g_wrong_step T.F_wrong_step.kp T.b_wrong_step (fun σ => passAt tk σ) (pa_cons (pv 1) (pa_cons (pv 2) (pa_cons (pv 3) pa_nil)))) pa_nil))))
pss_nil)
pss_nil)
(pss_cons (ps_if (pt_cmpR op_eq (pv 0) pe_int (nomark _))
(pss_cons (ps_ret (pe_lst (pa_cons pe_int (pa_cons (pe_callS (E := WE W) (ok_wrong_told T) (hr.mono (by decide)) (by rfl) T.g_wrong_told T.F_wrong_told.kp T.b_wrong_told (fun σ => passAt tk σ) (pa_cons (pv 1) (pa_cons (pv 2) (pa_cons (pv 3) pa_nil)))) pa_nil))))
pss_nil)
pss_nil)
(pss_cons (ps_if (pt_cmpR op_eq (pv 0) pe_int (nomark _))
(pss_cons (ps_ret (pe_lst (pa_cons pe_int (pa_cons (pe_callS (E := WE W) (ok_lets_wrong T) (hr.mono (by decide)) (by rfl) T.g_lets_wrong T.F_lets_wrong.kp T.b_lets_wrong (fun σ => passAt tk σ) (pa_cons (pv 1) (pa_cons (pv 2) (pa_cons (pv 3) (pa_cons (pv 4) pa_nil))))) pa_nil))))
pss_nil)
pss_nil)
(pss_cons (ps_if (pt_cmpR op_eq (pv 0) pe_int (nomark _))
(pss_cons (ps_ret (pe_lst (pa_cons pe_int (pa_cons (pe_callK0 (E := WE W) (ok_round_of T) (hr.mono (by decide)) (by rfl) T.g_round_of T.F_round_of.kp (kb_round_of_hp T) (fun σ => passAt tk σ) (pk_cons (pv 3) (pk_cons (pv 1) pk_nil))) pa_nil))))
pss_nil)
pss_nil)
(pss_cons (ps_if (pt_cmpR op_eq (pv 0) pe_int (nomark _))
(pss_cons (ps_ret (pe_lst (pa_cons pe_int (pa_cons (pe_callK0 (E := WE W) (ok_told_spans T) (hr.mono (by decide)) (by rfl) T.g_told_spans T.F_told_spans.kp (kb_told_spans_mp T) (fun σ => passAt tk σ) (pk_cons (pv 4) (pk_cons (pv 1) pk_nil))) pa_nil))))
pss_nil)
pss_nil)
(pss_cons (ps_if (pt_cmpR op_eq (pv 0) pe_int (nomark _))
(pss_cons (ps_ret (pe_lst (pa_cons pe_int (pa_cons (pe_callK0 (E := WE W) (ok_right_forever T) (hr.mono (by decide)) (by rfl) T.g_right_forever T.F_right_forever.kp (kb_right_forever_hwp T) (fun σ => passAt tk σ) (pk_cons (pv 3) (pk_cons (pv 2) (pk_cons (pv 1) pk_nil)))) pa_nil))))
pss_nil)
pss_nil)
(pss_cons (ps_if (pt_cmpR op_eq (pv 0) pe_int (nomark _))
(pss_cons (ps_ret (pe_lst (pa_cons pe_int (pa_cons (pe_callK0 (E := WE W) (ok_wrong_step T) (hr.mono (by decide)) (by rfl) T.g_wrong_step T.F_wrong_step.kp (kb_wrong_step_whp T) (fun σ => passAt tk σ) (pk_cons (pv 2) (pk_cons (pv 3) (pk_cons (pv 1) pk_nil)))) pa_nil))))
pss_nil)
pss_nil)
(pss_cons (ps_if (pt_cmpR op_eq (pv 0) pe_int (nomark _))
(pss_cons (ps_ret (pe_lst (pa_cons pe_int (pa_cons (pe_callK0 (E := WE W) (ok_wrong_told T) (hr.mono (by decide)) (by rfl) T.g_wrong_told T.F_wrong_told.kp (kb_wrong_told_hpw T) (fun σ => passAt tk σ) (pk_cons (pv 3) (pk_cons (pv 1) (pk_cons (pv 2) pk_nil)))) pa_nil))))
pss_nil)
pss_nil)
(pss_cons (ps_ret (pe_lst (pa_cons pe_int (pa_cons (pe_callK0 (E := WE W) (ok_lets_wrong T) (hr.mono (by decide)) (by rfl) T.g_lets_wrong T.F_lets_wrong.kp (kb_lets_wrong_thwp T) (fun σ => passAt tk σ) (pk_cons (pv 4) (pk_cons (pv 3) (pk_cons (pv 2) (pk_cons (pv 1) pk_nil))))) pa_nil))))
pss_nil))))))))))))) (.cons ⟨rfl, by decide, .inl T.g_NotUsable⟩ (fun a oe cls d pn hz hf => (pss_cons (ps_ret (pe_lst (pa_cons pe_int (pa_cons (pe_xf T.errN.xf T.errN.nw hz hf (pv 5)) (pa_cons (pe_xf T.errN.xf T.errN.na hz hf (pv 5)) pa_nil)))))
pss_nil)) (.cons ⟨rfl, by decide, .inl T.g_InvalidPaper⟩ (fun a oe cls d pn hz hf => (pss_cons (ps_ret (pe_lst (pa_cons pe_int (pa_cons (pe_xf T.errP.xf T.errP.nw hz hf (pv 5)) (pa_cons (pe_xf T.errP.xf T.errP.na hz hf (pv 5)) pa_nil)))))
pss_nil)) .nil)))
pss_nil)), ?_⟩)
  obtain ⟨z, x, y, u, dz, dx, dy, du, rfl, hz, hx, hy, hu, j⟩ := h
  refine seq_fn ?_
  generalize hW : wManyA _ 5 _ _ _ = W
  have hN : ∀ word, (∀ v H', Same H H' → Dp K H' v (errD 1 word) → Q v H') → ErrN K word H (WE W (L2.start ["_law_which", "_law_program", "_law_width", "_law_hop", "_law_more", "e"] [.int 3, z, x, y, u])) := fun word r H' d hS hd => by
    show W _ _ _ _
    rw [← hW]
    exact ⟨true, T.mNN, fun _ a ha => ⟨_, rfl, rfl, rfl, _, _, _, rfl, hd, lk_word _ _, _, rfl, rfl, rfl, _, _, _, rfl, hd, lk_at _ _, (by show 3 ≤ sizeLine; decide), fun l hl => r _ _ (hS.trans (Same.new hl)) (.lst (SqL.of upd_same) (.cons (.int _) (.cons (.str _) (.cons (.int _) .nil))))⟩, fun h => by cases h⟩
  have hP : ∀ word, (∀ v H', Same H H' → Dp K H' v (errD 2 word) → Q v H') → ErrP K word H (WE W (L2.start ["_law_which", "_law_program", "_law_width", "_law_hop", "_law_more", "e"] [.int 3, z, x, y, u])) := fun word r H' d hS hd => by
    show W _ _ _ _
    rw [← hW]
    exact ⟨false, T.mPN, (fun h => by cases h), fun _ => ⟨true, T.mPP, fun _ a ha => ⟨_, rfl, rfl, rfl, _, _, _, rfl, hd, lk_word _ _, _, rfl, rfl, rfl, _, _, _, rfl, hd, lk_at _ _, (by show 3 ≤ sizeLine; decide), fun l hl => r _ _ (hS.trans (Same.new hl)) (.lst (SqL.of upd_same) (.cons (.int _) (.cons (.str _) (.cons (.int _) .nil))))⟩, fun h => by cases h⟩⟩
  clear hW
  refine ⟨_, rfl, rfl, _, rfl, ?_⟩
  refine ifF (by decide) ?_
  refine ⟨_, rfl, rfl, _, rfl, ?_⟩
  refine ifF (by decide) ?_
  refine ⟨_, rfl, rfl, _, rfl, ?_⟩
  refine ifF (by decide) ?_
  refine ⟨_, rfl, rfl, _, rfl, ?_⟩
  refine ifT (by decide) ?_
  refine ⟨_, rfl, _, rfl, _, rfl, z, x, y, dz, dx, dy, rfl, hz, hx, hy, ?_⟩
  rcases j with ⟨j0, r⟩ | ⟨j0, j1, r⟩ | ⟨j0, j1, j2, r⟩ | ⟨j0, j1, j2, p, width, hop, rfl, rfl, rfl, F, r⟩
  · exact .inl ⟨j0, hN _ r⟩
  · exact .inr (.inl ⟨j0, j1, hN _ r⟩)
  · exact .inr (.inr (.inl ⟨j0, j1, j2, hN _ r⟩))
  · exact .inr (.inr (.inr ⟨j0, j1, j2, p, width, hop, rfl, rfl, rfl, F, fun H' hS => ⟨(by show 2 ≤ sizeLine; decide), fun l hl => r _ _ (hS.trans (Same.new hl)) (.lst (SqL.of upd_same) (.cons (.int _) (.cons (dp_opt _) .nil)))⟩⟩))
theorem ok_call_9 (T : Txt K mg) : FnOk P w K mg base CX0 11 (He.ga K "_law_call") (fdA K (He.ga K "_law_call")) ["_law_which", "_law_program", "_law_width", "_law_hop", "_law_more"] (sp_call K 9 3) := by
  refine T.F_law_call.ok sc_law_call (fun vs H Q E h => by obtain ⟨z, x, y, u, dz, dx, dy, du, rfl, _⟩ := h; rfl) (fun cdv A outer s H vs Q E hr h => ⟨_, PSs.nox ((pss_cons (ps_try_manyA (i := 5) rfl rfl sc_law_call.nd rfl rfl takes0 (fun W pn xe tk _ => (pss_cons (ps_if (pt_cmpR op_eq (pv 0) pe_int (nomark _))
(pss_cons (ps_ret (pe_lst (pa_cons pe_int (pa_cons (pe_callS (E := WE W) (ok_round_of T) (hr.mono (by decide)) (by rfl) T.g_round_of T.F_round_of.kp T.b_round_of (fun σ => passAt tk σ) (pa_cons (pv 1) (pa_cons (pv 3) pa_nil))) pa_nil))))
pss_nil)
pss_nil)
(pss_cons (ps_if (pt_cmpR op_eq (pv 0) pe_int (nomark _))
(pss_cons (ps_ret (pe_lst (pa_cons pe_int (pa_cons (pe_callS (E := WE W) (ok_told_spans T) (hr.mono (by decide)) (by rfl) T.g_told_spans T.F_told_spans.kp T.b_told_spans (fun σ => passAt tk σ) (pa_cons (pv 1) (pa_cons (pv 4) pa_nil))) pa_nil))))
pss_nil)
pss_nil)
(pss_cons (ps_if (pt_cmpR op_eq (pv 0) pe_int (nomark _))
(pss_cons (ps_ret (pe_lst (pa_cons pe_int (pa_cons (pe_callS (E := WE W) (ok_right_forever T) (hr.mono (by decide)) (by rfl) T.g_right_forever T.F_right_forever.kp T.b_right_forever (fun σ => passAt tk σ) (pa_cons (pv 1) (pa_cons (pv 2) (pa_cons (pv 3) pa_nil)))) pa_nil))))
pss_nil)
pss_nil)
(pss_cons (ps_if (pt_cmpR op_eq (pv 0) pe_int (nomark _))
(pss_cons (ps_ret (pe_lst (pa_cons pe_int (pa_cons (pe_callS (E := WE W) (ok_wrong_step T) (hr.mono (by decide)) (by rfl) T.g_wrong_step T.F_wrong_step.kp T.b_wrong_step (fun σ => passAt tk σ) (pa_cons (pv 1) (pa_cons (pv 2) (pa_cons (pv 3) pa_nil)))) pa_nil))))
pss_nil)
pss_nil)
(pss_cons (ps_if (pt_cmpR op_eq (pv 0) pe_int (nomark _))
(pss_cons (ps_ret (pe_lst (pa_cons pe_int (pa_cons (pe_callS (E := WE W) (ok_wrong_told T) (hr.mono (by decide)) (by rfl) T.g_wrong_told T.F_wrong_told.kp T.b_wrong_told (fun σ => passAt tk σ) (pa_cons (pv 1) (pa_cons (pv 2) (pa_cons (pv 3) pa_nil)))) pa_nil))))
pss_nil)
pss_nil)
(pss_cons (ps_if (pt_cmpR op_eq (pv 0) pe_int (nomark _))
(pss_cons (ps_ret (pe_lst (pa_cons pe_int (pa_cons (pe_callS (E := WE W) (ok_lets_wrong T) (hr.mono (by decide)) (by rfl) T.g_lets_wrong T.F_lets_wrong.kp T.b_lets_wrong (fun σ => passAt tk σ) (pa_cons (pv 1) (pa_cons (pv 2) (pa_cons (pv 3) (pa_cons (pv 4) pa_nil))))) pa_nil))))
pss_nil)
pss_nil)
(pss_cons (ps_if (pt_cmpR op_eq (pv 0) pe_int (nomark _))
(pss_cons (ps_ret (pe_lst (pa_cons pe_int (pa_cons (pe_callK0 (E := WE W) (ok_round_of T) (hr.mono (by decide)) (by rfl) T.g_round_of T.F_round_of.kp (kb_round_of_hp T) (fun σ => passAt tk σ) (pk_cons (pv 3) (pk_cons (pv 1) pk_nil))) pa_nil))))
pss_nil)
pss_nil)
(pss_cons (ps_if (pt_cmpR op_eq (pv 0) pe_int (nomark _))
(pss_cons (ps_ret (pe_lst (pa_cons pe_int (pa_cons (pe_callK0 (E := WE W) (ok_told_spans T) (hr.mono (by decide)) (by rfl) T.g_told_spans T.F_told_spans.kp (kb_told_spans_mp T) (fun σ => passAt tk σ) (pk_cons (pv 4) (pk_cons (pv 1) pk_nil))) pa_nil))))
pss_nil)
pss_nil)
(pss_cons (ps_if (pt_cmpR op_eq (pv 0) pe_int (nomark _))
(pss_cons (ps_ret (pe_lst (pa_cons pe_int (pa_cons (pe_callK0 (E := WE W) (ok_right_forever T) (hr.mono (by decide)) (by rfl) T.g_right_forever T.F_right_forever.kp (kb_right_forever_hwp T) (fun σ => passAt tk σ) (pk_cons (pv 3) (pk_cons (pv 2) (pk_cons (pv 1) pk_nil)))) pa_nil))))
pss_nil)
pss_nil)
(pss_cons (ps_if (pt_cmpR op_eq (pv 0) pe_int (nomark _))
(pss_cons (ps_ret (pe_lst (pa_cons pe_int (pa_cons (pe_callK0 (E := WE W) (ok_wrong_step T) (hr.mono (by decide)) (by rfl) T.g_wrong_step T.F_wrong_step.kp (kb_wrong_step_whp T) (fun σ => passAt tk σ) (pk_cons (pv 2) (pk_cons (pv 3) (pk_cons (pv 1) pk_nil)))) pa_nil))))
pss_nil)
pss_nil)
(pss_cons (ps_if (pt_cmpR op_eq (pv 0) pe_int (nomark _))
(pss_cons (ps_ret (pe_lst (pa_cons pe_int (pa_cons (pe_callK0 (E := WE W) (ok_wrong_told T) (hr.mono (by decide)) (by rfl) T.g_wrong_told T.F_wrong_told.kp (kb_wrong_told_hpw T) (fun σ => passAt tk σ) (pk_cons (pv 3) (pk_cons (pv 1) (pk_cons (pv 2) pk_nil)))) pa_nil))))
pss_nil)
pss_nil)
(pss_cons (ps_ret (pe_lst (pa_cons pe_int (pa_cons (pe_callK0 (E := WE W) (ok_lets_wrong T) (hr.mono (by decide)) (by rfl) T.g_lets_wrong T.F_lets_wrong.kp (kb_lets_wrong_thwp T) (fun σ => passAt tk σ) (pk_cons (pv 4) (pk_cons (pv 3) (pk_cons (pv 2) (pk_cons (pv 1) pk_nil))))) pa_nil))))
pss_nil))))))))))))) (.cons ⟨rfl, by decide, .inl T.g_NotUsable⟩ (fun a oe cls d pn hz hf => (pss_cons (ps_ret (pe_lst (pa_cons pe_int (pa_cons (pe_xf T.errN.xf T.errN.nw hz hf (pv 5)) (pa_cons (pe_xf T.errN.xf T.errN.na hz hf (pv 5)) pa_nil)))))
pss_nil)) (.cons ⟨rfl, by decide, .inl T.g_InvalidPaper⟩ (fun a oe cls d pn hz hf => (pss_cons (ps_ret (pe_lst (pa_cons pe_int (pa_cons (pe_xf T.errP.xf T.errP.nw hz hf (pv 5)) (pa_cons (pe_xf T.errP.xf T.errP.na hz hf (pv 5)) pa_nil)))))
pss_nil)) .nil)))
pss_nil)), ?_⟩)
  obtain ⟨z, x, y, u, dz, dx, dy, du, rfl, hz, hx, hy, hu, j⟩ := h
  refine seq_fn ?_
  generalize hW : wManyA _ 5 _ _ _ = W
  have hN : ∀ word, (∀ v H', Same H H' → Dp K H' v (errD 1 word) → Q v H') → ErrN K word H (WE W (L2.start ["_law_which", "_law_program", "_law_width", "_law_hop", "_law_more", "e"] [.int 9, z, x, y, u])) := fun word r H' d hS hd => by
    show W _ _ _ _
    rw [← hW]
    exact ⟨true, T.mNN, fun _ a ha => ⟨_, rfl, rfl, rfl, _, _, _, rfl, hd, lk_word _ _, _, rfl, rfl, rfl, _, _, _, rfl, hd, lk_at _ _, (by show 3 ≤ sizeLine; decide), fun l hl => r _ _ (hS.trans (Same.new hl)) (.lst (SqL.of upd_same) (.cons (.int _) (.cons (.str _) (.cons (.int _) .nil))))⟩, fun h => by cases h⟩
  have hP : ∀ word, (∀ v H', Same H H' → Dp K H' v (errD 2 word) → Q v H') → ErrP K word H (WE W (L2.start ["_law_which", "_law_program", "_law_width", "_law_hop", "_law_more", "e"] [.int 9, z, x, y, u])) := fun word r H' d hS hd => by
    show W _ _ _ _
    rw [← hW]
    exact ⟨false, T.mPN, (fun h => by cases h), fun _ => ⟨true, T.mPP, fun _ a ha => ⟨_, rfl, rfl, rfl, _, _, _, rfl, hd, lk_word _ _, _, rfl, rfl, rfl, _, _, _, rfl, hd, lk_at _ _, (by show 3 ≤ sizeLine; decide), fun l hl => r _ _ (hS.trans (Same.new hl)) (.lst (SqL.of upd_same) (.cons (.int _) (.cons (.str _) (.cons (.int _) .nil))))⟩, fun h => by cases h⟩⟩
  clear hW
  refine ⟨_, rfl, rfl, _, rfl, ?_⟩
  refine ifF (by decide) ?_
  refine ⟨_, rfl, rfl, _, rfl, ?_⟩
  refine ifF (by decide) ?_
  refine ⟨_, rfl, rfl, _, rfl, ?_⟩
  refine ifF (by decide) ?_
  refine ⟨_, rfl, rfl, _, rfl, ?_⟩
  refine ifF (by decide) ?_
  refine ⟨_, rfl, rfl, _, rfl, ?_⟩
  refine ifF (by decide) ?_
  refine ⟨_, rfl, rfl, _, rfl, ?_⟩
  refine ifF (by decide) ?_
  refine ⟨_, rfl, rfl, _, rfl, ?_⟩
  refine ifF (by decide) ?_
  refine ⟨_, rfl, rfl, _, rfl, ?_⟩
  refine ifF (by decide) ?_
  refine ⟨_, rfl, rfl, _, rfl, ?_⟩
  refine ifF (by decide) ?_
  refine ⟨_, rfl, rfl, _, rfl, ?_⟩
  refine ifT (by decide) ?_
  refine ⟨_, rfl, _, rfl, _, rfl, z, x, y, dz, dx, dy, rfl, hz, hx, hy, ?_⟩
  rcases j with ⟨j0, r⟩ | ⟨j0, j1, r⟩ | ⟨j0, j1, j2, r⟩ | ⟨j0, j1, j2, p, width, hop, rfl, rfl, rfl, F, r⟩
  · exact .inl ⟨j0, hN _ r⟩
  · exact .inr (.inl ⟨j0, j1, hN _ r⟩)
  · exact .inr (.inr (.inl ⟨j0, j1, j2, hN _ r⟩))
  · exact .inr (.inr (.inr ⟨j0, j1, j2, p, width, hop, rfl, rfl, rfl, F, fun H' hS => ⟨(by show 2 ≤ sizeLine; decide), fun l hl => r _ _ (hS.trans (Same.new hl)) (.lst (SqL.of upd_same) (.cons (.int _) (.cons (dp_opt _) .nil)))⟩⟩))
theorem ok_call_4 (T : Txt K mg) : FnOk P w K mg base CX0 11 (He.ga K "_law_call") (fdA K (He.ga K "_law_call")) ["_law_which", "_law_program", "_law_width", "_law_hop", "_law_more"] (sp_call K 4 4) := by
  refine T.F_law_call.ok sc_law_call (fun vs H Q E h => by obtain ⟨z, x, y, u, dz, dx, dy, du, rfl, _⟩ := h; rfl) (fun cdv A outer s H vs Q E hr h => ⟨_, PSs.nox ((pss_cons (ps_try_manyA (i := 5) rfl rfl sc_law_call.nd rfl rfl takes0 (fun W pn xe tk _ => (pss_cons (ps_if (pt_cmpR op_eq (pv 0) pe_int (nomark _))
(pss_cons (ps_ret (pe_lst (pa_cons pe_int (pa_cons (pe_callS (E := WE W) (ok_round_of T) (hr.mono (by decide)) (by rfl) T.g_round_of T.F_round_of.kp T.b_round_of (fun σ => passAt tk σ) (pa_cons (pv 1) (pa_cons (pv 3) pa_nil))) pa_nil))))
pss_nil)
pss_nil)
(pss_cons (ps_if (pt_cmpR op_eq (pv 0) pe_int (nomark _))
(pss_cons (ps_ret (pe_lst (pa_cons pe_int (pa_cons (pe_callS (E := WE W) (ok_told_spans T) (hr.mono (by decide)) (by rfl) T.g_told_spans T.F_told_spans.kp T.b_told_spans (fun σ => passAt tk σ) (pa_cons (pv 1) (pa_cons (pv 4) pa_nil))) pa_nil))))
pss_nil)
pss_nil)
(pss_cons (ps_if (pt_cmpR op_eq (pv 0) pe_int (nomark _))
(pss_cons (ps_ret (pe_lst (pa_cons pe_int (pa_cons (pe_callS (E := WE W) (ok_right_forever T) (hr.mono (by decide)) (by rfl) T.g_right_forever T.F_right_forever.kp T.b_right_forever (fun σ => passAt tk σ) (pa_cons (pv 1) (pa_cons (pv 2) (pa_cons (pv 3) pa_nil)))) pa_nil))))
pss_nil)
pss_nil)
(pss_cons (ps_if (pt_cmpR op_eq (pv 0) pe_int (nomark _))
(pss_cons (ps_ret (pe_lst (pa_cons pe_int (pa_cons (pe_callS (E := WE W) (ok_wrong_step T) (hr.mono (by decide)) (by rfl) T.g_wrong_step T.F_wrong_step.kp T.b_wrong_step (fun σ => passAt tk σ) (pa_cons (pv 1) (pa_cons (pv 2) (pa_cons (pv 3) pa_nil)))) pa_nil))))
pss_nil)
pss_nil)
(pss_cons (ps_if (pt_cmpR op_eq (pv 0) pe_int (nomark _))
(pss_cons (ps_ret (pe_lst (pa_cons pe_int (pa_cons (pe_callS (E := WE W) (ok_wrong_told T) (hr.mono (by decide)) (by rfl) T.g_wrong_told T.F_wrong_told.kp T.b_wrong_told (fun σ => passAt tk σ) (pa_cons (pv 1) (pa_cons (pv 2) (pa_cons (pv 3) pa_nil)))) pa_nil))))
pss_nil)
pss_nil)
(pss_cons (ps_if (pt_cmpR op_eq (pv 0) pe_int (nomark _))
(pss_cons (ps_ret (pe_lst (pa_cons pe_int (pa_cons (pe_callS (E := WE W) (ok_lets_wrong T) (hr.mono (by decide)) (by rfl) T.g_lets_wrong T.F_lets_wrong.kp T.b_lets_wrong (fun σ => passAt tk σ) (pa_cons (pv 1) (pa_cons (pv 2) (pa_cons (pv 3) (pa_cons (pv 4) pa_nil))))) pa_nil))))
pss_nil)
pss_nil)
(pss_cons (ps_if (pt_cmpR op_eq (pv 0) pe_int (nomark _))
(pss_cons (ps_ret (pe_lst (pa_cons pe_int (pa_cons (pe_callK0 (E := WE W) (ok_round_of T) (hr.mono (by decide)) (by rfl) T.g_round_of T.F_round_of.kp (kb_round_of_hp T) (fun σ => passAt tk σ) (pk_cons (pv 3) (pk_cons (pv 1) pk_nil))) pa_nil))))
pss_nil)
pss_nil)
(pss_cons (ps_if (pt_cmpR op_eq (pv 0) pe_int (nomark _))
(pss_cons (ps_ret (pe_lst (pa_cons pe_int (pa_cons (pe_callK0 (E := WE W) (ok_told_spans T) (hr.mono (by decide)) (by rfl) T.g_told_spans T.F_told_spans.kp (kb_told_spans_mp T) (fun σ => passAt tk σ) (pk_cons (pv 4) (pk_cons (pv 1) pk_nil))) pa_nil))))
pss_nil)
pss_nil)
(pss_cons (ps_if (pt_cmpR op_eq (pv 0) pe_int (nomark _))
(pss_cons (ps_ret (pe_lst (pa_cons pe_int (pa_cons (pe_callK0 (E := WE W) (ok_right_forever T) (hr.mono (by decide)) (by rfl) T.g_right_forever T.F_right_forever.kp (kb_right_forever_hwp T) (fun σ => passAt tk σ) (pk_cons (pv 3) (pk_cons (pv 2) (pk_cons (pv 1) pk_nil)))) pa_nil))))
pss_nil)
pss_nil)
(pss_cons (ps_if (pt_cmpR op_eq (pv 0) pe_int (nomark _))
(pss_cons (ps_ret (pe_lst (pa_cons pe_int (pa_cons (pe_callK0 (E := WE W) (ok_wrong_step T) (hr.mono (by decide)) (by rfl) T.g_wrong_step T.F_wrong_step.kp (kb_wrong_step_whp T) (fun σ => passAt tk σ) (pk_cons (pv 2) (pk_cons (pv 3) (pk_cons (pv 1) pk_nil)))) pa_nil))))
pss_nil)
pss_nil)
(pss_cons (ps_if (pt_cmpR op_eq (pv 0) pe_int (nomark _))
(pss_cons (ps_ret (pe_lst (pa_cons pe_int (pa_cons (pe_callK0 (E := WE W) (ok_wrong_told T) (hr.mono (by decide)) (by rfl) T.g_wrong_told T.F_wrong_told.kp (kb_wrong_told_hpw T) (fun σ => passAt tk σ) (pk_cons (pv 3) (pk_cons (pv 1) (pk_cons (pv 2) pk_nil)))) pa_nil))))
pss_nil)
pss_nil)
(pss_cons (ps_ret (pe_lst (pa_cons pe_int (pa_cons (pe_callK0 (E := WE W) (ok_lets_wrong T) (hr.mono (by decide)) (by rfl) T.g_lets_wrong T.F_lets_wrong.kp (kb_lets_wrong_thwp T) (fun σ => passAt tk σ) (pk_cons (pv 4) (pk_cons (pv 3) (pk_cons (pv 2) (pk_cons (pv 1) pk_nil))))) pa_nil))))
pss_nil))))))))))))) (.cons ⟨rfl, by decide, .inl T.g_NotUsable⟩ (fun a oe cls d pn hz hf => (pss_cons (ps_ret (pe_lst (pa_cons pe_int (pa_cons (pe_xf T.errN.xf T.errN.nw hz hf (pv 5)) (pa_cons (pe_xf T.errN.xf T.errN.na hz hf (pv 5)) pa_nil)))))
pss_nil)) (.cons ⟨rfl, by decide, .inl T.g_InvalidPaper⟩ (fun a oe cls d pn hz hf => (pss_cons (ps_ret (pe_lst (pa_cons pe_int (pa_cons (pe_xf T.errP.xf T.errP.nw hz hf (pv 5)) (pa_cons (pe_xf T.errP.xf T.errP.na hz hf (pv 5)) pa_nil)))))
pss_nil)) .nil)))
pss_nil)), ?_⟩)
  obtain ⟨z, x, y, u, dz, dx, dy, du, rfl, hz, hx, hy, hu, j⟩ := h
  refine seq_fn ?_
  generalize hW : wManyA _ 5 _ _ _ = W
  have hN : ∀ word, (∀ v H', Same H H' → Dp K H' v (errD 1 word) → Q v H') → ErrN K word H (WE W (L2.start ["_law_which", "_law_program", "_law_width", "_law_hop", "_law_more", "e"] [.int 4, z, x, y, u])) := fun word r H' d hS hd => by
    show W _ _ _ _
    rw [← hW]
    exact ⟨true, T.mNN, fun _ a ha => ⟨_, rfl, rfl, rfl, _, _, _, rfl, hd, lk_word _ _, _, rfl, rfl, rfl, _, _, _, rfl, hd, lk_at _ _, (by show 3 ≤ sizeLine; decide), fun l hl => r _ _ (hS.trans (Same.new hl)) (.lst (SqL.of upd_same) (.cons (.int _) (.cons (.str _) (.cons (.int _) .nil))))⟩, fun h => by cases h⟩
  have hP : ∀ word, (∀ v H', Same H H' → Dp K H' v (errD 2 word) → Q v H') → ErrP K word H (WE W (L2.start ["_law_which", "_law_program", "_law_width", "_law_hop", "_law_more", "e"] [.int 4, z, x, y, u])) := fun word r H' d hS hd => by
    show W _ _ _ _
    rw [← hW]
    exact ⟨false, T.mPN, (fun h => by cases h), fun _ => ⟨true, T.mPP, fun _ a ha => ⟨_, rfl, rfl, rfl, _, _, _, rfl, hd, lk_word _ _, _, rfl, rfl, rfl, _, _, _, rfl, hd, lk_at _ _, (by show 3 ≤ sizeLine; decide), fun l hl => r _ _ (hS.trans (Same.new hl)) (.lst (SqL.of upd_same) (.cons (.int _) (.cons (.str _) (.cons (.int _) .nil))))⟩, fun h => by cases h⟩⟩
  clear hW
  refine ⟨_, rfl, rfl, _, rfl, ?_⟩
  refine ifF (by decide) ?_
  refine ⟨_, rfl, rfl, _, rfl, ?_⟩
  refine ifF (by decide) ?_
  refine ⟨_, rfl, rfl, _, rfl, ?_⟩
  refine ifF (by decide) ?_
  refine ⟨_, rfl, rfl, _, rfl, ?_⟩
  refine ifF (by decide) ?_
  refine ⟨_, rfl, rfl, _, rfl, ?_⟩
  refine ifT (by decide) ?_
  refine ⟨_, rfl, _, rfl, _, rfl, z, x, y, dz, dx, dy, rfl, hz, hx, hy, ?_⟩
  rcases j with ⟨j0, r⟩ | ⟨j0, j1, r⟩ | ⟨j0, j1, j2, r⟩ | ⟨j0, j1, j2, p, width, hop, rfl, rfl, rfl, F, r⟩
  · exact .inl ⟨j0, hN _ r⟩
  · exact .inr (.inl ⟨j0, j1, hN _ r⟩)
  · exact .inr (.inr (.inl ⟨j0, j1, j2, hN _ r⟩))
  · exact .inr (.inr (.inr ⟨j0, j1, j2, p, width, hop, rfl, rfl, rfl, F, fun v H' hS hd => ⟨(by show 2 ≤ sizeLine; decide), fun l hl => r _ _ (hS.trans (Same.new hl)) (.lst (SqL.of upd_same) (.cons (.int _) (.cons (Dp.same (Same.new hl) hd) .nil)))⟩⟩))
theorem ok_call_10 (T : Txt K mg) : FnOk P w K mg base CX0 11 (He.ga K "_law_call") (fdA K (He.ga K "_law_call")) ["_law_which", "_law_program", "_law_width", "_law_hop", "_law_more"] (sp_call K 10 4) := by
  refine T.F_law_call.ok sc_law_call (fun vs H Q E h => by obtain ⟨z, x, y, u, dz, dx, dy, du, rfl, _⟩ := h; rfl) (fun cdv A outer s H vs Q E hr h => ⟨_, PSs.nox ((pss_cons (ps_try_manyA (i := 5) rfl rfl sc_law_call.nd rfl rfl takes0 (fun W pn xe tk _ => (pss_cons (ps_if (pt_cmpR op_eq (pv 0) pe_int (nomark _))
(pss_cons (ps_ret (pe_lst (pa_cons pe_int (pa_cons (pe_callS (E := WE W) (ok_round_of T) (hr.mono (by decide)) (by rfl) T.g_round_of T.F_round_of.kp T.b_round_of (fun σ => passAt tk σ) (pa_cons (pv 1) (pa_cons (pv 3) pa_nil))) pa_nil))))
pss_nil)
pss_nil)
(pss_cons (ps_if (pt_cmpR op_eq (pv 0) pe_int (nomark _))
(pss_cons (ps_ret (pe_lst (pa_cons pe_int (pa_cons (pe_callS (E := WE W) (ok_told_spans T) (hr.mono (by decide)) (by rfl) T.g_told_spans T.F_told_spans.kp T.b_told_spans (fun σ => passAt tk σ) (pa_cons (pv 1) (pa_cons (pv 4) pa_nil))) pa_nil))))
pss_nil)
pss_nil)
(pss_cons (ps_if (pt_cmpR op_eq (pv 0) pe_int (nomark _))
(pss_cons (ps_ret (pe_lst (pa_cons pe_int (pa_cons (pe_callS (E := WE W) (ok_right_forever T) (hr.mono (by decide)) (by rfl) T.g_right_forever T.F_right_forever.kp T.b_right_forever (fun σ => passAt tk σ) (pa_cons (pv 1) (pa_cons (pv 2) (pa_cons (pv 3) pa_nil)))) pa_nil))))
pss_nil)
pss_nil)
(pss_cons (ps_if (pt_cmpR op_eq (pv 0) pe_int (nomark _))
(pss_cons (ps_ret (pe_lst (pa_cons pe_int (pa_cons (pe_callS (E := WE W) (ok_wrong_step T) (hr.mono (by decide)) (by rfl) T.g_wrong_step T.F_wrong_step.kp T.b_wrong_step (fun σ => passAt tk σ) (pa_cons (pv 1) (pa_cons (pv 2) (pa_cons (pv 3) pa_nil)))) pa_nil))))
pss_nil)
pss_nil)
(pss_cons (ps_if (pt_cmpR op_eq (pv 0) pe_int (nomark _))
(pss_cons (ps_ret (pe_lst (pa_cons pe_int (pa_cons (pe_callS (E := WE W) (ok_wrong_told T) (hr.mono (by decide)) (by rfl) T.g_wrong_told T.F_wrong_told.kp T.b_wrong_told (fun σ => passAt tk σ) (pa_cons (pv 1) (pa_cons (pv 2) (pa_cons (pv 3) pa_nil)))) pa_nil))))
pss_nil)
pss_nil)
(pss_cons (ps_if (pt_cmpR op_eq (pv 0) pe_int (nomark _))
(pss_cons (ps_ret (pe_lst (pa_cons pe_int (pa_cons (pe_callS (E := WE W) (ok_lets_wrong T) (hr.mono (by decide)) (by rfl) T.g_lets_wrong T.F_lets_wrong.kp T.b_lets_wrong (fun σ => passAt tk σ) (pa_cons (pv 1) (pa_cons (pv 2) (pa_cons (pv 3) (pa_cons (pv 4) pa_nil))))) pa_nil))))
pss_nil)
pss_nil)
(pss_cons (ps_if (pt_cmpR op_eq (pv 0) pe_int (nomark _))
(pss_cons (ps_ret (pe_lst (pa_cons pe_int (pa_cons (pe_callK0 (E := WE W) (ok_round_of T) (hr.mono (by decide)) (by rfl) T.g_round_of T.F_round_of.kp (kb_round_of_hp T) (fun σ => passAt tk σ) (pk_cons (pv 3) (pk_cons (pv 1) pk_nil))) pa_nil))))
pss_nil)
pss_nil)
(pss_cons (ps_if (pt_cmpR op_eq (pv 0) pe_int (nomark _))
(pss_cons (ps_ret (pe_lst (pa_cons pe_int (pa_cons (pe_callK0 (E := WE W) (ok_told_spans T) (hr.mono (by decide)) (by rfl) T.g_told_spans T.F_told_spans.kp (kb_told_spans_mp T) (fun σ => passAt tk σ) (pk_cons (pv 4) (pk_cons (pv 1) pk_nil))) pa_nil))))
pss_nil)
pss_nil)
(pss_cons (ps_if (pt_cmpR op_eq (pv 0) pe_int (nomark _))
(pss_cons (ps_ret (pe_lst (pa_cons pe_int (pa_cons (pe_callK0 (E := WE W) (ok_right_forever T) (hr.mono (by decide)) (by rfl) T.g_right_forever T.F_right_forever.kp (kb_right_forever_hwp T) (fun σ => passAt tk σ) (pk_cons (pv 3) (pk_cons (pv 2) (pk_cons (pv 1) pk_nil)))) pa_nil))))
pss_nil)
pss_nil)
(pss_cons (ps_if (pt_cmpR op_eq (pv 0) pe_int (nomark _))
(pss_cons (ps_ret (pe_lst (pa_cons pe_int (pa_cons (pe_callK0 (E := WE W) (ok_wrong_step T) (hr.mono (by decide)) (by rfl) T.g_wrong_step T.F_wrong_step.kp (kb_wrong_step_whp T) (fun σ => passAt tk σ) (pk_cons (pv 2) (pk_cons (pv 3) (pk_cons (pv 1) pk_nil)))) pa_nil))))
pss_nil)
pss_nil)
(pss_cons (ps_if (pt_cmpR op_eq (pv 0) pe_int (nomark _))
(pss_cons (ps_ret (pe_lst (pa_cons pe_int (pa_cons (pe_callK0 (E := WE W) (ok_wrong_told T) (hr.mono (by decide)) (by rfl) T.g_wrong_told T.F_wrong_told.kp (kb_wrong_told_hpw T) (fun σ => passAt tk σ) (pk_cons (pv 3) (pk_cons (pv 1) (pk_cons (pv 2) pk_nil)))) pa_nil))))
pss_nil)
pss_nil)
(pss_cons (ps_ret (pe_lst (pa_cons pe_int (pa_cons (pe_callK0 (E := WE W) (ok_lets_wrong T) (hr.mono (by decide)) (by rfl) T.g_lets_wrong T.F_lets_wrong.kp (kb_lets_wrong_thwp T) (fun σ => passAt tk σ) (pk_cons (pv 4) (pk_cons (pv 3) (pk_cons (pv 2) (pk_cons (pv 1) pk_nil))))) pa_nil))))
pss_nil))))))))))))) (.cons ⟨rfl, by decide, .inl T.g_NotUsable⟩ (fun a oe cls d pn hz hf => (pss_cons (ps_ret (pe_lst (pa_cons pe_int (pa_cons (pe_xf T.errN.xf T.errN.nw hz hf (pv 5)) (pa_cons (pe_xf T.errN.xf T.errN.na hz hf (pv 5)) pa_nil)))))
pss_nil)) (.cons ⟨rfl, by decide, .inl T.g_InvalidPaper⟩ (fun a oe cls d pn hz hf => (pss_cons (ps_ret (pe_lst (pa_cons pe_int (pa_cons (pe_xf T.errP.xf T.errP.nw hz hf (pv 5)) (pa_cons (pe_xf T.errP.xf T.errP.na hz hf (pv 5)) pa_nil)))))
pss_nil)) .nil)))
pss_nil)), ?_⟩)
  obtain ⟨z, x, y, u, dz, dx, dy, du, rfl, hz, hx, hy, hu, j⟩ := h
  refine seq_fn ?_
  generalize hW : wManyA _ 5 _ _ _ = W
  have hN : ∀ word, (∀ v H', Same H H' → Dp K H' v (errD 1 word) → Q v H') → ErrN K word H (WE W (L2.start ["_law_which", "_law_program", "_law_width", "_law_hop", "_law_more", "e"] [.int 10, z, x, y, u])) := fun word r H' d hS hd => by
    show W _ _ _ _
    rw [← hW]
    exact ⟨true, T.mNN, fun _ a ha => ⟨_, rfl, rfl, rfl, _, _, _, rfl, hd, lk_word _ _, _, rfl, rfl, rfl, _, _, _, rfl, hd, lk_at _ _, (by show 3 ≤ sizeLine; decide), fun l hl => r _ _ (hS.trans (Same.new hl)) (.lst (SqL.of upd_same) (.cons (.int _) (.cons (.str _) (.cons (.int _) .nil))))⟩, fun h => by cases h⟩
  have hP : ∀ word, (∀ v H', Same H H' → Dp K H' v (errD 2 word) → Q v H') → ErrP K word H (WE W (L2.start ["_law_which", "_law_program", "_law_width", "_law_hop", "_law_more", "e"] [.int 10, z, x, y, u])) := fun word r H' d hS hd => by
    show W _ _ _ _
    rw [← hW]
    exact ⟨false, T.mPN, (fun h => by cases h), fun _ => ⟨true, T.mPP, fun _ a ha => ⟨_, rfl, rfl, rfl, _, _, _, rfl, hd, lk_word _ _, _, rfl, rfl, rfl, _, _, _, rfl, hd, lk_at _ _, (by show 3 ≤ sizeLine; decide), fun l hl => r _ _ (hS.trans (Same.new hl)) (.lst (SqL.of upd_same) (.cons (.int _) (.cons (.str _) (.cons (.int _) .nil))))⟩, fun h => by cases h⟩⟩
  clear hW
  refine ⟨_, rfl, rfl, _, rfl, ?_⟩
  refine ifF (by decide) ?_
  refine ⟨_, rfl, rfl, _, rfl, ?_⟩
  refine ifF (by decide) ?_
  refine ⟨_, rfl, rfl, _, rfl, ?_⟩
  refine ifF (by decide) ?_
  refine ⟨_, rfl, rfl, _, rfl, ?_⟩
  refine ifF (by decide) ?_
  refine ⟨_, rfl, rfl, _, rfl, ?_⟩
  refine ifF (by decide) ?_
  refine ⟨_, rfl, rfl, _, rfl, ?_⟩
  refine ifF (by decide) ?_
  refine ⟨_, rfl, rfl, _, rfl, ?_⟩
  refine ifF (by decide) ?_
  refine ⟨_, rfl, rfl, _, rfl, ?_⟩
  refine ifF (by decide) ?_
  refine ⟨_, rfl, rfl, _, rfl, ?_⟩
  refine ifF (by decide) ?_
  refine ⟨_, rfl, rfl, _, rfl, ?_⟩
  refine ifF (by decide) ?_
  refine ⟨_, rfl, rfl, _, rfl, ?_⟩
  refine ifT (by decide) ?_
  refine ⟨_, rfl, _, rfl, _, rfl, z, x, y, dz, dx, dy, rfl, hz, hx, hy, ?_⟩
  rcases j with ⟨j0, r⟩ | ⟨j0, j1, r⟩ | ⟨j0, j1, j2, r⟩ | ⟨j0, j1, j2, p, width, hop, rfl, rfl, rfl, F, r⟩
  · exact .inl ⟨j0, hN _ r⟩
  · exact .inr (.inl ⟨j0, j1, hN _ r⟩)
  · exact .inr (.inr (.inl ⟨j0, j1, j2, hN _ r⟩))
  · exact .inr (.inr (.inr ⟨j0, j1, j2, p, width, hop, rfl, rfl, rfl, F, fun v H' hS hd => ⟨(by show 2 ≤ sizeLine; decide), fun l hl => r _ _ (hS.trans (Same.new hl)) (.lst (SqL.of upd_same) (.cons (.int _) (.cons (Dp.same (Same.new hl) hd) .nil)))⟩⟩))
theorem ok_call_5 (T : Txt K mg) : FnOk P w K mg base CX0 11 (He.ga K "_law_call") (fdA K (He.ga K "_law_call")) ["_law_which", "_law_program", "_law_width", "_law_hop", "_law_more"] (sp_call K 5 5) := by
  refine T.F_law_call.ok sc_law_call (fun vs H Q E h => by obtain ⟨z, x, y, u, dz, dx, dy, du, rfl, _⟩ := h; rfl) (fun cdv A outer s H vs Q E hr h => ⟨_, PSs.nox ((pss_cons (ps_try_manyA (i := 5) rfl rfl sc_law_call.nd rfl rfl takes0 (fun W pn xe tk _ => (pss_cons (ps_if (pt_cmpR op_eq (pv 0) pe_int (nomark _))
(pss_cons (ps_ret (pe_lst (pa_cons pe_int (pa_cons (pe_callS (E := WE W) (ok_round_of T) (hr.mono (by decide)) (by rfl) T.g_round_of T.F_round_of.kp T.b_round_of (fun σ => passAt tk σ) (pa_cons (pv 1) (pa_cons (pv 3) pa_nil))) pa_nil))))
pss_nil)
pss_nil)
(pss_cons (ps_if (pt_cmpR op_eq (pv 0) pe_int (nomark _))
(pss_cons (ps_ret (pe_lst (pa_cons pe_int (pa_cons (pe_callS (E := WE W) (ok_told_spans T) (hr.mono (by decide)) (by rfl) T.g_told_spans T.F_told_spans.kp T.b_told_spans (fun σ => passAt tk σ) (pa_cons (pv 1) (pa_cons (pv 4) pa_nil))) pa_nil))))
pss_nil)
pss_nil)
(pss_cons (ps_if (pt_cmpR op_eq (pv 0) pe_int (nomark _))
(pss_cons (ps_ret (pe_lst (pa_cons pe_int (pa_cons (pe_callS (E := WE W) (ok_right_forever T) (hr.mono (by decide)) (by rfl) T.g_right_forever T.F_right_forever.kp T.b_right_forever (fun σ => passAt tk σ) (pa_cons (pv 1) (pa_cons (pv 2) (pa_cons (pv 3) pa_nil)))) pa_nil))))
pss_nil)
pss_nil)
(pss_cons (ps_if (pt_cmpR op_eq (pv 0) pe_int (nomark _))
(pss_cons (ps_ret (pe_lst (pa_cons pe_int (pa_cons (pe_callS (E := WE W) (ok_wrong_step T) (hr.mono (by decide)) (by rfl) T.g_wrong_step T.F_wrong_step.kp T.b_wrong_step (fun σ => passAt tk σ) (pa_cons (pv 1) (pa_cons (pv 2) (pa_cons (pv 3) pa_nil)))) pa_nil))))
pss_nil)
pss_nil)
(pss_cons (ps_if (pt_cmpR op_eq (pv 0) pe_int (nomark _))
(pss_cons (ps_ret (pe_lst (pa_cons pe_int (pa_cons (pe_callS (E := WE W) (ok_wrong_told T) (hr.mono (by decide)) (by rfl) T.g_wrong_told T.F_wrong_told.kp T.b_wrong_told (fun σ => passAt tk σ) (pa_cons (pv 1) (pa_cons (pv 2) (pa_cons (pv 3) pa_nil)))) pa_nil))))
pss_nil)
pss_nil)
(pss_cons (ps_if (pt_cmpR op_eq (pv 0) pe_int (nomark _))
(pss_cons (ps_ret (pe_lst (pa_cons pe_int (pa_cons (pe_callS (E := WE W) (ok_lets_wrong T) (hr.mono (by decide)) (by rfl) T.g_lets_wrong T.F_lets_wrong.kp T.b_lets_wrong (fun σ => passAt tk σ) (pa_cons (pv 1) (pa_cons (pv 2) (pa_cons (pv 3) (pa_cons (pv 4) pa_nil))))) pa_nil))))
pss_nil)
pss_nil)
(pss_cons (ps_if (pt_cmpR op_eq (pv 0) pe_int (nomark _))
(pss_cons (ps_ret (pe_lst (pa_cons pe_int (pa_cons (pe_callK0 (E := WE W) (ok_round_of T) (hr.mono (by decide)) (by rfl) T.g_round_of T.F_round_of.kp (kb_round_of_hp T) (fun σ => passAt tk σ) (pk_cons (pv 3) (pk_cons (pv 1) pk_nil))) pa_nil))))
pss_nil)
pss_nil)
(pss_cons (ps_if (pt_cmpR op_eq (pv 0) pe_int (nomark _))
(pss_cons (ps_ret (pe_lst (pa_cons pe_int (pa_cons (pe_callK0 (E := WE W) (ok_told_spans T) (hr.mono (by decide)) (by rfl) T.g_told_spans T.F_told_spans.kp (kb_told_spans_mp T) (fun σ => passAt tk σ) (pk_cons (pv 4) (pk_cons (pv 1) pk_nil))) pa_nil))))
pss_nil)
pss_nil)
(pss_cons (ps_if (pt_cmpR op_eq (pv 0) pe_int (nomark _))
(pss_cons (ps_ret (pe_lst (pa_cons pe_int (pa_cons (pe_callK0 (E := WE W) (ok_right_forever T) (hr.mono (by decide)) (by rfl) T.g_right_forever T.F_right_forever.kp (kb_right_forever_hwp T) (fun σ => passAt tk σ) (pk_cons (pv 3) (pk_cons (pv 2) (pk_cons (pv 1) pk_nil)))) pa_nil))))
pss_nil)
pss_nil)
(pss_cons (ps_if (pt_cmpR op_eq (pv 0) pe_int (nomark _))
(pss_cons (ps_ret (pe_lst (pa_cons pe_int (pa_cons (pe_callK0 (E := WE W) (ok_wrong_step T) (hr.mono (by decide)) (by rfl) T.g_wrong_step T.F_wrong_step.kp (kb_wrong_step_whp T) (fun σ => passAt tk σ) (pk_cons (pv 2) (pk_cons (pv 3) (pk_cons (pv 1) pk_nil)))) pa_nil))))
pss_nil)
pss_nil)
(pss_cons (ps_if (pt_cmpR op_eq (pv 0) pe_int (nomark _))
(pss_cons (ps_ret (pe_lst (pa_cons pe_int (pa_cons (pe_callK0 (E := WE W) (ok_wrong_told T) (hr.mono (by decide)) (by rfl) T.g_wrong_told T.F_wrong_told.kp (kb_wrong_told_hpw T) (fun σ => passAt tk σ) (pk_cons (pv 3) (pk_cons (pv 1) (pk_cons (pv 2) pk_nil)))) pa_nil))))
pss_nil)
pss_nil)
(pss_cons (ps_ret (pe_lst (pa_cons pe_int (pa_cons (pe_callK0 (E := WE W) (ok_lets_wrong T) (hr.mono (by decide)) (by rfl) T.g_lets_wrong T.F_lets_wrong.kp (kb_lets_wrong_thwp T) (fun σ => passAt tk σ) (pk_cons (pv 4) (pk_cons (pv 3) (pk_cons (pv 2) (pk_cons (pv 1) pk_nil))))) pa_nil))))
pss_nil))))))))))))) (.cons ⟨rfl, by decide, .inl T.g_NotUsable⟩ (fun a oe cls d pn hz hf => (pss_cons (ps_ret (pe_lst (pa_cons pe_int (pa_cons (pe_xf T.errN.xf T.errN.nw hz hf (pv 5)) (pa_cons (pe_xf T.errN.xf T.errN.na hz hf (pv 5)) pa_nil)))))
pss_nil)) (.cons ⟨rfl, by decide, .inl T.g_InvalidPaper⟩ (fun a oe cls d pn hz hf => (pss_cons (ps_ret (pe_lst (pa_cons pe_int (pa_cons (pe_xf T.errP.xf T.errP.nw hz hf (pv 5)) (pa_cons (pe_xf T.errP.xf T.errP.na hz hf (pv 5)) pa_nil)))))
pss_nil)) .nil)))
pss_nil)), ?_⟩)
  obtain ⟨z, x, y, u, dz, dx, dy, du, rfl, hz, hx, hy, hu, j⟩ := h
  refine seq_fn ?_
  generalize hW : wManyA _ 5 _ _ _ = W
  have hN : ∀ word, (∀ v H', Same H H' → Dp K H' v (errD 1 word) → Q v H') → ErrN K word H (WE W (L2.start ["_law_which", "_law_program", "_law_width", "_law_hop", "_law_more", "e"] [.int 5, z, x, y, u])) := fun word r H' d hS hd => by
    show W _ _ _ _
    rw [← hW]
    exact ⟨true, T.mNN, fun _ a ha => ⟨_, rfl, rfl, rfl, _, _, _, rfl, hd, lk_word _ _, _, rfl, rfl, rfl, _, _, _, rfl, hd, lk_at _ _, (by show 3 ≤ sizeLine; decide), fun l hl => r _ _ (hS.trans (Same.new hl)) (.lst (SqL.of upd_same) (.cons (.int _) (.cons (.str _) (.cons (.int _) .nil))))⟩, fun h => by cases h⟩
  have hP : ∀ word, (∀ v H', Same H H' → Dp K H' v (errD 2 word) → Q v H') → ErrP K word H (WE W (L2.start ["_law_which", "_law_program", "_law_width", "_law_hop", "_law_more", "e"] [.int 5, z, x, y, u])) := fun word r H' d hS hd => by
    show W _ _ _ _
    rw [← hW]
    exact ⟨false, T.mPN, (fun h => by cases h), fun _ => ⟨true, T.mPP, fun _ a ha => ⟨_, rfl, rfl, rfl, _, _, _, rfl, hd, lk_word _ _, _, rfl, rfl, rfl, _, _, _, rfl, hd, lk_at _ _, (by show 3 ≤ sizeLine; decide), fun l hl => r _ _ (hS.trans (Same.new hl)) (.lst (SqL.of upd_same) (.cons (.int _) (.cons (.str _) (.cons (.int _) .nil))))⟩, fun h => by cases h⟩⟩
  clear hW
  refine ⟨_, rfl, rfl, _, rfl, ?_⟩
  refine ifF (by decide) ?_
  refine ⟨_, rfl, rfl, _, rfl, ?_⟩
  refine ifF (by decide) ?_
  refine ⟨_, rfl, rfl, _, rfl, ?_⟩
  refine ifF (by decide) ?_
  refine ⟨_, rfl, rfl, _, rfl, ?_⟩
  refine ifF (by decide) ?_
  refine ⟨_, rfl, rfl, _, rfl, ?_⟩
  refine ifF (by decide) ?_
  refine ⟨_, rfl, rfl, _, rfl, ?_⟩
  refine ifT (by decide) ?_
  refine ⟨_, rfl, _, rfl, _, rfl, _, rfl, z, x, y, u, dz, dx, dy, du, rfl, hz, hx, hy, hu, ?_⟩
  rcases j with ⟨j0, r⟩ | ⟨j0, j1, r⟩ | ⟨j0, j1, j2, r⟩ | ⟨j0, j1, j2, p, width, hop, rfl, rfl, rfl, F, r1, r2, r⟩
  · exact .inl ⟨j0, hN _ r⟩
  · exact .inr (.inl ⟨j0, j1, hN _ r⟩)
  · exact .inr (.inr (.inl ⟨j0, j1, j2, hN _ r⟩))
  · exact .inr (.inr (.inr ⟨j0, j1, j2, p, width, hop, rfl, rfl, rfl, F, (fun h1 => hP _ (r1 h1)), (fun h1 h2 => hP _ (r2 h1 h2)), fun h1 h2 v H' hS hd => ⟨(by show 2 ≤ sizeLine; decide), fun l hl => r h1 h2 _ _ (hS.trans (Same.new hl)) (.lst (SqL.of upd_same) (.cons (.int _) (.cons (Dp.same (Same.new hl) hd) .nil)))⟩⟩))
theorem ok_call_11 (T : Txt K mg) : FnOk P w K mg base CX0 11 (He.ga K "_law_call") (fdA K (He.ga K "_law_call")) ["_law_which", "_law_program", "_law_width", "_law_hop", "_law_more"] (sp_call K 11 5) := by
  refine T.F_law_call.ok sc_law_call (fun vs H Q E h => by obtain ⟨z, x, y, u, dz, dx, dy, du, rfl, _⟩ := h; rfl) (fun cdv A outer s H vs Q E hr h => ⟨_, PSs.nox ((pss_cons (ps_try_manyA (i := 5) rfl rfl sc_law_call.nd rfl rfl takes0 (fun W pn xe tk _ => (pss_cons (ps_if (pt_cmpR op_eq (pv 0) pe_int (nomark _))
(pss_cons (ps_ret (pe_lst (pa_cons pe_int (pa_cons (pe_callS (E := WE W) (ok_round_of T) (hr.mono (by decide)) (by rfl) T.g_round_of T.F_round_of.kp T.b_round_of (fun σ => passAt tk σ) (pa_cons (pv 1) (pa_cons (pv 3) pa_nil))) pa_nil))))
pss_nil)
pss_nil)
(pss_cons (ps_if (pt_cmpR op_eq (pv 0) pe_int (nomark _))
(pss_cons (ps_ret (pe_lst (pa_cons pe_int (pa_cons (pe_callS (E := WE W) (ok_told_spans T) (hr.mono (by decide)) (by rfl) T.g_told_spans T.F_told_spans.kp T.b_told_spans (fun σ => passAt tk σ) (pa_cons (pv 1) (pa_cons (pv 4) pa_nil))) pa_nil))))
pss_nil)
pss_nil)
(pss_cons (ps_if (pt_cmpR op_eq (pv 0) pe_int (nomark _))
(pss_cons (ps_ret (pe_lst (pa_cons pe_int (pa_cons (pe_callS (E := WE W) (ok_right_forever T) (hr.mono (by decide)) (by rfl) T.g_right_forever T.F_right_forever.kp T.b_right_forever (fun σ => passAt tk σ) (pa_cons (pv 1) (pa_cons (pv 2) (pa_cons (pv 3) pa_nil)))) pa_nil))))
pss_nil)
pss_nil)
(pss_cons (ps_if (pt_cmpR op_eq (pv 0) pe_int (nomark _))
(pss_cons (ps_ret (pe_lst (pa_cons pe_int (pa_cons (pe_callS (E := WE W) (ok_wrong_step T) (hr.mono (by decide)) (by rfl) T.g_wrong_step T.F_wrong_step.kp T.b_wrong_step (fun σ => passAt tk σ) (pa_cons (pv 1) (pa_cons (pv 2) (pa_cons (pv 3) pa_nil)))) pa_nil))))
pss_nil)
pss_nil)
(pss_cons (ps_if (pt_cmpR op_eq (pv 0) pe_int (nomark _))
(pss_cons (ps_ret (pe_lst (pa_cons pe_int (pa_cons (pe_callS (E := WE W) (ok_wrong_told T) (hr.mono (by decide)) (by rfl) T.g_wrong_told T.F_wrong_told.kp T.b_wrong_told (fun σ => passAt tk σ) (pa_cons (pv 1) (pa_cons (pv 2) (pa_cons (pv 3) pa_nil)))) pa_nil))))
pss_nil)
pss_nil)
(pss_cons (ps_if (pt_cmpR op_eq (pv 0) pe_int (nomark _))
(pss_cons (ps_ret (pe_lst (pa_cons pe_int (pa_cons (pe_callS (E := WE W) (ok_lets_wrong T) (hr.mono (by decide)) (by rfl) T.g_lets_wrong T.F_lets_wrong.kp T.b_lets_wrong (fun σ => passAt tk σ) (pa_cons (pv 1) (pa_cons (pv 2) (pa_cons (pv 3) (pa_cons (pv 4) pa_nil))))) pa_nil))))
pss_nil)
pss_nil)
(pss_cons (ps_if (pt_cmpR op_eq (pv 0) pe_int (nomark _))
(pss_cons (ps_ret (pe_lst (pa_cons pe_int (pa_cons (pe_callK0 (E := WE W) (ok_round_of T) (hr.mono (by decide)) (by rfl) T.g_round_of T.F_round_of.kp (kb_round_of_hp T) (fun σ => passAt tk σ) (pk_cons (pv 3) (pk_cons (pv 1) pk_nil))) pa_nil))))
pss_nil)
pss_nil)
(pss_cons (ps_if (pt_cmpR op_eq (pv 0) pe_int (nomark _))
(pss_cons (ps_ret (pe_lst (pa_cons pe_int (pa_cons (pe_callK0 (E := WE W) (ok_told_spans T) (hr.mono (by decide)) (by rfl) T.g_told_spans T.F_told_spans.kp (kb_told_spans_mp T) (fun σ => passAt tk σ) (pk_cons (pv 4) (pk_cons (pv 1) pk_nil))) pa_nil))))
pss_nil)
pss_nil)
(pss_cons (ps_if (pt_cmpR op_eq (pv 0) pe_int (nomark _))
(pss_cons (ps_ret (pe_lst (pa_cons pe_int (pa_cons (pe_callK0 (E := WE W) (ok_right_forever T) (hr.mono (by decide)) (by rfl) T.g_right_forever T.F_right_forever.kp (kb_right_forever_hwp T) (fun σ => passAt tk σ) (pk_cons (pv 3) (pk_cons (pv 2) (pk_cons (pv 1) pk_nil)))) pa_nil))))
pss_nil)
pss_nil)
(pss_cons (ps_if (pt_cmpR op_eq (pv 0) pe_int (nomark _))
(pss_cons (ps_ret (pe_lst (pa_cons pe_int (pa_cons (pe_callK0 (E := WE W) (ok_wrong_step T) (hr.mono (by decide)) (by rfl) T.g_wrong_step T.F_wrong_step.kp (kb_wrong_step_whp T) (fun σ => passAt tk σ) (pk_cons (pv 2) (pk_cons (pv 3) (pk_cons (pv 1) pk_nil)))) pa_nil))))
pss_nil)
pss_nil)
(pss_cons (ps_if (pt_cmpR op_eq (pv 0) pe_int (nomark _))
(pss_cons (ps_ret (pe_lst (pa_cons pe_int (pa_cons (pe_callK0 (E := WE W) (ok_wrong_told T) (hr.mono (by decide)) (by rfl) T.g_wrong_told T.F_wrong_told.kp (kb_wrong_told_hpw T) (fun σ => passAt tk σ) (pk_cons (pv 3) (pk_cons (pv 1) (pk_cons (pv 2) pk_nil)))) pa_nil))))
pss_nil)
pss_nil)
(pss_cons (ps_ret (pe_lst (pa_cons pe_int (pa_cons (pe_callK0 (E := WE W) (ok_lets_wrong T) (hr.mono (by decide)) (by rfl) T.g_lets_wrong T.F_lets_wrong.kp (kb_lets_wrong_thwp T) (fun σ => passAt tk σ) (pk_cons (pv 4) (pk_cons (pv 3) (pk_cons (pv 2) (pk_cons (pv 1) pk_nil))))) pa_nil))))
pss_nil))))))))))))) (.cons ⟨rfl, by decide, .inl T.g_NotUsable⟩ (fun a oe cls d pn hz hf => (pss_cons (ps_ret (pe_lst (pa_cons pe_int (pa_cons (pe_xf T.errN.xf T.errN.nw hz hf (pv 5)) (pa_cons (pe_xf T.errN.xf T.errN.na hz hf (pv 5)) pa_nil)))))
pss_nil)) (.cons ⟨rfl, by decide, .inl T.g_InvalidPaper⟩ (fun a oe cls d pn hz hf => (pss_cons (ps_ret (pe_lst (pa_cons pe_int (pa_cons (pe_xf T.errP.xf T.errP.nw hz hf (pv 5)) (pa_cons (pe_xf T.errP.xf T.errP.na hz hf (pv 5)) pa_nil)))))
pss_nil)) .nil)))
pss_nil)), ?_⟩)
  obtain ⟨z, x, y, u, dz, dx, dy, du, rfl, hz, hx, hy, hu, j⟩ := h
  refine seq_fn ?_
  generalize hW : wManyA _ 5 _ _ _ = W
  have hN : ∀ word, (∀ v H', Same H H' → Dp K H' v (errD 1 word) → Q v H') → ErrN K word H (WE W (L2.start ["_law_which", "_law_program", "_law_width", "_law_hop", "_law_more", "e"] [.int 11, z, x, y, u])) := fun word r H' d hS hd => by
    show W _ _ _ _
    rw [← hW]
    exact ⟨true, T.mNN, fun _ a ha => ⟨_, rfl, rfl, rfl, _, _, _, rfl, hd, lk_word _ _, _, rfl, rfl, rfl, _, _, _, rfl, hd, lk_at _ _, (by show 3 ≤ sizeLine; decide), fun l hl => r _ _ (hS.trans (Same.new hl)) (.lst (SqL.of upd_same) (.cons (.int _) (.cons (.str _) (.cons (.int _) .nil))))⟩, fun h => by cases h⟩
  have hP : ∀ word, (∀ v H', Same H H' → Dp K H' v (errD 2 word) → Q v H') → ErrP K word H (WE W (L2.start ["_law_which", "_law_program", "_law_width", "_law_hop", "_law_more", "e"] [.int 11, z, x, y, u])) := fun word r H' d hS hd => by
    show W _ _ _ _
    rw [← hW]
    exact ⟨false, T.mPN, (fun h => by cases h), fun _ => ⟨true, T.mPP, fun _ a ha => ⟨_, rfl, rfl, rfl, _, _, _, rfl, hd, lk_word _ _, _, rfl, rfl, rfl, _, _, _, rfl, hd, lk_at _ _, (by show 3 ≤ sizeLine; decide), fun l hl => r _ _ (hS.trans (Same.new hl)) (.lst (SqL.of upd_same) (.cons (.int _) (.cons (.str _) (.cons (.int _) .nil))))⟩, fun h => by cases h⟩⟩
  clear hW
  refine ⟨_, rfl, rfl, _, rfl, ?_⟩
  refine ifF (by decide) ?_
  refine ⟨_, rfl, rfl, _, rfl, ?_⟩
  refine ifF (by decide) ?_
  refine ⟨_, rfl, rfl, _, rfl, ?_⟩
  refine ifF (by decide) ?_
  refine ⟨_, rfl, rfl, _, rfl, ?_⟩
  refine ifF (by decide) ?_
  refine ⟨_, rfl, rfl, _, rfl, ?_⟩
  refine ifF (by decide) ?_
  refine ⟨_, rfl, rfl, _, rfl, ?_⟩
  refine ifF (by decide) ?_
  refine ⟨_, rfl, rfl, _, rfl, ?_⟩
  refine ifF (by decide) ?_
  refine ⟨_, rfl, rfl, _, rfl, ?_⟩
  refine ifF (by decide) ?_
  refine ⟨_, rfl, rfl, _, rfl, ?_⟩
  refine ifF (by decide) ?_
  refine ⟨_, rfl, rfl, _, rfl, ?_⟩
  refine ifF (by decide) ?_
  refine ⟨_, rfl, rfl, _, rfl, ?_⟩
  refine ifF (by decide) ?_
  refine ⟨_, rfl, _, rfl, _, rfl, _, rfl, z, x, y, u, dz, dx, dy, du, rfl, hz, hx, hy, hu, ?_⟩
  rcases j with ⟨j0, r⟩ | ⟨j0, j1, r⟩ | ⟨j0, j1, j2, r⟩ | ⟨j0, j1, j2, p, width, hop, rfl, rfl, rfl, F, r1, r2, r⟩
  · exact .inl ⟨j0, hN _ r⟩
  · exact .inr (.inl ⟨j0, j1, hN _ r⟩)
  · exact .inr (.inr (.inl ⟨j0, j1, j2, hN _ r⟩))
  · exact .inr (.inr (.inr ⟨j0, j1, j2, p, width, hop, rfl, rfl, rfl, F, (fun h1 => hP _ (r1 h1)), (fun h1 h2 => hP _ (r2 h1 h2)), fun h1 h2 v H' hS hd => ⟨(by show 2 ≤ sizeLine; decide), fun l hl => r h1 h2 _ _ (hS.trans (Same.new hl)) (.lst (SqL.of upd_same) (.cons (.int _) (.cons (Dp.same (Same.new hl) hd) .nil)))⟩⟩))
def sp_law_call (K : PySem.W.Frag) : Sp := fun vs H Q E => ∃ (i : Int) (m : Nat), m < 6 ∧ (i = m ∨ i = m + 6) ∧ sp_call K i m vs H Q E
theorem ok_law_call (T : Txt K mg) : FnOk P w K mg base CX0 11 (He.ga K "_law_call") (fdA K (He.ga K "_law_call")) ["_law_which", "_law_program", "_law_width", "_law_hop", "_law_more"] (sp_law_call K) := by
  refine ⟨fun vs H Q E h => by obtain ⟨i, m, _, _, z, x, y, u, dz, dx, dy, du, rfl, _⟩ := h; rfl, fun A outer s H args us vs Q E hr he hb hv h => ?_⟩
  obtain ⟨i, m, hm, hi, h⟩ := h
  have hm' : m = 0 ∨ m = 1 ∨ m = 2 ∨ m = 3 ∨ m = 4 ∨ m = 5 := by clear h hi; omega
  clear hm
  rcases hm' with rfl | rfl | rfl | rfl | rfl | rfl
  · rcases hi with rfl | rfl
    · exact (ok_call_0 T).run A outer s H args us vs Q E hr he hb hv h
    · exact (ok_call_6 T).run A outer s H args us vs Q E hr he hb hv h
  · rcases hi with rfl | rfl
    · exact (ok_call_1 T).run A outer s H args us vs Q E hr he hb hv h
    · exact (ok_call_7 T).run A outer s H args us vs Q E hr he hb hv h
  · rcases hi with rfl | rfl
    · exact (ok_call_2 T).run A outer s H args us vs Q E hr he hb hv h
    · exact (ok_call_8 T).run A outer s H args us vs Q E hr he hb hv h
  · rcases hi with rfl | rfl
    · exact (ok_call_3 T).run A outer s H args us vs Q E hr he hb hv h
    · exact (ok_call_9 T).run A outer s H args us vs Q E hr he hb hv h
  · rcases hi with rfl | rfl
    · exact (ok_call_4 T).run A outer s H args us vs Q E hr he hb hv h
    · exact (ok_call_10 T).run A outer s H args us vs Q E hr he hb hv h
  · rcases hi with rfl | rfl
    · exact (ok_call_5 T).run A outer s H args us vs Q E hr he hb hv h
    · exact (ok_call_11 T).run A outer s H args us vs Q E hr he hb hv h
end
end U3


namespace U3
open PySem PySem.Spec PyProof.Rows L2
section
variable {P : Program} {w : World} {K : PySem.W.Frag} {mg : Str → Option Value} {base : Heap}
/-! _law_papers(pool, program, width, hop, size, wrong) -/
theorem paper_step {ws : List Nat} {width hop size : Nat} {d : PyData} (h : stepOk width hop d = false) : paperD ws width hop size d = errD 2 "step" := by
  unfold paperD
  rw [h]
  rfl
theorem step_mem {pr : Prog} {width hop S : Nat} {d : PyData} (hp : 1 ≤ pr.phases.length) (hh : 1 ≤ hop) (hS : width + Nat.lcm pr.phases.length hop - 1 ≤ S) (h : stepOk width hop d = true) :
    (stepAt pr width hop d ∈ wrongs pr width hop S ↔ right pr width (stepAt pr width hop d) = false) := by
  have hL : 0 < Nat.lcm pr.phases.length hop := Nat.lcm_pos (by omega) (by omega)
  rw [mem_wrongs hh]
  have hle : ((intOf d - width).fmod (Nat.lcm pr.phases.length hop : Nat)).toNat < Nat.lcm pr.phases.length hop := by
    have h1 := Int.fmod_lt_of_pos (intOf d - width) (b := (Nat.lcm pr.phases.length hop : Nat)) (by omega)
    have h0 := Int.fmod_nonneg_of_pos (intOf d - width) (b := (Nat.lcm pr.phases.length hop : Nat)) (by omega)
    omega
  have hdv : hop ∣ ((intOf d - width).fmod (Nat.lcm pr.phases.length hop : Nat)).toNat := by
    have h2 : (intOf d - width).fmod hop = 0 := by
      unfold stepOk at h
      have := (Bool.and_eq_true_iff.mp (Bool.and_eq_true_iff.mp h).2).2
      exact of_decide_eq_true this
    have d1 : (hop : Int) ∣ intOf d - width := Int.dvd_of_fmod_eq_zero h2
    have d2 : (hop : Int) ∣ ((Nat.lcm pr.phases.length hop : Nat) : Int) := Int.natCast_dvd_natCast.mpr (Nat.dvd_lcm_right _ _)
    have d3 : (hop : Int) ∣ (intOf d - width).fmod (Nat.lcm pr.phases.length hop : Nat) := by
      have e := Int.fmod_def (intOf d - width) (Nat.lcm pr.phases.length hop : Nat)
      rw [e]
      exact Int.dvd_sub d1 (Int.dvd_trans d2 (Int.dvd_mul_right _ _))
    have h0 := Int.fmod_nonneg_of_pos (intOf d - width) (b := (Nat.lcm pr.phases.length hop : Nat)) (by omega)
    have e : (intOf d - width).fmod (Nat.lcm pr.phases.length hop : Nat) = ((((intOf d - width).fmod (Nat.lcm pr.phases.length hop : Nat)).toNat : Nat) : Int) := by omega
    rw [e] at d3
    exact Int.natCast_dvd_natCast.mp d3
  unfold stepAt
  refine ⟨fun x => x.2.2.2, fun x => ⟨by omega, by omega, ?_, x⟩⟩
  have e : ∀ a b : Nat, a + b - a = b := fun a b => by omega
  rw [e]
  exact hdv
theorem paper_right {pr : Prog} {width hop S : Nat} {d : PyData} (hp : 1 ≤ pr.phases.length) (hh : 1 ≤ hop) (hS : width + Nat.lcm pr.phases.length hop - 1 ≤ S) (h : stepOk width hop d = true) (hr : right pr width (stepAt pr width hop d) = true) :
    paperD (wrongs pr width hop S) width hop (Nat.lcm pr.phases.length hop) d = errD 2 "right" := by
  have hm := step_mem hp hh hS h
  unfold paperD
  rw [if_pos h, if_neg]
  · rfl
  · intro z
    have := hm.mp (of_decide_eq_true z)
    rw [hr] at this
    cases this
theorem paper_due {pr : Prog} {width hop S : Nat} {d : PyData} (hp : 1 ≤ pr.phases.length) (hh : 1 ≤ hop) (hS : width + Nat.lcm pr.phases.length hop - 1 ≤ S) (h : stepOk width hop d = true) (hr : right pr width (stepAt pr width hop d) = false) :
    paperD (wrongs pr width hop S) width hop (Nat.lcm pr.phases.length hop) d = .list [.int 0, dueV width (intOf d)] := by
  have hm := step_mem hp hh hS h
  unfold paperD
  rw [if_pos h]
  exact if_pos (decide_eq_true (hm.mpr hr))
theorem sm_err (n : Nat) (k : Int) (x : Str) : Sm (n + 1) (errD k x) := by
  refine ⟨by show 3 ≤ 1000000; decide, fun z hz => ?_⟩
  simp only [List.mem_cons, List.not_mem_nil, or_false] at hz
  rcases hz with rfl | rfl | rfl <;> (cases n <;> first | trivial | rfl)
theorem sm_sc {n : Nat} {d : PyData} (h : isSeq d = false) : Sm n d := by
  cases n with
  | zero => exact h
  | succ n => cases d <;> first | trivial | (simp [isSeq, isTup, isLst] at h)
theorem sm_tup {n : Nat} {ds : List PyData} (hl : ds.length ≤ 1000000) (h : ∀ x ∈ ds, Sm n x) : Sm (n + 1) (.tuple ds) := ⟨hl, h⟩
theorem sm_lst {n : Nat} {ds : List PyData} (hl : ds.length ≤ 1000000) (h : ∀ x ∈ ds, Sm n x) : Sm (n + 1) (.list ds) := ⟨hl, h⟩
theorem sm_two {n : Nat} {a b : PyData} (ha : Sm n a) (hb : Sm n b) : ∀ x ∈ [a, b], Sm n x := fun x hx => by
  simp only [List.mem_cons, List.not_mem_nil, or_false] at hx
  rcases hx with rfl | rfl <;> assumption
theorem sm_due (n : Nat) (a b : Int) : Sm (n + 1) (dueV a b) := sm_tup (by show 2 ≤ 1000000; decide) (sm_two (sm_sc rfl) (sm_sc rfl))
theorem sm_paper (ws : List Nat) (width hop size : Nat) (d : PyData) : Sm 7 (paperD ws width hop size d) := by
  unfold paperD
  split
  · split
    · exact sm_lst (by show 2 ≤ 1000000; decide) (sm_two (sm_sc rfl) (sm_due _ _ _))
    · exact sm_err _ _ _
  · exact sm_err _ _ _
theorem gn_heap {i : Nat} {v : V} {N : L2.St → Hp → Prop} {σ : L2.St} {H H' : Hp} (e : H = H') (h : N (σ.set i (some v)) H') : gName i v σ H N := e ▸ h
theorem nx_heap {N : L2.St → Hp → Prop} {σ : L2.St} {H H' : Hp} (e : H = H') (h : N σ H') : N σ H := e ▸ h
/-- data that stays whatever happens to the pool -/
def Stay (K : PySem.W.Frag) (p : Addr) (H : Hp) (v : V) (d : PyData) : Prop := ∀ H2, But p H H2 → Dp K H2 v d
theorem Stay.but {p : Addr} {H H1 : Hp} {v : V} {d : PyData} (h : Stay K p H v d) (e : But p H H1) : Stay K p H1 v d := fun H2 e2 => h H2 (e.trans e2)
theorem Stay.int {p : Addr} {H : Hp} {i : Int} : Stay K p H (.int i) (.int i) := fun _ _ => .int i
def sp_law_papers (K : PySem.W.Frag) : Sp := fun vs H Q _ => ∃ (p : Addr) (x : V) (pr : Prog) (width hop S : Nat) (wl : Addr), vs = [.ref p, x, .int width, .int hop, .int (Nat.lcm pr.phases.length hop : Nat), .ref wl] ∧ Pool H p ∧ Dp K H x (toD pr) ∧ Scn pr width hop ∧ width + Nat.lcm pr.phases.length hop - 1 ≤ S ∧ S ≤ 20000 ∧ H wl = some (.lst (ivs (wrongs pr width hop S))) ∧ wl ≠ p ∧
  ∀ H', But p H H' → Pool H' p → Q (.bl true) H'
theorem Scn.fit {pr : Prog} {width hop : Nat} (s : Scn pr width hop) : Fit pr width hop := ⟨s.wf, s.w1, s.h1, by have := s.h2; omega, by have := s.few; have := s.w2; omega⟩
theorem Scn.fit1 {pr : Prog} {width hop : Nat} (s : Scn pr width hop) : Fit pr 1 hop := ⟨s.wf, by omega, s.h1, by have := s.h2; omega, by have := s.few; omega⟩
-- slots: 0:pool_here 1:program 2:width 3:hop 4:size 5:wrong_here 6:far 7:menu 8:things 9:thing 10:due | cells: []
theorem sc_law_papers : FnScope ["_law_pool_here", "_law_program", "_law_width", "_law_hop", "_law_size", "_law_wrong_here", "_law_far", "_law_menu", "_law_things", "_law_thing", "_law_due"] ["_law_pool_here", "_law_program", "_law_width", "_law_hop", "_law_size", "_law_wrong_here"] (defScope s_law_papers) := ⟨rfl, rfl, rfl, by decide +kernel, rfl, by decide +kernel, by decide +kernel⟩
theorem ok_law_papers (T : Txt K mg) : FnOk P w K mg base CX0 12 (He.ga K "_law_papers") (fdA K (He.ga K "_law_papers")) ["_law_pool_here", "_law_program", "_law_width", "_law_hop", "_law_size", "_law_wrong_here"] (sp_law_papers K) := by
  refine T.F_law_papers.ok sc_law_papers (fun vs H Q E h => by obtain ⟨p, x, pr, width, hop, S, wl, rfl, _⟩ := h; rfl) (fun cdv A outer s H vs Q E hr h => ⟨_, PSs.nox ((pss_cons (ps_set (i := 6) sc_law_papers.nd rfl (Or.inl rfl) (pe_op op_add (pe_op op_mul (pe_call (ok_law_draw T) (hr.mono (by decide)) (by rfl) T.g_law_draw T.F_law_draw.kp T.b_law_draw .nil pass0 (pa_cons (pv 0) (pa_cons pe_int pa_nil))) pe_int) (pe_call (ok_law_draw T) (hr.mono (by decide)) (by rfl) T.g_law_draw T.F_law_draw.kp T.b_law_draw .nil pass0 (pa_cons (pv 0) (pa_cons pe_int pa_nil)))))
(pss_cons (ps_set (i := 7) sc_law_papers.nd rfl (Or.inl rfl) (pe_lst (pa_cons pe_int (pa_cons (pe_op op_sub (pv 2) pe_int) (pa_cons (pe_un un_neg (pv 3)) (pa_cons pe_bl (pa_cons pe_non (pa_cons (pe_callTy call_str_int (by rfl) T.m_str bt_str (pa_cons (pv 2) pa_nil)) (pa_cons (pe_tup (pa_cons (pv 2) pa_nil)) (pa_cons (pe_lst (pa_cons (pv 2) pa_nil)) (pa_cons (pe_op op_add (pe_op op_add (pv 2) pe_int) (pe_op op_mul (pv 3) (pv 6))) pa_nil)))))))))))
(pss_cons (ps_set (i := 8) sc_law_papers.nd rfl (Or.inl rfl) (pe_lst (pa_cons (pe_op op_add (pv 2) (pe_op op_mul (pv 3) (pe_call (ok_law_draw T) (hr.mono (by decide)) (by rfl) T.g_law_draw T.F_law_draw.kp T.b_law_draw .nil pass0 (pa_cons (pv 0) (pa_cons (pe_op op_mul pe_int (pv 4)) pa_nil))))) (pa_cons (pe_op op_add (pv 2) (pe_op op_mul (pv 3) (pv 6))) (pa_cons (pe_ix ix_list (pv 7) (pe_call (ok_law_draw T) (hr.mono (by decide)) (by rfl) T.g_law_draw T.F_law_draw.kp T.b_law_draw .nil pass0 (pa_cons (pv 0) (pa_cons (pe_callB call_len_seq (by rfl) T.m_len bt_len (pa_cons (pv 7) pa_nil)) pa_nil))) (fun _ _ => rfl)) pa_nil)))))
(pss_cons (ps_if (pt_cmpR (op_neD hr.units) (pv 5) (pe_lst pa_nil) (nomark _))
(pss_cons (ps_set (i := 8) sc_law_papers.nd rfl (Or.inl rfl) (pe_op op_cat (pv 8) (pe_lst (pa_cons (pe_ix ix_list (pv 5) pe_int (fun _ _ => rfl)) (pa_cons (pe_op op_add (pe_ix ix_list (pv 5) (pe_call (ok_law_draw T) (hr.mono (by decide)) (by rfl) T.g_law_draw T.F_law_draw.kp T.b_law_draw .nil pass0 (pa_cons (pv 0) (pa_cons (pe_callB call_len_seq (by rfl) T.m_len bt_len (pa_cons (pv 5) pa_nil)) pa_nil))) (fun _ _ => rfl)) (pe_op op_mul (pv 4) (pv 6))) pa_nil)))))
pss_nil)
pss_nil)
(pss_cons (ps_for PassesOwn.never rfl (pi_list (pv 8)) (pg_name (i := 9) sc_law_papers.nd rfl (Or.inl rfl))
(pss_cons (ps_set (i := 10) sc_law_papers.nd rfl (Or.inl rfl) (pe_call (ok_law_paper T) (hr.mono (by decide)) (by rfl) T.g_law_paper T.F_law_paper.kp T.b_law_paper .nil pass0 (pa_cons (pv 5) (pa_cons (pv 2) (pa_cons (pv 3) (pa_cons (pv 4) (pa_cons (pv 9) pa_nil)))))))
(pss_cons (ps_if (pt_not (pt_val (pe_call (ok_law_same T) (hr.mono (by decide)) (by rfl) T.g_law_same T.F_law_same.kp T.b_law_same .nil pass0 (pa_cons (pe_call (ok_law_call T) (hr.mono (by decide)) (by rfl) T.g_law_call T.F_law_call.kp T.b_law_call .nil pass0 (pa_cons (pe_op op_add pe_int (pe_op op_mul pe_int (pe_call (ok_law_draw T) (hr.mono (by decide)) (by rfl) T.g_law_draw T.F_law_draw.kp T.b_law_draw .nil pass0 (pa_cons (pv 0) (pa_cons pe_int pa_nil))))) (pa_cons (pv 1) (pa_cons (pv 2) (pa_cons (pv 3) (pa_cons (pv 9) pa_nil)))))) (pa_cons (pv 10) pa_nil)))))
(pss_cons (ps_ret pe_bl)
pss_nil)
pss_nil)
pss_nil)))
(pss_cons (ps_ret pe_bl)
pss_nil))))))), ?_⟩)
  obtain ⟨p, x, pr, width, hop, S, wl, rfl, hP, hx, hsc, hS1, hS2, hwl, nwp, q⟩ := h
  have hw1 := hsc.w1
  have hw8 := hsc.w2
  have hh1 := hsc.h1
  have hh2 := hsc.h2
  have hp1 := hsc.wf.p1
  have hfew := hsc.few
  have hLpos : 0 < Nat.lcm pr.phases.length hop := Nat.lcm_pos (by omega) (by omega)
  generalize hL : Nat.lcm pr.phases.length hop = L at *
  generalize hws : wrongs pr width hop S = ws at *
  have hwsl : ws.length ≤ 20000 + 1000 := by
    rw [← hws]
    unfold wrongs
    refine Nat.le_trans (List.length_filter_le _ _) ?_
    rw [asked_len]
    refine Nat.le_trans (Nat.div_le_self _ _) ?_
    omega
  have hP0 := hP
  -- far
  refine ⟨_, rfl, p, 1000000007, rfl, hP, by omega, by omega, fun f1 H1 hf1 hb1 hp1' => ⟨_, _, rfl, rfl, .inr ⟨by decide, by decide⟩, _, rfl, p, 1000000009, rfl, hp1', by omega, by omega, fun f2 H2 hf2 hb2 hp2 => ⟨_, _, rfl, rfl, ?_⟩⟩⟩
  show tSeq _ _ _ (List.set _ 6 (some (V.int ((f1 : Int) * 10000000000000000000 + (f2 : Int))))) H2
  generalize (f1 : Int) * 10000000000000000000 + (f2 : Int) = far
  have hB2 := hb1.trans hb2
  clear hP hb1 hp1' hb2
  -- menu
  refine ⟨_, rfl, _, _, rfl, rfl, _, rfl, _, rfl, _, rfl, _, rfl, ?_, _, rfl, (by show 1 ≤ sizeLine; decide), fun q1 hq1 => ⟨_, rfl, (by show 1 ≤ sizeLine; decide), fun q2 hq2 => ⟨_, rfl, _, _, rfl, rfl, _, rfl, _, rfl, _, _, rfl, rfl, .inl ⟨by omega, by omega⟩, _, _, rfl, rfl, (by show 9 ≤ sizeLine; decide), fun ml hml => ?_⟩⟩⟩
  · exact Nat.lt_of_le_of_lt (Nat.log2_le_self _) (by omega)
  have S3 := ((Same.new (o := .tup [V.int width]) hq1).trans (Same.new (o := .lst [V.int width]) hq2)).trans (Same.new (o := .lst [V.int 0, V.int ((width : Int) - 1), V.int (-(hop : Int)), V.bl true, V.non, V.str (toString (width : Int)), V.ref q1, V.ref q2, V.int ((width : Int) + 1 + (hop : Int) * far)]) hml)
  have n1 : q1 ≠ p := (new_of (But.refl p H2) hp2 hq1).1
  have n2 : q2 ≠ p := (new_of (But.of (p := p) (Same.new hq1)) (hp2.same (Same.new hq1)) hq2).1
  have n3 : ml ≠ p := (new_of (But.of (p := p) ((Same.new hq1).trans (Same.new hq2))) (hp2.same ((Same.new hq1).trans (Same.new hq2))) hml).1
  have c1 := ((Same.new (o := .lst [V.int width]) hq2).trans (Same.new (o := .lst [V.int 0, V.int ((width : Int) - 1), V.int (-(hop : Int)), V.bl true, V.non, V.str (toString (width : Int)), V.ref q1, V.ref q2, V.int ((width : Int) + 1 + (hop : Int) * far)]) hml)) _ _ (upd_same : upd H2 q1 (.tup [V.int width]) q1 = _)
  have c2 := (Same.new (o := .lst [V.int 0, V.int ((width : Int) - 1), V.int (-(hop : Int)), V.bl true, V.non, V.str (toString (width : Int)), V.ref q1, V.ref q2, V.int ((width : Int) + 1 + (hop : Int) * far)]) hml) _ _ (upd_same : upd (upd H2 q1 (.tup [V.int width])) q2 (.lst [V.int width]) q2 = _)
  obtain ⟨ML, hMLe⟩ : ∃ ML, ML = [V.int 0, V.int ((width : Int) - 1), V.int (-(hop : Int)), V.bl true, V.non, V.str (toString (width : Int)), V.ref q1, V.ref q2, V.int ((width : Int) + 1 + (hop : Int) * far)] := ⟨_, rfl⟩
  have c3 : upd (upd (upd H2 q1 (.tup [V.int width])) q2 (.lst [V.int width])) ml (.lst [V.int 0, V.int ((width : Int) - 1), V.int (-(hop : Int)), V.bl true, V.non, V.str (toString (width : Int)), V.ref q1, V.ref q2, V.int ((width : Int) + 1 + (hop : Int) * far)]) ml = some (.lst ML) := by rw [hMLe]; exact upd_same
  have hp3 := hp2.same S3
  have hB3 := hB2.trans (But.of S3)
  show tSeq _ _ _ _ (upd (upd (upd H2 q1 (.tup [V.int width])) q2 (.lst [V.int width])) ml (.lst [V.int 0, V.int ((width : Int) - 1), V.int (-(hop : Int)), V.bl true, V.non, V.str (toString (width : Int)), V.ref q1, V.ref q2, V.int ((width : Int) + 1 + (hop : Int) * far)]))
  generalize upd (upd (upd H2 q1 (.tup [V.int width])) q2 (.lst [V.int width])) ml (.lst [V.int 0, V.int ((width : Int) - 1), V.int (-(hop : Int)), V.bl true, V.non, V.str (toString (width : Int)), V.ref q1, V.ref q2, V.int ((width : Int) + 1 + (hop : Int) * far)]) = H3 at *
  have hML9 : ML.length = 9 := by rw [hMLe]; rfl
  have hst : ∀ v ∈ ML, ∃ d, Stay K p H3 v d := by
    intro v hv
    rw [hMLe] at hv
    simp only [List.mem_cons, List.not_mem_nil, or_false] at hv
    rcases hv with rfl | rfl | rfl | rfl | rfl | rfl | rfl | rfl | rfl
    · exact ⟨_, Stay.int⟩
    · exact ⟨_, Stay.int⟩
    · exact ⟨_, Stay.int⟩
    · exact ⟨_, fun _ _ => .bl true⟩
    · exact ⟨_, fun _ _ => .non⟩
    · exact ⟨_, fun _ _ => .str _⟩
    · exact ⟨.tuple [.int width], fun H9 e => .tup (SqT.of (e _ _ n1 c1)) (.cons (.int _) .nil)⟩
    · exact ⟨.list [.int width], fun H9 e => .lst (SqL.of (e _ _ n2 c2)) (.cons (.int _) .nil)⟩
    · exact ⟨_, Stay.int⟩
  clear hMLe c1 c2 n1 n2 hq1 hq2 hml S3 hp2 hB2
  -- things
  refine ⟨_, rfl, _, rfl, _, rfl, _, rfl, _, _, rfl, rfl, .inl ⟨by decide, by decide⟩, p, 3 * L, rfl, hp3, by omega, by omega, fun k H4 hk hb4 hp4 => ⟨_, _, rfl, rfl, .inl ⟨by omega, by omega⟩, _, _, rfl, rfl, _, rfl, _, rfl, _, rfl, _, _, rfl, rfl, .inl ⟨by omega, by omega⟩, _, _, rfl, rfl, _, rfl, _, rfl, _, rfl, _, _, rfl, .inl (SqL.of (hb4.at c3 n3)), p, ML.length, rfl, hp4, by omega, by omega, fun k2 H5 hk2 hb5 hp5 => ?_⟩⟩
  obtain ⟨v2, hv2⟩ : ∃ v, ML[k2]? = some v := ⟨_, List.getElem?_eq_getElem hk2⟩
  have hb45 := hb4.trans hb5
  refine ⟨ml, ML, _, v2, rfl, rfl, SqL.of (hb45.at c3 n3), atI_nat (j := k2) hv2, (by show 3 ≤ sizeLine; decide), fun th hth => ?_⟩
  obtain ⟨d2, hd2⟩ := hst v2 (List.mem_of_getElem? hv2)
  have S6 := Same.new (o := .lst [V.int ((width : Int) + (hop : Int) * (k : Int)), V.int ((width : Int) + (hop : Int) * far), v2]) hth
  have hB6 := (hB3.trans hb45).trans (But.of (p := p) S6)
  have hp6 := hp5.same S6
  have nth : th ≠ p := (new_of (But.refl p H5) hp5 hth).1
  have hst6 : ∀ v ∈ [V.int ((width : Int) + (hop : Int) * (k : Int)), V.int ((width : Int) + (hop : Int) * far), v2], ∃ d, Stay K p (upd H5 th (.lst [V.int ((width : Int) + (hop : Int) * (k : Int)), V.int ((width : Int) + (hop : Int) * far), v2])) v d := by
    intro v hv
    simp only [List.mem_cons, List.not_mem_nil, or_false] at hv
    rcases hv with rfl | rfl | rfl
    · exact ⟨_, Stay.int⟩
    · exact ⟨_, Stay.int⟩
    · exact ⟨d2, hd2.but (hb45.trans (But.of S6))⟩
  have h6th : upd H5 th (.lst [V.int ((width : Int) + (hop : Int) * (k : Int)), V.int ((width : Int) + (hop : Int) * far), v2]) th = some (.lst [V.int ((width : Int) + (hop : Int) * (k : Int)), V.int ((width : Int) + (hop : Int) * far), v2]) := upd_same
  have hT6 : [V.int ((width : Int) + (hop : Int) * (k : Int)), V.int ((width : Int) + (hop : Int) * far), v2].length = 3 := rfl
  refine gn_heap (H' := upd H5 th (.lst [V.int ((width : Int) + (hop : Int) * (k : Int)), V.int ((width : Int) + (hop : Int) * far), v2])) rfl ?_
  generalize upd H5 th (.lst [V.int ((width : Int) + (hop : Int) * (k : Int)), V.int ((width : Int) + (hop : Int) * far), v2]) = H6 at *
  generalize [V.int ((width : Int) + (hop : Int) * (k : Int)), V.int ((width : Int) + (hop : Int) * far), v2] = TL6 at *
  have hwl6 := hB6 _ _ nwp hwl
  clear S6 hth hb45 hst hv2 hd2 c3 hp3 hp4 hp5 hb4 hb5 hML9 n3 hk hB3 hk2
  refine seq_nx (fun σ' H' => ∃ (t : Addr) (TL : List V), σ' = [some (.ref p), some x, some (.int width), some (.int hop), some (.int L), some (.ref wl), some (.int far), some (.ref ml), some (.ref t), none, none] ∧ But p H H' ∧ Pool H' p ∧ H' t = some (.lst TL) ∧ t ≠ p ∧ TL.length ≤ 5 ∧ ∀ v ∈ TL, ∃ d, Stay K p H' v d) (fun D' hN _ _ _ => ?_) ?_
  · refine ⟨_, rfl, (by show 0 ≤ sizeLine; decide), fun e0 he0 => ⟨.list (ws.map fun n : Nat => PyData.int n), .list (([] : List Nat).map fun n : Nat => PyData.int n), .lst (SqL.of ((Same.new he0) _ _ hwl6)) (DpAll.nats _), .lst (SqL.of upd_same) .nil, shaped_nats _, shaped_nats _, _, rfl, ?_⟩⟩
    have S7 := Same.new (o := .lst []) he0
    have e3 : PyData.eqv (.list (ws.map fun n : Nat => PyData.int n)) (.list (([] : List Nat).map fun n : Nat => PyData.int n)) = decide (ws = []) := by rw [PyData.eqv, eqv_nats]
    rw [e3]
    have hB7 := hB6.trans (But.of (p := p) S7)
    have hp7 := hp6.same S7
    have h7th := S7 _ _ h6th
    have hst7 : ∀ v ∈ TL6, ∃ d, Stay K p (upd H6 e0 (.lst [])) v d := fun v hv => (hst6 v hv).imp fun d h => h.but (But.of S7)
    have hwl7 := S7 _ _ hwl6
    by_cases hws0 : ws = []
    · rw [decide_eq_true hws0]
      refine ifF rfl ?_
      exact hN _ _ ⟨th, TL6, rfl, hB7, hp7, h7th, nth, by omega, hst7⟩
    · rw [decide_eq_false hws0]
      refine ifT rfl ?_
      have hwp : 1 ≤ ws.length := List.length_pos_iff.mpr hws0
      have hil : (ivs ws).length = ws.length := List.length_map _
      obtain ⟨w0, hw0⟩ : ∃ y, (ivs ws)[0]? = some y := ⟨_, List.getElem?_eq_getElem (by omega)⟩
      have hw0' : ∃ n : Nat, w0 = .int n := by
        unfold ivs at hw0
        rw [List.getElem?_map] at hw0
        obtain ⟨n, _, rfl⟩ := Option.map_eq_some_iff.mp hw0
        exact ⟨n, rfl⟩
      obtain ⟨n0, rfl⟩ := hw0'
      refine ⟨_, rfl, _, rfl, wl, _, _, _, rfl, rfl, SqL.of hwl7, atI_nat (j := 0) hw0, _, rfl, _, rfl, _, rfl, _, _, rfl, .inl (SqL.of hwl7), p, (ivs ws).length, rfl, hp7, by omega, by omega, fun k3 H8 hk3 hb8 hp8 => ?_⟩
      obtain ⟨w3, hw3⟩ : ∃ y, (ivs ws)[k3]? = some y := ⟨_, List.getElem?_eq_getElem hk3⟩
      have hw3' : ∃ n : Nat, w3 = .int n := by
        unfold ivs at hw3
        rw [List.getElem?_map] at hw3
        obtain ⟨n, _, rfl⟩ := Option.map_eq_some_iff.mp hw3
        exact ⟨n, rfl⟩
      obtain ⟨n3, rfl⟩ := hw3'
      have h8th := hb8.at h7th nth
      refine ⟨wl, _, _, _, rfl, rfl, SqL.of (hb8.at hwl7 nwp), atI_nat (j := k3) hw3, _, rfl, _, rfl, _, _, rfl, rfl, .inl ⟨by omega, by omega⟩, _, _, rfl, rfl, (by show 2 ≤ sizeLine; decide), fun l2 hl2 => ?_⟩
      have S9 := Same.new (o := .lst [V.int n0, V.int ((n3 : Int) + (L : Int) * far)]) hl2
      refine ⟨th, l2, TL6, _, rfl, rfl, S9 _ _ h8th, upd_same, (by rw [hT6]; show 5 ≤ sizeLine; decide), fun t ht => ?_⟩
      have S10 := S9.trans (Same.new (o := .lst (TL6 ++ [V.int n0, V.int ((n3 : Int) + (L : Int) * far)])) ht)
      refine hN _ _ ⟨t, _, rfl, (hB7.trans hb8).trans (But.of S10), hp8.same S10, upd_same, (new_of (But.of (p := p) S9) (hp8.same S9) ht).1, by rw [List.length_append, hT6]; exact Nat.le_refl _, fun v hv => ?_⟩
      rcases List.mem_append.mp hv with hv | hv
      · exact (hst7 v hv).imp fun d h => h.but (hb8.trans (But.of S10))
      · simp only [List.mem_cons, List.not_mem_nil, or_false] at hv
        rcases hv with rfl | rfl
        · exact ⟨_, Stay.int⟩
        · exact ⟨_, Stay.int⟩
  clear hB6 hp6 h6th hst6 hT6 hwl6 nth
  rintro σ' H7 ⟨t, TL, rfl, hB7, hp7, h7t, ntp, hTL5, hst7⟩
  -- for thing in things
  refine ⟨_, rfl, t, rfl, ⟨_, SqL.of h7t⟩, for_it (walk_list (xs := TL))
    (fun i σ' H' => (∃ o9 o10, σ' = [some (.ref p), some x, some (.int width), some (.int hop), some (.int L), some (.ref wl), some (.int far), some (.ref ml), some (.ref t), o9, o10]) ∧ But p H7 H' ∧ Pool H' p) ?_ ?_ ?_ ?_⟩
  · exact ⟨⟨_, _, rfl⟩, But.refl _ _, hp7⟩
  · rintro i σ' H' _ ⟨_, hb, _⟩
    exact SqL.of (hb.at h7t ntp)
  · rintro i u σ' H1 H2 hi ⟨⟨o9, o10, rfl⟩, hb, hp2⟩ ⟨rfl, hu⟩
    obtain ⟨du, hdu⟩ := hst7 u (List.mem_of_getElem? hu)
    have hbH := hB7.trans hb
    have hwl2 := hbH _ _ nwp hwl
    have hx2 := prog_but hx hbH hP0
    -- due = paper(wrong, width, hop, size, thing)
    refine ⟨_, rfl, _, rfl, _, rfl, _, rfl, _, rfl, wl, ws, width, hop, L, u, du, rfl, hwl2, hdu _ hb, hh1, hLpos, fun v H3 S3 hv => ?_⟩
    have hp3 := hp2.same S3
    -- if not same(call(5 + 6 * draw(pool, 2), program, width, hop, thing), due)
    refine ⟨_, rfl, p, 2, rfl, hp3, by omega, by omega, fun c H4 hc hb4 hp4 => ⟨_, _, rfl, rfl, .inl ⟨by omega, by omega⟩, _, _, rfl, rfl, _, rfl, _, rfl, _, rfl, _, rfl, ?_⟩⟩
    have hb24 := (But.of (p := p) S3).trans hb4
    have hb74 := hb.trans hb24
    have hv4 : ∀ H5, Same H4 H5 → Dp K H5 v (paperD ws width hop L du) := fun H5 S5 => hv H5 (NewK.but (hb4.trans (But.of S5)) hp2.ne)
    have j0 := progD_ok hsc.wf
    have j1 : posD (.int (width : Nat)) = true := posD_i (by omega)
    have j2 : posD (.int (hop : Nat)) = true := posD_i (by omega)
    have hk5 : (5 : Int) + 6 * (c : Int) = ((5 : Nat) : Int) ∨ (5 : Int) + 6 * (c : Int) = ((5 : Nat) : Int) + 6 := by omega
    refine ⟨_, 5, by omega, hk5, x, .int width, .int hop, u, toD pr, .int width, .int hop, du, rfl, prog_but hx (hbH.trans hb24) hP0, .int _, .int _, hdu _ hb74, .inr (.inr (.inr ⟨j0, j1, j2, pr, width, hop, rfl, rfl, rfl, hsc.fit, ?_, ?_, ?_⟩))⟩
    · intro h1 v' H5 S5 hd5
      rw [← paper_step (ws := ws) (size := L) h1] at hd5
      exact ⟨_, rfl, v', v, _, rfl, hd5, hv4 _ S5, sm_paper _ _ _ _ _, fun H6 S6 => ⟨_, rfl, ifF rfl ⟨⟨_, _, rfl⟩, hb74.trans (But.of (S5.trans S6)), hp4.same (S5.trans S6)⟩⟩⟩
    · intro h1 h2 v' H5 S5 hd5
      have e := paper_right (S := S) hp1 hh1 (by rw [hL]; exact hS1) h1 h2
      rw [hL, hws] at e
      rw [← e] at hd5
      exact ⟨_, rfl, v', v, _, rfl, hd5, hv4 _ S5, sm_paper _ _ _ _ _, fun H6 S6 => ⟨_, rfl, ifF rfl ⟨⟨_, _, rfl⟩, hb74.trans (But.of (S5.trans S6)), hp4.same (S5.trans S6)⟩⟩⟩
    · intro h1 h2 v' H5 S5 hd5
      have e := paper_due (S := S) hp1 hh1 (by rw [hL]; exact hS1) h1 h2
      rw [hL, hws] at e
      rw [← e] at hd5
      exact ⟨_, rfl, v', v, _, rfl, hd5, hv4 _ S5, sm_paper _ _ _ _ _, fun H6 S6 => ⟨_, rfl, ifF rfl ⟨⟨_, _, rfl⟩, hb74.trans (But.of (S5.trans S6)), hp4.same (S5.trans S6)⟩⟩⟩
  · rintro σ' H1 ⟨⟨o9, o10, rfl⟩, hb, hp2⟩
    exact q _ (hB7.trans hb) hp2
end
end U3


namespace U3
open PySem PySem.Spec PyProof.Rows L2
section
variable {P : Program} {w : World} {K : PySem.W.Frag} {mg : Str → Option Value} {base : Heap}
theorem nx_opN {σ : L2.St} {ta : TA} {ds : List PyData} {r : R2} {tb : TE} {g : TG} {u : TS} {D : Ends} {rt : VK} {b c : L2.St → Hp → Prop} {H : Hp} (L : LitsN K σ ta ds) (hz : ds.length ≤ 64) (h : ∀ q xs H', Same H H' → H q = none → H' q = some (.lst xs) → (∀ H2, NewK H H' H2 → DpAll K H2 xs ds) → tb σ H' fun y H2 => r (.ref q) y H2 fun x H3 => g x σ H3 (u D)) : (Ends.mk (tSeq (tAsg (tOp r (tLst ta) tb) g) u D) rt b c).nx σ H := asg_opN L hz h
/-! _law_refusals(pool, program, width, hop) -/
theorem callW_row0 {dz dx dy du : PyData} {R : PyData → Prop} (h : progD dz = false) (r : R (errD 1 "program")) : ∀ m, CallW K m dz dx dy du R
  | 0 => .inl ⟨h, r⟩
  | 1 => .inl ⟨h, r⟩
  | 2 => .inl ⟨h, r⟩
  | 3 => .inl ⟨h, r⟩
  | 4 => .inl ⟨h, r⟩
  | _ + 5 => .inl ⟨h, r⟩
theorem pos1 : posD (.int 1) = true := posD_i (by decide)
theorem callW_row1 {dz dx dy du : PyData} {R : PyData → Prop} (hz : progD dz = true) (hx : posD dx = false) (hy : posD dy = false) (hu : isN du = false) : ∀ m, (r : R (errD 1 (if m = 0 then "hop" else if m = 1 then "many" else "width"))) → CallW K m dz dx dy du R
  | 0, r => .inr (.inr (.inl ⟨hz, pos1, hy, r⟩))
  | 1, r => .inr (.inl ⟨hz, hu, r⟩)
  | 2, r => .inr (.inl ⟨hz, hx, r⟩)
  | 3, r => .inr (.inl ⟨hz, hx, r⟩)
  | 4, r => .inr (.inl ⟨hz, hx, r⟩)
  | m + 5, r => .inr (.inl ⟨hz, hx, by
    rw [if_neg (by omega), if_neg (by omega)] at r
    exact r⟩)
theorem callW_row2 {dz dx dy du : PyData} {R : PyData → Prop} (hz : progD dz = true) (hx : posD dx = true) (hy : posD dy = false) (hu : isN du = false) : ∀ m, (r : R (errD 1 (if m = 1 then "many" else "hop"))) → CallW K m dz dx dy du R
  | 0, r => .inr (.inr (.inl ⟨hz, pos1, hy, r⟩))
  | 1, r => .inr (.inl ⟨hz, hu, r⟩)
  | 2, r => .inr (.inr (.inl ⟨hz, hx, hy, r⟩))
  | 3, r => .inr (.inr (.inl ⟨hz, hx, hy, r⟩))
  | 4, r => .inr (.inr (.inl ⟨hz, hx, hy, r⟩))
  | m + 5, r => .inr (.inr (.inl ⟨hz, hx, hy, by
    rw [if_neg (by omega)] at r
    exact r⟩))
theorem eq_pp : decide (V.str "program" = V.str "program") = true := by decide +kernel
theorem eq_wp : decide (V.str "width" = V.str "program") = false := by decide +kernel
theorem eq_hp : decide (V.str "hop" = V.str "program") = false := by decide +kernel
theorem eq_wh : decide (V.str "width" = V.str "hop") = false := by decide +kernel
theorem eq_hh : decide (V.str "hop" = V.str "hop") = true := by decide +kernel
def fewR : List PyData := [.int (-1), .bool true, .none, .str "3", .list [.int 1], .tuple [.int 2]]
theorem fewR_ok : ∀ d ∈ fewR, isN d = false := by
  have h : fewR.all (fun d => !isN d) = true := by decide +kernel
  intro d hd
  have := List.all_eq_true.mp h d hd
  simpa using this
def sp_law_refusals (K : PySem.W.Frag) : Sp := fun vs H Q _ => ∃ (p : Addr) (x : V) (pr : Prog) (width hop : Nat), vs = [.ref p, x, .int width, .int hop] ∧ Pool H p ∧ Dp K H x (toD pr) ∧ Scn pr width hop ∧ ∀ H', But p H H' → Pool H' p → Q (.bl true) H'
-- slots: 0:pool_here 1:program 2:width 3:hop 4:none 5:bad_here 6:worse 7:named 8:which 9:row 10:heard 11:asked 12:few | cells: []
theorem sc_law_refusals : FnScope ["_law_pool_here", "_law_program", "_law_width", "_law_hop", "_law_none", "_law_bad_here", "_law_worse", "_law_named", "_law_which", "_law_row", "_law_heard", "_law_asked", "_law_few"] ["_law_pool_here", "_law_program", "_law_width", "_law_hop"] (defScope s_law_refusals) := ⟨rfl, rfl, rfl, by decide +kernel, rfl, by decide +kernel, by decide +kernel⟩
theorem ok_law_refusals (T : Txt K mg) : FnOk P w K mg base CX0 12 (He.ga K "_law_refusals") (fdA K (He.ga K "_law_refusals")) ["_law_pool_here", "_law_program", "_law_width", "_law_hop"] (sp_law_refusals K) := by
  refine T.F_law_refusals.ok sc_law_refusals (fun vs H Q E h => by obtain ⟨p, x, pr, width, hop, rfl, _⟩ := h; rfl) (fun cdv A outer s H vs Q E hr h => ⟨_, PSs.nox ((pss_cons (ps_asg (pe_call (ok_law_bad T) (hr.mono (by decide)) (by rfl) T.g_law_bad T.F_law_bad.kp T.b_law_bad .nil pass0 (pa_cons (pv 0) pa_nil)) (pg_lst rfl (pgs_cons (pg_name (i := 4) sc_law_refusals.nd rfl (Or.inl rfl)) (pgs_cons (pg_name (i := 5) sc_law_refusals.nd rfl (Or.inl rfl)) (pgs_cons (pg_name (i := 6) sc_law_refusals.nd rfl (Or.inl rfl)) pgs_nil)))))
(pss_cons (ps_set (i := 7) sc_law_refusals.nd rfl (Or.inl rfl) (pe_op op_mul pe_int (pe_call (ok_law_draw T) (hr.mono (by decide)) (by rfl) T.g_law_draw T.F_law_draw.kp T.b_law_draw .nil pass0 (pa_cons (pv 0) (pa_cons pe_int pa_nil)))))
(pss_cons (ps_for PassesOwn.never rfl (pi_range1 (by rfl) T.m_range (pa_cons pe_int pa_nil)) (pg_name (i := 8) sc_law_refusals.nd rfl (Or.inl rfl))
(pss_cons (ps_for PassesOwn.never rfl (pi_tup (pe_tup (pa_cons (pe_tup (pa_cons (pv 4) (pa_cons (pv 5) (pa_cons (pv 6) (pa_cons pe_str pa_nil))))) (pa_cons (pe_tup (pa_cons (pv 1) (pa_cons (pv 5) (pa_cons (pv 6) (pa_cons pe_str pa_nil))))) (pa_cons (pe_tup (pa_cons (pv 1) (pa_cons (pv 2) (pa_cons (pv 6) (pa_cons pe_str pa_nil))))) pa_nil))))) (pg_name (i := 9) sc_law_refusals.nd rfl (Or.inl rfl))
(pss_cons (ps_set (i := 10) sc_law_refusals.nd rfl (Or.inl rfl) (pe_call (ok_law_call T) (hr.mono (by decide)) (by rfl) T.g_law_call T.F_law_call.kp T.b_law_call .nil pass0 (pa_cons (pe_op op_add (pv 7) (pv 8)) (pa_cons (pe_ix ix_tup (pv 9) pe_int (fun _ _ => rfl)) (pa_cons (pe_ix ix_tup (pv 9) pe_int (fun _ _ => rfl)) (pa_cons (pe_ix ix_tup (pv 9) pe_int (fun _ _ => rfl)) (pa_cons (pe_un un_neg pe_int) pa_nil)))))))
(pss_cons (ps_set (i := 11) sc_law_refusals.nd rfl (Or.inl rfl) (pe_or (pe_cmpR op_eq (pe_ix ix_tup (pv 9) pe_int (fun _ _ => rfl)) pe_str (nomark _)) (pe_or (pe_cmpR op_gt (pv 8) pe_int (nomark _)) (pe_one (pe_and (pe_cmpR op_eq (pv 8) pe_int (nomark _)) (pe_one (pe_cmpR op_eq (pe_ix ix_tup (pv 9) pe_int (fun _ _ => rfl)) pe_str (nomark _))))))))
(pss_cons (ps_if (PW.pt (pw_and (pt_val (pv 11)) (pw_and1 (pt_not (pt_val (pe_call (ok_law_same T) (hr.mono (by decide)) (by rfl) T.g_law_same T.F_law_same.kp T.b_law_same .nil pass0 (pa_cons (pv 10) (pa_cons (pe_lst (pa_cons pe_int (pa_cons (pe_ix ix_tup (pv 9) pe_int (fun _ _ => rfl)) (pa_cons (pe_un un_neg pe_int) pa_nil)))) pa_nil))))))))
(pss_cons (ps_ret pe_bl)
pss_nil)
pss_nil)
pss_nil))))
pss_nil))
(pss_cons (ps_set (i := 12) sc_law_refusals.nd rfl (Or.inl rfl) (pe_ix ix_list (pe_lst (pa_cons (pe_un un_neg pe_int) (pa_cons pe_bl (pa_cons pe_non (pa_cons pe_str (pa_cons (pe_lst (pa_cons pe_int pa_nil)) (pa_cons (pe_tup (pa_cons pe_int pa_nil)) pa_nil))))))) (pe_call (ok_law_draw T) (hr.mono (by decide)) (by rfl) T.g_law_draw T.F_law_draw.kp T.b_law_draw .nil pass0 (pa_cons (pv 0) (pa_cons pe_int pa_nil))) (fun _ _ => rfl)))
(pss_cons (ps_ret (pe_call (ok_law_same T) (hr.mono (by decide)) (by rfl) T.g_law_same T.F_law_same.kp T.b_law_same .nil pass0 (pa_cons (pe_call (ok_law_call T) (hr.mono (by decide)) (by rfl) T.g_law_call T.F_law_call.kp T.b_law_call .nil pass0 (pa_cons (pe_op op_add (pv 7) pe_int) (pa_cons (pv 1) (pa_cons (pv 2) (pa_cons (pv 3) (pa_cons (pv 12) pa_nil)))))) (pa_cons (pe_lst (pa_cons pe_int (pa_cons pe_str (pa_cons (pe_un un_neg pe_int) pa_nil)))) pa_nil))))
pss_nil)))))), ?_⟩)
  obtain ⟨p, x, pr, width, hop, rfl, hP, hx, hsc, q⟩ := h
  have j0 := progD_ok hsc.wf
  have hw1 := hsc.w1
  have j1 : posD (.int (width : Nat)) = true := posD_i (by omega)
  -- none, bad, worse = bad(pool)
  refine ⟨_, rfl, p, rfl, hP, fun l z b wv dz db dw H1 hb1 hp1 hl0 hl hst hbz hbb hbw => ⟨l, _, rfl, SqL.of hl, rfl, _, _, rfl, _, _, rfl, _, _, rfl, rfl, ?_⟩⟩
  have hst' : ∀ H2, But p H1 H2 → Dp K H2 z dz ∧ Dp K H2 b db ∧ Dp K H2 wv dw := fun H2 e => hst H2 (NewK.but e hP.ne)
  clear hst hl hl0
  -- named = 6 * draw(pool, 2)
  refine ⟨_, rfl, p, 2, rfl, hp1, by omega, by omega, fun c H2 hc hb2 hp2 => ⟨_, _, rfl, rfl, .inl ⟨by omega, by omega⟩, ?_⟩⟩
  -- for which in range(6)
  refine ⟨_, rfl, by omega, by omega, for_it (walk_range (lo := 0) (n := ((6 : Int)).toNat))
    (fun i σ' H' => (∃ o8 o9 o10 o11, σ' = [some (.ref p), some x, some (.int width), some (.int hop), some z, some b, some wv, some (.int (6 * (c : Int))), o8, o9, o10, o11, none]) ∧ But p H1 H' ∧ Pool H' p) ?_ (fun _ _ _ _ _ => trivial) ?_ ?_⟩
  · exact ⟨⟨_, _, _, _, rfl⟩, hb2, hp2⟩
  · clear hb2 hp2
    rintro i x' σ' H3 H4 hi ⟨⟨o8, o9, o10, o11, rfl⟩, hb3, hp3⟩ ⟨rfl, rfl⟩
    have hi6 : i < 6 := hi
    have hk : (6 : Int) * (c : Int) + ((0 : Int) + (i : Nat)) = ((i : Nat) : Int) ∨ (6 : Int) * (c : Int) + ((0 : Int) + (i : Nat)) = ((i : Nat) : Int) + 6 := by omega
    refine ⟨_, rfl, _, rfl, _, rfl, (by show 4 ≤ sizeLine; decide), fun r1 hr1 => ⟨_, rfl, _, rfl, _, rfl, (by show 4 ≤ sizeLine; decide), fun r2 hr2 => ⟨_, rfl, _, rfl, _, rfl, (by show 4 ≤ sizeLine; decide), fun r3 hr3 => ⟨(by show 3 ≤ sizeLine; decide), fun rt hrt => ⟨rt, rfl, ⟨_, SqT.of upd_same⟩, ?_⟩⟩⟩⟩⟩
    have S2 := (Same.new (o := .tup [x, b, wv, V.str "width"]) hr2)
    have S3 := (Same.new (o := .tup [x, V.int width, wv, V.str "hop"]) hr3)
    have S4 := (Same.new (o := .tup [V.ref r1, V.ref r2, V.ref r3]) hrt)
    have a1 := ((S2.trans S3).trans S4) _ _ (upd_same : upd H4 r1 (.tup [z, b, wv, V.str "program"]) r1 = _)
    have a2 := (S3.trans S4) _ _ (upd_same : upd (upd H4 r1 (.tup [z, b, wv, V.str "program"])) r2 (.tup [x, b, wv, V.str "width"]) r2 = _)
    have a3 := S4 _ _ (upd_same : upd (upd (upd H4 r1 (.tup [z, b, wv, V.str "program"])) r2 (.tup [x, b, wv, V.str "width"])) r3 (.tup [x, V.int width, wv, V.str "hop"]) r3 = _)
    have a4 : upd (upd (upd (upd H4 r1 (.tup [z, b, wv, V.str "program"])) r2 (.tup [x, b, wv, V.str "width"])) r3 (.tup [x, V.int width, wv, V.str "hop"])) rt (.tup [V.ref r1, V.ref r2, V.ref r3]) rt = some (.tup [V.ref r1, V.ref r2, V.ref r3]) := upd_same
    have SA := (((Same.new (o := .tup [z, b, wv, V.str "program"]) hr1).trans S2).trans S3).trans S4
    have hbA := hb3.trans (But.of SA)
    have hpA := hp3.same SA
    generalize upd (upd (upd (upd H4 r1 (.tup [z, b, wv, V.str "program"])) r2 (.tup [x, b, wv, V.str "width"])) r3 (.tup [x, V.int width, wv, V.str "hop"])) rt (.tup [V.ref r1, V.ref r2, V.ref r3]) = H5 at *
    clear S2 S3 S4 SA hr1 hr2 hr3 hrt
    refine for_it (walk_tup (xs := [V.ref r1, V.ref r2, V.ref r3]))
      (fun j σ' H' => (∃ o9 o10 o11, σ' = [some (.ref p), some x, some (.int width), some (.int hop), some z, some b, some wv, some (.int (6 * (c : Int))), some (.int ((0 : Int) + (i : Nat))), o9, o10, o11, none]) ∧ Same H5 H') ?_ ?_ ?_ ?_
    · exact ⟨⟨_, _, _, rfl⟩, Same.refl _⟩
    · rintro j σ' H' _ ⟨_, hS⟩
      exact Same.tup hS (SqT.of a4)
    · rintro j x' σ' H6 H7 hj ⟨⟨o9, o10, o11, rfl⟩, hS⟩ ⟨rfl, hxj⟩
      have hj3 : j < 3 := hj
      have hb7 := hbA.trans (But.of (p := p) hS)
      have hx7 := prog_but hx (hb1.trans hb7) hP
      obtain ⟨dz7, db7, dw7⟩ := hst' _ hb7
      have c1 := hS _ _ a1
      have c2 := hS _ _ a2
      have c3 := hS _ _ a3
      have hcase : j = 0 ∨ j = 1 ∨ j = 2 := by omega
      rcases hcase with rfl | rfl | rfl
      · cases hxj
        refine ⟨_, rfl, _, rfl, _, _, rfl, rfl, _, rfl, r1, _, _, _, rfl, rfl, SqT.of c1, atI_nat (j := 0) rfl, _, rfl, r1, _, _, _, rfl, rfl, SqT.of c1, atI_nat (j := 1) rfl, _, rfl, r1, _, _, _, rfl, rfl, SqT.of c1, atI_nat (j := 2) rfl, _, rfl, _, i, hi6, hk, z, b, wv, _, dz, db, dw, _, rfl, dz7, db7, dw7, .int _, callW_row0 hbz (fun v H8 S8 hd8 => ?_) i⟩
        have d1 := S8 _ _ c1
        refine ⟨_, rfl, r1, _, _, _, rfl, rfl, SqT.of d1, atI_nat (j := 3) rfl, rfl, _, rfl, ?_⟩
        rw [eq_pp]
        refine iteT ?_
        refine ⟨_, rfl, _, rfl, ?_⟩
        refine iteT ?_
        refine ⟨_, rfl, _, rfl, r1, _, _, _, rfl, rfl, SqT.of d1, atI_nat (j := 3) rfl, _, rfl, (by show 3 ≤ sizeLine; decide), fun q1 hq1 => ⟨v, .ref q1, errD 1 "program", rfl, Dp.same (Same.new hq1) hd8, .lst (SqL.of upd_same) (.cons (.int _) (.cons (.str _) (.cons (.int _) .nil))), sm_err _ _ _, fun H9 S9 => ⟨_, rfl, ?_⟩⟩⟩
        refine ifF rfl ?_
        exact ⟨⟨_, _, _, rfl⟩, ((hS.trans S8).trans (Same.new hq1)).trans S9⟩
      · cases hxj
        refine ⟨_, rfl, _, rfl, _, _, rfl, rfl, _, rfl, r2, _, _, _, rfl, rfl, SqT.of c2, atI_nat (j := 0) rfl, _, rfl, r2, _, _, _, rfl, rfl, SqT.of c2, atI_nat (j := 1) rfl, _, rfl, r2, _, _, _, rfl, rfl, SqT.of c2, atI_nat (j := 2) rfl, _, rfl, _, i, hi6, hk, x, b, wv, _, toD pr, db, dw, .int (-1), rfl, hx7, db7, dw7, .int _, callW_row1 j0 hbb hbw rfl i (fun v H8 S8 hd8 => ?_)⟩
        have d1 := S8 _ _ c2
        refine ⟨_, rfl, r2, _, _, _, rfl, rfl, SqT.of d1, atI_nat (j := 3) rfl, rfl, _, rfl, ?_⟩
        rw [eq_wp]
        refine iteF ?_
        refine ⟨_, rfl, _, _, rfl, rfl, _, rfl, ?_⟩
        by_cases h1 : (1 : Int) < (0 : Int) + (i : Nat)
        · rw [decide_eq_true h1]
          rw [if_neg (by omega), if_neg (by omega)] at hd8
          refine iteT ?_
          refine ⟨_, rfl, _, rfl, ?_⟩
          refine iteT ?_
          refine ⟨_, rfl, _, rfl, r2, _, _, _, rfl, rfl, SqT.of d1, atI_nat (j := 3) rfl, _, rfl, (by show 3 ≤ sizeLine; decide), fun q1 hq1 => ⟨v, .ref q1, errD 1 "width", rfl, Dp.same (Same.new hq1) hd8, .lst (SqL.of upd_same) (.cons (.int _) (.cons (.str _) (.cons (.int _) .nil))), sm_err _ _ _, fun H9 S9 => ⟨_, rfl, ?_⟩⟩⟩
          refine ifF rfl ?_
          exact ⟨⟨_, _, _, rfl⟩, ((hS.trans S8).trans (Same.new hq1)).trans S9⟩
        · rw [decide_eq_false h1]
          refine iteF ?_
          refine ⟨_, rfl, rfl, _, rfl, ?_⟩
          cases hz : decide (V.int ((0 : Int) + (i : Nat)) = V.int 0) with
          | true =>
            refine iteT ?_
            refine ⟨_, rfl, r2, _, _, _, rfl, rfl, SqT.of d1, atI_nat (j := 3) rfl, rfl, ?_⟩
            rw [eq_wh]
            refine ⟨_, rfl, _, rfl, ?_⟩
            refine iteF ?_
            refine iteF ?_
            exact ⟨⟨_, _, _, rfl⟩, hS.trans S8⟩
          | false =>
            refine iteF ?_
            refine ⟨_, rfl, _, rfl, ?_⟩
            refine iteF ?_
            refine iteF ?_
            exact ⟨⟨_, _, _, rfl⟩, hS.trans S8⟩
      · cases hxj
        refine ⟨_, rfl, _, rfl, _, _, rfl, rfl, _, rfl, r3, _, _, _, rfl, rfl, SqT.of c3, atI_nat (j := 0) rfl, _, rfl, r3, _, _, _, rfl, rfl, SqT.of c3, atI_nat (j := 1) rfl, _, rfl, r3, _, _, _, rfl, rfl, SqT.of c3, atI_nat (j := 2) rfl, _, rfl, _, i, hi6, hk, x, .int width, wv, _, toD pr, .int width, dw, .int (-1), rfl, hx7, .int _, dw7, .int _, callW_row2 j0 j1 hbw rfl i (fun v H8 S8 hd8 => ?_)⟩
        have d1 := S8 _ _ c3
        refine ⟨_, rfl, r3, _, _, _, rfl, rfl, SqT.of d1, atI_nat (j := 3) rfl, rfl, _, rfl, ?_⟩
        rw [eq_hp]
        refine iteF ?_
        refine ⟨_, rfl, _, _, rfl, rfl, _, rfl, ?_⟩
        by_cases h1 : (1 : Int) < (0 : Int) + (i : Nat)
        · rw [decide_eq_true h1]
          rw [if_neg (by omega)] at hd8
          refine iteT ?_
          refine ⟨_, rfl, _, rfl, ?_⟩
          refine iteT ?_
          refine ⟨_, rfl, _, rfl, r3, _, _, _, rfl, rfl, SqT.of d1, atI_nat (j := 3) rfl, _, rfl, (by show 3 ≤ sizeLine; decide), fun q1 hq1 => ⟨v, .ref q1, errD 1 "hop", rfl, Dp.same (Same.new hq1) hd8, .lst (SqL.of upd_same) (.cons (.int _) (.cons (.str _) (.cons (.int _) .nil))), sm_err _ _ _, fun H9 S9 => ⟨_, rfl, ?_⟩⟩⟩
          refine ifF rfl ?_
          exact ⟨⟨_, _, _, rfl⟩, ((hS.trans S8).trans (Same.new hq1)).trans S9⟩
        · rw [decide_eq_false h1]
          refine iteF ?_
          refine ⟨_, rfl, rfl, _, rfl, ?_⟩
          by_cases hz : i = 0
          · rw [decide_eq_true (by rw [hz]; rfl)]
            rw [if_neg (by omega)] at hd8
            refine iteT ?_
            refine ⟨_, rfl, r3, _, _, _, rfl, rfl, SqT.of d1, atI_nat (j := 3) rfl, rfl, ?_⟩
            rw [eq_hh]
            refine ⟨_, rfl, _, rfl, ?_⟩
            refine iteT ?_
            refine ⟨_, rfl, _, rfl, r3, _, _, _, rfl, rfl, SqT.of d1, atI_nat (j := 3) rfl, _, rfl, (by show 3 ≤ sizeLine; decide), fun q1 hq1 => ⟨v, .ref q1, errD 1 "hop", rfl, Dp.same (Same.new hq1) hd8, .lst (SqL.of upd_same) (.cons (.int _) (.cons (.str _) (.cons (.int _) .nil))), sm_err _ _ _, fun H9 S9 => ⟨_, rfl, ?_⟩⟩⟩
            refine ifF rfl ?_
            exact ⟨⟨_, _, _, rfl⟩, ((hS.trans S8).trans (Same.new hq1)).trans S9⟩
          · rw [decide_eq_false (fun z => hz (by injection z with z; omega))]
            refine iteF ?_
            refine ⟨_, rfl, _, rfl, ?_⟩
            refine iteF ?_
            refine iteF ?_
            exact ⟨⟨_, _, _, rfl⟩, hS.trans S8⟩
    · rintro σ' H6 ⟨⟨o9, o10, o11, rfl⟩, hS⟩
      exact ⟨⟨_, _, _, _, rfl⟩, hbA.trans (But.of hS), hpA.same hS⟩
  · rintro σ' H3 ⟨⟨o8, o9, o10, o11, rfl⟩, hb3, hp3⟩
    have hb13 := hb1.trans hb3
    refine nx_opN (K := K) (ds := fewR) ?_ (Nat.le_of_ble_eq_true rfl) fun af xf H4 e4 nf hf1 hf2 => ?_
    · unfold fewR
      (repeat (first | exact LitsN.nil | refine LitsN.cons ?_ ?_ | exact LitN.int | exact LitN.non | exact LitN.str | exact LitN.bl | refine LitN.tup ?_ (Nat.le_of_ble_eq_true rfl) | refine LitN.lst ?_ (Nat.le_of_ble_eq_true rfl) | refine LitN.neg ?_))
    have hp4 := hp3.same e4
    have nfp : af ≠ p := fun z => hp3.ne (z ▸ nf)
    have hfl : xf.length = 6 := by rw [DpAll.length (hf2 H4 (NewK.of (Same.refl _)))]; rfl
    refine ⟨_, rfl, p, 6, rfl, hp4, by omega, by omega, fun k H5 hk hb5 hp5 => ?_⟩
    obtain ⟨d2, hd2⟩ : ∃ d, fewR[k]? = some d := ⟨_, List.getElem?_eq_getElem (by show k < 6; omega)⟩
    obtain ⟨v2, hv2⟩ : ∃ v, xf[k]? = some v := ⟨_, List.getElem?_eq_getElem (by omega)⟩
    refine ⟨af, xf, _, v2, rfl, rfl, SqL.of (hb5.at hf1 nfp), atI_nat (j := k) hv2, ?_⟩
    have hall := hf2 H5 (NewK.but hb5 hp3.ne)
    have hdv : Dp K H5 v2 d2 := by
      obtain ⟨d', h1, h2⟩ := DpAll.of hall hv2
      rw [hd2] at h1
      cases h1
      exact h2
    have hb15 := (hb13.trans (But.of e4)).trans hb5
    have hk1 : (6 : Int) * (c : Int) + 1 = ((1 : Nat) : Int) ∨ (6 : Int) * (c : Int) + 1 = ((1 : Nat) : Int) + 6 := by omega
    -- return same(call(named + 1, program, width, hop, few), [1, 'many', -1])
    refine ⟨_, rfl, _, _, rfl, rfl, _, rfl, _, rfl, _, rfl, _, rfl, _, 1, by omega, hk1, x, .int width, .int hop, v2, toD pr, .int width, .int hop, d2, rfl, prog_but hx hb15 hP, .int _, .int _, hdv, .inr (.inl ⟨j0, fewR_ok _ (List.mem_of_getElem? hd2), fun v H6 S6 hd6 => ?_⟩)⟩
    refine ⟨_, rfl, (by show 3 ≤ sizeLine; decide), fun q1 hq1 => ⟨v, .ref q1, errD 1 "many", rfl, Dp.same (Same.new hq1) hd6, .lst (SqL.of upd_same) (.cons (.int _) (.cons (.str _) (.cons (.int _) .nil))), sm_err _ _ _, fun H9 S9 => ?_⟩⟩
    have SS := (S6.trans (Same.new (o := .lst [.int 1, .str "many", .int (-1)]) hq1)).trans S9
    exact q _ (hb15.trans (But.of SS)) (hp5.same SS)
end
end U3


namespace U3
open PySem PySem.Spec PyProof.Rows L2
section
variable {P : Program} {w : World} {K : PySem.W.Frag} {mg : Str → Option Value} {base : Heap}
/-! law(script) -/
def duesD (pr : Prog) (width hop mn : Nat) : List PyData := [.int (Nat.lcm pr.phases.length hop : Nat), .tuple (tolds pr mn), .bool (firstWrong pr width hop).isNone, optD (firstWrong pr width hop), wrongTold pr width hop]
theorem gset_heap {N : Hp → Prop} {H H' : Hp} (e : H = H') (h : N H') : N H := e ▸ h
theorem callW_ok {pr : Prog} {width hop mn : Nat} {R : PyData → Prop} {d : PyData} (hsc : Scn pr width hop) (hm : mn ≤ 10000) : ∀ m, m < 5 → (duesD pr width hop mn)[m]? = some d → R (.list [.int 0, d]) → CallW K m (toD pr) (.int width) (.int hop) (.int mn) R := by
  have j0 := progD_ok hsc.wf
  have hw1 := hsc.w1
  have hh1 := hsc.h1
  have j1 : posD (.int (width : Nat)) = true := posD_i (by omega)
  have j2 : posD (.int (hop : Nat)) = true := posD_i (by omega)
  intro m hm5 hd r
  have hc : m = 0 ∨ m = 1 ∨ m = 2 ∨ m = 3 ∨ m = 4 := by omega
  rcases hc with rfl | rfl | rfl | rfl | rfl
  · cases hd
    exact .inr (.inr (.inr ⟨j0, pos1, j2, pr, hop, rfl, rfl, hsc.fit1, r⟩))
  · cases hd
    exact .inr (.inr ⟨pr, mn, rfl, rfl, hsc.wf, hm, r⟩)
  · cases hd
    exact .inr (.inr (.inr ⟨j0, j1, j2, pr, width, hop, rfl, rfl, rfl, hsc.fit, r⟩))
  · cases hd
    exact .inr (.inr (.inr ⟨j0, j1, j2, pr, width, hop, rfl, rfl, rfl, hsc.fit, r⟩))
  · cases hd
    exact .inr (.inr (.inr ⟨j0, j1, j2, pr, width, hop, rfl, rfl, rfl, hsc.fit, r⟩))
theorem sm_toldV (n : Nat) (o : Option Wd) : Sm (n + 2) (toldV o) := by
  cases o with
  | none => exact sm_tup (Nat.zero_le _) fun x hx => by cases hx
  | some wd =>
    refine sm_tup (by show 1 ≤ 1000000; decide) fun x hx => ?_
    rw [List.mem_singleton.mp hx]
    cases spanW wd with
    | none => exact sm_sc rfl
    | some ab => exact sm_tup (by show 2 ≤ 1000000; decide) (sm_two (sm_sc rfl) (sm_sc rfl))
theorem sm_wt (n : Nat) (pr : Prog) (width hop : Nat) : Sm (n + 3) (wrongTold pr width hop) := by
  unfold wrongTold
  split
  · exact sm_sc rfl
  · exact sm_tup (by show 2 ≤ 1000000; decide) (sm_two (sm_toldV n _) (sm_due (n + 1) _ _))
theorem sm_dues {pr : Prog} {width hop mn m : Nat} {d : PyData} (hm : mn ≤ 10000) (hm5 : m < 5) (hd : (duesD pr width hop mn)[m]? = some d) : Sm 7 (.list [.int 0, d]) := by
  refine sm_lst (by show 2 ≤ 1000000; decide) (sm_two (sm_sc rfl) ?_)
  have hc : m = 0 ∨ m = 1 ∨ m = 2 ∨ m = 3 ∨ m = 4 := by omega
  rcases hc with rfl | rfl | rfl | rfl | rfl
  · cases hd
    exact sm_sc rfl
  · cases hd
    refine sm_tup (by rw [tolds_len]; omega) fun x hx => ?_
    unfold tolds at hx
    obtain ⟨k, _, rfl⟩ := List.mem_map.mp hx
    exact sm_toldV 3 _
  · cases hd
    exact sm_sc rfl
  · cases hd
    cases firstWrong pr width hop <;> exact sm_sc rfl
  · cases hd
    exact sm_wt 3 _ _ _
theorem NL_wt (pr : Prog) (width hop : Nat) : NL (wrongTold pr width hop) = true := by
  unfold wrongTold
  split
  · rfl
  · show (NL (toldV _) && (NL (dueV _ _) && true)) = true
    rw [NL_toldV]
    rfl
theorem NL_optD (o : Option Nat) : NL (optD o) = true := by cases o <;> rfl
theorem NLs_dues (pr : Prog) (width hop mn : Nat) : NLs (duesD pr width hop mn) = true := by
  show (true && (NLs (tolds pr mn) && (true && (NL (optD _) && (NL (wrongTold pr width hop) && true))))) = true
  rw [NLs_tolds, NL_optD, NL_wt]
  rfl
/-- the copier -/
def copyP : Prog := ⟨2, [([[1, 0]], some 1)]⟩
theorem copy_wf : WF copyP := ⟨by decide, by decide, by decide, by decide, fun ph hp => by
  rw [List.mem_singleton.mp hp]
  refine ⟨fun r hr => ?_, by decide, fun t ht => by cases ht; decide⟩
  rw [List.mem_singleton.mp hr]
  exact wfRow2 (by decide) (by decide) (by decide)⟩
theorem copy_tell : ∀ v, tellAt copyP v = some [v] := fun v => by
  have hp : phaseAt copyP v = ([[1, 0]], some 1) := by
    unfold phaseAt
    show ([([[1, 0]], some 1)] : List (List Row × Option Nat)).getD (v % 1) ([], none) = _
    rw [Nat.mod_one]
    rfl
  unfold tellAt
  rw [hp]
  show stAt copyP (v + 1) 1 = some [v]
  show stepSt copyP v (stAt copyP v) 1 = some [v]
  unfold stepSt
  rw [hp]
  rfl
theorem copy_right {s : Nat} (h : 1 ≤ s) : right copyP 1 s = true := by
  unfold right
  rw [copy_tell]
  unfold due
  show (some [s - 1] == some (List.range' (s - 1) 1)) = true
  exact beq_self_eq_true _
theorem copy_first (hop : Nat) (hh : 1 ≤ hop) : firstWrong copyP 1 hop = none := by
  unfold firstWrong
  rw [List.head?_eq_none_iff]
  refine List.eq_nil_iff_forall_not_mem.mpr fun s hs => ?_
  have := (mem_wrongs hh).mp hs
  rw [copy_right this.1] at this
  cases this.2.2.2
def sp_law (K : PySem.W.Frag) : Sp := fun vs H Q _ => ∃ (a : Addr) (ns : List Int), vs = [.ref a] ∧ SqL K H a (ns.map V.int) ∧ ns.length ≤ 63 ∧ ∀ H', Q (.bl true) H'
-- slots: 0:script 1:pool_here 2:program 3:width 4:hop 5:size 6:run 7:wrong_here 8:dues 9:many 10:named 11:which 12:again 13:k | cells: ['_law_run']
theorem sc_law : FnScope ["_law_script", "_law_pool_here", "_law_program", "_law_width", "_law_hop", "_law_size", "_law_run", "_law_wrong_here", "_law_dues", "_law_many", "_law_named", "_law_which", "_law_again", "_law_k"] ["_law_script"] (defScope s_law) := ⟨rfl, rfl, rfl, by decide +kernel, rfl, by decide +kernel, by decide +kernel⟩
theorem ok_law (T : Txt K mg) : FnOk P w K mg base CX0 13 (He.ga K "law") (fdA K (He.ga K "law")) ["_law_script"] (sp_law K) := by
  refine T.F_law.ok sc_law (fun vs H Q E h => by obtain ⟨a, ns, rfl, _⟩ := h; rfl) (fun cdv A outer s H vs Q E hr h => ⟨_, PSs.nox ((pss_cons (ps_set (i := 1) sc_law.nd rfl (Or.inl rfl) (pe_call (ok_law_pool T) (hr.mono (by decide)) (by rfl) T.g_law_pool T.F_law_pool.kp T.b_law_pool .nil pass0 (pa_cons (pv 0) pa_nil)))
(pss_cons (ps_asg (pe_call (ok_law_scene T) (hr.mono (by decide)) (by rfl) T.g_law_scene T.F_law_scene.kp T.b_law_scene .nil pass0 (pa_cons (pv 1) pa_nil)) (pg_lst rfl (pgs_cons (pg_name (i := 2) sc_law.nd rfl (Or.inl rfl)) (pgs_cons (pg_name (i := 3) sc_law.nd rfl (Or.inl rfl)) (pgs_cons (pg_name (i := 4) sc_law.nd rfl (Or.inl rfl)) pgs_nil)))))
(pss_cons (ps_set (i := 5) sc_law.nd rfl (Or.inl rfl) (pe_call (ok_law_round T) (hr.mono (by decide)) (by rfl) T.g_law_round T.F_law_round.kp T.b_law_round .nil pass0 (pa_cons (pv 2) (pa_cons (pv 4) pa_nil))))
(pss_cons (ps_set (i := 6) sc_law.nd rfl (Or.inr rfl) (pe_call (ok_law_machine T) (hr.mono (by decide)) (by rfl) T.g_law_machine T.F_law_machine.kp T.b_law_machine .nil pass0 (pa_cons (pv 2) (pa_cons (pe_op op_add (pe_op op_sub (pe_op op_add (pv 3) (pv 5)) pe_int) (pe_op op_mul (pe_op op_mul pe_int (pv 5)) (pe_callTy call_int1 (by rfl) T.m_int bt_int (pa_cons (pe_cmpR op_le (pv 5) pe_int (nomark _)) pa_nil)))) pa_nil))))
(pss_cons (ps_set (i := 7) sc_law.nd rfl (Or.inl rfl) (pe_call (ok_law_wrong T) (hr.mono (by decide)) (by rfl) T.g_law_wrong T.F_law_wrong.kp T.b_law_wrong .nil pass0 (pa_cons (pv 6) (pa_cons (pv 3) (pa_cons (pv 4) pa_nil)))))
(pss_cons (ps_set (i := 8) sc_law.nd rfl (Or.inl rfl) (pe_lst (pa_cons (pv 5) (pa_cons (pe_tup pa_nil) (pa_cons (pe_cmpR (op_eqD hr.units) (pv 7) (pe_lst pa_nil) (nomark _)) (pa_cons pe_non (pa_cons pe_non pa_nil)))))))
(pss_cons (ps_if (pt_cmpR (op_neD hr.units) (pv 7) (pe_lst pa_nil) (nomark _))
(pss_cons (ps_asg (pe_ix ix_list (pv 7) pe_int (fun _ _ => rfl)) (pg_sub (pv 8) pe_int set_list))
(pss_cons (ps_asg (pe_tup (pa_cons (pe_call (ok_law_telling T) (hr.mono (by decide)) (by rfl) T.g_law_telling T.F_law_telling.kp T.b_law_telling .nil pass0 (pa_cons (pv 6) (pa_cons (pe_ix ix_list (pv 7) pe_int (fun _ _ => rfl)) pa_nil))) (pa_cons (pe_tup (pa_cons (pe_op op_sub (pe_ix ix_list (pv 7) pe_int (fun _ _ => rfl)) (pv 3)) (pa_cons (pe_ix ix_list (pv 7) pe_int (fun _ _ => rfl)) pa_nil))) pa_nil))) (pg_sub (pv 8) pe_int set_list))
pss_nil))
pss_nil)
(pss_cons (ps_set (i := 9) sc_law.nd rfl (Or.inl rfl) (pe_call (ok_law_draw T) (hr.mono (by decide)) (by rfl) T.g_law_draw T.F_law_draw.kp T.b_law_draw .nil pass0 (pa_cons (pv 1) (pa_cons (pe_op op_add (pe_callB (call_min2 rfl) (by rfl) T.m_min bt_min (pa_cons pe_int (pa_cons (pe_callB call_len_seq (by rfl) T.m_len bt_len (pa_cons (pe_ix ix_list (pv 6) pe_int (fun _ _ => rfl)) pa_nil)) pa_nil))) pe_int) pa_nil))))
(pss_cons (ps_if (pt_cmpR op_gt (pe_callB call_len_seq (by rfl) T.m_len bt_len (pa_cons (pe_ix ix_tup (pv 2) pe_int (fun _ _ => rfl)) pa_nil)) pe_int (nomark _))
(pss_cons (ps_set (i := 9) sc_law.nd rfl (Or.inl rfl) (pe_callB (call_min2 rfl) (by rfl) T.m_min bt_min (pa_cons pe_int (pa_cons (pe_callB call_len_seq (by rfl) T.m_len bt_len (pa_cons (pe_ix ix_list (pv 6) pe_int (fun _ _ => rfl)) pa_nil)) pa_nil))))
pss_nil)
pss_nil)
(pss_cons (ps_asg (pe_callTy call_tuple_of (by rfl) T.m_tuple bt_tuple (pa_cons (pe_lc (own := [("_law_k", 13)]) (g := (gName 13)) rfl sc_law.nd (pi_range1 (by rfl) T.m_range (pa_cons (pv 9) pa_nil)) (blkOk_by (own := [("_law_k", 13)]) (by kernel_rfl)) (fun _ _ _ _ _ => (pg_name (i := 13) sc_law.nd rfl (Or.inl rfl))) (fun _ _ _ _ _ => pts_nil) (fun _ _ _ _ _ => (pe_call (ok_law_telling T) (hr.mono (by decide)) (by rfl) T.g_law_telling T.F_law_telling.kp T.b_law_telling .nil pass0 (pa_cons (pv 6) (pa_cons (pe_op op_add (pv 13) pe_int) pa_nil))))) pa_nil)) (pg_sub (pv 8) pe_int set_list))
(pss_cons (ps_set (i := 10) sc_law.nd rfl (Or.inl rfl) (pe_op op_mul pe_int (pe_call (ok_law_draw T) (hr.mono (by decide)) (by rfl) T.g_law_draw T.F_law_draw.kp T.b_law_draw .nil pass0 (pa_cons (pv 1) (pa_cons pe_int pa_nil)))))
(pss_cons (ps_for PassesOwn.never rfl (pi_range1 (by rfl) T.m_range (pa_cons pe_int pa_nil)) (pg_name (i := 11) sc_law.nd rfl (Or.inl rfl))
(pss_cons (ps_if (pt_not (pt_val (pe_call (ok_law_same T) (hr.mono (by decide)) (by rfl) T.g_law_same T.F_law_same.kp T.b_law_same .nil pass0 (pa_cons (pe_call (ok_law_call T) (hr.mono (by decide)) (by rfl) T.g_law_call T.F_law_call.kp T.b_law_call .nil pass0 (pa_cons (pe_op op_add (pv 10) (pv 11)) (pa_cons (pv 2) (pa_cons (pv 3) (pa_cons (pv 4) (pa_cons (pv 9) pa_nil)))))) (pa_cons (pe_lst (pa_cons pe_int (pa_cons (pe_ix ix_list (pv 8) (pv 11) (fun _ _ => rfl)) pa_nil))) pa_nil)))))
(pss_cons (ps_ret pe_bl)
pss_nil)
pss_nil)
pss_nil))
(pss_cons (ps_if (pt_not (pt_val (pe_call (ok_law_papers T) (hr.mono (by decide)) (by rfl) T.g_law_papers T.F_law_papers.kp T.b_law_papers .nil pass0 (pa_cons (pv 1) (pa_cons (pv 2) (pa_cons (pv 3) (pa_cons (pv 4) (pa_cons (pv 5) (pa_cons (pv 7) pa_nil)))))))))
(pss_cons (ps_ret pe_bl)
pss_nil)
pss_nil)
(pss_cons (ps_if (pt_not (pt_val (pe_call (ok_law_refusals T) (hr.mono (by decide)) (by rfl) T.g_law_refusals T.F_law_refusals.kp T.b_law_refusals .nil pass0 (pa_cons (pv 1) (pa_cons (pv 2) (pa_cons (pv 3) (pa_cons (pv 4) pa_nil)))))))
(pss_cons (ps_ret pe_bl)
pss_nil)
pss_nil)
(pss_cons (ps_if (pt_not (pt_val (pe_call (ok_law_same T) (hr.mono (by decide)) (by rfl) T.g_law_same T.F_law_same.kp T.b_law_same .nil pass0 (pa_cons (pe_call (ok_law_call T) (hr.mono (by decide)) (by rfl) T.g_law_call T.F_law_call.kp T.b_law_call .nil pass0 (pa_cons pe_int (pa_cons (pe_tup (pa_cons pe_int (pa_cons (pe_tup (pa_cons (pe_tup (pa_cons (pe_tup (pa_cons (pe_tup (pa_cons pe_int (pa_cons pe_int pa_nil))) pa_nil)) (pa_cons pe_int pa_nil))) pa_nil)) pa_nil))) (pa_cons pe_int (pa_cons (pv 4) (pa_cons pe_int pa_nil)))))) (pa_cons (pe_lst (pa_cons pe_int (pa_cons pe_bl pa_nil))) pa_nil)))))
(pss_cons (ps_ret pe_bl)
pss_nil)
pss_nil)
(pss_cons (ps_set (i := 12) sc_law.nd rfl (Or.inl rfl) (pe_op op_add pe_int (pe_op op_modN (pe_callTy call_int1 (by rfl) T.m_int bt_int (pa_cons (pe_op op_add (pv 3) (pv 9)) pa_nil)) pe_int)))
(pss_cons (ps_ret (pe_call (ok_law_same T) (hr.mono (by decide)) (by rfl) T.g_law_same T.F_law_same.kp T.b_law_same .nil pass0 (pa_cons (pe_call (ok_law_call T) (hr.mono (by decide)) (by rfl) T.g_law_call T.F_law_call.kp T.b_law_call .nil pass0 (pa_cons (pv 12) (pa_cons (pv 2) (pa_cons (pv 3) (pa_cons (pv 4) (pa_cons (pv 9) pa_nil)))))) (pa_cons (pe_lst (pa_cons pe_int (pa_cons (pe_ix ix_list (pv 8) (pv 12) (fun _ _ => rfl)) pa_nil))) pa_nil))))
pss_nil)))))))))))))))))), ?_⟩)
  obtain ⟨a, ns, rfl, hs, hn, q⟩ := h
  -- pool, program, width, hop
  refine ⟨_, rfl, a, ns, rfl, hs, hn, fun p H1 S1 hp1 => ?_⟩
  refine ⟨_, rfl, p, rfl, hp1, fun l x pr width hop H2 hb2 hp2 hl hx hsc => ⟨l, _, rfl, SqL.of hl, rfl, _, _, rfl, _, _, rfl, _, _, rfl, rfl, ?_⟩⟩
  have hw1 := hsc.w1
  have hw8 := hsc.w2
  have hh1 := hsc.h1
  have hh2 := hsc.h2
  have hP1 := hsc.wf.p1
  have hfew := hsc.few
  have hLpos : 0 < Nat.lcm pr.phases.length hop := Nat.lcm_pos (by omega) (by omega)
  obtain ⟨a0, aph, ys, rfl, hs0, hsp, hly, hys⟩ := toD_inv hx
  -- size = round(program, hop)
  refine ⟨_, rfl, _, rfl, a0, aph, _, ys, hop, rfl, hs0, rfl, hsp, by omega, hh1, ?_⟩
  rw [hly]
  generalize hL : Nat.lcm pr.phases.length hop = L at *
  -- run = machine(program, width + size - 1 + 3 * size * int(size <= 24))
  obtain ⟨S, hSe, hS1, hS2⟩ : ∃ S : Nat, (width : Int) + (L : Int) - 1 + 3 * (L : Int) * (if decide ((L : Int) ≤ 24) = true then 1 else 0) = (S : Int) ∧ width + L - 1 ≤ S ∧ S ≤ 20000 := by
    by_cases h24 : (L : Int) ≤ 24
    · exact ⟨width + L - 1 + 3 * L, by rw [if_pos (decide_eq_true h24)]; omega, by omega, by omega⟩
    · exact ⟨width + L - 1, by rw [if_neg (by rw [decide_eq_false h24]; exact Bool.false_ne_true)]; omega, by omega, by omega⟩
  refine ⟨_, rfl, _, rfl, _, rfl, _, _, rfl, rfl, _, _, rfl, rfl, _, rfl, _, _, rfl, rfl, .inl ⟨by omega, by omega⟩, _, rfl, _, _, rfl, rfl, .inr ⟨_, rfl, _, _, rfl, rfl, .inl ⟨by omega, by omega⟩, _, _, rfl, rfl, .ref a0, pr, S, ?_, hx, hsc.wf, hS2, fun run H3 S3 hR => ?_⟩⟩
  · show [V.ref a0, V.int ((width : Int) + (L : Int) - 1 + 3 * (L : Int) * (if decide ((L : Int) ≤ 24) = true then 1 else 0))] = _
    rw [hSe]
  -- wrong = wrong(run, width, hop)
  refine ⟨_, rfl, _, rfl, _, rfl, _, run, pr, S, width, hop, rfl, hR, hw1, by omega, hS2, hh1, by omega, fun wl H4 S4 hw0 hw => ?_⟩
  have hfw : (wrongs pr width hop S).head? = firstWrong pr width hop := by
    unfold firstWrong
    rw [hL]
    exact wrong_first (L := L) (m := width + L - 1) hw1 hh1 hLpos (by rw [← hL]; exact Nat.dvd_lcm_left _ _) (by rw [← hL]; exact Nat.dvd_lcm_right _ _) rfl hS1
  have hR4 := hR.keep (H' := H4) fun b o _ h => S4 _ _ h
  have hp4 := hp2.same (S3.trans S4)
  have hx4 := Dp.same (S3.trans S4) hx
  have hF : ∀ {H' H'' : Hp}, But p H' H'' → ∀ b o, (fun b => H2 b = none) b → H' b = some o → H'' b = some o := fun e b o hb h => e b o (fun z => hp2.ne (z ▸ hb)) h
  have nwp : wl ≠ p := fun z => (hp2.same S3).ne (z ▸ hw0)
  clear hR hx hs0 hsp hys S1 hp1 hl hb2
  generalize hws : wrongs pr width hop S = ws at *
  have hwsm : ∀ s, ws.head? = some s → 1 ≤ s ∧ s ≤ S := fun s h => by
    have hm := List.mem_of_mem_head? (by rw [h]; rfl : s ∈ ws.head?)
    rw [← hws] at hm
    have := (mem_wrongs hh1).mp hm
    omega
  -- dues = [size, (), wrong == [], None, None]
  refine ⟨_, rfl, (by show 0 ≤ sizeLine; decide), fun q1 hq1 => ⟨_, rfl, (by show 0 ≤ sizeLine; decide), fun q2 hq2 => ⟨.list (ws.map fun n : Nat => PyData.int n), .list (([] : List Nat).map fun n : Nat => PyData.int n), .lst (SqL.of (((Same.new hq1).trans (Same.new hq2)) _ _ hw)) (DpAll.nats _), .lst (SqL.of upd_same) .nil, shaped_nats _, shaped_nats _, ?_⟩⟩⟩
  have e3 : PyData.eqv (.list (ws.map fun n : Nat => PyData.int n)) (.list (([] : List Nat).map fun n : Nat => PyData.int n)) = (firstWrong pr width hop).isNone := by
    rw [PyData.eqv, eqv_nats, ← hfw]
    cases ws <;> rfl
  rw [e3]
  refine ⟨(by show 5 ≤ sizeLine; decide), fun dl hdl => ?_⟩
  have S5 := ((Same.new (o := .tup []) hq1).trans (Same.new (o := .lst []) hq2)).trans (Same.new (o := .lst [V.int L, V.ref q1, V.bl (firstWrong pr width hop).isNone, V.non, V.non]) hdl)
  have hdl4 : H4 dl = none := Same.free ((Same.new hq1).trans (Same.new hq2)) hdl
  have hdl5 : upd (upd (upd H4 q1 (.tup [])) q2 (.lst [])) dl (.lst [V.int L, V.ref q1, V.bl (firstWrong pr width hop).isNone, V.non, V.non]) dl = some (.lst [V.int L, V.ref q1, V.bl (firstWrong pr width hop).isNone, V.non, V.non]) := upd_same
  generalize upd (upd (upd H4 q1 (.tup [])) q2 (.lst [])) dl (.lst [V.int L, V.ref q1, V.bl (firstWrong pr width hop).isNone, V.non, V.non]) = H5 at *
  clear hq1 hq2 hdl e3
  have ndp : dl ≠ p := fun z => hp4.ne (z ▸ hdl4)
  -- if wrong != []
  refine seq_nx (fun σ' H' => σ' = [some (.ref a), some (.ref p), some (.ref a0), some (.int width), some (.int hop), some (.int L), some (.ref run), some (.ref wl), some (.ref dl), none, none, none, none, none] ∧ Same H4 H' ∧ ∃ v3 v4 : V, H' dl = some (.lst [V.int L, V.ref q1, V.bl (firstWrong pr width hop).isNone, v3, v4]) ∧ Dp K H' v3 (optD (firstWrong pr width hop)) ∧ Dp K H' v4 (wrongTold pr width hop)) (fun D' hN _ _ _ => ?_) ?_
  · refine ⟨_, rfl, (by show 0 ≤ sizeLine; decide), fun e0 he0 => ⟨.list (ws.map fun n : Nat => PyData.int n), .list (([] : List Nat).map fun n : Nat => PyData.int n), .lst (SqL.of ((S5.trans (Same.new he0)) _ _ hw)) (DpAll.nats _), .lst (SqL.of upd_same) .nil, shaped_nats _, shaped_nats _, _, rfl, ?_⟩⟩
    have e3 : PyData.eqv (.list (ws.map fun n : Nat => PyData.int n)) (.list (([] : List Nat).map fun n : Nat => PyData.int n)) = decide (ws = []) := by rw [PyData.eqv, eqv_nats]
    rw [e3]
    have S6 := S5.trans (Same.new (o := .lst []) he0)
    have hdl6 := (Same.new (o := .lst []) he0) _ _ hdl5
    cases ws with
    | nil =>
      have hf0 : firstWrong pr width hop = none := hfw.symm
      refine ifF rfl ?_
      refine hN _ _ ⟨rfl, S6, .non, .non, hdl6, by rw [hf0]; exact .non, ?_⟩
      unfold wrongTold
      rw [hf0]
      exact .non
    | cons s0 wr =>
      have hf0 : firstWrong pr width hop = some s0 := hfw.symm
      obtain ⟨hs1, hsS⟩ := hwsm s0 rfl
      refine ifT rfl ?_
      have hw6 := S6 _ _ hw
      -- dues[3] = wrong[0]
      refine ⟨_, rfl, wl, _, _, _, rfl, rfl, SqL.of hw6, atI_nat (j := 0) rfl, _, rfl, dl, _, 3, 3, rfl, rfl, hdl6, rfl, ?_⟩
      have S7 := Same.put (o := .lst [V.int L, V.ref q1, V.bl (firstWrong pr width hop).isNone, V.int s0, V.non]) S6 hdl4
      have hdl7 : upd (upd H5 e0 (.lst [])) dl (.lst [V.int L, V.ref q1, V.bl (firstWrong pr width hop).isNone, V.int s0, V.non]) dl = some (.lst [V.int L, V.ref q1, V.bl (firstWrong pr width hop).isNone, V.int s0, V.non]) := upd_same
      have hw7 := S7 _ _ hw
      have hR7 := hR4.keep (H' := upd (upd H5 e0 (.lst [])) dl (.lst [V.int L, V.ref q1, V.bl (firstWrong pr width hop).isNone, V.int s0, V.non])) fun b o _ h => S7 _ _ h
      -- dues[4] = (telling(run, wrong[0]), (wrong[0] - width, wrong[0]))
      refine ⟨_, rfl, _, rfl, wl, _, _, _, rfl, rfl, SqL.of hw7, atI_nat (j := 0) rfl, _, run, pr, S, s0, rfl, hR7, hs1, hsS, hS2, fun v H8 S8 hd8 => ?_⟩
      have hw8' := S8 _ _ hw7
      have hdl8 := S8 _ _ hdl7
      refine ⟨_, rfl, wl, _, _, _, rfl, rfl, SqL.of hw8', atI_nat (j := 0) rfl, _, rfl, _, _, rfl, rfl, _, rfl, wl, _, _, _, rfl, rfl, SqL.of hw8', atI_nat (j := 0) rfl, (by show 2 ≤ sizeLine; decide), fun q3 hq3 => ⟨(by show 2 ≤ sizeLine; decide), fun q4 hq4 => ?_⟩⟩
      have S9 := (Same.new (o := .tup [V.int ((s0 : Int) - (width : Int)), V.int s0]) hq3).trans (Same.new (o := .tup [v, .ref q3]) hq4)
      have hdl9 := S9 _ _ hdl8
      refine ⟨_, rfl, dl, _, 4, 4, rfl, rfl, hdl9, rfl, ?_⟩
      refine hN _ _ ⟨rfl, Same.put ((S7.trans S8).trans S9) hdl4, .int s0, .ref q4, upd_same, by rw [hf0]; exact .int _, ?_⟩
      unfold wrongTold
      rw [hf0]
      refine Dp.keep (TK.put hdl9) ?_ (.tup (SqT.of upd_same) (.cons (Dp.same S9 hd8) (.cons (.tup (SqT.of ((Same.new hq4) _ _ upd_same)) (.cons (.int _) (.cons (.int _) .nil))) .nil)))
      show (NL (toldV _) && (NL (dueV _ _) && true)) = true
      rw [NL_toldV]
      rfl
  clear hdl5 S5
  rintro σ' H6 ⟨rfl, S6, v3, v4, hdl6, hv3, hv4⟩
  have hp6 := hp4.same S6
  have hx6 := Dp.same S6 hx4
  have hR6 := hR4.keep (H' := H6) fun b o _ h => S6 _ _ h
  have hw6 := S6 _ _ hw
  obtain ⟨an, at_, NL, TL, xx, f1, f2, f3, r1, r2, r3, r4, r5⟩ := id hR6
  have hS0 : (if (S : Int) < 60 then (S : Int) else 60) = ((min 60 S : Nat) : Int) := by
    by_cases h : (S : Int) < 60
    · rw [if_pos h]; omega
    · rw [if_neg h]; omega
  have hS4 : (if (S : Int) < 400 then (S : Int) else 400) = ((min 400 S : Nat) : Int) := by
    by_cases h : (S : Int) < 400
    · rw [if_pos h]; omega
    · rw [if_neg h]; omega
  -- many = draw(pool, min(60, len(run[1])) + 1)
  refine ⟨_, rfl, _, rfl, run, _, _, _, rfl, rfl, SqL.of r1, atI_nat (j := 1) rfl, _, _, rfl, .inl (SqL.of r3), _, _, rfl, _, _, rfl, rfl, p, min 60 S + 1, ?_, hp6, by omega, by omega, fun mn0 H7 hm0 hb7 hp7 => ?_⟩
  · show [V.ref p, V.int ((if ((TL.length : Nat) : Int) < 60 then ((TL.length : Nat) : Int) else 60) + 1)] = _
    rw [r4, hS0]
    rfl
  have hx7 := prog_but hx6 hb7 hp6
  have hR7 := hR6.keep (H' := H7) (hF hb7)
  have hw7 := hb7.at hw6 nwp
  have hdl7 := hb7.at hdl6 ndp
  obtain ⟨ps, hps⟩ := hp6.some
  have hv37 := Dp.keep (TK.but hb7 hps) (NL_optD _) hv3
  have hv47 := Dp.keep (TK.but hb7 hps) (NL_wt _ _ _) hv4
  clear hb7 r1 r2 r3 r5 f1 f2 f3 hw6 hdl6 hR6 hx6 hv3 hv4 hps
  obtain ⟨a0', aph', ys', e0, hs0, hsp, hly', hys⟩ := toD_inv hx7
  cases e0
  obtain ⟨an, at_, NL, TL, xx, f1, f2, f3, r1, r2, r3, r4, r5⟩ := id hR7
  -- if len(program[1]) > 23: many = min(400, len(run[1]))
  refine seq_nx (fun σ' H' => H' = H7 ∧ ∃ mn : Nat, mn ≤ S ∧ mn ≤ 400 ∧ σ' = [some (.ref a), some (.ref p), some (.ref a0), some (.int width), some (.int hop), some (.int L), some (.ref run), some (.ref wl), some (.ref dl), some (.int mn), none, none, none, none]) (fun D' hN _ _ _ => ?_) ?_
  · refine ⟨_, rfl, a0, _, _, _, rfl, rfl, hs0, atI_nat (j := 1) rfl, _, _, rfl, .inr hsp, _, _, rfl, rfl, _, rfl, ?_⟩
    by_cases h23 : (23 : Int) < ((ys'.length : Nat) : Int)
    · refine ifT (decide_eq_true h23) ?_
      refine ⟨_, rfl, run, _, _, _, rfl, rfl, SqL.of r1, atI_nat (j := 1) rfl, _, _, rfl, .inl (SqL.of r3), _, _, rfl, ?_⟩
      refine hN _ _ ⟨rfl, min 400 S, by omega, by omega, ?_⟩
      refine congrArg (fun z : Int => [some (V.ref a), some (.ref p), some (.ref a0), some (.int (width : Int)), some (.int (hop : Int)), some (.int (L : Int)), some (.ref run), some (.ref wl), some (.ref dl), some (.int z), none, none, none, none]) ?_
      rw [← hS4, r4]
    · refine ifF (decide_eq_false h23) ?_
      exact hN _ _ ⟨rfl, mn0, by omega, by omega, rfl⟩
  rintro σ' H' ⟨rfl, mn, hmS, hm400, rfl⟩
  clear r1 r2 r3 r5 f1 f2 f3 hs0 hsp hys
  -- dues[1] = tuple([telling(run, k + 1) for k in range(many)])
  refine ⟨_, rfl, _, rfl, by omega, by omega, fun r hr0 => lc_it (walk_range (lo := 0) (n := (mn : Int).toNat)) (fun i H'' => Same H' H'' ∧ ∃ acc : List V, H'' r = some (.lst acc) ∧ DpAll K H'' acc (tolds pr i) ∧ acc.length = i) ?_ (fun _ _ _ _ => trivial) ?_ ?_⟩
  · exact ⟨Same.new hr0, [], upd_same, .nil, rfl⟩
  · rintro i x' H8 H9 hi ⟨hS, acc, c1, c2, c3⟩ ⟨rfl, rfl⟩
    have hi : i < mn := by simpa using hi
    have hR9 := hR7.keep (H' := H9) fun b o _ h => hS _ _ h
    refine ⟨rfl, ?_⟩
    refine ⟨_, rfl, _, rfl, _, _, rfl, rfl, _, run, pr, S, i + 1, ?_, hR9, by omega, by omega, hS2, fun v H10 S10 hd10 => ?_⟩
    · show [V.ref run, V.int ((0 : Int) + (i : Nat) + 1)] = _
      have e : (0 : Int) + (i : Nat) + 1 = ((i + 1 : Nat) : Int) := by omega
      rw [e]
    have c1' := S10 _ _ c1
    refine ⟨acc, c1', by rw [c3, sizeLine_eq]; omega, Same.put (hS.trans S10) hr0, _, upd_same, ?_, by rw [List.length_append, c3]; rfl⟩
    rw [tolds_succ]
    exact DpAll.append (DpAll.keep (TK.put c1') (NLs_tolds pr i) (DpAll.same S10 c2)) (.cons (Dp.keep (TK.put c1') (NL_toldV _) hd10) .nil)
  rintro H8 ⟨hS8, acc, c1, c2, c3⟩
  have hmn : (mn : Int).toNat = mn := by simp
  rw [hmn] at c2
  refine ⟨r, acc, rfl, .inl ⟨SqL.of c1, fun t ht => ?_⟩⟩
  have S9 := hS8.trans (Same.new (o := .tup acc) ht)
  have hdl9 := S9 _ _ hdl7
  refine ⟨_, rfl, dl, _, 1, 1, rfl, rfl, hdl9, rfl, ?_⟩
  have tk := TK.put (K := K) (o := .lst [V.int L, .ref t, V.bl (firstWrong pr width hop).isNone, v3, v4]) hdl9
  have hDU : LD K (upd (upd H8 t (.tup acc)) dl (.lst [V.int L, .ref t, V.bl (firstWrong pr width hop).isNone, v3, v4])) dl (duesD pr width hop mn) := by
    refine ⟨_, upd_same, .cons ?_ (.cons ?_ (.cons (.bl _) (.cons (Dp.keep tk (NL_optD _) (Dp.same S9 hv37)) (.cons (Dp.keep tk (NL_wt _ _ _) (Dp.same S9 hv47)) .nil))))⟩
    · rw [hL]
      exact .int _
    · exact .tup (tk _ _ (SqT.of upd_same)) (DpAll.keep tk (NLs_tolds pr mn) (DpAll.same (Same.new ht) c2))
  have hBd : ∀ b o, b ≠ dl → H' b = some o → upd (upd H8 t (.tup acc)) dl (.lst [V.int L, .ref t, V.bl (firstWrong pr width hop).isNone, v3, v4]) b = some o := fun b o nb h => by
    rw [upd_ne nb]
    exact S9 _ _ h
  have hpA : Pool (upd (upd H8 t (.tup acc)) dl (.lst [V.int L, .ref t, V.bl (firstWrong pr width hop).isNone, v3, v4])) p := (hp7.same S9).put ndp
  have hxA : Dp K (upd (upd H8 t (.tup acc)) dl (.lst [V.int L, .ref t, V.bl (firstWrong pr width hop).isNone, v3, v4])) (.ref a0) (toD pr) := Dp.keep tk (NL_toD pr) (Dp.same S9 hx7)
  have nwd : wl ≠ dl := fun z => by rw [← z, hw] at hdl4; cases hdl4
  have hwA := hBd _ _ nwd hw7
  refine gset_heap (H' := upd (upd H8 t (.tup acc)) dl (.lst [V.int L, .ref t, V.bl (firstWrong pr width hop).isNone, v3, v4])) rfl ?_
  generalize upd (upd H8 t (.tup acc)) dl (.lst [V.int L, .ref t, V.bl (firstWrong pr width hop).isNone, v3, v4]) = HA at *
  clear tk hBd hdl9 S9 ht c1 c2 c3 hS8 hdl7 hw7 hx7 hv37 hv47 hp7 hR7 hR4 hx4 hp4
  have j2 : posD (.int (hop : Nat)) = true := posD_i (by omega)
  -- named = 6 * draw(pool, 2)
  refine ⟨_, rfl, p, 2, rfl, hpA, by omega, by omega, fun c HB hc hbB hpB => ⟨_, _, rfl, rfl, .inl ⟨by omega, by omega⟩, ?_⟩⟩
  have hxB := prog_but hxA hbB hpA
  have hDB := hDU.drawn (NLs_dues pr width hop mn) hbB hpA ndp
  have hwB := hbB.at hwA nwp
  clear hxA hDU hwA hbB hpA
  have hmn4 : mn ≤ 10000 := by omega
  -- for which in range(5)
  refine ⟨_, rfl, by omega, by omega, for_it (walk_range (lo := 0) (n := ((5 : Int)).toNat))
    (fun i σ' H' => (∃ o11, σ' = [some (.ref a), some (.ref p), some (.ref a0), some (.int width), some (.int hop), some (.int L), some (.ref run), some (.ref wl), some (.ref dl), some (.int mn), some (.int (6 * (c : Int))), o11, none, none]) ∧ Same HB H') ?_ (fun _ _ _ _ _ => trivial) ?_ ?_⟩
  · exact ⟨⟨_, rfl⟩, Same.refl _⟩
  · rintro i x' σ' H9 H10 hi ⟨⟨o11, rfl⟩, hS⟩ ⟨rfl, rfl⟩
    have hi5 : i < 5 := hi
    have hk : (6 : Int) * (c : Int) + ((0 : Int) + (i : Nat)) = ((i : Nat) : Int) ∨ (6 : Int) * (c : Int) + ((0 : Int) + (i : Nat)) = ((i : Nat) : Int) + 6 := by omega
    have ei : (0 : Int) + (i : Nat) = (i : Int) := by omega
    have hlen : (duesD pr width hop mn).length = 5 := rfl
    obtain ⟨d, hd⟩ : ∃ d, (duesD pr width hop mn)[i]? = some d := ⟨_, List.getElem?_eq_getElem (by rw [hlen]; exact hi5)⟩
    obtain ⟨DL, g1, g2⟩ := hDB.same hS
    obtain ⟨dv, hdv, hddv⟩ := DpAll.get g2 hd
    refine ⟨_, rfl, _, rfl, _, _, rfl, rfl, _, rfl, _, rfl, _, rfl, _, rfl, _, i, by omega, hk, .ref a0, .int width, .int hop, .int mn, toD pr, .int width, .int hop, .int mn, rfl, Dp.same hS hxB, .int _, .int _, .int _, callW_ok hsc hmn4 i hi5 hd (fun v H6 S6 hd6 => ?_)⟩
    refine ⟨_, rfl, _, rfl, dl, DL, _, dv, rfl, rfl, SqL.of (S6 _ _ g1), at_of ei hdv, (by show 2 ≤ sizeLine; decide), fun q1 hq1 => ⟨v, .ref q1, .list [.int 0, d], rfl, Dp.same (Same.new hq1) hd6, .lst (SqL.of upd_same) (.cons (.int _) (.cons (Dp.same (S6.trans (Same.new hq1)) hddv) .nil)), sm_dues hmn4 hi5 hd, fun H11 S11 => ⟨_, rfl, ?_⟩⟩⟩
    refine ifF rfl ?_
    exact ⟨⟨_, rfl⟩, ((hS.trans S6).trans (Same.new hq1)).trans S11⟩
  rintro σ' HC ⟨⟨o11, rfl⟩, hSC⟩
  have hpC := hpB.same hSC
  have hxC := Dp.same hSC hxB
  have hDC := hDB.same hSC
  have hwC := hSC _ _ hwB
  clear hpB hxB hDB hwB
  -- papers
  refine ⟨_, rfl, _, rfl, _, rfl, _, rfl, _, rfl, _, rfl, p, .ref a0, pr, width, hop, S, wl, ?_, hpC, hxC, hsc, by rw [hL]; exact hS1, hS2, by rw [hws]; exact hwC, nwp, fun HD hbD hpD => ⟨_, rfl, ?_⟩⟩
  · show [V.ref p, V.ref a0, V.int (width : Nat), V.int (hop : Nat), V.int (L : Nat), V.ref wl] = _
    rw [hL]
  refine ifF rfl ?_
  have hxD := prog_but hxC hbD hpC
  have hDD := hDC.drawn (NLs_dues pr width hop mn) hbD hpC ndp
  -- refusals
  refine ⟨_, rfl, _, rfl, _, rfl, _, rfl, p, .ref a0, pr, width, hop, rfl, hpD, hxD, hsc, fun HE hbE hpE => ⟨_, rfl, ?_⟩⟩
  refine ifF rfl ?_
  have hxE := prog_but hxD hbE hpD
  have hDE := hDD.drawn (NLs_dues pr width hop mn) hbE hpD ndp
  clear hxC hDC hwC hpC hbD hxD hDD hpD hbE
  -- the copier
  have hfit : Fit copyP 1 hop := ⟨copy_wf, by decide, hh1, by omega, by show 1 + Nat.lcm 1 hop ≤ 10000; rw [Nat.lcm_one_left]; omega⟩
  refine ⟨(by show 2 ≤ sizeLine; decide), fun q1 hq1 => ⟨(by show 1 ≤ sizeLine; decide), fun q2 hq2 => ⟨(by show 2 ≤ sizeLine; decide), fun q3 hq3 => ⟨(by show 1 ≤ sizeLine; decide), fun q4 hq4 => ⟨(by show 2 ≤ sizeLine; decide), fun q5 hq5 => ?_⟩⟩⟩⟩⟩
  have T2 := Same.new (o := .tup [V.ref q1]) hq2
  have T3 := Same.new (o := .tup [V.ref q2, V.int 1]) hq3
  have T4 := Same.new (o := .tup [V.ref q3]) hq4
  have T5 := Same.new (o := .tup [V.int 2, V.ref q4]) hq5
  have hcp : Dp K (upd (upd (upd (upd (upd HE q1 (.tup [V.int 1, V.int 0])) q2 (.tup [V.ref q1])) q3 (.tup [V.ref q2, V.int 1])) q4 (.tup [V.ref q3])) q5 (.tup [V.int 2, V.ref q4])) (.ref q5) (toD copyP) :=
    .tup (SqT.of upd_same) (.cons (.int _) (.cons (.tup (SqT.of (T5 _ _ upd_same)) (.cons (.tup (SqT.of ((T4.trans T5) _ _ upd_same)) (.cons (.tup (SqT.of ((T3.trans (T4.trans T5)) _ _ upd_same)) (.cons (.tup (SqT.of ((T2.trans (T3.trans (T4.trans T5))) _ _ upd_same)) (.cons (.int _) (.cons (.int _) .nil))) .nil)) (.cons (.int _) .nil))) .nil)) .nil))
  have TT := (Same.new (o := .tup [V.int 1, V.int 0]) hq1).trans (T2.trans (T3.trans (T4.trans T5)))
  have hpF := hpE.same TT
  have hxF := Dp.same TT hxE
  have hDF := hDE.same TT
  refine ⟨_, rfl, _, 2, by omega, .inl rfl, .ref q5, .int 1, .int hop, .int 0, toD copyP, .int 1, .int hop, .int 0, rfl, hcp, .int _, .int _, .int _, .inr (.inr (.inr ⟨progD_ok copy_wf, pos1, j2, copyP, 1, hop, rfl, rfl, rfl, hfit, fun v HG SG hdG => ?_⟩))⟩
  rw [copy_first hop hh1] at hdG
  refine ⟨(by show 2 ≤ sizeLine; decide), fun q6 hq6 => ⟨v, .ref q6, .list [.int 0, .bool true], rfl, Dp.same (Same.new hq6) hdG, .lst (SqL.of upd_same) (.cons (.int _) (.cons (.bl _) .nil)), sm_lst (by show 2 ≤ 1000000; decide) (sm_two (sm_sc rfl) (sm_sc rfl)), fun HI SI => ⟨_, rfl, ?_⟩⟩⟩
  refine ifF rfl ?_
  have SGI := (SG.trans (Same.new (o := .lst [V.int 0, V.bl true]) hq6)).trans SI
  have hxI := Dp.same SGI hxF
  obtain ⟨DL, g1, g2⟩ := hDF.same SGI
  -- again = 1 + int(width + many) % 4
  refine ⟨_, rfl, _, rfl, _, _, rfl, rfl, .inl ⟨_, rfl, _, _, rfl, rfl, (by show (4 : Int) ≠ 0; decide), _, _, rfl, rfl, ?_⟩⟩
  have hlt := fm_lt (x := (width : Int) + (mn : Int)) (c := 4) (by decide)
  have he4 : (1 : Int) + ((width : Int) + (mn : Int)).fmod 4 = ((1 + fm ((width : Int) + (mn : Int)) 4 : Nat) : Int) := by
    have := fm_eq (x := (width : Int) + (mn : Int)) (c := 4) (by decide)
    have e2 : ((4 : Nat) : Int) = 4 := rfl
    rw [e2] at this
    omega
  obtain ⟨m, hme, hm5⟩ : ∃ m : Nat, (1 : Int) + ((width : Int) + (mn : Int)).fmod 4 = (m : Int) ∧ m < 5 := ⟨_, he4, by omega⟩
  have hlen : (duesD pr width hop mn).length = 5 := rfl
  obtain ⟨d, hd⟩ : ∃ d, (duesD pr width hop mn)[m]? = some d := ⟨_, List.getElem?_eq_getElem (by rw [hlen]; exact hm5)⟩
  obtain ⟨dv, hdv, hddv⟩ := DpAll.get g2 hd
  refine ⟨_, rfl, _, rfl, _, rfl, _, rfl, _, rfl, _, m, by omega, .inl hme, .ref a0, .int width, .int hop, .int mn, toD pr, .int width, .int hop, .int mn, rfl, hxI, .int _, .int _, .int _, callW_ok hsc hmn4 m hm5 hd (fun v H6 S6 hd6 => ?_)⟩
  refine ⟨_, rfl, _, rfl, dl, DL, _, dv, rfl, rfl, SqL.of (S6 _ _ g1), at_of hme hdv, (by show 2 ≤ sizeLine; decide), fun q7 hq7 => ⟨v, .ref q7, .list [.int 0, d], rfl, Dp.same (Same.new hq7) hd6, .lst (SqL.of upd_same) (.cons (.int _) (.cons (Dp.same (S6.trans (Same.new hq7)) hddv) .nil)), sm_dues hmn4 hm5 hd, fun H11 S11 => ?_⟩⟩
  exact q H11
end
end U3


namespace U3
open PySem PySem.Spec PyProof.Rows L2
theorem facts {P : Program} {w : World} {K : PySem.W.Frag} {h : Heap} {mg : Str → Option Value} {f : Addr} (X : K.In h) (G : h.Ns mainGlobals mg) (hfa : mg ("law" : Str) = some (.ref f)) (c : SaysY K) :
    ∃ fd : FuncData, (∀ (s : Shared) (v : Value), BindsTo s fd ⟨[v], []⟩ [("_law_script", v)]) ∧ ∀ base : Heap, K.In base → base.Ns mainGlobals mg → FnOk P w K mg base CX0 13 f fd ["_law_script"] (sp_law K) := by
  have T : Txt K mg := ⟨c, h, X, G⟩
  have e := hfa.symm.trans T.g_law
  cases e
  have b := FunD.bindsA (ps := ["_law_script"]) T.F_law fun _ _ _ _ _ _ us hl => match us, hl with | [_], _ => rfl
  exact ⟨_, fun s v => b s [v] rfl, fun base _ _ => ok_law T⟩
end U3
open PySem PySem.W PySem.Calls PyProof.Rows
theorem PySem.Challenge.cw_underthree_k38_whole_right_forever_holds : PySem.Challenge.rw_underthree_k38_whole_right_forever.Holds := by
  w_on; o_law
  refine HandSHeadRun.head_any (r := U3.R) (q := view U3.R.prog [56]) (H := U3.hk) (ob := U3.ob) (M := 12000) (loose := U3.loose) (d := HandSHeadRun.topDef U3.R.prog 56) (kwd := []) U3.ob_eq
    (by kernel_rfl) (fun s => by kernel_rfl) U3.run (by kernel_rfl) (by kernel_rfl) (by kernel_rfl) (by rfl) (by first | assumption | decide +kernel) (by decide +kernel) ⟨rfl, rfl, rfl, rfl, rfl, by decide +kernel⟩ ?hw ?hc
  case hw => w_witness2
  case hc =>
    refine L2.walk_ofE (l := PySem.Challenge.rw_underthree_k38_whole_right_forever) (n := 63) (k := 13) (x := "_law_script") (CX := L2.CX0) rfl (by decide) (by kernel_rfl) ⟨rfl, by decide, by decide⟩ ?F (fun _ _ _ _ z => z)
    intro w mg fa h Y G hmg0
    obtain ⟨K, KX, c⟩ := Y
    have hmg : mg ("law" : PySem.Str) = some (.ref fa) := by
      have e : (HandSHeadRun.topDef U3.R.prog 56).name = ("law" : PySem.Str) := by kernel_rfl
      rw [← e]
      exact hmg0
    obtain ⟨fd, hb, hF⟩ := U3.facts (P := (PySem.Challenge.rw_underthree_k38_whole_right_forever).prog) (w := w) KX G hmg c
    exact ⟨K, fd, U3.sp_law K, KX, hb, fun H a ns hl _ hS => ⟨a, ns, rfl, hS, hl, fun _ => rfl⟩, hF⟩


