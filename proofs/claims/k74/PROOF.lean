import PyProof.Rows.All
import Wide.All
import OpenK.AllK
import Wide.FinOn
import PySem.Challenge.RW_echofields_k74_whole_rings_are_forms
import HandS.ForMost
import HandS.ForExc
import HandS.IsInst
import HandS.Defaults
import HandS.TupAny
import HandS.TupMul
import HandS.Wide
import HandS.Zip
import HandS.Style
import HandS.Strs
import HandS.Star
import HandS.ExcInit
import HandS.Property
import HandS.More
import HandS.Flow
import HandS.SetFor
import HandS.Deep
import KE.KDictKeyed
import KE.GoesEnum
import PyProof.EqLayable
import KE.KOpsOwn
import HandS.TryOnly
import HandS.Ends
set_option linter.all false
set_option maxHeartbeats 1000000
namespace Ech

/-! ### wishes -/
/-- the wish with a number -/
def wsh (table : List (Option Nat)) (start : Nat) : Nat → Option Nat
  | 0 => some start
  | k + 1 => (wsh table start k).bind fun v => table.getD v none

/-- what wishes_from hands back -/
structure WF (table : List (Option Nat)) (start : Nat) (found : List Nat) (ahead : Option Nat) : Prop where
  pos : 0 < found.length
  get : ∀ i, i < found.length → wsh table start i = found[i]?
  nd : found.Nodup
  fin0 : ahead = none → wsh table start found.length = none
  fin1 : ∀ p, ahead = some p → p < found.length ∧ wsh table start found.length = found[p]?

section
variable {table : List (Option Nat)} {start : Nat} {found : List Nat} {ahead : Option Nat}

theorem WF.some_of (w : WF table start found ahead) {i : Nat} (h : i < found.length) : wsh table start i = some (found[i]) := by
  rw [w.get i h, List.getElem?_eq_getElem h]
theorem WF.ne (w : WF table start found ahead) {i j : Nat} (hi : i < found.length) (hj : j < found.length) (h : wsh table start i = wsh table start j) : i = j := by
  rw [w.some_of hi, w.some_of hj] at h
  exact (List.getElem_inj w.nd).mp (Option.some.inj h)
theorem wsh_none {k : Nat} (h : wsh table start k = none) : ∀ n, wsh table start (k + n) = none
  | 0 => h
  | n + 1 => by
    show (wsh table start (k + n)).bind _ = none
    rw [wsh_none h n]
    rfl
theorem wsh_none_le {k n : Nat} (h : wsh table start k = none) (hn : k ≤ n) : wsh table start n = none := by
  have e := wsh_none h (n - k)
  rw [show k + (n - k) = n by omega] at e
  exact e
theorem wsh_cong {i j : Nat} (h : wsh table start i = wsh table start j) : ∀ n, wsh table start (i + n) = wsh table start (j + n)
  | 0 => h
  | n + 1 => by
    show (wsh table start (i + n)).bind _ = (wsh table start (j + n)).bind _
    rw [wsh_cong h n]
/-- the wishes come again -/
theorem WF.per (w : WF table start found ahead) {p : Nat} (hp : ahead = some p) {k : Nat} (hk : p ≤ k) : wsh table start (k + (found.length - p)) = wsh table start k := by
  obtain ⟨h1, h2⟩ := w.fin1 p hp
  have e : wsh table start found.length = wsh table start p := by rw [h2, w.get p h1]
  have z := wsh_cong e (k - p)
  rw [show found.length + (k - p) = k + (found.length - p) by omega, show p + (k - p) = k by omega] at z
  exact z
theorem WF.perN (w : WF table start found ahead) {p : Nat} (hp : ahead = some p) {k : Nat} (hk : p ≤ k) : ∀ n, wsh table start (k + (found.length - p) * n) = wsh table start k
  | 0 => by rw [Nat.mul_zero, Nat.add_zero]
  | n + 1 => by
    rw [Nat.mul_succ, ← Nat.add_assoc, w.per hp (by omega), w.perN hp hk n]
/-- the place in found of a wish -/
def spot (len : Nat) (ahead : Option Nat) (k : Nat) : Option Nat :=
  if k < len then some k else match ahead with
    | none => none
    | some p => some (p + (k - p) % (len - p))
theorem WF.spot_lt (w : WF table start found ahead) {k i : Nat} (h : spot found.length ahead k = some i) : i < found.length := by
  unfold spot at h
  split at h
  · cases h; assumption
  · cases ha : ahead with
    | none => rw [ha] at h; cases h
    | some p =>
      rw [ha] at h
      have e : p + (k - p) % (found.length - p) = i := Option.some.inj h
      obtain ⟨h1, _⟩ := w.fin1 p ha
      have := Nat.mod_lt (k - p) (show found.length - p > 0 by omega)
      omega
theorem WF.spot_eq (w : WF table start found ahead) (k : Nat) : wsh table start k = (spot found.length ahead k).bind fun i => found[i]? := by
  unfold spot
  split
  · rename_i h
    rw [w.get k h]
    rfl
  · rename_i h
    cases ha : ahead with
    | none =>
      show _ = none
      exact wsh_none_le (w.fin0 ha) (by omega)
    | some p =>
      show _ = found[p + (k - p) % (found.length - p)]?
      obtain ⟨h1, _⟩ := w.fin1 p ha
      have hm := Nat.mod_lt (k - p) (show found.length - p > 0 by omega)
      rw [← w.get _ (by omega)]
      have e := w.perN ha (k := p + (k - p) % (found.length - p)) (by omega) ((k - p) / (found.length - p))
      rw [← e]
      congr 1
      have q := Nat.mod_add_div (k - p) (found.length - p)
      omega
/-- what wish_at reckons -/
def wishAt (found : List Nat) (ahead : Option Nat) (k : Nat) : Option Nat :=
  if k < found.length then found[k]? else match ahead with
    | none => none
    | some p => found[p + (k - p) % (found.length - p)]?
theorem WF.wishAt_eq (w : WF table start found ahead) (k : Nat) : wishAt found ahead k = wsh table start k := by
  rw [w.spot_eq k]
  unfold wishAt spot
  split
  · rfl
  · cases ahead <;> rfl
/-- two equal wishes -/
theorem WF.same (w : WF table start found ahead) {i j : Nat} (h : wsh table start i = wsh table start j) (hi : i < found.length) : spot found.length ahead j = some i := by
  rw [w.some_of hi, w.spot_eq j] at h
  cases hs : spot found.length ahead j with
  | none => rw [hs] at h; cases h
  | some x =>
    rw [hs] at h
    have hx := w.spot_lt hs
    have e : found[x]? = some found[i] := h.symm
    rw [List.getElem?_eq_getElem hx] at e
    have e2 := Option.some.inj e
    rw [(List.getElem_inj w.nd).mp e2]
end

/-! ### the first stop -/
section
variable (table : List (Option Nat)) (old : List Nat) (start : Nat)
def StopO (k : Nat) : Prop := wsh table start k = none ∨ wsh table start k = old[k % old.length]?
instance (k : Nat) : Decidable (StopO table old start k) := by unfold StopO; exact inferInstance
/-- what first_stop hands back -/
def FS (first : Option Nat) : Prop :=
  match first with
  | some k => 1 ≤ k ∧ StopO table old start k ∧ ∀ j, 1 ≤ j → j < k → ¬ StopO table old start j
  | none => ∀ j, 1 ≤ j → ¬ StopO table old start j
def period (len : Nat) (ahead : Option Nat) : Nat := match ahead with
  | none => 1
  | some p => len - p
end
section
variable {table : List (Option Nat)} {old : List Nat} {start : Nat} {found : List Nat} {ahead : Option Nat}
theorem WF.fs_none (w : WF table start found ahead) (h : ∀ j, 1 ≤ j → j < found.length + period found.length ahead * old.length + 1 → ¬ StopO table old start j) : FS table old start none := by
  show ∀ j, 1 ≤ j → ¬ StopO table old start j
  intro j
  induction j using Nat.strongRecOn with
  | ind j ih =>
    intro h1 hs
    by_cases hb : j < found.length + period found.length ahead * old.length + 1
    · exact h j h1 hb hs
    · cases ha : ahead with
      | none => exact h found.length w.pos (by omega) (.inl (w.fin0 ha))
      | some p =>
        rw [ha] at hb
        have e : period found.length (some p) = found.length - p := rfl
        rw [e] at hb
        obtain ⟨hp, _⟩ := w.fin1 p ha
        by_cases hL : old.length = 0
        · have ho : old = [] := List.eq_nil_of_length_eq_zero hL
          subst ho
          rcases hs with hs | hs
          · have q := w.spot_eq j
            rw [hs] at q
            unfold spot at q
            rw [ha] at q
            split at q
            · rename_i hj
              rw [List.length_nil] at hb
              omega
            · have hm := Nat.mod_lt (j - p) (show found.length - p > 0 by omega)
              have q' : (none : Option Nat) = found[p + (j - p) % (found.length - p)]? := q
              rw [List.getElem?_eq_getElem (by omega)] at q'
              cases q'
          · have q := w.spot_eq j
            rw [show ([] : List Nat)[j % ([] : List Nat).length]? = none from rfl] at hs
            rw [hs] at q
            unfold spot at q
            rw [ha] at q
            split at q
            · rename_i hj
              rw [List.length_nil] at hb
              omega
            · have hm := Nat.mod_lt (j - p) (show found.length - p > 0 by omega)
              have q' : (none : Option Nat) = found[p + (j - p) % (found.length - p)]? := q
              rw [List.getElem?_eq_getElem (by omega)] at q'
              cases q'
        · have hpl : 0 < (found.length - p) * old.length := Nat.mul_pos (by omega) (by omega)
          generalize hg : (found.length - p) * old.length = g at *
          have e1 : wsh table start (j - g) = wsh table start j := by
            have z := w.perN ha (k := j - g) (by omega) old.length
            rw [hg, show j - g + g = j by omega] at z
            exact z.symm
          have e2 : (j - g) % old.length = j % old.length := by
            have z := Nat.add_mul_mod_self_right (j - g) (found.length - p) old.length
            rw [hg, show j - g + g = j by omega] at z
            exact z.symm
          refine ih (j - g) (by omega) (by omega) ?_
          unfold StopO at hs ⊢
          rw [e1, e2]
          exact hs
end

/-! ### a run -/
/-- a ring or chain -/
structure Par where
  table : List (Option Nat)
  old : List Nat
  start : Nat
  many : Nat
  closed : Bool
namespace Par
variable (R : Par)
def w (k : Nat) : Option Nat := wsh R.table R.start k
/-- how many links -/
def nl : Nat := if R.closed = true then R.many else R.many - 1
/-- the filling ahead of the edit -/
def base : List Nat := (List.range R.many).map fun k => R.old.getD (k % R.old.length) 0
/-- what is right of it -/
structure Ok : Prop where
  many2 : 2 ≤ R.many
  oldp : 0 < R.old.length
  startlt : R.start < R.table.length
  items : ∀ v, some v ∈ R.table → v < R.table.length
  oldlt : ∀ v ∈ R.old, v < R.table.length
/-- a moment: the filling, the pending link -/
abbrev Mom := List Nat × Option Nat
def step (m : Mom) : Mom :=
  match m.2 with
  | none => m
  | some l =>
    match R.table.getD (m.1.getD l 0) none with
    | none => (m.1, none)
    | some v => if m.1.getD ((l + 1) % R.many) 0 = v then (m.1, none) else (m.1.set ((l + 1) % R.many) v, if (l + 1) % R.many < R.nl then some ((l + 1) % R.many) else none)
def init : Mom := if R.old.getD 0 0 = R.start then (R.base, none) else (R.base.set 0 R.start, if 0 < R.nl then some 0 else none)
def st : Nat → Mom
  | 0 => R.init
  | t + 1 => R.step (st t)
/-- what stood there before the k-th firing -/
def prev (k : Nat) : Option Nat := if k < R.many then R.old[k % R.old.length]? else R.w (k - R.many)
def Stop (k : Nat) : Prop := R.w k = none ∨ R.w k = R.prev k
/-- the value of field j behind t changing firings -/
def val (t j : Nat) : Option Nat := if t < j then R.old[j % R.old.length]? else R.w (j + (t - j) / R.many * R.many)
def fill (t : Nat) : List Nat := (List.range R.many).map fun j => (R.val t j).getD 0
variable {R}
theorem fill_len (t : Nat) : (R.fill t).length = R.many := by unfold fill; rw [List.length_map, List.length_range]
theorem fill_get {t j : Nat} (h : j < R.many) : (R.fill t)[j]? = some ((R.val t j).getD 0) := by
  unfold fill
  rw [List.getElem?_map, List.getElem?_range h]
  rfl
theorem base_len : R.base.length = R.many := by unfold base; rw [List.length_map, List.length_range]
theorem base_get {j : Nat} (h : j < R.many) : R.base[j]? = some (R.old.getD (j % R.old.length) 0) := by
  unfold base
  rw [List.getElem?_map, List.getElem?_range h]
  rfl
theorem old_get (ok : R.Ok) (j : Nat) : R.old[j % R.old.length]? = some (R.old.getD (j % R.old.length) 0) := by
  have h := Nat.mod_lt j ok.oldp
  rw [List.getElem?_eq_getElem h, List.getD_eq_getElem?_getD, List.getElem?_eq_getElem h]
  rfl
theorem val_zero (ok : R.Ok) {j : Nat} (h : j < R.many) : R.val 0 j = (R.base.set 0 R.start)[j]? := by
  unfold val
  have hm := ok.many2
  cases j with
  | zero =>
    rw [if_neg (Nat.lt_irrefl 0), List.getElem?_set_self (by rw [base_len]; omega)]
    show R.w (0 + (0 - 0) / R.many * R.many) = _
    rw [Nat.sub_self, Nat.zero_div, Nat.zero_mul]
    rfl
  | succ j =>
    rw [if_pos (Nat.succ_pos j), List.getElem?_set_ne (by omega), base_get h, old_get ok]
theorem val_some_old (ok : R.Ok) {t j : Nat} (h : t < j) : ∃ v, R.val t j = some v := by
  unfold val
  rw [if_pos h, old_get ok]
  exact ⟨_, rfl⟩
/-- no stop up to t -/
def NoStop (R : Par) (t : Nat) : Prop := ∀ k, 1 ≤ k → k ≤ t → ¬ R.Stop k
theorem NoStop.mono {t u : Nat} (h : NoStop R t) (hu : u ≤ t) : NoStop R u := fun k h1 h2 => h k h1 (by omega)
theorem NoStop.some {t : Nat} (h : NoStop R t) {k : Nat} (hk : k ≤ t) : ∃ v, R.w k = some v := by
  cases k with
  | zero => exact ⟨_, rfl⟩
  | succ k =>
    cases e : R.w (k + 1) with
    | none => exact absurd (.inl e) (h (k + 1) (by omega) hk)
    | some v => exact ⟨v, rfl⟩
theorem idx_le {t j m : Nat} (h : j ≤ t) : j + (t - j) / m * m ≤ t := by
  have := Nat.div_mul_le_self (t - j) m
  omega
theorem val_some (ok : R.Ok) {t : Nat} (h : NoStop R t) (j : Nat) : ∃ v, R.val t j = some v := by
  by_cases hj : t < j
  · exact val_some_old ok hj
  · unfold val
    rw [if_neg hj]
    exact h.some (idx_le (by omega))
theorem fill_getD (ok : R.Ok) {t j : Nat} (hj : j < R.many) (h : NoStop R t) : some ((R.fill t).getD j 0) = R.val t j := by
  obtain ⟨v, e⟩ := val_some ok h j
  rw [List.getD_eq_getElem?_getD, fill_get hj, e]
  rfl
/-- the source of the next firing has the wish of the last one -/
theorem val_src (ok : R.Ok) (t : Nat) : R.val t (t % R.many) = R.w t := by
  have hm := ok.many2
  have h1 := Nat.mod_le t R.many
  unfold val
  rw [if_neg (by omega)]
  have q := Nat.mod_add_div t R.many
  have e : (t - t % R.many) / R.many = t / R.many := by
    have : t - t % R.many = R.many * (t / R.many) := by omega
    rw [this, Nat.mul_div_cancel_left _ (by omega)]
  rw [e]
  congr 1
  rw [Nat.mul_comm]
  exact q
/-- its target has what stood there before -/
theorem val_tgt (ok : R.Ok) (t : Nat) : R.val t ((t + 1) % R.many) = R.prev (t + 1) := by
  have hm := ok.many2
  unfold prev
  by_cases h : t + 1 < R.many
  · rw [if_pos h, Nat.mod_eq_of_lt h]
    unfold val
    rw [if_pos (Nat.lt_succ_self t)]
  · rw [if_neg h]
    have h2 := Nat.mod_lt (t + 1) (show R.many > 0 by omega)
    have q := Nat.mod_add_div (t + 1) R.many
    generalize hr : (t + 1) % R.many = r at *
    generalize hq : (t + 1) / R.many = c at *
    have hc : c ≠ 0 := by
      rintro rfl
      rw [Nat.mul_zero] at q
      omega
    obtain ⟨d, rfl⟩ : ∃ d, c = d + 1 := ⟨c - 1, by omega⟩
    rw [Nat.mul_succ] at q
    have hrt : r ≤ t := by omega
    unfold val
    rw [if_neg (by omega)]
    have e : (t - r) / R.many = d := by
      have : t - r = R.many * d + (R.many - 1) := by omega
      rw [this, Nat.mul_add_div (by omega), Nat.div_eq_of_lt (by omega)]
      rfl
    rw [e]
    congr 1
    rw [Nat.mul_comm]
    omega
/-- behind a change: the target has the wish -/
theorem val_new (ok : R.Ok) (t : Nat) : R.val (t + 1) ((t + 1) % R.many) = R.w (t + 1) := val_src ok (t + 1)
/-- the others stand -/
theorem val_keep (ok : R.Ok) {t j : Nat} (hj : j < R.many) (hne : j ≠ (t + 1) % R.many) : R.val (t + 1) j = R.val t j := by
  have hm := ok.many2
  unfold val
  by_cases h : t < j
  · by_cases h2 : t + 1 < j
    · rw [if_pos h, if_pos h2]
    · have : j = t + 1 := by omega
      rw [this, Nat.mod_eq_of_lt (by omega)] at hne
      exact absurd rfl hne
  · rw [if_neg h, if_neg (by omega)]
    have e : (t + 1 - j) / R.many = (t - j) / R.many := by
      have q := Nat.mod_add_div (t - j) R.many
      have hl := Nat.mod_lt (t - j) (show R.many > 0 by omega)
      generalize hr : (t - j) % R.many = r at *
      generalize hq : (t - j) / R.many = c at *
      by_cases hr2 : r + 1 = R.many
      · exfalso
        apply hne
        have : t + 1 = j + R.many * (c + 1) := by rw [Nat.mul_succ]; omega
        rw [this, Nat.add_mul_mod_self_left, Nat.mod_eq_of_lt hj]
      · have : t + 1 - j = R.many * c + (r + 1) := by omega
        rw [this, Nat.mul_add_div (by omega), Nat.div_eq_of_lt (by omega)]
        rfl
    rw [e]
/-- how far the run may go -/
def Far (R : Par) (t : Nat) : Prop := R.closed = true ∨ t ≤ R.many - 1
theorem nl_le : R.nl ≤ R.many := by unfold nl; split <;> omega
theorem far_pend {t : Nat} (ok : R.Ok) (h : Far R (t + 1)) : t % R.many < R.nl := by
  have hm := ok.many2
  unfold nl
  rcases h with h | h
  · rw [if_pos h]; exact Nat.mod_lt _ (by omega)
  · have hl := Nat.mod_lt t (show R.many > 0 by omega)
    rw [Nat.mod_eq_of_lt (show t < R.many by omega)]
    split <;> omega
def pend (R : Par) (t : Nat) : Option Nat := if t % R.many < R.nl then some (t % R.many) else none
theorem mod_next (t m : Nat) : (t % m + 1) % m = (t + 1) % m := by rw [Nat.mod_add_mod]
/-- what a firing at t does: the wish of t + 1, what the target has -/
theorem step_fill (ok : R.Ok) {t : Nat} (h : NoStop R t) (hf : Far R (t + 1)) :
    R.step (R.fill t, R.pend t) = match R.w (t + 1) with
      | none => (R.fill t, none)
      | some v => if R.prev (t + 1) = some v then (R.fill t, none) else ((R.fill t).set ((t + 1) % R.many) v, R.pend (t + 1)) := by
  have hm := ok.many2
  have hl := Nat.mod_lt t (show R.many > 0 by omega)
  have hl2 := Nat.mod_lt (t + 1) (show R.many > 0 by omega)
  unfold pend
  rw [if_pos (far_pend ok hf)]
  unfold step
  dsimp only
  have e1 := fill_getD ok hl h
  rw [val_src ok] at e1
  have ew : R.w (t + 1) = R.table.getD ((R.fill t).getD (t % R.many) 0) none := by
    show (R.w t).bind _ = _
    rw [← e1]
    rfl
  rw [← ew, mod_next]
  have e2 := fill_getD ok hl2 h
  rw [val_tgt ok] at e2
  cases R.w (t + 1) with
  | none => rfl
  | some v =>
    dsimp only
    rw [← e2]
    by_cases hv : (R.fill t).getD ((t + 1) % R.many) 0 = v
    · rw [if_pos hv, if_pos (by rw [hv])]
    · rw [if_neg hv, if_neg (fun z => hv (Option.some.inj z))]
theorem fill_next (ok : R.Ok) {t v : Nat} (hv : R.w (t + 1) = some v) : (R.fill t).set ((t + 1) % R.many) v = R.fill (t + 1) := by
  have hm := ok.many2
  have hl2 := Nat.mod_lt (t + 1) (show R.many > 0 by omega)
  apply List.ext_getElem?
  intro j
  by_cases hj : j < R.many
  · by_cases he : (t + 1) % R.many = j
    · rw [he, List.getElem?_set_self (by rw [fill_len]; exact hj), fill_get hj, ← he, val_new ok, hv]
      rfl
    · rw [List.getElem?_set_ne he, fill_get hj, fill_get hj, val_keep ok hj (Ne.symm he)]
  · rw [List.getElem?_eq_none (by rw [List.length_set, fill_len]; omega), List.getElem?_eq_none (by rw [fill_len]; omega)]
theorem init_fill (ok : R.Ok) : R.base.set 0 R.start = R.fill 0 := by
  apply List.ext_getElem?
  intro j
  by_cases hj : j < R.many
  · rw [fill_get hj, val_zero ok hj]
    rw [List.getElem?_eq_getElem (by rw [List.length_set, base_len]; exact hj)]
    rfl
  · rw [List.getElem?_eq_none (by rw [List.length_set, base_len]; omega), List.getElem?_eq_none (by rw [fill_len]; omega)]
theorem st_run (ok : R.Ok) (h0 : R.old.getD 0 0 ≠ R.start) : ∀ t, NoStop R t → Far R t → R.st t = (R.fill t, R.pend t)
  | 0, _, _ => by
    have hm := ok.many2
    show R.init = _
    unfold init pend
    rw [if_neg h0, init_fill ok, Nat.zero_mod]
  | t + 1, hs, hf => by
    have hf0 : Far R t := by
      rcases hf with z | z
      · exact .inl z
      · exact .inr (by omega)
    show R.step (R.st t) = _
    rw [st_run ok h0 t (hs.mono (by omega)) hf0, step_fill ok (hs.mono (by omega)) hf]
    have ns := hs (t + 1) (by omega) (Nat.le_refl _)
    cases e : R.w (t + 1) with
    | none => exact absurd (.inl e) ns
    | some v =>
      dsimp only
      rw [if_neg (fun z => ns (.inr (by rw [e, z]))), fill_next ok e]
theorem st_stop (ok : R.Ok) (h0 : R.old.getD 0 0 ≠ R.start) {t : Nat} (hs : NoStop R t) (hf : Far R (t + 1)) (h : R.Stop (t + 1)) : R.st (t + 1) = (R.fill t, none) := by
  have hf0 : Far R t := by
    rcases hf with z | z
    · exact .inl z
    · exact .inr (by omega)
  show R.step (R.st t) = _
  rw [st_run ok h0 t hs hf0, step_fill ok hs hf]
  cases e : R.w (t + 1) with
  | none => rfl
  | some v =>
    dsimp only
    rcases h with z | z
    · rw [e] at z; cases z
    · rw [if_pos (by rw [← z, e])]
theorem st_over {t : Nat} (h : (R.st t).2 = none) : ∀ n, R.st (t + n) = R.st t
  | 0 => rfl
  | n + 1 => by
    show R.step (R.st (t + n)) = _
    rw [st_over h n]
    unfold step
    rw [h]
theorem st_over_le {t u : Nat} (h : (R.st t).2 = none) (hu : t ≤ u) : R.st u = R.st t := by
  have e := st_over h (u - t)
  rw [show t + (u - t) = u by omega] at e
  exact e

/-! ### the answers -/
/-- what firings hands back: how many firings, or none -/
inductive Tot (R : Par) : Option Nat → Prop
  | same : R.old.getD 0 0 = R.start → Tot R (some 0)
  | stop {T : Nat} : R.old.getD 0 0 ≠ R.start → NoStop R T → Far R (T + 1) → R.Stop (T + 1) → Tot R (some (T + 1))
  | thru : R.old.getD 0 0 ≠ R.start → R.closed = false → NoStop R (R.many - 1) → Tot R (some (R.many - 1))
  | goes : R.old.getD 0 0 ≠ R.start → R.closed = true → (∀ k, NoStop R k) → Tot R none
/-- what firings reckons -/
def firL (R : Par) (len : Nat) (ahead : Option Nat) : Option Nat :=
  if R.closed = false then some (R.many - 1)
  else match ahead with
    | none => some len
    | some p => if R.many % (len - p) = 0 then some (R.many + p) else none
def fir (R : Par) (first : Option Nat) (len : Nat) (ahead : Option Nat) : Option Nat :=
  if R.old.getD 0 0 = R.start then some 0
  else match (match first with | some f => if f < R.many then some f else none | none => none) with
  | some f => some f
  | none =>
    firL R len ahead
theorem stop_old {k : Nat} (h : k < R.many) : R.Stop k ↔ StopO R.table R.old R.start k := by
  unfold Stop StopO prev
  rw [if_pos h]
  exact Iff.rfl

section
variable {found : List Nat} {ahead first : Option Nat}
theorem stop_late {k : Nat} (h : ¬ k < R.many) : R.Stop k ↔ (R.w k = none ∨ R.w k = R.w (k - R.many)) := by
  unfold Stop prev
  rw [if_neg h]
theorem spot_ge {len p k : Nat} (hk : p ≤ k) (h1 : p < len) : ∃ i, spot len (some p) k = some i ∧ p ≤ i ∧ (i - p) = (k - p) % (len - p) := by
  unfold spot
  by_cases h : k < len
  · rw [if_pos h]
    exact ⟨k, rfl, hk, (Nat.mod_eq_of_lt (by omega)).symm⟩
  · rw [if_neg h]
    exact ⟨_, rfl, by omega, by omega⟩
/-- a wish ahead of the ring comes once -/
theorem once_ahead (W : WF R.table R.start found ahead) {p i k : Nat} (ha : ahead = some p) (hi : i < p) (hk : i < k) : R.w k ≠ R.w i := by
  intro e
  obtain ⟨h1, _⟩ := W.fin1 p ha
  have q := W.same (i := i) (j := k) e.symm (by omega)
  unfold spot at q
  split at q
  · cases q; omega
  · rw [ha] at q
    have q' : p + (k - p) % (found.length - p) = i := Option.some.inj q
    omega
theorem w_some (W : WF R.table R.start found ahead) {p : Nat} (ha : ahead = some p) (k : Nat) : R.w k ≠ none := by
  intro e
  obtain ⟨h1, _⟩ := W.fin1 p ha
  have q := W.spot_eq k
  have e' : wsh R.table R.start k = none := e
  rw [e'] at q
  cases hs : spot found.length ahead k with
  | none =>
    unfold spot at hs
    rw [ha] at hs
    split at hs <;> cases hs
  | some i =>
    rw [hs] at q
    have hx := W.spot_lt hs
    have q' : (none : Option Nat) = found[i]? := q
    rw [List.getElem?_eq_getElem hx] at q'
    cases q'
theorem same_spot (W : WF R.table R.start found ahead) {i k : Nat} {x y : Nat} (e : R.w k = R.w i) (hx : spot found.length ahead k = some x) (hy : spot found.length ahead i = some y) : x = y := by
  have q1 := W.spot_eq k
  have q2 := W.spot_eq i
  have e' : wsh R.table R.start k = wsh R.table R.start i := e
  rw [q1, q2, hx, hy] at e'
  have lx := W.spot_lt hx
  have ly := W.spot_lt hy
  have e2 : found[x]? = found[y]? := e'
  rw [List.getElem?_eq_getElem lx, List.getElem?_eq_getElem ly] at e2
  exact (List.getElem_inj W.nd).mp (Option.some.inj e2)
theorem fir_tot (ok : R.Ok) (W : WF R.table R.start found ahead) (F : FS R.table R.old R.start first) : Tot R (fir R first found.length ahead) := by
  have hm := ok.many2
  have hp := W.pos
  unfold fir
  by_cases h0 : R.old.getD 0 0 = R.start
  · rw [if_pos h0]
    exact .same h0
  rw [if_neg h0]
  -- no early stop
  have late : (∀ f, first = some f → ¬ f < R.many) → NoStop R (R.many - 1) := fun hf k h1 h2 hs => by
    have hs' := (stop_old (by omega)).mp hs
    cases first with
    | none => exact F k h1 hs'
    | some f =>
      have := hf f rfl
      exact F.2.2 k h1 (by omega) hs'
  have rest : (∀ f, first = some f → ¬ f < R.many) → Tot R (firL R found.length ahead) := fun hf => by
    have ns := late hf
    unfold firL
    by_cases hc : R.closed = false
    · rw [if_pos hc]
      exact .thru h0 hc ns
    · rw [if_neg hc]
      have hc' : R.closed = true := by
        cases h : R.closed with
        | true => rfl
        | false => exact absurd h hc
      cases ha : ahead with
      | none =>
        show Tot R (some found.length)
        have hlen : R.many ≤ found.length := by
          apply Nat.le_of_not_lt
          intro hl
          exact ns found.length hp (by omega) (.inl (W.fin0 ha))
        obtain ⟨n, hn⟩ : ∃ n, found.length = n + 1 := ⟨found.length - 1, by omega⟩
        rw [hn]
        refine .stop h0 (fun k h1 h2 hs => ?_) (.inl hc') (.inl ?_)
        · by_cases hk : k < R.many
          · exact ns k h1 (by omega) hs
          · rcases (stop_late hk).mp hs with z | z
            · have e := W.some_of (i := k) (by omega)
              have z' : wsh R.table R.start k = none := z
              rw [z'] at e
              cases e
            · have := W.ne (i := k) (j := k - R.many) (by omega) (by omega) z
              omega
        · rw [← hn]
          exact W.fin0 ha
      | some p =>
        obtain ⟨h1, _⟩ := W.fin1 p ha
        show Tot R (if R.many % (found.length - p) = 0 then some (R.many + p) else none)
        by_cases hd : R.many % (found.length - p) = 0
        · rw [if_pos hd]
          obtain ⟨n, hn⟩ : ∃ n, R.many + p = n + 1 := ⟨R.many + p - 1, by omega⟩
          rw [hn]
          refine .stop h0 (fun k k1 k2 hs => ?_) (.inl hc') ?_
          · by_cases hk : k < R.many
            · exact ns k k1 (by omega) hs
            · rcases (stop_late hk).mp hs with z | z
              · exact w_some W ha k z
              · exact once_ahead W ha (i := k - R.many) (by omega) (by omega) z
          · rw [← hn]
            refine (stop_late (by omega)).mpr (.inr ?_)
            obtain ⟨c, hc2⟩ := Nat.dvd_of_mod_eq_zero hd
            have e := W.perN ha (k := p) (Nat.le_refl p) c
            show wsh _ _ _ = wsh _ _ _
            rw [show R.many + p = p + (found.length - p) * c by omega, e]
            congr 1
            omega
        · rw [if_neg hd]
          refine .goes h0 hc' fun t k k1 k2 hs => ?_
          by_cases hk : k < R.many
          · exact ns k k1 (by omega) hs
          · rcases (stop_late hk).mp hs with z | z
            · exact w_some W ha k z
            · by_cases hi : k - R.many < p
              · exact once_ahead W ha hi (by omega) z
              · obtain ⟨x, x1, x2, x3⟩ := spot_ge (len := found.length) (p := p) (k := k) (by omega) h1
                obtain ⟨y, y1, y2, y3⟩ := spot_ge (len := found.length) (p := p) (k := k - R.many) (by omega) h1
                rw [← ha] at x1 y1
                have e := same_spot W z x1 y1
                subst e
                rw [x3] at y3
                apply hd
                have q : (k - p) % (found.length - p) = (k - R.many - p) % (found.length - p) := y3
                have q2 : k - p = (k - R.many - p) + R.many := by omega
                have q3 := Nat.sub_mod_eq_zero_of_mod_eq q
                rw [show k - p - (k - R.many - p) = R.many by omega] at q3
                exact q3
  cases hf : first with
  | none =>
    rw [hf] at rest
    exact rest (fun f z => nomatch z)
  | some f =>
    dsimp only
    by_cases hfm : f < R.many
    · rw [if_pos hfm]
      dsimp only
      rw [hf] at F
      obtain ⟨f1, f2, f3⟩ := F
      obtain ⟨n, hn⟩ : ∃ n, f = n + 1 := ⟨f - 1, by omega⟩
      subst hn
      refine .stop h0 (fun k k1 k2 hs => f3 k k1 (by omega) ((stop_old (by omega)).mp hs)) (.inr (by omega)) ((stop_old hfm).mpr f2)
    · rw [if_neg hfm]
      rw [hf] at rest
      exact rest (fun g z => by cases z; exact hfm)
end

/-- what changes_done reckons -/
def don (R : Par) (total first : Option Nat) (times : Nat) : Nat :=
  match total with
  | none => times
  | some T => if times < T then times else if T = 0 ∨ (R.closed = false ∧ ∀ f, first = some f → R.many ≤ f) then T else T - 1
/-- the moment behind so many firings, told by the answers -/
theorem st_told (ok : R.Ok) {total : Option Nat} (T : Tot R total) (d : Option Nat → Nat → Nat)
    (hd0 : ∀ t, d none t = t) (hd1 : ∀ n t, t < n → d (some n) t = t) (hd2 : R.old.getD 0 0 = R.start → ∀ t, d (some 0) t = 0)
    (hd3 : ∀ n t, R.old.getD 0 0 ≠ R.start → R.Stop (n + 1) → Far R (n + 1) → NoStop R n → n + 1 ≤ t → d (some (n + 1)) t = n)
    (hd4 : R.old.getD 0 0 ≠ R.start → R.closed = false → NoStop R (R.many - 1) → ∀ t, R.many - 1 ≤ t → d (some (R.many - 1)) t = R.many - 1)
    (t : Nat) : NoStop R (d total t) ∧ (R.st t).1 = R.fill (d total t) ∧ ((R.st t).2 = none ↔ ∃ n, total = some n ∧ n ≤ t) ∧ ((R.st t).2 ≠ none → (R.st t).2 = some (t % R.many)) := by
  have hm := ok.many2
  cases T with
  | same h0 =>
    have e : R.st 0 = (R.base, none) := by
      show R.init = _
      unfold init
      rw [if_pos h0]
    have e2 := st_over_le (t := 0) (u := t) (by rw [e]) (Nat.zero_le t)
    rw [e2, e, hd2 h0]
    have eb : R.base = R.fill 0 := by
      rw [← init_fill ok]
      apply List.ext_getElem?
      intro j
      cases j with
      | zero =>
        rw [List.getElem?_set_self (by rw [base_len]; omega), base_get (by omega), Nat.zero_mod, h0]
      | succ j => rw [List.getElem?_set_ne (by omega)]
    exact ⟨fun k k1 k2 => by omega, eb, ⟨fun _ => ⟨0, rfl, by omega⟩, fun _ => rfl⟩, fun z => absurd rfl z⟩
  | @stop n h0 ns hf hs =>
    by_cases h : t < n + 1
    · have e := st_run ok h0 t (ns.mono (by omega)) (by rcases hf with z | z; exact .inl z; exact .inr (by omega))
      have hp : R.pend t = some (t % R.many) := by
        unfold pend
        rw [if_pos (far_pend ok (by rcases hf with z | z; exact .inl z; exact .inr (by omega)))]
      rw [hd1 _ _ h, e, hp]
      refine ⟨ns.mono (by omega), rfl, ⟨(fun z => nomatch z), fun ⟨m, h1, h2⟩ => ?_⟩, fun _ => rfl⟩
      have := Option.some.inj h1
      omega
    · have e := st_stop ok h0 ns hf hs
      have e2 := st_over_le (t := n + 1) (u := t) (by rw [e]) (by omega)
      rw [hd3 n t h0 hs hf ns (by omega), e2, e]
      exact ⟨ns, rfl, ⟨fun _ => ⟨n + 1, rfl, by omega⟩, fun _ => rfl⟩, fun z => absurd rfl z⟩
  | thru h0 hc ns =>
    by_cases h : t < R.many - 1
    · have e := st_run ok h0 t (ns.mono (by omega)) (.inr (by omega))
      have hp : R.pend t = some (t % R.many) := by
        unfold pend
        rw [if_pos (far_pend ok (.inr (by omega)))]
      rw [hd1 _ _ h, e, hp]
      refine ⟨ns.mono (by omega), rfl, ⟨(fun z => nomatch z), fun ⟨m, h1, h2⟩ => ?_⟩, fun _ => rfl⟩
      have := Option.some.inj h1
      omega
    · have e := st_run ok h0 (R.many - 1) ns (.inr (Nat.le_refl _))
      have hp : R.pend (R.many - 1) = none := by
        have en : R.nl = R.many - 1 := by
          unfold nl
          rw [if_neg (by rw [hc]; exact Bool.false_ne_true)]
        unfold pend
        rw [en, Nat.mod_eq_of_lt (by omega), if_neg (Nat.lt_irrefl _)]
      rw [hp] at e
      have e2 := st_over_le (t := R.many - 1) (u := t) (by rw [e]) (by omega)
      rw [hd4 h0 hc ns t (by omega), e2, e]
      exact ⟨ns, rfl, ⟨fun _ => ⟨_, rfl, by omega⟩, fun _ => rfl⟩, fun z => absurd rfl z⟩
  | goes h0 hc ns =>
    have e := st_run ok h0 t (ns t) (.inl hc)
    have hp : R.pend t = some (t % R.many) := by
      unfold pend
      rw [if_pos (far_pend ok (.inl hc))]
    rw [hd0, e, hp]
    exact ⟨ns t, rfl, ⟨(fun z => nomatch z), fun ⟨m, h1, _⟩ => nomatch h1⟩, fun _ => rfl⟩
/-- .. with what changes_done reckons -/
theorem st_don (ok : R.Ok) {found : List Nat} {ahead first : Option Nat} (W : WF R.table R.start found ahead) (F : FS R.table R.old R.start first) {total : Option Nat} (he : total = fir R first found.length ahead) (t : Nat) :
    NoStop R (don R total first t) ∧ (R.st t).1 = R.fill (don R total first t) ∧ ((R.st t).2 = none ↔ ∃ n, total = some n ∧ n ≤ t) ∧ ((R.st t).2 ≠ none → (R.st t).2 = some (t % R.many)) := by
  have hm := ok.many2
  have T : Tot R total := he ▸ fir_tot ok W F
  have key : ∀ n, R.old.getD 0 0 ≠ R.start → NoStop R n → R.Stop (n + 1) → total = some (n + 1) → (R.closed = false → Far R (n + 1)) → ¬ (R.closed = false ∧ ∀ f, first = some f → R.many ≤ f) := by
    rintro n h0 ns hs _ hfar ⟨hc, hf⟩
    have hn : n + 1 < R.many := by
      rcases hfar hc with z | z
      · rw [hc] at z; cases z
      · omega
    have hs' := (stop_old hn).mp hs
    cases hfi : first with
    | none =>
      rw [hfi] at F
      exact F (n + 1) (by omega) hs'
    | some f =>
      rw [hfi] at F
      have h1 := hf f hfi
      exact F.2.2 (n + 1) (by omega) (by omega) hs'
  have key2 : R.old.getD 0 0 ≠ R.start → R.closed = false → NoStop R (R.many - 1) → ∀ f, first = some f → R.many ≤ f := by
    intro h0 hc ns f hf
    rw [hf] at F
    apply Nat.le_of_not_lt
    intro hl
    exact ns f F.1 (by omega) ((stop_old hl).mpr F.2.1)
  exact st_told (R := R) ok T (fun tt t => don R tt first t)
    (fun t => rfl) (fun n t h => if_pos h) (fun h0 t => by unfold don; dsimp only; rw [if_neg (Nat.not_lt_zero t), if_pos (.inl rfl)])
    (fun n t h0 hs hf ns h => by
      unfold don
      dsimp only
      rw [if_neg (by omega), if_neg ?_]
      · rfl
      · rintro (z | ⟨hc, hf2⟩)
        · omega
        · have hn : n + 1 < R.many := by
            rcases hf with z | z
            · rw [hc] at z; cases z
            · omega
          have hs' := (stop_old hn).mp hs
          cases hfi : first with
          | none =>
            rw [hfi] at F
            exact F (n + 1) (by omega) hs'
          | some f =>
            rw [hfi] at F
            have h1 := hf2 f hfi
            exact F.2.2 (n + 1) (by omega) (by omega) hs')
    (fun h0 hc ns t h => by
      unfold don
      dsimp only
      rw [if_neg (by omega), if_pos (.inr ⟨hc, key2 h0 hc ns⟩)]) t

/-! ### a run comes to rest, or comes again -/
theorem st_cong {i j : Nat} (h : R.st i = R.st j) : ∀ n, R.st (i + n) = R.st (j + n)
  | 0 => h
  | n + 1 => by
    show R.step (R.st (i + n)) = R.step (R.st (j + n))
    rw [st_cong h n]
/-- a moment that comes again while something is pending: never over -/
theorem st_again {i j : Nat} (hij : j < i) (h : R.st i = R.st j) (hp : ∀ k, k < i → (R.st k).2 ≠ none) : ∀ n, (R.st n).2 ≠ none := by
  intro n
  induction n using Nat.strongRecOn with
  | ind n ih =>
    by_cases hn : n < i
    · exact hp n hn
    · have e := st_cong h (n - i)
      rw [show i + (n - i) = n by omega] at e
      rw [e]
      exact ih (j + (n - i)) (by omega)
theorem st_ends (ok : R.Ok) {found : List Nat} {ahead first : Option Nat} (W : WF R.table R.start found ahead) (F : FS R.table R.old R.start first) : ∃ B, (R.st B).2 = none ∨ ∃ A, A < B ∧ R.st B = R.st A := by
  have hm := ok.many2
  have T := fir_tot ok W F
  have z := st_don ok W F (total := fir R first found.length ahead) rfl
  cases ht : fir R first found.length ahead with
  | some n => exact ⟨n, .inl ((z n).2.2.1.mpr ⟨n, ht, Nat.le_refl n⟩)⟩
  | none =>
    rw [ht] at T
    cases T with
    | goes h0 hc ns =>
      cases ha : ahead with
      | none => exact absurd (.inl (W.fin0 ha)) (ns found.length found.length W.pos (Nat.le_refl _))
      | some p =>
        obtain ⟨h1, _⟩ := W.fin1 p ha
        have hpp : 0 < (found.length - p) * R.many := Nat.mul_pos (by omega) (by omega)
        refine ⟨p + R.many + (found.length - p) * R.many, .inr ⟨p + R.many, by omega, ?_⟩⟩
        rw [st_run ok h0 _ (ns _) (.inl hc), st_run ok h0 _ (ns _) (.inl hc)]
        have ep : R.pend (p + R.many + (found.length - p) * R.many) = R.pend (p + R.many) := by
          unfold pend
          rw [Nat.add_mul_mod_self_right]
        rw [ep]
        congr 1
        unfold fill
        apply List.map_congr_left
        intro j hj
        rw [List.mem_range] at hj
        congr 1
        unfold val
        rw [if_neg (by omega), if_neg (by omega)]
        have e1 : (p + R.many + (found.length - p) * R.many - j) / R.many = (p + R.many - j) / R.many + (found.length - p) := by
          rw [show p + R.many + (found.length - p) * R.many - j = (p + R.many - j) + (found.length - p) * R.many by omega, Nat.add_mul_div_right _ _ (by omega)]
        rw [e1, Nat.add_mul, ← Nat.add_assoc]
        have q := Nat.mod_add_div (p + R.many - j) R.many
        have ql := Nat.mod_lt (p + R.many - j) (show R.many > 0 by omega)
        rw [Nat.mul_comm] at q
        exact W.perN ha (by omega) R.many
/-- the filling has values below the table's length -/
theorem w_lt (ok : R.Ok) {k v : Nat} (h : R.w k = some v) : v < R.table.length := by
  cases k with
  | zero =>
    have e : R.start = v := Option.some.inj h
    rw [← e]
    exact ok.startlt
  | succ k =>
    have e : (R.w k).bind (fun v => R.table.getD v none) = some v := h
    cases hw : R.w k with
    | none => rw [hw] at e; cases e
    | some u =>
      rw [hw] at e
      have e2 : R.table.getD u none = some v := e
      rw [List.getD_eq_getElem?_getD] at e2
      cases hg : R.table[u]? with
      | none => rw [hg] at e2; cases e2
      | some x =>
        rw [hg] at e2
        have e3 : x = some v := e2
        subst e3
        exact ok.items v (List.mem_of_getElem? hg)
end Par

/-! ### no more different numbers below n than n -/
theorem nodup_lt : ∀ (n : Nat) (l : List Nat), l.Nodup → (∀ x ∈ l, x < n) → l.length ≤ n
  | 0, l, _, h => by
    cases l with
    | nil => exact Nat.le_refl _
    | cons x r => exact absurd (h x List.mem_cons_self) (Nat.not_lt_zero _)
  | n + 1, l, hn, h => by
    have h2 := nodup_lt n (l.erase n) (hn.erase n) (fun x hx => by
      have hm := List.mem_of_mem_erase hx
      have hl := h x hm
      have hne : x ≠ n := by
        intro e
        subst e
        exact (List.Nodup.not_mem_erase hn) hx
      omega)
    rw [List.length_erase] at h2
    split at h2 <;> omega

/-! ### there is an answer -/
theorem wsh_lt {table : List (Option Nat)} {start : Nat} (hst : start < table.length) (hit : ∀ v, some v ∈ table → v < table.length) {k v : Nat} (h : wsh table start k = some v) : v < table.length := by
  cases k with
  | zero =>
    have e : start = v := Option.some.inj h
    rw [← e]
    exact hst
  | succ k =>
    have e : (wsh table start k).bind (fun v => table.getD v none) = some v := h
    cases hw : wsh table start k with
    | none => rw [hw] at e; cases e
    | some u =>
      rw [hw] at e
      have e2 : table.getD u none = some v := e
      rw [List.getD_eq_getElem?_getD] at e2
      cases hg : table[u]? with
      | none => rw [hg] at e2; cases e2
      | some x =>
        rw [hg] at e2
        have e3 : x = some v := e2
        subst e3
        exact hit v (List.mem_of_getElem? hg)
theorem exists_wf_of {table : List (Option Nat)} {start : Nat} (hst : start < table.length) (hit : ∀ v, some v ∈ table → v < table.length) : ∀ (m : Nat) (fs : List Nat), fs.length + m = table.length →
    (∀ i, i < fs.length → wsh table start i = fs[i]?) → fs.Nodup → (∀ x ∈ fs, x < table.length) → ∃ found ahead, WF table start found ahead := by
  intro m
  induction m with
  | zero =>
    intro fs hl hw hn hlt
    have hp : 0 < fs.length := by omega
    cases hv : wsh table start fs.length with
    | none => exact ⟨fs, none, hp, hw, hn, (fun _ => hv), (fun p z => nomatch z)⟩
    | some v =>
      by_cases hm : v ∈ fs
      · obtain ⟨i, hi⟩ := List.mem_iff_getElem?.mp hm
        exact ⟨fs, some i, hp, hw, hn, (fun z => nomatch z), (fun p z => by cases z; exact ⟨(List.getElem?_eq_some_iff.mp hi).1, by rw [hv, hi]⟩)⟩
      · have := nodup_lt table.length (v :: fs) (List.nodup_cons.mpr ⟨hm, hn⟩) (fun x hx => by
          rcases List.mem_cons.mp hx with z | z
          · rw [z]; exact wsh_lt hst hit hv
          · exact hlt x z)
        rw [List.length_cons] at this
        omega
  | succ m ih =>
    intro fs hl hw hn hlt
    cases hv : wsh table start fs.length with
    | none =>
      have hp : 0 < fs.length := by
        cases fs with
        | nil => cases hv
        | cons x r => exact Nat.succ_pos _
      exact ⟨fs, none, hp, hw, hn, (fun _ => hv), (fun p z => nomatch z)⟩
    | some v =>
      by_cases hm : v ∈ fs
      · obtain ⟨i, hi⟩ := List.mem_iff_getElem?.mp hm
        have hi2 := (List.getElem?_eq_some_iff.mp hi).1
        exact ⟨fs, some i, by omega, hw, hn, (fun z => nomatch z), (fun p z => by cases z; exact ⟨hi2, by rw [hv, hi]⟩)⟩
      · refine ih (fs ++ [v]) (by rw [List.length_append]; show fs.length + 1 + m = _; omega) (fun i hi => ?_) ?_ (fun x hx => ?_)
        · rw [List.length_append] at hi
          by_cases h : i < fs.length
          · rw [List.getElem?_append_left h]
            exact hw i h
          · have h2 : i = fs.length := by
              have : i < fs.length + 1 := hi
              omega
            subst h2
            rw [List.getElem?_append_right (Nat.le_refl _), Nat.sub_self, hv]
            rfl
        · exact List.nodup_append.mpr ⟨hn, List.nodup_cons.mpr ⟨List.not_mem_nil, List.nodup_nil⟩, fun x hx y hy => by
            have e : y = v := List.mem_singleton.mp hy
            intro z
            rw [e] at z
            rw [z] at hx
            exact hm hx⟩
        · rcases List.mem_append.mp hx with z | z
          · exact hlt x z
          · rw [List.mem_singleton.mp z]; exact wsh_lt hst hit hv
theorem exists_wf {table : List (Option Nat)} {start : Nat} (hst : start < table.length) (hit : ∀ v, some v ∈ table → v < table.length) : ∃ found ahead, WF table start found ahead :=
  exists_wf_of hst hit table.length [] (Nat.zero_add _) (fun i h => absurd h (Nat.not_lt_zero _)) List.nodup_nil (fun x h => absurd h List.not_mem_nil)
theorem least_of {Pr : Nat → Prop} : ∀ n, Pr n → ∃ k, Pr k ∧ ∀ j, j < k → ¬ Pr j := by
  intro n
  induction n using Nat.strongRecOn with
  | ind n ih =>
    intro h
    by_cases hq : ∃ j, j < n ∧ Pr j
    · obtain ⟨j, h1, h2⟩ := hq
      exact ih j h1 h2
    · exact ⟨n, h, fun j hj hp => hq ⟨j, hj, hp⟩⟩
theorem exists_fs (table : List (Option Nat)) (old : List Nat) (start : Nat) : ∃ first, FS table old start first := by
  by_cases h : ∃ k, 1 ≤ k ∧ StopO table old start k
  · obtain ⟨k, hk⟩ := h
    obtain ⟨m, ⟨h1, h2⟩, h3⟩ := least_of (Pr := fun k => 1 ≤ k ∧ StopO table old start k) k hk
    exact ⟨some m, h1, h2, fun j j1 j2 hs => h3 j j2 ⟨j1, hs⟩⟩
  · exact ⟨none, fun j j1 hs => h ⟨j, j1, hs⟩⟩
theorem fs_unique {table : List (Option Nat)} {old : List Nat} {start : Nat} {a b : Option Nat} (ha : FS table old start a) (hb : FS table old start b) : a = b := by
  cases a with
  | none =>
    cases b with
    | none => rfl
    | some k => exact absurd hb.2.1 (ha k hb.1)
  | some j =>
    cases b with
    | none => exact absurd ha.2.1 (hb j ha.1)
    | some k =>
      have h1 : ¬ j < k := fun h => hb.2.2 j ha.1 h ha.2.1
      have h2 : ¬ k < j := fun h => ha.2.2 k hb.1 h hb.2.1
      have : j = k := by omega
      rw [this]
/-- what firings hands back -/
def IsFir (R : Par) (total : Option Nat) : Prop := ∃ found ahead first, WF R.table R.start found ahead ∧ FS R.table R.old R.start first ∧ total = Par.fir R first found.length ahead
/-- what changes_done hands back -/
def IsDone (R : Par) (times d : Nat) : Prop := ∃ found ahead first total, WF R.table R.start found ahead ∧ FS R.table R.old R.start first ∧ total = Par.fir R first found.length ahead ∧ d = Par.don R total first times
theorem fir_same {R : Par} (ok : R.Ok) (h : R.old.getD 0 0 = R.start) : IsFir R (some 0) := by
  obtain ⟨found, ahead, W⟩ := exists_wf ok.startlt ok.items
  obtain ⟨first, F⟩ := exists_fs R.table R.old R.start
  refine ⟨found, ahead, first, W, F, ?_⟩
  unfold Par.fir
  rw [if_pos h]
/-- what value_after hands back -/
theorem done_val {R : Par} (ok : R.Ok) {t d j : Nat} (h : IsDone R t d) (hj : j < R.many) : R.val d j = some ((R.st t).1.getD j 0) := by
  obtain ⟨found, ahead, first, total, W, F, e, ed⟩ := h
  obtain ⟨h1, h2, _, _⟩ := Par.st_don ok W F e t
  rw [← ed] at h1 h2
  rw [h2]
  exact (Par.fill_getD ok hj h1).symm
end Ech

set_option Elab.async false
set_option linter.all false
set_option maxRecDepth 100000
set_option maxHeartbeats 4000000
namespace Ech
open PySem PySem.Spec PyProof.Rows L2 RZ

/-! ### the text by places -/
def topS (i : Nat) : Stmt := PySem.Challenge.pw_echofields_k74_whole_rings_are_forms.main.body.getD i (.Pass ⟨0, 0, 0, 0⟩)
abbrev sIsInt : Stmt := topS 20
abbrev sProd : Stmt := topS 21
abbrev sSizes : Stmt := topS 22
abbrev sTable : Stmt := topS 23
abbrev sLinkErr : Stmt := topS 24
abbrev sFormErr : Stmt := topS 25
abbrev sIsForm : Stmt := topS 26
abbrev sIsFill : Stmt := topS 27
abbrev sIsEdit : Stmt := topS 28
abbrev sReqFill : Stmt := topS 29
abbrev sWished : Stmt := topS 30
abbrev sWishes : Stmt := topS 35
abbrev sWishAt : Stmt := topS 36
abbrev sFirst : Stmt := topS 37
abbrev sReqMany : Stmt := topS 38
abbrev sFirings : Stmt := topS 39
abbrev sChanges : Stmt := topS 40
abbrev sValue : Stmt := topS 41
abbrev sIsOnce : Stmt := topS 43
abbrev sIsShy : Stmt := topS 44
abbrev sLinksFrom : Stmt := topS 45
abbrev sWithVal : Stmt := topS 46
abbrev sFirstMom : Stmt := topS 47
abbrev sMomAfter : Stmt := topS 48
abbrev sAreLinks : Stmt := topS 49
abbrev sIsMom : Stmt := topS 50
abbrev sReqBeg : Stmt := topS 51
abbrev sBegin : Stmt := topS 52
abbrev sIsPend : Stmt := topS 53
abbrev sFire : Stmt := topS 54
abbrev sLeast : Stmt := topS 55
abbrev sFields : Stmt := topS 60
abbrev sOpened : Stmt := topS 62
abbrev sDraw : Stmt := topS 63
abbrev sOne : Stmt := topS 64
abbrev sEnd : Stmt := topS 65
abbrev sLaw : Stmt := topS 66

/-! ### heaps and sequences -/
theorem same_upd {H : Hp} {p : Addr} {o : HO} (h : H p = none) : Same H (upd H p o) := fun b x e => by
  rw [upd_ne (ne_of_none e h)]
  exact e
theorem _root_.L2.Same.tup {K : PySem.W.Frag} {H H' : Hp} {a : Addr} {xs : List V} (e : Same H H') (h : SqT K H a xs) : SqT K H' a xs := by
  rcases h with (h | ⟨o, h⟩) | h
  · exact .inl (.inl (e _ _ h))
  · exact .inl (.inr ⟨o, e _ _ h⟩)
  · exact .inr h
theorem _root_.L2.Same.new {H H' : Hp} {p : Addr} {o : HO} (e : Same H H') (h : H' p = none) : Same H (upd H' p o) := e.trans (same_upd h)
/-- an object that H does not know may change -/
theorem _root_.L2.Same.mut {H H' : Hp} {p : Addr} {o : HO} (e : Same H H') (h : H p = none) : Same H (upd H' p o) := fun a u ha => by
  rw [upd_ne (ne_of_none ha h)]
  exact e a u ha
theorem tyx_tup {K : PySem.W.Frag} {H : Hp} {a : Addr} {xs : List V} (h : SqT K H a xs) : TyX K H (.ref a) (.type "tuple") := by
  rcases h with (h | ⟨o, h⟩) | ⟨o, its, n, h, c, _⟩
  · exact .base (.tup h)
  · exact .fTuple h
  · exact .kTuple h c
theorem sz_le {n : Nat} (h : n ≤ 1000) : n ≤ sizeLine := Nat.le_trans h (by decide)
theorem sz_lt {n : Nat} (h : n ≤ 1000) : n < sizeLine := Nat.lt_of_le_of_lt h (by decide)

/-! ### what is never changed: tuples, and what is known to the object -/
def Imm : HO → Prop
  | .tup _ => True
  | .frz _ _ => True
  | _ => False
/-- the tuples stand -/
def Tps (H H' : Hp) : Prop := ∀ b u, H b = some u → Imm u → H' b = some u
theorem Tps.refl (H : Hp) : Tps H H := fun _ _ h _ => h
theorem Tps.trans {H H1 H2 : Hp} (a : Tps H H1) (b : Tps H1 H2) : Tps H H2 := fun c u h i => b c u (a c u h i) i
theorem _root_.L2.Same.tps {H H' : Hp} (e : Same H H') : Tps H H' := fun b u h _ => e b u h
theorem Tps.tup {K : PySem.W.Frag} {H H' : Hp} {a : Addr} {xs : List V} (e : Tps H H') (h : SqT K H a xs) : SqT K H' a xs := by
  rcases h with (h | ⟨o, h⟩) | h
  · exact .inl (.inl (e _ _ h True.intro))
  · exact .inl (.inr ⟨o, e _ _ h True.intro⟩)
  · exact .inr h
theorem Tps.seq {K : PySem.W.Frag} {H H' : Hp} {a : Addr} {o : Obj} {xs : List V} (e : Tps H H') (h : H a = some (.frz o (.lst xs))) : H' a = some (.frz o (.lst xs)) := e _ _ h True.intro
/-- an object that changes is no tuple -/
theorem Tps.upd {H : Hp} {p : Addr} {o : HO} (h : ∀ u, H p = some u → ¬ Imm u) : Tps H (upd H p o) := fun b u e i => by
  by_cases hb : b = p
  · subst hb
    exact absurd i (h u e)
  · rw [upd_ne hb]
    exact e
theorem Tps.lst {H : Hp} {p : Addr} {o : HO} {xs : List V} (h : H p = some (.lst xs)) : Tps H (L2.upd H p o) := Tps.upd fun u e i => by
  rw [h] at e
  cases e
  exact i
theorem Tps.dk {H : Hp} {p : Addr} {o : HO} {kvs : List (Key × V)} (h : H p = some (.dK kvs)) : Tps H (L2.upd H p o) := Tps.upd fun u e i => by
  rw [h] at e
  cases e
  exact i
theorem Tps.ins {H : Hp} {p C dx : Addr} {o : HO} {fs : List (Str × V)} (h : H p = some (.ins C dx fs)) : Tps H (L2.upd H p o) := Tps.upd fun u e i => by
  rw [h] at e
  cases e
  exact i

/-! ### comprehensions whose items have a property -/
/-- the list at D behind i turns -/
def Lcv (H : Hp) (D : Addr) (P : Nat → V → Hp → Prop) (i : Nat) (H' : Hp) : Prop := H D = none ∧ Same H H' ∧ ∃ ys, H' D = some (.lst ys) ∧ ys.length = i ∧ ∀ j y, ys[j]? = some y → P j y H'
theorem lcv_start {H : Hp} {D : Addr} {P : Nat → V → Hp → Prop} (h : H D = none) : Lcv H D P 0 (upd H D (.lst [])) := ⟨h, same_upd h, [], upd_same, rfl, fun j y e => by simp at e⟩
theorem lcv_turn {H H' : Hp} {D : Addr} {P : Nat → V → Hp → Prop} {i : Nat} {te : TE} {σ2 : L2.St} (mono : ∀ j y H H', Tps H H' → P j y H → P j y H') (p : Lcv H D P i H') (hi : i < 1000)
    (step : ∀ R : VK, (∀ y H'', Same H' H'' → P i y H'' → R y H'') → te σ2 H' R) : te σ2 H' fun y H4 => ∃ acc, H4 D = some (.lst acc) ∧ acc.length < sizeLine ∧ Lcv H D P (i + 1) (upd H4 D (.lst (acc ++ [y]))) := by
  obtain ⟨p1, p2, ys, p3, p4, p5⟩ := p
  refine step _ fun y H'' s e => ⟨ys, s D _ p3, sz_lt (by omega), p1, (p2.trans s).mut p1, ys ++ [y], upd_same, by rw [List.length_append, p4]; rfl, fun j z hz => ?_⟩
  have t : Tps H'' (upd H'' D (.lst (ys ++ [y]))) := Tps.lst (s D _ p3)
  by_cases hj : j < ys.length
  · rw [List.getElem?_append_left hj] at hz
    exact mono _ _ _ _ (s.tps.trans t) (p5 j z hz)
  · rw [List.getElem?_append_right (by omega)] at hz
    have hj0 : j - ys.length = 0 := by
      cases h : j - ys.length with
      | zero => rfl
      | succ n => rw [h] at hz; simp at hz
    rw [hj0] at hz
    have ez : y = z := Option.some.inj hz
    have ej : j = i := by omega
    subst ez ej
    exact mono _ _ _ _ t e
section
variable {K : PySem.W.Frag} {te : TE} {vs : List Nat} {σ : L2.St} {H : Hp} {D : Addr} {Qd : Hp → Prop} {j : Nat}
theorem lcT (hD : H D = none) {a : Addr} {xs : List V} (P : Nat → V → Hp → Prop) (mono : ∀ j y H H', Tps H H' → P j y H → P j y H') (hs : SqT K H a xs) (hz : xs.length ≤ 1000) (hw : ∀ x, wipe ((wipe σ vs).set j (some x)) vs = wipe σ vs)
    (step : ∀ i x H', xs[i]? = some x → Same H H' → ∀ R : VK, (∀ y H'', Same H' H'' → P i y H'' → R y H'') → te ((wipe σ vs).set j (some x)) H' R)
    (k : ∀ ys H', Same H H' → H' D = some (.lst ys) → ys.length = xs.length → (∀ i y, ys[i]? = some y → P i y H') → Qd H') :
    ∃ W : Nat → Nat → Hp → Prop, (∃ m, W 0 m (upd H D (.lst []))) ∧ ∀ i m H, W i m H →
      ((Itt K a).stop i H ∧ Qd H) ∨ ((Itt K a).go i H ∧ ∃ Nx : Hp → Prop, (∀ H', Nx H' → ∃ m', m' < m ∧ W (i + 1) m' H') ∧ ∀ x H', (Itt K a).yld i H x H' → gName j x (wipe σ vs) H' fun σ2 H2 => wipe σ2 vs = wipe σ vs ∧ tYes σ2 H2 fun b H3 =>
        if b = true then te σ2 H3 fun y H4 => ∃ acc, H4 D = some (.lst acc) ∧ acc.length < sizeLine ∧ Nx (upd H4 D (.lst (acc ++ [y]))) else Nx H3) :=
  lc_tup (xs := xs) (Lcv H D P) (lcv_start hD) (fun i H' _ p => p.2.1.tup hs) (fun i x H' hx p => ⟨hw x, iteT (B := Lcv H D P (i + 1) H') (lcv_turn mono p (by have := (List.getElem?_eq_some_iff.mp hx).1; omega) (step i x H' hx p.2.1))⟩)
    (fun H' p => by
      obtain ⟨p1, p2, ys, p3, p4, p5⟩ := p
      exact k ys H' p2 p3 p4 p5)
theorem lcR (hD : H D = none) {n : Nat} (P : Nat → V → Hp → Prop) (mono : ∀ j y H H', Tps H H' → P j y H → P j y H') (hz : n ≤ 1000) (hw : ∀ x, wipe ((wipe σ vs).set j (some x)) vs = wipe σ vs)
    (step : ∀ (i : Nat) H', i < n → Same H H' → ∀ R : VK, (∀ y H'', Same H' H'' → P i y H'' → R y H'') → te ((wipe σ vs).set j (some (.int (i : Int)))) H' R)
    (k : ∀ ys H', Same H H' → H' D = some (.lst ys) → ys.length = n → (∀ i y, ys[i]? = some y → P i y H') → Qd H') :
    ∃ W : Nat → Nat → Hp → Prop, (∃ m, W 0 m (upd H D (.lst []))) ∧ ∀ i m H, W i m H →
      ((Itr 0 n).stop i H ∧ Qd H) ∨ ((Itr 0 n).go i H ∧ ∃ Nx : Hp → Prop, (∀ H', Nx H' → ∃ m', m' < m ∧ W (i + 1) m' H') ∧ ∀ x H', (Itr 0 n).yld i H x H' → gName j x (wipe σ vs) H' fun σ2 H2 => wipe σ2 vs = wipe σ vs ∧ tYes σ2 H2 fun b H3 =>
        if b = true then te σ2 H3 fun y H4 => ∃ acc, H4 D = some (.lst acc) ∧ acc.length < sizeLine ∧ Nx (upd H4 D (.lst (acc ++ [y]))) else Nx H3) :=
  lc_range (lo := 0) (n := n) (Lcv H D P) (lcv_start hD) (fun i H' hi p => by
      have e0 : (0 : Int) + (i : Int) = (i : Int) := Int.zero_add _
      show wipe ((wipe σ vs).set j (some (.int ((0 : Int) + (i : Int))))) vs = wipe σ vs ∧ (if true = true then te ((wipe σ vs).set j (some (.int ((0 : Int) + (i : Int))))) H' fun y H4 => ∃ acc, H4 D = some (.lst acc) ∧ acc.length < sizeLine ∧ Lcv H D P (i + 1) (upd H4 D (.lst (acc ++ [y]))) else Lcv H D P (i + 1) H')
      rw [e0]
      exact ⟨hw _, iteT (lcv_turn mono p (by omega) (step i H' hi p.2.1))⟩)
    (fun H' p => by
      obtain ⟨p1, p2, ys, p3, p4, p5⟩ := p
      exact k ys H' p2 p3 p4 p5)
/-- over a zip of two tuples of one length -/
theorem lcZ (hD : H D = none) {a b : Addr} {xs zs : List V} {j2 : Nat} (P : Nat → V → Hp → Prop) (mono : ∀ j y H H', Tps H H' → P j y H → P j y H') (hs : SqT K H a xs) (hs2 : SqT K H b zs) (hz : xs.length ≤ 1000)
    (hw : ∀ x y, wipe (((wipe σ vs).set j (some x)).set j2 (some y)) vs = wipe σ vs)
    (step : ∀ i x y H', xs[i]? = some x → zs[i]? = some y → Same H H' → ∀ R : VK, (∀ y H'', Same H' H'' → P i y H'' → R y H'') → te (((wipe σ vs).set j (some x)).set j2 (some y)) H' R)
    (k : ∀ ys H', Same H H' → H' D = some (.lst ys) → ys.length = min xs.length zs.length → (∀ i y, ys[i]? = some y → P i y H') → Qd H') :
    ∃ W : Nat → Nat → Hp → Prop, (∃ m, W 0 m (upd H D (.lst []))) ∧ ∀ i m H, W i m H →
      ((ItzT K a b).stop i H ∧ Qd H) ∨ ((ItzT K a b).go i H ∧ ∃ Nx : Hp → Prop, (∀ H', Nx H' → ∃ m', m' < m ∧ W (i + 1) m' H') ∧ ∀ x H', (ItzT K a b).yld i H x H' → gTup K 2 (gCons (gName j) (gCons (gName j2) gNil)) x (wipe σ vs) H' fun σ2 H2 => wipe σ2 vs = wipe σ vs ∧ tYes σ2 H2 fun b H3 =>
        if b = true then te σ2 H3 fun y H4 => ∃ acc, H4 D = some (.lst acc) ∧ acc.length < sizeLine ∧ Nx (upd H4 D (.lst (acc ++ [y]))) else Nx H3) := by
  refine ⟨fun i m H' => m = min xs.length zs.length - i ∧ i ≤ min xs.length zs.length ∧ Lcv H D P i H', ⟨_, rfl, Nat.zero_le _, lcv_start hD⟩, ?_⟩
  rintro i m H' ⟨rfl, hi, p⟩
  have q1 := p.2.1.tup hs
  have q2 := p.2.1.tup hs2
  by_cases hlt : i < min xs.length zs.length
  · have h1 : i < xs.length := by omega
    have h2 : i < zs.length := by omega
    refine .inr ⟨⟨xs, zs, xs[i], zs[i], q1, q2, List.getElem?_eq_getElem h1, List.getElem?_eq_getElem h2⟩, Lcv H D P (i + 1), fun H'' p' => ⟨min xs.length zs.length - (i + 1), by omega, rfl, by omega, p'⟩, fun v H'' hy => ?_⟩
    obtain ⟨T, x, y, rfl, nT, rfl, f1, f2⟩ := hy
    obtain ⟨p1, p2, ys, p3, p4, p5⟩ := id p
    have nD : D ≠ T := ne_of_none p3 nT
    have sm : Same H' (upd H' T (.tup [x, y])) := same_upd nT
    have p' : Lcv H D P i (upd H' T (.tup [x, y])) := ⟨p1, p2.trans sm, ys, sm _ _ p3, p4, fun j z hz => mono _ _ _ _ sm.tps (p5 j z hz)⟩
    refine ⟨T, [x, y], rfl, .inl (.inl upd_same), rfl, x, [y], rfl, y, [], rfl, rfl, hw x y, ?_⟩
    refine iteT (B := Lcv H D P (i + 1) (upd H' T (.tup [x, y]))) ?_
    exact lcv_turn mono p' (by omega) (step i x y _ (f1 _ q1) (f2 _ q2) p'.2.1)
  · obtain ⟨p1, p2, ys, p3, p4, p5⟩ := p
    exact .inl ⟨⟨xs, zs, q1, q2, by omega⟩, k ys H' p2 p3 (by omega) p5⟩
end
/-- a list of Trues -/
theorem all_true {ys : List V} (h : ∀ (i : Nat) (y : V), ys[i]? = some y → y = V.bl true) : ys = (List.replicate ys.length true).map V.bl := by
  rw [List.map_replicate]
  exact List.eq_replicate_iff.mpr ⟨rfl, fun y hy => by
    obtain ⟨i, hi⟩ := List.mem_iff_getElem?.mp hy
    exact h i y hi⟩

/-! ### calls of defs by their promises -/
def Has (P : Program) (w : World) (K : PySem.W.Frag) (mg : Str → Option Value) (base : Heap) (k : Nat) (x : Str) (ps : List Str) (sp : Sp) : Prop :=
  ∃ f fd, FnOk P w K mg base CX0 k f fd ps sp ∧ mg x = some (.ref f) ∧ PySem.W.keepIn K (.ref f) = true ∧ Binds K fd ps []
theorem pe_has {X : Cx} {j k : Nat} {x : Str} {ps : List Str} {sp : Sp} {p pos : Pos} {e : Expr} {es : List Expr} {t : TA} (h : Has X.prog X.w X.K X.mg X.base j x ps sp) (hr : Room k X.A) (hg : Gl X x) (ha : PA X (e :: es) t)
    (hjk : j ≤ k := by decide) (hdb : (x == ("__debug__" : Str)) = false := by decide) (he : starEach (e :: es) X.env = (false, eval e X.env) :: starEach es X.env := by rfl) (hpl : (backTo pos (starEach es X.env)).any (·.1) = false := by rfl) :
    PE X (.Call (.Name x p) (e :: es) [] pos) (tCall sp [] E0 t) := by
  obtain ⟨f, fd, F, m, kp, b⟩ := h
  exact pe_call F (hr.mono hjk) hg m kp b .nil pass0 ha hdb he hpl

/-- the names of the built-ins are free -/
structure Fre (mg : Str → Option Value) : Prop where
  isi : mg "isinstance" = none
  int : mg "int" = none
  bool : mg "bool" = none
  tuple : mg "tuple" = none
  len : mg "len" = none
  all : mg "all" = none
  enum : mg "enumerate" = none
  zip : mg "zip" = none
  range : mg "range" = none
  abs : mg "abs" = none
  sorted : mg "sorted" = none
  set : mg "set" = none
/-- the module's constants -/
structure Cns (mg : Str → Option Value) : Prop where
  far : ∃ t, mg "MAX_FAR" = some (.int (10 ^ 18) t)
  fields : ∃ t, mg "MAX_FIELDS" = some (.int 4 t)
  fillings : ∃ t, mg "MAX_FILLINGS" = some (.int 36 t)
  links : ∃ t, mg "MAX_LINKS" = some (.int 6 t)
  size : ∃ t, mg "MAX_SIZE" = some (.int 6 t)
theorem pe_glo {X : Cx} {x : Str} {i : Int} {pos : Pos} (hg : Gl X x) (h : ∃ t, X.mg x = some (.int i t)) (hd : (x == ("__debug__" : Str)) = false := by decide) : PE X (.Name x pos) (tC (.int i)) := by
  obtain ⟨t, h⟩ := h
  exact pe_glob hg h ⟨t, rfl⟩ hd
/-- isinstance of an int, of a tuple -/
def rIsiI : List V → Hp → VK → Prop := fun vs H Q => ∃ i : Int, vs = [.int i, .ty "int"] ∧ Q (.bl true) H
def rIsiB : List V → Hp → VK → Prop := fun vs H Q => ∃ i : Int, vs = [.int i, .ty "bool"] ∧ Q (.bl false) H
def rIsiT (K : PySem.W.Frag) : List V → Hp → VK → Prop := fun vs H Q => ∃ (p : Addr) (xs : List V), vs = [.ref p, .ty "tuple"] ∧ SqT K H p xs ∧ Q (.bl true) H
section
variable {X : Cx} {pos p q : Pos} {a : Expr} {ta : TE}
theorem call_isiI : CallR X (.builtin "isinstance") rIsiI := fun pins s σ H xs us Q I r ⟨i, e, h⟩ => call_isi pins s σ H xs us Q I r ⟨_, _, _, _, true, e, .ty _, .base (.int i), kit_ty (by decide +kernel), h⟩
theorem call_isiB : CallR X (.builtin "isinstance") rIsiB := fun pins s σ H xs us Q I r ⟨i, e, h⟩ => call_isi pins s σ H xs us Q I r ⟨_, _, _, _, false, e, .ty _, .base (.int i), kit_ty (by decide +kernel), h⟩
theorem call_isiTp : CallR X (.builtin "isinstance") (rIsiT X.K) := fun pins s σ H xs us Q I r ⟨p, zs, e, hs, h⟩ => call_isi pins s σ H xs us Q I r ⟨_, _, _, _, true, e, .ty _, tyx_tup hs, kit_ty (by decide +kernel), h⟩
/-- isinstance(a, T), T a built-in type -/
theorem pe_isiInt (F : Fre X.mg) (ha : PE X a ta) (g1 : Gl X "isinstance" := by rfl) (g2 : Gl X "int" := by rfl)
    (h1 : starEach [a, .Name "int" q] X.env = (false, eval a X.env) :: starEach [.Name "int" q] X.env := by rfl) :
    PE X (.Call (.Name "isinstance" p) [a, .Name "int" q] [] pos) (tCB rIsiI (tCons ta (tCons (tC (.ty "int")) tNil))) :=
  pe_callB call_isiI g1 F.isi (by decide +kernel) (pa_cons ha (pa_cons (pe_bltn g2 F.int (by decide +kernel) rfl) pa_nil) h1) (he := h1)
theorem pe_isiBool (F : Fre X.mg) (ha : PE X a ta) (g1 : Gl X "isinstance" := by rfl) (g2 : Gl X "bool" := by rfl)
    (h1 : starEach [a, .Name "bool" q] X.env = (false, eval a X.env) :: starEach [.Name "bool" q] X.env := by rfl) :
    PE X (.Call (.Name "isinstance" p) [a, .Name "bool" q] [] pos) (tCB rIsiB (tCons ta (tCons (tC (.ty "bool")) tNil))) :=
  pe_callB call_isiB g1 F.isi (by decide +kernel) (pa_cons ha (pa_cons (pe_bltn g2 F.bool (by decide +kernel) rfl) pa_nil) h1) (he := h1)
theorem pe_isiTup (F : Fre X.mg) (ha : PE X a ta) (g1 : Gl X "isinstance" := by rfl) (g2 : Gl X "tuple" := by rfl)
    (h1 : starEach [a, .Name "tuple" q] X.env = (false, eval a X.env) :: starEach [.Name "tuple" q] X.env := by rfl) :
    PE X (.Call (.Name "isinstance" p) [a, .Name "tuple" q] [] pos) (tCB (rIsiT X.K) (tCons ta (tCons (tC (.ty "tuple")) tNil))) :=
  pe_callB call_isiTp g1 F.isi (by decide +kernel) (pa_cons ha (pa_cons (pe_bltn g2 F.tuple (by decide +kernel) rfl) pa_nil) h1) (he := h1)
end

/-! ### forms: is_integer, product_of -/
section
variable {P : Program} {w : World} {K : PySem.W.Frag} {mg : Str → Option Value} {base : Heap}
def spIsInt : Sp := fun vs H Q _ => ∃ v lo hi : Int, vs = [.int v, .int lo, .int hi] ∧ Q (.bl (decide (lo ≤ v ∧ v ≤ hi))) H
theorem scIsInt : FnScope ["value", "low", "high"] ["value", "low", "high"] (defScope sIsInt) := ⟨rfl, rfl, rfl, by decide +kernel, rfl, by decide +kernel, by decide +kernel⟩
theorem ok_isInt {f : Addr} {fd : FuncData} (F : Fun K "is_integer" "is_integer" sIsInt f fd) (T : Fre mg) : FnOk P w K mg base CX0 1 f fd ["value", "low", "high"] spIsInt := by
  refine F.ok scIsInt (fun vs H Q E h => ?_) (fun cdv A outer s H vs Q E hr h => ?_)
  · obtain ⟨v, lo, hi, rfl, _⟩ := h
    rfl
  · obtain ⟨v, lo, hi, rfl, q⟩ := h
    refine ⟨_, pss_one (ps_ret (pe_and (pe_isiInt T (pv 0)) (pe_and (pe_not (pe_isiBool T (pv 0))) (pe_one (pe_chain op_le op_le (pv 1) (pv 0) (pv 2)))))), ?_⟩
    refine ⟨_, rfl, v, rfl, true, rfl, iteT ⟨_, rfl, v, rfl, false, rfl, true, rfl, iteT ⟨_, rfl, _, rfl, lo, v, rfl, rfl, _, rfl, ?_⟩⟩⟩
    refine ite2 (fun e => ⟨_, rfl, v, hi, rfl, rfl, ?_⟩) (fun e => ?_)
    · have e1 : lo ≤ v := of_decide_eq_true e
      have e2 : decide (lo ≤ v ∧ v ≤ hi) = decide (v ≤ hi) := by simp [e1]
      rw [e2] at q
      exact q
    · have e1 : ¬ lo ≤ v := fun z => e (decide_eq_true z)
      have e2 : decide (lo ≤ v ∧ v ≤ hi) = false := decide_eq_false fun z => e1 z.1
      rw [e2] at q
      exact q
end
end Ech

set_option Elab.async false
set_option linter.all false
set_option maxRecDepth 100000
set_option maxHeartbeats 4000000
namespace Ech
open PySem PySem.Spec PyProof.Rows L2 RZ

/-! ### enumerate over a tuple -/
theorem meets_enum1 {v : Value} {o : Obj} {H : Heap → Prop} (B : Begins v o H) :
    Meets (Builtin.«enumerate.__new__» ⟨[.type "enumerate", v], []⟩) (fun _ R s => H s.heap ∧
      R (.ok (.ret (.ref (s.heap.push o).objs.size))) { s with heap := (s.heap.push o).push { cls := .type "enumerate", data := .fields #[.none, .bool false, .ref s.heap.objs.size, rawInt 0, .none, .none] } }) :=
  .of_wp fun prog w A R s h => by
    obtain ⟨hp, g, d, tk, os⟩ := s
    obtain ⟨h1, h⟩ := h
    have hsub := sub_enumerate
    have q1 : ∀ {A' : Around} {E : Value → Shared → Prop} {Q : Value → Shared → Prop}, Q (.ref hp.objs.size) ⟨hp.push o, g, d, tk, os⟩ → wpAny (model prog w) A' (pyIter v) Q E ⟨hp, g, d, tk, os⟩ :=
      fun q => B.iter prog w _ _ ⟨hp, g, d, tk, os⟩ _ h1 q
    wp_walk using q1
    refine wpAny_stack_any fun st => wpAny_pure ?_
    split
    · rename_i c _ _ _ _ _
      cases (c == Value.type "enumerate")
      · wp_walk using q1
        exact ⟨_, rfl, h⟩
      · wp_walk using q1
        exact ⟨_, rfl, h⟩
    · wp_walk using q1
      exact ⟨_, rfl, h⟩
section
variable {prog : Program} {w : World} {A : Around} {E : Value → Shared → Prop} {s : Shared}
theorem call_enum1 {v : Value} {o : Obj} {H : Heap → Prop} {Q : Value → Shared → Prop} (B : Begins v o H) (h1 : H s.heap)
    (h : ∀ h', IsEnum h' (s.heap.objs.size + 1) s.heap.objs.size 0 .none → h'.get? s.heap.objs.size = some o → h'.objs.size = s.heap.objs.size + 2 →
      (∀ b o, s.heap.get? b = some o → h'.get? b = some o) → Q (.ref (s.heap.objs.size + 1)) { s with heap := h' }) :
    wpAny (model prog w) A (call (.type "enumerate") [v]) Q E s := by
  refine callType_new F.called_enumerate (by decide) (F.typeCall_enumerate_1 _) (F.newCall_enumerate_1 _) (fun obj => F.args_object_init_2 obj _) F.entry_enumerate_new
    (meets_enum1 B) ⟨h1, ?_⟩
  have hz : (s.heap.push o).objs.size = s.heap.objs.size + 1 := Heap.size_push ..
  show _ ∧ _
  rw [hz]
  have he : IsEnum ((s.heap.push o).push { cls := .type "enumerate", data := .fields #[.none, .bool false, .ref s.heap.objs.size, rawInt 0, .none, .none] }) (s.heap.objs.size + 1) s.heap.objs.size 0 .none := by
    have := Heap.get?_push_size (s.heap.push o) (o := { cls := .type "enumerate", data := .fields #[.none, .bool false, .ref s.heap.objs.size, rawInt 0, .none, .none] }) rfl
    rw [hz] at this; exact this
  refine ⟨⟨_, he, rfl⟩, h _ he (Heap.get?_push_of_some _ (Heap.get?_push_size _ B.free)) (by rw [Heap.size_push, hz]) fun b o x => Heap.get?_push_of_some _ (Heap.get?_push_of_some _ x)⟩
end
/-- the tuple at a as it stands at each turn, each item in a new pair -/
def IteT (K : PySem.W.Frag) (a : Addr) : It :=
  ⟨fun i H => ∃ (xs : List V) (x : V), SqT K H a xs ∧ xs[i]? = some x, fun i H v H' => ∃ T x, v = .ref T ∧ H T = none ∧ H' = upd H T (.tup [.int (i : Nat), x]) ∧ ∀ xs, SqT K H a xs → xs[i]? = some x, fun i H => ∃ xs : List V, SqT K H a xs ∧ xs.length ≤ i⟩
theorem turn_enumT {P : Program} {w : World} {K : PySem.W.Frag} {elts : List Expr} {kk : Nat} {tpos : Pos} (a e it : Addr) (hae : a ≠ e) (hai : a ≠ it) :
    Turn P w K (.Tuple elts kk tpos) (IteT K a) [e, it] e (fun i h => (∃ old, IsEnum h e it ((i : Nat) : Int) old) ∧ h.IsTupleIter it a i ∧ e ≠ it) where
  mem := by simp
  obj := fun i h st b hb => by
    obtain ⟨⟨old, he⟩, ⟨o, ho, hc, hd⟩, _⟩ := st
    have e' : b = e ∨ b = it := by simpa using hb
    rcases e' with z | z
    · rw [z]; exact ⟨_, he, fun v q => nomatch q⟩
    · rw [z]; exact ⟨o, ho, fun v q => by rw [hd] at q; cases q⟩
  keep := fun i h h' st k => let ⟨⟨old, he⟩, hi, hne⟩ := st; ⟨⟨old, k e (by simp) _ he⟩, hi.at fun o q => k it (by simp) o q, hne⟩
  item := by
    intro X hP hw hK hc i pins s σ H E I hf st hg
    subst hP hw hK
    obtain ⟨⟨old, he⟩, hit, hne⟩ := st
    obtain ⟨xs, x, hq, hx⟩ := hg
    obtain ⟨its, rv, p, hz⟩ := I.tuple hq
    obtain ⟨u, hu, ru⟩ := rv.get hx
    have hel : e < s.heap.objs.size := Heap.lt_size he
    have hil : it < s.heap.objs.size := by obtain ⟨_, q, _⟩ := hit; exact Heap.lt_size q
    have hh : X.A.in1.handled = none := I.ok.hd hc
    have hn : i < its.toArray.size := by
      have := (List.getElem?_eq_some_iff.mp hu).1
      simpa using this
    refine wpAny_pyNext_enum_itemD (Draws.tuple hh it a hai its.toArray) he ⟨hit, p⟩ hn hne (by simp [hne, Ne.symm hae]) fun x' h' tk hx' ho hit' hT hsz hk => ?_
    have ex : x' = u := by
      have h1 : its.toArray[i]? = some u := by simpa using hu
      exact Option.some.inj (hx'.symm.trans h1)
    subst ex
    refine ⟨_, rfl, wpAny_letOwnedTupleGo_enum (s := { s with heap := h', toks := tk + 1 }) ho fun h'' he' sb => ?_⟩
    have hT2 : h''.get? s.heap.objs.size = some { cls := .type "tuple", data := .seq #[.int i tk, x'] } := (sb.2 _ (Nat.ne_of_gt hel)).trans hT
    have new : ObjOk X.prog X.w (upd H s.heap.objs.size (.tup [.int (i : Nat), x])) h'' s.heap.objs.size (.tup [.int (i : Nat), x]) :=
      ⟨by show 2 ≤ sizeLine; decide, [.int i tk, x'], .cons ⟨_, rfl⟩ (.cons ru .nil), ⟨_, hT2, rfl, _, rfl⟩⟩
    have I1 : Inv X pins σ (upd H s.heap.objs.size (.tup [.int (i : Nat), x])) { s with heap := h'', toks := tk + 1 } :=
      I.turnedNew (ch := [e, it]) (fun b ob hb q => (sb.2 b (fun z => hb (by simp [z]))).trans (hk b ob (fun z => hb (by simp [z])) (fun z => hb (by simp [z])) q)) hf (Nat.le_refl _) new
    refine ⟨.ref s.heap.objs.size, _, I1, rfl, ⟨_, x, rfl, I.hok.fresh (Nat.le_refl _), rfl, fun ys hy => by rw [I.tuple_inj hy hq]; exact hx⟩, ⟨⟨x', ?_⟩, hit'.1.at fun o q => (sb.2 it (Ne.symm hne)).trans q, hne⟩, fun b hb => ?_⟩
    · have e1 : ((i + 1 : Nat) : Int) = (i : Int) + 1 := by omega
      rw [e1]; exact he'
    · have hb' : b < s.heap.objs.size := by
        have e' : b = e ∨ b = it := by simpa using hb
        rcases e' with z | z
        · rw [z]; exact hel
        · rw [z]; exact hil
      rw [upd_ne (Nat.ne_of_lt hb')]
      exact (hf b hb).1
  done := by
    intro X hP hw hK hc i pins s σ H E I hf st hg
    subst hP hw hK
    obtain ⟨⟨old, he⟩, hit, hne⟩ := st
    obtain ⟨xs, hq, hx⟩ := hg
    obtain ⟨its, rv, p, hz⟩ := I.tuple hq
    obtain ⟨f0, f1, f2, f3, f4, f5⟩ := hf it (by simp)
    have hl := rv.length
    have hh : X.A.in1.handled = none := I.ok.hd hc
    have hT : s.TypeIs (.ref e) "enumerate" := ⟨_, he, rfl⟩
    unfold pyNext
    refine wpAny_bind (wpAny_attempt (wpAny_callSpecial?_slot (name := Str.ofString "__next__") hT F.slot_enumerate_next
      (wpAny_call_entry F.slot_enumerate_next hT F.entry_enumerate_next ?_ (F.args_enumerate_next_1 _))))
    show wpAny _ _ (field (.ref e) 2 >>= _) _ _ _
    refine wpAny_bind (wpAny_field he rfl (x := .ref it) rfl ?_)
    refine wpAny_bind (wpAny_nextOf_tuple_end hh hit p (by simp; omega) fun h' x he' hx' => ?_)
    obtain ⟨o, ho, hc'⟩ := hx'
    refine wpAny_bind (wpAny_isInstance (T := "StopIteration") (b := true) ⟨o, ho, hc'⟩ isSubtype_stop ?_)
    exact wpAny_pure ⟨rfl, I.turned (t' := s.toks) (fun b o hb q => he' b o hb q) f0 f1 f3 f4 f5⟩
  self := fun A i s Q E st h => let ⟨⟨_, he⟩, _⟩ := st; wpAny_pyIter_enum he h
def iEnumT (K : PySem.W.Frag) (ta : TA) : TI := fun σ H R => ta σ H fun vs H1 => ∃ a xs, vs = [.ref a] ∧ SqT K H1 a xs ∧ R (IteT K a) H1
theorem pi_enumT {X : Cx} {e : Expr} {ta : TA} {p pos tpos : Pos} {elts : List Expr} {kk : Nat} (hg : Gl X "enumerate") (hm : X.mg "enumerate" = none) (ha : PA X [e] ta) (hs : starEach [e] X.env = [(false, eval e X.env)] := by rfl) :
    PI X (.Tuple elts kk tpos) (.Call (.Name "enumerate" p) [e] [] pos) (iEnumT X.K ta) := by
  refine ⟨fun pins s σ H R I h => ?_⟩
  refine Call_ (ld_blt I hg hm boot_enumerate (PyProof.Rows.callWith_type1 (thn (ha.run pos pins s σ H _ I h) fun us s1 ⟨vs, H1, I1, r1, q1⟩ => ?_) hs rfl))
  obtain ⟨a, xs, ex, hq, q⟩ := q1
  subst ex
  cases r1 with
  | cons r rr =>
    cases rr
    cases r
    obtain ⟨its, rv, p', hz⟩ := I1.tuple hq
    have hlt := p'.lt
    refine call_enum1 (begins_tuple a its.toArray) p' fun h' he ho hsz hk => wpAny_pyIter_enum he ?_
    have hit : h'.IsTupleIter s1.heap.objs.size a 0 := ⟨_, ho, rfl, rfl⟩
    have I2 : Inv X pins σ H1 { s1 with heap := h' } := I1.kept (t' := s1.toks) hk
    refine ⟨s1.heap.objs.size + 1, [s1.heap.objs.size + 1, s1.heap.objs.size], _, _, H1, rfl, I2, turn_enumT a (s1.heap.objs.size + 1) s1.heap.objs.size (Nat.ne_of_lt (Nat.lt_succ_of_lt hlt)) (Nat.ne_of_lt hlt), ⟨⟨.none, he⟩, hit, Nat.succ_ne_self _⟩, fun b hb => ?_, q⟩
    have e' : b = s1.heap.objs.size + 1 ∨ b = s1.heap.objs.size := by simpa using hb
    have hle : s1.heap.objs.size ≤ b := by
      rcases e' with z | z
      · rw [z]; exact Nat.le_add_right _ _
      · rw [z]; exact Nat.le_refl _
    exact I1.fpOk hle (I1.hok.fresh hle)
/-- the loop: no turn changes the tuple -/
theorem for_enumT {K : PySem.W.Frag} {a : Addr} {xs : List V} {g : TG} {tb : TS} {D : Ends} {σ : L2.St} {H : Hp} (Pv : Nat → L2.St → Hp → Prop) (h0 : Pv 0 σ H) (hl : ∀ i σ H, i ≤ xs.length → Pv i σ H → SqT K H a xs)
    (hs : ∀ i x T σ H, xs[i]? = some x → Pv i σ H → H T = none → g (.ref T) σ (upd H T (.tup [.int (i : Nat), x])) fun σ2 H2 => tb { D with nx := Pv (i + 1), ct := Pv (i + 1), bk := D.nx } σ2 H2) (hd : ∀ σ H, Pv xs.length σ H → D.nx σ H) :
    ∃ W : Nat → Nat → L2.St → Hp → Prop, (∃ m, W 0 m σ H) ∧ ∀ i m σ H, W i m σ H →
      ((IteT K a).stop i H ∧ D.nx σ H) ∨ ((IteT K a).go i H ∧ ∃ N : L2.St → Hp → Prop, (∀ σ' H', N σ' H' → ∃ m', m' < m ∧ W (i + 1) m' σ' H') ∧ ∀ x H', (IteT K a).yld i H x H' → g x σ H' fun σ2 H2 => tb { D with nx := N, ct := N, bk := D.nx } σ2 H2) := by
  refine ⟨fun i m σ H => m = xs.length - i ∧ i ≤ xs.length ∧ Pv i σ H, ⟨xs.length, by simp, Nat.zero_le _, h0⟩, ?_⟩
  rintro i m σ H ⟨rfl, hi, p⟩
  have q := hl i σ H hi p
  by_cases hlt : i < xs.length
  · refine .inr ⟨⟨xs, xs[i], q, List.getElem?_eq_getElem hlt⟩, Pv (i + 1), fun σ' H' p' => ⟨xs.length - (i + 1), by omega, rfl, hlt, p'⟩, fun x H' y => ?_⟩
    obtain ⟨T, z, rfl, nT, rfl, f⟩ := y
    exact hs i z T _ _ (f xs q) p nT
  · have e : i = xs.length := by omega
    subst e
    exact .inl ⟨⟨xs, q, Nat.le_refl _⟩, hd σ H p⟩
end Ech

set_option Elab.async false
set_option linter.all false
set_option maxRecDepth 100000
set_option maxHeartbeats 4000000
namespace Ech
open PySem PySem.Spec PyProof.Rows L2 RZ
section
variable {P : Program} {w : World} {K : PySem.W.Frag} {mg : Str → Option Value} {base : Heap}

/-! ### product_of -/
def prodI (ns : List Int) : Int := ns.foldl (fun a b => a * b) 1
theorem prod_take {ns : List Int} {i : Nat} {z : Int} (h : ns[i]? = some z) : prodI (ns.take (i + 1)) = prodI (ns.take i) * z := by
  unfold prodI
  rw [List.take_add_one, h, List.foldl_append]
  rfl
def spProd (K : PySem.W.Frag) : Sp := fun vs H Q _ => ∃ (a : Addr) (ns : List Int), vs = [.ref a] ∧ SqT K H a (ns.map V.int) ∧ (∀ n ∈ ns, 2 ≤ n ∧ n ≤ 6) ∧ Q (.int (prodI ns)) H
theorem scProd : FnScope ["numbers", "found", "number"] ["numbers"] (defScope sProd) := ⟨rfl, rfl, rfl, by decide +kernel, rfl, by decide +kernel, by decide +kernel⟩
theorem ok_prod {f : Addr} {fd : FuncData} (F : Fun K "product_of" "product_of" sProd f fd) : FnOk P w K mg base CX0 1 f fd ["numbers"] (spProd K) := by
  refine F.ok scProd (fun vs H Q E h => ?_) (fun cdv A outer s H vs Q E hr h => ?_)
  · obtain ⟨a, ns, rfl, _⟩ := h
    rfl
  · obtain ⟨a, ns, rfl, hS, hn, q⟩ := h
    refine ⟨_, pss_cons (ps_set (i := 1) scProd.nd rfl (.inl rfl) pe_int) (pss_cons (ps_for PassesOwn.never rfl (pi_tup (pv 0)) (pg_name (i := 2) scProd.nd rfl (.inl rfl)) (pss_one (ps_set (i := 1) scProd.nd rfl (.inl rfl) (pe_op op_mul (pv 1) (pv 2)))))
      (pss_one (ps_ret (pv 1)))), ?_⟩
    refine ⟨_, rfl, a, rfl, ⟨_, hS⟩, for_tup (K := K) (a := a) (xs := ns.map V.int) (fun i σ H' => ∃ y, σ = [some (.ref a), some (.int (prodI (ns.take i))), y] ∧ H' = H) ⟨none, rfl, rfl⟩ (fun i σ H' _ ⟨_, _, e⟩ => e ▸ hS) ?_ ?_⟩
    · rintro i x σ H' hx ⟨y, rfl, rfl⟩
      rw [List.getElem?_map] at hx
      cases e : ns[i]? with
      | none => rw [e] at hx; cases hx
      | some z =>
        rw [e] at hx
        have ex : V.int z = x := Option.some.inj hx
        subst ex
        have hz := hn z (List.mem_of_getElem? e)
        refine ⟨_, rfl, _, rfl, _, z, rfl, rfl, .inr ⟨by omega, by omega⟩, some (.int z), ?_, rfl⟩
        rw [prod_take e]
        rfl
    · rintro σ H' ⟨y, rfl, rfl⟩
      rw [List.length_map, List.take_length]
      exact ⟨_, rfl, q⟩

/-! ### are_sizes -/
def spSizes (K : PySem.W.Frag) : Sp := fun vs H Q _ => ∃ (a : Addr) (ns : List Int), vs = [.ref a] ∧ SqT K H a (ns.map V.int) ∧ (1 ≤ ns.length ∧ ns.length ≤ 4) ∧ (∀ n ∈ ns, 2 ≤ n ∧ n ≤ 6) ∧ prodI ns ≤ 36 ∧ ∀ H', Same H H' → Q (.bl true) H'
theorem scSizes : FnScope ["value", "size"] ["value"] (defScope sSizes) := ⟨rfl, rfl, rfl, by decide +kernel, rfl, by decide +kernel, by decide +kernel⟩
theorem ok_sizes {f : Addr} {fd : FuncData} (F : Fun K "are_sizes" "are_sizes" sSizes f fd) (T : Fre mg) (C : Cns mg) (H1 : Has P w K mg base 1 "is_integer" ["value", "low", "high"] spIsInt) (H2 : Has P w K mg base 1 "product_of" ["numbers"] (spProd K)) :
    FnOk P w K mg base CX0 2 f fd ["value"] (spSizes K) := by
  refine F.ok scSizes (fun vs H Q E h => ?_) (fun cdv A outer s H vs Q E hr h => ?_)
  · obtain ⟨a, ns, rfl, _⟩ := h
    rfl
  · obtain ⟨a, ns, rfl, hS, hl, hn, hp, q⟩ := h
    refine ⟨_, pss_cons (ps_if (PW.pt (pw_or (pt_not (pt_val (pe_isiTup T (pv 0)))) (pw_or1 (pt_not (pt_chain op_le op_le pe_int (pe_callB call_len_seq (by rfl) T.len PySem.boot_len (pa_cons (pv 0) pa_nil)) (pe_glo (by rfl) C.fields)))))) (pss_one (ps_ret pe_bl)) pss_nil)
      (pss_cons (ps_if (pt_not (pt_val (pe_callB (cr_all rfl) (by rfl) T.all (by decide +kernel) (pa_cons (pe_lc (own := [("size", 1)]) (g := gName 1) (tt := tYes) rfl scSizes.nd (pi_tup (pv 0)) (blkOk_by (N := ["value", "size"]) (sc := defScope sSizes) (by decide +kernel))
          (fun _ _ _ _ _ => pg_name (i := 1) scSizes.nd rfl (Or.inl rfl)) (fun _ _ _ _ _ => pts_nil) (fun _ _ _ _ _ => pe_has H1 hr (by rfl) (pa_cons (pv 1) (pa_cons pe_int (pa_cons (pe_glo (by rfl) C.size) pa_nil))))) pa_nil)))) (pss_one (ps_ret pe_bl)) pss_nil)
      (pss_one (ps_ret (pe_cmpR op_le (pe_has H2 hr (by rfl) (pa_cons (pv 0) pa_nil)) (pe_glo (by rfl) C.fillings) (nomark _))))), ?_⟩
    refine ⟨_, rfl, a, _, rfl, hS, true, rfl, iteF ⟨_, rfl, a, _, rfl, .inr hS, _, _, rfl, rfl, _, rfl, ?_⟩⟩
    rw [List.length_map, decide_eq_true (show (1 : Int) ≤ (ns.length : Int) by omega)]
    refine iteT ⟨_, _, rfl, rfl, _, rfl, ?_⟩
    rw [decide_eq_true (show (ns.length : Int) ≤ 4 by omega)]
    refine iteF ?_
    -- all([..])
    refine ⟨_, rfl, a, rfl, ⟨_, hS⟩, fun D hD => lcT hD (fun _ y _ => y = .bl true) (fun _ _ _ _ _ h => h) hS (by rw [List.length_map]; omega) (fun x => rfl) ?_ ?_⟩
    · intro i x H' hx sm R hR
      rw [List.getElem?_map] at hx
      cases e : ns[i]? with
      | none => rw [e] at hx; cases hx
      | some z =>
        rw [e] at hx
        have ex : V.int z = x := Option.some.inj hx
        subst ex
        have hz := hn z (List.mem_of_getElem? e)
        refine ⟨_, rfl, z, 2, 6, rfl, ?_⟩
        rw [decide_eq_true (show (2 : Int) ≤ z ∧ z ≤ 6 from hz)]
        exact hR _ _ (Same.refl _) rfl
    · intro ys H' sm hy hlen hp2
      have ey := all_true hp2
      refine ⟨D, List.replicate ys.length true, rfl, ?_, ?_⟩
      · rw [← ey]
        exact SqL.of hy
      · have e2 : (List.replicate ys.length true).all id = true := by simp
        rw [e2]
        refine ⟨true, rfl, iteF ?_⟩
        refine ⟨_, rfl, a, ns, rfl, sm.tup hS, hn, _, _, rfl, rfl, ?_⟩
        have z := q H' sm
        rw [← decide_eq_true (show prodI ns ≤ 36 from hp)] at z
        exact z

/-! ### data -/
def oV : Option Nat → V
  | none => .non
  | some n => .int n
theorem oV_some (n : Nat) : oV (some n) = .int n := rfl
/-- a form of this kind: at a, its sizes at s, its links at l (each at one of ls), their table at t -/
structure FormAt (K : PySem.W.Frag) (H : Hp) (R : Par) (a s l t : Addr) (ls : List Addr) : Prop where
  top : SqT K H a [.ref s, .ref l]
  siz : SqT K H s (List.replicate R.many (.int (R.table.length : Int)))
  lks : SqT K H l (ls.map V.ref)
  len : ls.length = R.nl
  lnk : ∀ (k : Nat) (p : Addr), ls[k]? = some p → SqT K H p [.int k, .int (((k + 1) % R.many : Nat) : Int), .ref t, .int 0]
  tab : SqT K H t (R.table.map oV)
theorem FormAt.mono {K : PySem.W.Frag} {H H' : Hp} {R : Par} {a s l t : Addr} {ls : List Addr} (e : Tps H H') (F : FormAt K H R a s l t ls) : FormAt K H' R a s l t ls :=
  ⟨e.tup F.top, e.tup F.siz, e.tup F.lks, F.len, fun k p h => e.tup (F.lnk k p h), e.tup F.tab⟩
/-- the law's bounds -/
structure Bnd (R : Par) : Prop where
  ok : R.Ok
  m4 : R.many ≤ 4
  t2 : 2 ≤ R.table.length
  t6 : R.table.length ≤ 6
  p36 : prodI (List.replicate R.many (R.table.length : Int)) ≤ 36
  o6 : R.old.length ≤ 6
theorem Bnd.m2 {R : Par} (B : Bnd R) : 2 ≤ R.many := B.ok.many2
theorem Bnd.nl4 {R : Par} (B : Bnd R) : R.nl ≤ 4 := Nat.le_trans Par.nl_le B.m4

/-! ### is_table -/
def spTable (K : PySem.W.Frag) : Sp := fun vs H Q _ => ∃ (a : Addr) (tb : List (Option Nat)) (n : Nat), vs = [.ref a, .int (tb.length : Int), .int (n : Int)] ∧ SqT K H a (tb.map oV) ∧ tb.length ≤ 6 ∧ (∀ v, some v ∈ tb → v < n) ∧ ∀ H', Same H H' → Q (.bl true) H'
theorem scTable : FnScope ["value", "many", "size", "item"] ["value", "many", "size"] (defScope sTable) := ⟨rfl, rfl, rfl, by decide +kernel, rfl, by decide +kernel, by decide +kernel⟩
theorem ok_table {f : Addr} {fd : FuncData} (F : Fun K "is_table" "is_table" sTable f fd) (T : Fre mg) (H1 : Has P w K mg base 1 "is_integer" ["value", "low", "high"] spIsInt) :
    FnOk P w K mg base CX0 2 f fd ["value", "many", "size"] (spTable K) := by
  refine F.ok scTable (fun vs H Q E h => ?_) (fun cdv A outer s H vs Q E hr h => ?_)
  · obtain ⟨a, tb, n, rfl, _⟩ := h
    rfl
  · obtain ⟨a, tb, n, rfl, hS, hl, hn, q⟩ := h
    refine ⟨_, pss_cons (ps_if (PW.pt (pw_or (pt_not (pt_val (pe_isiTup T (pv 0)))) (pw_or1 (pt_cmpR op_ne (pe_callB call_len_seq (by rfl) T.len PySem.boot_len (pa_cons (pv 0) pa_nil)) (pv 1) (nomark _))))) (pss_one ps_never) pss_nil)
      (pss_one (ps_ret (pe_callB (cr_all rfl) (by rfl) T.all (by decide +kernel) (pa_cons (pe_lc (own := [("item", 3)]) (g := gName 3) (tt := tYes) rfl scTable.nd (pi_tup (pv 0)) (blkOk_by (N := ["value", "many", "size", "item"]) (sc := defScope sTable) (by decide +kernel))
          (fun _ _ _ _ _ => pg_name (i := 3) scTable.nd rfl (Or.inl rfl)) (fun _ _ _ _ _ => pts_nil) (fun _ _ _ _ _ => pe_or (pe_cmp (pc_isN (pv 3)) rfl) (pe_one (pe_has H1 hr (by rfl) (pa_cons (pv 3) (pa_cons pe_int (pa_cons (pe_op op_sub (pv 2) pe_int) pa_nil))))))) pa_nil)))), ?_⟩
    refine ⟨_, rfl, a, _, rfl, hS, true, rfl, iteF ⟨_, rfl, a, _, rfl, .inr hS, _, rfl, rfl, _, rfl, ?_⟩⟩
    rw [List.length_map]
    refine iteNS rfl ?_
    refine ⟨_, rfl, a, rfl, ⟨_, hS⟩, fun D hD => lcT hD (fun _ y _ => y = .bl true) (fun _ _ _ _ _ h => h) hS (by rw [List.length_map]; omega) (fun x => rfl) ?_ ?_⟩
    · intro i x H' hx sm R hR
      rw [List.getElem?_map] at hx
      cases e : tb[i]? with
      | none => rw [e] at hx; cases hx
      | some z =>
        rw [e] at hx
        have ex : oV z = x := Option.some.inj hx
        subst ex
        cases z with
        | none => exact ⟨_, rfl, true, rfl, iteT (hR _ _ (Same.refl _) rfl)⟩
        | some v =>
          have hz := hn v (List.mem_of_getElem? e)
          refine ⟨_, rfl, false, rfl, iteF ⟨_, rfl, _, rfl, _, _, rfl, rfl, v, 0, (n : Int) - 1, rfl, ?_⟩⟩
          rw [decide_eq_true (show (0 : Int) ≤ (v : Int) ∧ (v : Int) ≤ (n : Int) - 1 by omega)]
          exact hR _ _ (Same.refl _) rfl
    · intro ys H' sm hy hlen hp2
      have ey := all_true hp2
      refine ⟨D, List.replicate ys.length true, rfl, ?_, ?_⟩
      · rw [← ey]
        exact SqL.of hy
      · have e2 : (List.replicate ys.length true).all id = true := by simp
        have z := q H' sm
        rw [← e2] at z
        exact z

/-! ### link_error -/
/-- a link between two fields of one size -/
def spLink (K : PySem.W.Frag) : Sp := fun vs H Q _ => ∃ (s l t : Addr) (many src tgt : Nat) (tb : List (Option Nat)), vs = [.ref s, .ref l] ∧ SqT K H s (List.replicate many (.int (tb.length : Int))) ∧ SqT K H l [.int src, .int tgt, .ref t, .int 0] ∧ SqT K H t (tb.map oV) ∧
  src < many ∧ tgt < many ∧ src ≠ tgt ∧ tb.length ≤ 6 ∧ (∀ v, some v ∈ tb → v < tb.length) ∧ ∀ H', Same H H' → Q .non H'
theorem scLinkErr : FnScope ["sizes", "value", "source", "target", "table", "guard"] ["sizes", "value"] (defScope sLinkErr) := ⟨rfl, rfl, rfl, by decide +kernel, rfl, by decide +kernel, by decide +kernel⟩
theorem at_rep {n i : Nat} {v : V} (h : i < n) : atI (List.replicate n v) (i : Int) = some v := atI_nat (by rw [List.getElem?_replicate, if_pos h])
theorem ok_link {f : Addr} {fd : FuncData} (F : Fun K "link_error" "link_error" sLinkErr f fd) (T : Fre mg) (H1 : Has P w K mg base 1 "is_integer" ["value", "low", "high"] spIsInt) (H2 : Has P w K mg base 2 "is_table" ["value", "many", "size"] (spTable K)) :
    FnOk P w K mg base CX0 3 f fd ["sizes", "value"] (spLink K) := by
  refine F.ok scLinkErr (fun vs H Q E h => ?_) (fun cdv A outer s H vs Q E hr h => ?_)
  · obtain ⟨s, l, t, many, src, tgt, tb, rfl, _⟩ := h
    rfl
  · obtain ⟨s, l, t, many, src, tgt, tb, rfl, hs, hl, ht, h1, h2, h3, h6, hv, q⟩ := h
    have nd := scLinkErr.nd
    refine ⟨_, pss_cons (ps_if (PW.pt (pw_or (pt_not (pt_val (pe_isiTup T (pv 1)))) (pw_or1 (pt_cmpR op_ne (pe_callB call_len_seq (by rfl) T.len PySem.boot_len (pa_cons (pv 1) pa_nil)) pe_int (nomark _))))) (pss_one ps_never) pss_nil)
      (pss_cons (ps_asg (pv 1) (pg_tup rfl (pgs_cons (pg_name (i := 2) nd rfl (.inl rfl)) (pgs_cons (pg_name (i := 3) nd rfl (.inl rfl)) (pgs_cons (pg_name (i := 4) nd rfl (.inl rfl)) (pgs_cons (pg_name (i := 5) nd rfl (.inl rfl)) pgs_nil))))))
      (pss_cons (ps_if (pt_not (pt_val (pe_has H1 hr (by rfl) (pa_cons (pv 2) (pa_cons pe_int (pa_cons (pe_op op_sub (pe_callB call_len_seq (by rfl) T.len PySem.boot_len (pa_cons (pv 0) pa_nil)) pe_int) pa_nil)))))) (pss_one ps_never) pss_nil)
      (pss_cons (ps_if (PW.pt (pw_or (pt_not (pt_val (pe_has H1 hr (by rfl) (pa_cons (pv 3) (pa_cons pe_int (pa_cons (pe_op op_sub (pe_callB call_len_seq (by rfl) T.len PySem.boot_len (pa_cons (pv 0) pa_nil)) pe_int) pa_nil)))))) (pw_or1 (pt_cmpR op_eq (pv 3) (pv 2) (nomark _))))) (pss_one ps_never) pss_nil)
      (pss_cons (ps_if (pt_not (pt_val (pe_has H2 hr (by rfl) (pa_cons (pv 4) (pa_cons (pe_ix ix_tup (pv 0) (pv 2) (fun _ _ => rfl)) (pa_cons (pe_ix ix_tup (pv 0) (pv 3) (fun _ _ => rfl)) pa_nil)))))) (pss_one ps_never) pss_nil)
      (pss_one (ps_ret (pe_ifExp (pt_val (pe_has H1 hr (by rfl) (pa_cons (pv 5) (pa_cons pe_int (pa_cons pe_int pa_nil))))) pe_non pe_str))))))), ?_⟩
    refine ⟨_, rfl, l, _, rfl, hl, true, rfl, iteF ⟨_, rfl, l, _, rfl, .inr hl, rfl, _, rfl, iteNS rfl ?_⟩⟩
    refine ⟨_, rfl, l, _, rfl, hl, rfl, _, _, rfl, _, _, rfl, _, _, rfl, _, _, rfl, rfl, ?_⟩
    -- is_integer(source, 0, len(sizes) - 1)
    refine ⟨_, rfl, _, rfl, s, _, rfl, .inr hs, _, _, rfl, rfl, src, 0, _, rfl, _, rfl, ?_⟩
    rw [List.length_replicate, decide_eq_true (show (0 : Int) ≤ (src : Int) ∧ (src : Int) ≤ (many : Int) - 1 by omega)]
    refine iteF ?_
    refine ⟨_, rfl, _, rfl, s, _, rfl, .inr hs, _, _, rfl, rfl, tgt, 0, _, rfl, _, rfl, ?_⟩
    rw [List.length_replicate, decide_eq_true (show (0 : Int) ≤ (tgt : Int) ∧ (tgt : Int) ≤ (many : Int) - 1 by omega)]
    refine iteF ?_
    refine ⟨_, rfl, _, rfl, rfl, _, rfl, ?_⟩
    rw [decide_eq_false (show ¬ V.int (tgt : Int) = V.int (src : Int) from fun z => h3 (by have := V.int.inj z; omega))]
    refine iteF ?_
    refine ⟨_, rfl, _, rfl, _, rfl, s, _, _, _, rfl, rfl, hs, at_rep h1, _, rfl, _, rfl, s, _, _, _, rfl, rfl, hs, at_rep h2, t, tb, tb.length, rfl, ht, h6, hv, fun H' sm => ⟨true, rfl, iteF ?_⟩⟩
    exact ⟨_, rfl, 0, 0, 3, rfl, true, rfl, iteT (q H' sm)⟩

/-! ### form_error, is_form -/
def spFormErr (K : PySem.W.Frag) : Sp := fun vs H Q _ => ∃ (R : Par) (a s l t : Addr) (ls : List Addr), vs = [.ref a] ∧ FormAt K H R a s l t ls ∧ Bnd R ∧ ∀ H', Same H H' → Q .non H'
theorem scFormErr : FnScope ["value", "sizes", "links", "index", "link", "word"] ["value"] (defScope sFormErr) := ⟨rfl, rfl, rfl, by decide +kernel, rfl, by decide +kernel, by decide +kernel⟩
theorem rep_map (n : Nat) (z : Int) : List.replicate n (V.int z) = (List.replicate n z).map V.int := List.map_replicate.symm
theorem ok_formErr {f : Addr} {fd : FuncData} (F : Fun K "form_error" "form_error" sFormErr f fd) (T : Fre mg) (C : Cns mg) (H2 : Has P w K mg base 2 "are_sizes" ["value"] (spSizes K)) (H3 : Has P w K mg base 3 "link_error" ["sizes", "value"] (spLink K)) :
    FnOk P w K mg base CX0 4 f fd ["value"] (spFormErr K) := by
  refine F.ok scFormErr (fun vs H Q E h => ?_) (fun cdv A outer s H vs Q E hr h => ?_)
  · obtain ⟨R, a, s, l, t, ls, rfl, _⟩ := h
    rfl
  · obtain ⟨R, a, s, l, t, ls, rfl, FA, B, q⟩ := h
    have nd := scFormErr.nd
    have m2 := B.m2
    have m4 := B.m4
    have t2 := B.t2
    have t6 := B.t6
    have n4 := B.nl4
    refine ⟨_, pss_cons (ps_if (PW.pt (pw_or (pt_not (pt_val (pe_isiTup T (pv 0)))) (pw_or1 (pt_cmpR op_ne (pe_callB call_len_seq (by rfl) T.len PySem.boot_len (pa_cons (pv 0) pa_nil)) pe_int (nomark _))))) (pss_one ps_never) pss_nil)
      (pss_cons (ps_asg (pv 0) (pg_tup rfl (pgs_cons (pg_name (i := 1) nd rfl (.inl rfl)) (pgs_cons (pg_name (i := 2) nd rfl (.inl rfl)) pgs_nil))))
      (pss_cons (ps_if (pt_not (pt_val (pe_has H2 hr (by rfl) (pa_cons (pv 1) pa_nil)))) (pss_one ps_never) pss_nil)
      (pss_cons (ps_if (PW.pt (pw_or (pt_not (pt_val (pe_isiTup T (pv 2)))) (pw_or1 (pt_cmpR op_gt (pe_callB call_len_seq (by rfl) T.len PySem.boot_len (pa_cons (pv 2) pa_nil)) (pe_glo (by rfl) C.links) (nomark _))))) (pss_one ps_never) pss_nil)
      (pss_cons (ps_for PassesOwn.never rfl (pi_enumT (by rfl) T.enum (pa_cons (pv 2) pa_nil)) (pg_tup rfl (pgs_cons (pg_name (i := 3) nd rfl (.inl rfl)) (pgs_cons (pg_name (i := 4) nd rfl (.inl rfl)) pgs_nil)))
        (pss_cons (ps_set (i := 5) nd rfl (.inl rfl) (pe_has H3 hr (by rfl) (pa_cons (pv 1) (pa_cons (pv 4) pa_nil))))
        (pss_one (ps_if (pt_cmpR op_notN (pv 5) pe_non (nomark _)) (pss_one ps_never) pss_nil))))
      (pss_one (ps_ret pe_non)))))), ?_⟩
    refine ⟨_, rfl, a, _, rfl, FA.top, true, rfl, iteF ⟨_, rfl, a, _, rfl, .inr FA.top, rfl, _, rfl, iteNS rfl ?_⟩⟩
    refine ⟨_, rfl, a, _, rfl, FA.top, rfl, _, _, rfl, _, _, rfl, rfl, ?_⟩
    -- are_sizes
    refine ⟨_, rfl, s, List.replicate R.many (R.table.length : Int), rfl, by rw [← rep_map]; exact FA.siz, by rw [List.length_replicate]; omega, fun n hn => by rw [List.eq_of_mem_replicate hn]; omega, B.p36, fun H' sm => ⟨true, rfl, iteF ?_⟩⟩
    have FB := FA.mono sm.tps
    refine ⟨_, rfl, l, _, rfl, FB.lks, true, rfl, iteF ⟨_, rfl, l, _, rfl, .inr FB.lks, _, _, rfl, rfl, _, rfl, ?_⟩⟩
    rw [List.length_map, FA.len, decide_eq_false (show ¬ (6 : Int) < (R.nl : Int) by omega)]
    refine iteF ?_
    -- the loop
    refine ⟨_, rfl, l, _, rfl, FB.lks, for_enumT (K := K) (a := l) (xs := ls.map V.ref) (fun i σ H2 => ∃ y3 y4 y5, σ = [some (.ref a), some (.ref s), some (.ref l), y3, y4, y5] ∧ Same H H2) ⟨none, none, none, rfl, sm⟩ (fun i σ H2 _ ⟨_, _, _, _, e⟩ => (FA.mono e.tps).lks) ?_ ?_⟩
    · rintro i x Tp σ H2 hx ⟨y3, y4, y5, rfl, sm2⟩ nT
      rw [List.getElem?_map] at hx
      cases e : ls[i]? with
      | none => rw [e] at hx; cases hx
      | some p =>
        rw [e] at hx
        have ex : V.ref p = x := Option.some.inj hx
        subst ex
        have hi : i < R.nl := by
          rw [← FA.len]
          exact (List.getElem?_eq_some_iff.mp e).1
        have hnl := Par.nl_le (R := R)
        have sm3 : Same H2 (upd H2 Tp (.tup [.int (i : Nat), .ref p])) := same_upd nT
        have FC := FA.mono (sm2.trans sm3).tps
        have hmod := Nat.mod_lt (i + 1) (show R.many > 0 by omega)
        refine ⟨Tp, _, rfl, .inl (.inl upd_same), rfl, _, _, rfl, _, _, rfl, rfl, ?_⟩
        refine ⟨_, rfl, _, rfl, s, p, t, R.many, i, (i + 1) % R.many, R.table, rfl, FC.siz, FC.lnk i p e, FC.tab, by omega, hmod, ?_, t6, B.ok.items, fun H4 sm4 => ?_⟩
        · intro z
          by_cases h : i + 1 < R.many
          · rw [Nat.mod_eq_of_lt h] at z
            omega
          · have h2 : i + 1 = R.many := by omega
            rw [h2, Nat.mod_self] at z
            omega
        · exact ⟨_, rfl, rfl, false, rfl, iteF ⟨_, _, _, rfl, (sm2.trans sm3).trans sm4⟩⟩
    · rintro σ H2 ⟨y3, y4, y5, rfl, sm2⟩
      exact q H2 sm2
theorem scIsForm : FnScope ["value"] ["value"] (defScope sIsForm) := ⟨rfl, rfl, rfl, by decide +kernel, rfl, by decide +kernel, by decide +kernel⟩
def spIsForm (K : PySem.W.Frag) : Sp := fun vs H Q _ => ∃ (R : Par) (a s l t : Addr) (ls : List Addr), vs = [.ref a] ∧ FormAt K H R a s l t ls ∧ Bnd R ∧ ∀ H', Same H H' → Q (.bl true) H'
theorem ok_isForm {f : Addr} {fd : FuncData} (F : Fun K "is_form" "is_form" sIsForm f fd) (H4 : Has P w K mg base 4 "form_error" ["value"] (spFormErr K)) : FnOk P w K mg base CX0 5 f fd ["value"] (spIsForm K) := by
  refine F.ok scIsForm (fun vs H Q E h => ?_) (fun cdv A outer s H vs Q E hr h => ?_)
  · obtain ⟨R, a, s, l, t, ls, rfl, _⟩ := h
    rfl
  · obtain ⟨R, a, s, l, t, ls, rfl, FA, B, q⟩ := h
    exact ⟨_, pss_one (ps_ret (pe_cmp (pc_isN (pe_has H4 hr (by rfl) (pa_cons (pv 0) pa_nil))) rfl)), ⟨_, rfl, R, a, s, l, t, ls, rfl, FA, B, fun H' sm => q H' sm⟩⟩
end
end Ech

set_option Elab.async false
set_option linter.all false
set_option maxRecDepth 100000
set_option maxHeartbeats 4000000
namespace Ech
open PySem PySem.Spec PyProof.Rows L2 RZ
def nV (n : Nat) : V := .int (n : Int)
section
variable {P : Program} {w : World} {K : PySem.W.Frag} {mg : Str → Option Value} {base : Heap}
theorem at_map {α : Type} {g : α → V} {l : List α} {i : Nat} {x : α} (h : l[i]? = some x) : atI (l.map g) (i : Int) = some (g x) := atI_nat (by rw [List.getElem?_map, h]; rfl)
theorem map_at {α β : Type} {g : α → β} {l : List α} {i : Nat} {y : β} (h : (l.map g)[i]? = some y) : ∃ x, l[i]? = some x ∧ g x = y := by
  rw [List.getElem?_map] at h
  cases e : l[i]? with
  | none => rw [e] at h; cases h
  | some x => rw [e] at h; exact ⟨x, rfl, Option.some.inj h⟩
theorem getD_at {l : List Nat} {i : Nat} (h : i < l.length) : l[i]? = some (l.getD i 0) := by
  rw [List.getD_eq_getElem?_getD, List.getElem?_eq_getElem h]
  rfl
theorem getD_atO {l : List (Option Nat)} {i : Nat} (h : i < l.length) : l[i]? = some (l.getD i none) := by
  rw [List.getD_eq_getElem?_getD, List.getElem?_eq_getElem h]
  rfl
/-- a filling -/
structure FillAt (K : PySem.W.Frag) (H : Hp) (R : Par) (f : Addr) (fl : List Nat) : Prop where
  at_ : SqT K H f (fl.map nV)
  len : fl.length = R.many
  lt : ∀ v ∈ fl, v < R.table.length
theorem FillAt.mono {H H' : Hp} {R : Par} {f : Addr} {fl : List Nat} (e : Tps H H') (F : FillAt K H R f fl) : FillAt K H' R f fl := ⟨e.tup F.at_, F.len, F.lt⟩

/-! ### is_filling -/
def spIsFill (K : PySem.W.Frag) : Sp := fun vs H Q _ => ∃ (R : Par) (a s l t : Addr) (ls : List Addr) (f : Addr) (fl : List Nat), vs = [.ref a, .ref f] ∧ FormAt K H R a s l t ls ∧ Bnd R ∧ FillAt K H R f fl ∧ ∀ H', Same H H' → Q (.bl true) H'
theorem scIsFill : FnScope ["form", "value", "item", "size"] ["form", "value"] (defScope sIsFill) := ⟨rfl, rfl, rfl, by decide +kernel, rfl, by decide +kernel, by decide +kernel⟩
theorem ok_isFill {f : Addr} {fd : FuncData} (F : Fun K "is_filling" "is_filling" sIsFill f fd) (T : Fre mg) (H1 : Has P w K mg base 1 "is_integer" ["value", "low", "high"] spIsInt) : FnOk P w K mg base CX0 2 f fd ["form", "value"] (spIsFill K) := by
  refine F.ok scIsFill (fun vs H Q E h => ?_) (fun cdv A outer s H vs Q E hr h => ?_)
  · obtain ⟨R, a, s, l, t, ls, f, fl, rfl, _⟩ := h
    rfl
  · obtain ⟨R, a, s, l, t, ls, f, fl, rfl, FA, B, FL, q⟩ := h
    have nd := scIsFill.nd
    have m4 := B.m4
    refine ⟨_, pss_cons (ps_if (PW.pt (pw_or (pt_not (pt_val (pe_isiTup T (pv 1)))) (pw_or1 (pt_cmpR op_ne (pe_callB call_len_seq (by rfl) T.len PySem.boot_len (pa_cons (pv 1) pa_nil)) (pe_callB call_len_seq (by rfl) T.len PySem.boot_len (pa_cons (pe_ix ix_tup (pv 0) pe_int (fun _ _ => rfl)) pa_nil)) (nomark _))))) (pss_one ps_never) pss_nil)
      (pss_one (ps_ret (pe_callB (cr_all rfl) (by rfl) T.all (by decide +kernel) (pa_cons (pe_lc (own := [("item", 2), ("size", 3)]) (g := gTup K 2 (gCons (gName 2) (gCons (gName 3) gNil))) (tt := tYes) rfl nd (pi_zipA (by rfl) T.zip (pa_cons (pv 1) (pa_cons (pe_ix ix_tup (pv 0) pe_int (fun _ _ => rfl)) pa_nil))) (blkOk_by (N := ["form", "value", "item", "size"]) (sc := defScope sIsFill) (by decide +kernel))
          (fun _ _ _ _ _ => pg_tup rfl (pgs_cons (pg_name (i := 2) nd rfl (.inl rfl)) (pgs_cons (pg_name (i := 3) nd rfl (.inl rfl)) pgs_nil))) (fun _ _ _ _ _ => pts_nil) (fun _ _ _ _ _ => pe_has H1 hr (by rfl) (pa_cons (pv 2) (pa_cons pe_int (pa_cons (pe_op op_sub (pv 3) pe_int) pa_nil))))) pa_nil)))), ?_⟩
    refine ⟨_, rfl, f, _, rfl, FL.at_, true, rfl, iteF ⟨_, rfl, f, _, rfl, .inr FL.at_, _, rfl, a, _, 0, _, rfl, rfl, FA.top, atI_nat (j := 0) rfl, s, _, rfl, .inr FA.siz, rfl, _, rfl, ?_⟩⟩
    refine iteNS (by rw [List.length_map, List.length_replicate, FL.len]) ?_
    refine ⟨_, rfl, _, rfl, a, _, 0, _, rfl, rfl, FA.top, atI_nat (j := 0) rfl, f, s, _, _, rfl, .inr ⟨FL.at_, FA.siz, fun D hD => lcZ hD (fun _ y _ => y = .bl true) (fun _ _ _ _ _ h => h) FL.at_ FA.siz (by rw [List.length_map, FL.len]; omega) (fun x y => rfl) ?_ ?_⟩⟩
    · intro i x y H' hx hy sm Q' hQ
      obtain ⟨v, hv, rfl⟩ := map_at hx
      have hlt := FL.lt v (List.mem_of_getElem? hv)
      have hi : i < R.many := by
        rw [← FL.len]
        exact (List.getElem?_eq_some_iff.mp hv).1
      rw [List.getElem?_replicate, if_pos hi] at hy
      have ey := Option.some.inj hy
      subst ey
      refine ⟨_, rfl, _, rfl, _, _, rfl, rfl, v, 0, (R.table.length : Int) - 1, rfl, ?_⟩
      rw [decide_eq_true (show (0 : Int) ≤ (v : Int) ∧ (v : Int) ≤ (R.table.length : Int) - 1 by omega)]
      exact hQ _ _ (Same.refl _) rfl
    · intro ys H' sm hy hlen hp2
      have ey := all_true hp2
      refine ⟨D, List.replicate ys.length true, rfl, ?_, ?_⟩
      · rw [← ey]
        exact SqL.of hy
      · have e2 : (List.replicate ys.length true).all id = true := by simp
        have z := q H' sm
        rw [← e2] at z
        exact z

/-! ### is_edit -/
def spIsEdit (K : PySem.W.Frag) : Sp := fun vs H Q _ => ∃ (R : Par) (a s l t : Addr) (ls : List Addr) (e : Addr) (fi v : Nat), vs = [.ref a, .ref e] ∧ FormAt K H R a s l t ls ∧ SqT K H e [.int fi, .int v] ∧ fi < R.many ∧ v < R.table.length ∧ Q (.bl true) H
theorem scIsEdit : FnScope ["form", "value"] ["form", "value"] (defScope sIsEdit) := ⟨rfl, rfl, rfl, by decide +kernel, rfl, by decide +kernel, by decide +kernel⟩
theorem ok_isEdit {f : Addr} {fd : FuncData} (F : Fun K "is_edit" "is_edit" sIsEdit f fd) (T : Fre mg) (H1 : Has P w K mg base 1 "is_integer" ["value", "low", "high"] spIsInt) : FnOk P w K mg base CX0 2 f fd ["form", "value"] (spIsEdit K) := by
  refine F.ok scIsEdit (fun vs H Q E h => ?_) (fun cdv A outer s H vs Q E hr h => ?_)
  · obtain ⟨R, a, s, l, t, ls, e, fi, v, rfl, _⟩ := h
    rfl
  · obtain ⟨R, a, s, l, t, ls, e, fi, v, rfl, FA, hE, h1, h2, q⟩ := h
    have ix0 : ∀ {X : Cx} {b : Expr} {tb : TE} {z z2 : Pos}, PE X b tb → PE X (.Subscript b (.Constant (.int 0) 0 z) z2) (tOp (rIxT X.K) tb (tC (.int 0))) := fun h => pe_ix ix_tup h pe_int (fun _ _ => rfl)
    have ix1 : ∀ {X : Cx} {b : Expr} {tb : TE} {z z2 : Pos}, PE X b tb → PE X (.Subscript b (.Constant (.int 1) 0 z) z2) (tOp (rIxT X.K) tb (tC (.int 1))) := fun h => pe_ix ix_tup h pe_int (fun _ _ => rfl)
    refine ⟨_, pss_cons (ps_if (PW.pt (pw_or (pt_not (pt_val (pe_isiTup T (pv 1)))) (pw_or (pt_cmpR op_ne (pe_callB call_len_seq (by rfl) T.len PySem.boot_len (pa_cons (pv 1) pa_nil)) pe_int (nomark _)) (pw_or1 (pt_not (pt_val (pe_has H1 hr (by rfl) (pa_cons (ix0 (pv 1)) (pa_cons pe_int (pa_cons (pe_op op_sub (pe_callB call_len_seq (by rfl) T.len PySem.boot_len (pa_cons (ix0 (pv 0)) pa_nil)) pe_int) pa_nil))))))))))
      (pss_one ps_never) pss_nil)
      (pss_one (ps_ret (pe_has H1 hr (by rfl) (pa_cons (ix1 (pv 1)) (pa_cons pe_int (pa_cons (pe_op op_sub (pe_ix ix_tup (ix0 (pv 0)) (ix0 (pv 1)) (fun _ _ => rfl)) pe_int) pa_nil)))))), ?_⟩
    refine ⟨_, rfl, e, _, rfl, hE, true, rfl, iteF ⟨_, rfl, e, _, rfl, .inr hE, rfl, _, rfl, iteNS rfl ?_⟩⟩
    refine ⟨_, rfl, e, _, 0, _, rfl, rfl, hE, atI_nat (j := 0) rfl, _, rfl, a, _, 0, _, rfl, rfl, FA.top, atI_nat (j := 0) rfl, s, _, rfl, .inr FA.siz, _, _, rfl, rfl, fi, 0, _, rfl, _, rfl, ?_⟩
    rw [List.length_replicate, decide_eq_true (show (0 : Int) ≤ (fi : Int) ∧ (fi : Int) ≤ (R.many : Int) - 1 by omega)]
    refine iteF ?_
    refine ⟨_, rfl, e, _, 1, _, rfl, rfl, hE, atI_nat (j := 1) rfl, _, rfl, a, _, 0, _, rfl, rfl, FA.top, atI_nat (j := 0) rfl, _, rfl, e, _, 0, _, rfl, rfl, hE, atI_nat (j := 0) rfl, s, _, _, _, rfl, rfl, FA.siz, at_rep h1, _, _, rfl, rfl, v, 0, _, rfl, ?_⟩
    rw [← decide_eq_true (show (0 : Int) ≤ (v : Int) ∧ (v : Int) ≤ (R.table.length : Int) - 1 by omega)] at q
    exact q

/-! ### require_filling -/
def spReqFill (K : PySem.W.Frag) : Sp := fun vs H Q _ => ∃ (R : Par) (a s l t : Addr) (ls : List Addr) (f : Addr) (fl : List Nat), vs = [.ref a, .ref f] ∧ FormAt K H R a s l t ls ∧ Bnd R ∧ FillAt K H R f fl ∧ ∀ H', Same H H' → Q .non H'
theorem scReqFill : FnScope ["form", "filling"] ["form", "filling"] (defScope sReqFill) := ⟨rfl, rfl, rfl, by decide +kernel, rfl, by decide +kernel, by decide +kernel⟩
theorem ok_reqFill {f : Addr} {fd : FuncData} (F : Fun K "require_filling" "require_filling" sReqFill f fd) (H2 : Has P w K mg base 2 "is_filling" ["form", "value"] (spIsFill K)) : FnOk P w K mg base CX0 3 f fd ["form", "filling"] (spReqFill K) := by
  refine F.ok scReqFill (fun vs H Q E h => ?_) (fun cdv A outer s H vs Q E hr h => ?_)
  · obtain ⟨R, a, s, l, t, ls, f, fl, rfl, _⟩ := h
    rfl
  · obtain ⟨R, a, s, l, t, ls, f, fl, rfl, FA, B, FL, q⟩ := h
    refine ⟨_, pss_one (ps_if (pt_not (pt_val (pe_has H2 hr (by rfl) (pa_cons (pv 0) (pa_cons (pv 1) pa_nil))))) (pss_one ps_never) pss_nil), ?_⟩
    exact ⟨_, rfl, _, rfl, R, a, s, l, t, ls, f, fl, rfl, FA, B, FL, fun H' sm => ⟨true, rfl, iteF (q H' sm)⟩⟩

/-! ### wished -/
def spWished (K : PySem.W.Frag) : Sp := fun vs H Q _ => ∃ (R : Par) (a s l t : Addr) (ls : List Addr) (f : Addr) (fl : List Nat) (k : Nat), vs = [.ref a, .ref f, .int k] ∧ FormAt K H R a s l t ls ∧ FillAt K H R f fl ∧ k < R.nl ∧ Q (oV (R.table.getD (fl.getD k 0) none)) H
theorem scWished : FnScope ["form", "filling", "link", "source", "target", "table", "guard"] ["form", "filling", "link"] (defScope sWished) := ⟨rfl, rfl, rfl, by decide +kernel, rfl, by decide +kernel, by decide +kernel⟩
theorem ok_wished {f : Addr} {fd : FuncData} (F : Fun K "wished" "wished" sWished f fd) : FnOk P w K mg base CX0 1 f fd ["form", "filling", "link"] (spWished K) := by
  refine F.ok scWished (fun vs H Q E h => ?_) (fun cdv A outer s H vs Q E hr h => ?_)
  · obtain ⟨R, a, s, l, t, ls, f, fl, k, rfl, _⟩ := h
    rfl
  · obtain ⟨R, a, s, l, t, ls, f, fl, k, rfl, FA, FL, hk, q⟩ := h
    have nd := scWished.nd
    have hk2 : k < ls.length := by rw [FA.len]; exact hk
    have hk3 : k < fl.length := by
      rw [FL.len]
      exact Nat.lt_of_lt_of_le hk Par.nl_le
    have e1 : ls[k]? = some ls[k] := List.getElem?_eq_getElem hk2
    have e2 := getD_at hk3
    have hlt := FL.lt _ (List.mem_of_getElem? e2)
    refine ⟨_, pss_cons (ps_asg (pe_ix ix_tup (pe_ix ix_tup (pv 0) pe_int (fun _ _ => rfl)) (pv 2) (fun _ _ => rfl)) (pg_tup rfl (pgs_cons (pg_name (i := 3) nd rfl (.inl rfl)) (pgs_cons (pg_name (i := 4) nd rfl (.inl rfl)) (pgs_cons (pg_name (i := 5) nd rfl (.inl rfl)) (pgs_cons (pg_name (i := 6) nd rfl (.inl rfl)) pgs_nil))))))
      (pss_one (ps_ret (pe_ix ix_tup (pv 5) (pe_ix ix_tup (pv 1) (pv 3) (fun _ _ => rfl)) (fun _ _ => rfl)))), ?_⟩
    refine ⟨_, rfl, a, _, 1, _, rfl, rfl, FA.top, atI_nat (j := 1) rfl, _, rfl, l, _, _, _, rfl, rfl, FA.lks, at_map e1, ls[k], _, rfl, FA.lnk k _ e1, rfl, _, _, rfl, _, _, rfl, _, _, rfl, _, _, rfl, rfl, ?_⟩
    exact ⟨_, rfl, _, rfl, _, rfl, f, _, _, _, rfl, rfl, FL.at_, at_map e2, t, _, _, _, rfl, rfl, FA.tab, at_map (getD_atO hlt), q⟩
end
end Ech

set_option Elab.async false
set_option linter.all false
set_option maxRecDepth 100000
set_option maxHeartbeats 4000000
namespace Ech
open PySem PySem.Spec PyProof.Rows L2 RZ
/-! ### set(xs) of a list of ints, told by its members -/
section
variable {P : Program} {w : World} {A : Around} {E : Value → Shared → Prop} {s : Shared}
theorem call_set_listI {l : Addr} {items : Array Value} (ns : List Int) {Q : Value → Shared → Prop} (hh : A.handled = none) (hl : s.heap.IsList l items) (hit : IntsAre items.toList ns) (hb : ns.length + 1 < scanBound)
    (h : ∀ (h' : Heap) (tk c : Nat), SetR w h' s.heap.objs.size (fun j => decide (j ∈ ns)) c → c ≤ ns.length → (∀ b o, s.heap.get? b = some o → h'.get? b = some o) → Q (.ref s.heap.objs.size) { s with heap := h', toks := tk }) :
    wpAny (model P w) A (call (.type "set") [.ref l]) Q E s := by
  have hisz : items.size = ns.length := by
    have q := IntsAre.length hit
    rw [Array.length_toList] at q
    exact q
  obtain ⟨c, tl, hmro⟩ := F.called_set.mro
  have hmade := F.called_set.made
  have hsub := F.called_set.sub
  refine wpAny_call (codeAny_of_tree ?_)
  show wpAny _ _ (callAny (.type "set") _) _ _ _
  refine wpAny_pure ⟨Code.quiet_builtin _ (by decide +kernel), codeAny_builtin F.entry_type_call ?_⟩
  rw [Around.under_plain (weight_type_call_type "set" [.ref l] []) rfl]
  have h1 := F.called_set.notType
  have h2 := F.called_set.canCreate
  have hct := F.typeCall_set_1 (.ref l)
  repeat (any_goals (first | assumption | wp_step))

  refine codeAny_mono (code_set_led1 (.ref l) (E := E) (Q₁ := fun obj s₁ => obj = .ref s.heap.objs.size ∧ s₁ = { s with heap := s.heap.push { cls := .type "set", dict := none, data := .set #[] 0 (.fresh 0 0 (!w.params.followText "set-order")) } }) ⟨rfl, rfl⟩) fun r s₁ hr => ?_
  cases r with
  | error e => exact hr
  | ok fl =>
    cases fl with
    | ret obj =>
      obtain ⟨rfl, rfl⟩ := hr
      have hS : (s.heap.push { cls := .type "set", dict := none, data := .set #[] 0 (.fresh 0 0 (!w.params.followText "set-order")) }).get? s.heap.objs.size = some { cls := .type "set", dict := none, data := .set #[] 0 (.fresh 0 0 (!w.params.followText "set-order")) } := Heap.get?_push_size _ rfl
      have hT : Shared.TypeIs { s with heap := s.heap.push { cls := .type "set", dict := none, data := .set #[] 0 (.fresh 0 0 (!w.params.followText "set-order")) } } (.ref s.heap.objs.size) "set" := ⟨_, hS, rfl⟩
      have hli := F.called_set.init.lookup
      have hbi := F.called_set.init.bind (.ref s.heap.objs.size)
      repeat (any_goals (first | assumption | wp_step))

      refine codeAny_mono (codeAny_call_builtin (R := wants (fun r s₂ => r = .none ∧ ∃ h' tk c, s₂ = { s with heap := h', toks := tk } ∧ SetR w h' s.heap.objs.size (fun j => decide (j ∈ ns)) c ∧ c ≤ ns.length ∧
          (∀ b o, s.heap.get? b = some o → h'.get? b = some o)) E) F.called_set.init.plain F.entry_set_init (check_set_init_1 hT ?_)) fun r₂ s₂ hr₂ => ?_
      · obtain ⟨ol, hol, hcl, nl, hdl⟩ := hl
        obtain ⟨ocls, odict, odata, oslots⟩ := ol
        simp only at hcl hdl
        subst hcl; subst hdl
        have hol' : (s.heap.push { cls := .type "set", dict := none, data := .set #[] 0 (.fresh 0 0 (!w.params.followText "set-order")) }).get? l = some { cls := .type "list", dict := odict, data := .seq items nl, slots := oslots } := Heap.get?_push_of_some _ hol
        have hsls := F.sub_list_set
        have hslf := F.sub_list_frozenset
        have hne : (Value.type "list" == Value.type "dict") = false := by decide
        have hl1 : (s.heap.push { cls := .type "set", dict := none, data := .set #[] 0 (.fresh 0 0 (!w.params.followText "set-order")) }).IsList l items := ⟨_, hol', rfl, nl, rfl⟩
        unfold Builtin.«set.__init__» noKeywords Builtin.Frozenset.updateFrom
        generalize hPI : pyIter = PI
        wp_walk
        subst hPI

        refine wpAny_pyIter_list hl1 ?_
        refine wpAny_bind (wpAny_runValue ?_)
        have hlS : l < s.heap.objs.size := Heap.lt_size hol
        have hh3 : A.in1.in1.in1.handled = none := by simp [hh]
        have hz1 : (s.heap.push { cls := .type "set", dict := none, data := .set #[] 0 (.fresh 0 0 (!w.params.followText "set-order")) }).objs.size = s.heap.objs.size + 1 := Heap.size_push ..
        have hneI : l ≠ (s.heap.push { cls := .type "set", dict := none, data := .set #[] 0 (.fresh 0 0 (!w.params.followText "set-order")) }).objs.size := by
          rw [Heap.size_push]; exact Nat.ne_of_lt (Nat.lt_succ_of_lt hlS)
        have hSf : s.heap.objs.size ∉ [(s.heap.push { cls := .type "set", dict := none, data := .set #[] 0 (.fresh 0 0 (!w.params.followText "set-order")) }).objs.size, l] := by
          rw [Heap.size_push]; simp only [List.mem_cons, List.mem_singleton, List.not_mem_nil, or_false, not_or]
          exact ⟨Nat.ne_of_lt (Nat.lt_succ_self _), Nat.ne_of_gt hlS⟩
        have hval : ∀ (i : Nat) (v : Value), items[i]? = some v → ∃ k t, ns[i]? = some k ∧ v = .int k t := fun i v hv => by
          have hi : i < ns.length := by rw [← hisz]; exact (Array.getElem?_eq_some_iff.mp hv).1
          obtain ⟨t, e⟩ := PyProof.Rows.IntsAre.int_at hit i v (by rw [Array.getElem?_toList]; exact hv)
          refine ⟨ns[i], t, List.getElem?_eq_getElem hi, ?_⟩
          rw [e, List.getD_eq_getElem?_getD, List.getElem?_eq_getElem hi] <;> rfl
        refine set_update_ints ((Walks.list hh3 _ l hneI items).toS) s.heap.objs.size
          hSf ns hisz hb hval (items.size - 0) 0 _ (by omega) (Nat.zero_le _)
          ⟨⟨_, Heap.get?_push_size _ rfl, rfl, rfl⟩, (hl1.push _)⟩ ?hS0 ?hR
        case hS0 =>
          have hget : ((s.heap.push { cls := .type "set", dict := none, data := .set #[] 0 (.fresh 0 0 (!w.params.followText "set-order")) }).push { cls := .type "list_iterator", data := .fields #[.ref l, .int 0 0] }).get? s.heap.objs.size
              = some { cls := .type "set", dict := none, data := .set #[] 0 (.fresh 0 0 (!w.params.followText "set-order")) } := Heap.get?_push_of_some _ hS
          exact ⟨0, Nat.le_refl 0, setR_new_at hget⟩
        case hR =>
          intro s' c' hm hc' hS'
          obtain ⟨h', g2, d', tk', os'⟩ := s'
          have eg : g2 = s.gens := hm.gens
          have ed : d' = s.drawn := hm.drawn
          have eo : os' = s.os := hm.os
          subst eg; subst ed; subst eo
          show wpAny _ _ _ _ _ _
          refine wpAny_pure ?_
          show wpAny _ _ (ret Value.none) _ _ _
          rw [hisz] at hc'
          refine wpAny_pure ⟨rfl, h', tk', c', rfl, hS', hc', fun b o e => ?_⟩
          have hb0 : b < s.heap.objs.size := Heap.lt_size e
          have hb1 : b ≠ s.heap.objs.size := Nat.ne_of_lt hb0
          have hb2 : b ≠ (s.heap.push { cls := .type "set", dict := none, data := .set #[] 0 (.fresh 0 0 (!w.params.followText "set-order")) }).objs.size := by
            rw [Heap.size_push]; exact Nat.ne_of_lt (Nat.lt_succ_of_lt hb0)
          exact hm.heap b o (by simp only [List.mem_cons, List.mem_singleton, List.not_mem_nil, or_false, not_or]; exact ⟨hb1, hb2⟩) (Heap.get?_push_of_some _ (Heap.get?_push_of_some _ e))

      · cases r₂ with
        | error e => exact hr₂
        | ok fl₂ =>
          cases fl₂ with
          | ret r =>
            obtain ⟨rfl, h', tk, c', rfl, hS', hc', hk'⟩ := hr₂
            repeat (any_goals (first | assumption | wp_step))
            exact h _ _ _ hS' hc' hk'
          | _ => exact hr₂.elim
    | _ => exact hr.elim

end
/-- set(xs), a list of ints -/
def rSetL (K : PySem.W.Frag) (w : World) : List V → Hp → VK → Prop := fun xs H Q => ∃ (p : Addr) (ns : List Int), xs = [.ref p] ∧ SqL K H p (ns.map V.int) ∧ ns.length ≤ 60 ∧ ∀ (a : Addr) (c : Nat), c ≤ ns.length → H a = none → Q (.ref a) (upd H a (SetO w a (fun j => decide (j ∈ ns)) c))
theorem cr_setL {X : Cx} (hc : X.calm = true) : CallR X (.type "set") (rSetL X.K X.w) := by
  intro pins s σ H xs us Q I r h
  obtain ⟨p, ns, rfl, hS, hl, q⟩ := h
  rw [Vals.ref1 r]
  obtain ⟨its, rv, p', hz⟩ := I.list hS
  refine call_set_listI ns (I.ok.hd hc) p'.isList (by simpa using rv.ints) (by unfold scanBound; omega) fun h' tk c hR hc' k => ?_
  have hn : H s.heap.objs.size = none := I.hok.fresh (Nat.le_refl _)
  exact ⟨.ref s.heap.objs.size, _, I.laid (t' := tk) k (Nat.le_refl _) (setO_new hR), rfl, q _ c hc' hn⟩
end Ech

set_option Elab.async false
set_option linter.all false
set_option maxRecDepth 100000
set_option maxHeartbeats 4000000
namespace Ech
open PySem PySem.Spec PyProof.Rows L2 RZ StX
section
variable {P : Program} {w : World} {K : PySem.W.Frag} {mg : Str → Option Value} {base : Heap}
section
variable {X : Cx} {b : Expr} {tb : TE} {z z2 : Pos}
theorem ix0 (h : PE X b tb) : PE X (.Subscript b (.Constant (.int 0) 0 z) z2) (tOp (rIxT X.K) tb (tC (.int 0))) := pe_ix ix_tup h pe_int (fun _ _ => rfl)
theorem ix1 (h : PE X b tb) : PE X (.Subscript b (.Constant (.int 1) 0 z) z2) (tOp (rIxT X.K) tb (tC (.int 1))) := pe_ix ix_tup h pe_int (fun _ _ => rfl)
theorem ix2 (h : PE X b tb) : PE X (.Subscript b (.Constant (.int 2) 0 z) z2) (tOp (rIxT X.K) tb (tC (.int 2))) := pe_ix ix_tup h pe_int (fun _ _ => rfl)
theorem ix3 (h : PE X b tb) : PE X (.Subscript b (.Constant (.int 3) 0 z) z2) (tOp (rIxT X.K) tb (tC (.int 3))) := pe_ix ix_tup h pe_int (fun _ _ => rfl)
end

/-! ### is_once, is_shy -/
def spGuard (K : PySem.W.Frag) : Sp := fun vs H Q _ => ∃ (R : Par) (a s l t : Addr) (ls : List Addr) (k : Nat), vs = [.ref a, .int k] ∧ FormAt K H R a s l t ls ∧ k < R.nl ∧ ∀ H', Same H H' → Q (.bl false) H'
theorem scOnce : FnScope ["form", "link"] ["form", "link"] (defScope sIsOnce) := ⟨rfl, rfl, rfl, by decide +kernel, rfl, by decide +kernel, by decide +kernel⟩
theorem scShy : FnScope ["form", "link"] ["form", "link"] (defScope sIsShy) := ⟨rfl, rfl, rfl, by decide +kernel, rfl, by decide +kernel, by decide +kernel⟩
theorem ok_once {f : Addr} {fd : FuncData} (F : Fun K "is_once" "is_once" sIsOnce f fd) : FnOk P w K mg base CX0 1 f fd ["form", "link"] (spGuard K) := by
  refine F.ok scOnce (fun vs H Q E h => ?_) (fun cdv A outer s H vs Q E hr h => ?_)
  · obtain ⟨R, a, s, l, t, ls, k, rfl, _⟩ := h
    rfl
  · obtain ⟨R, a, s, l, t, ls, k, rfl, FA, hk, q⟩ := h
    have hk2 : k < ls.length := by rw [FA.len]; exact hk
    have e1 : ls[k]? = some ls[k] := List.getElem?_eq_getElem hk2
    refine ⟨_, pss_one (ps_ret (pe_cmpR op_in_seq (ix3 (pe_ix ix_tup (ix1 (pv 0)) (pv 1) (fun _ _ => rfl))) (pe_tup (pa_cons pe_int (pa_cons pe_int pa_nil))) rfl)), ?_⟩
    refine ⟨_, rfl, a, _, 1, _, rfl, rfl, FA.top, atI_nat (j := 1) rfl, _, rfl, l, _, _, _, rfl, rfl, FA.lks, at_map e1, ls[k], _, 3, _, rfl, rfl, FA.lnk k _ e1, atI_nat (j := 3) rfl, (by show 2 ≤ sizeLine; decide), fun p hp => ?_⟩
    exact ⟨p, _, rfl, .inr (SqT.of upd_same), rfl, rfl, q _ (same_upd hp)⟩
theorem ok_shy {f : Addr} {fd : FuncData} (F : Fun K "is_shy" "is_shy" sIsShy f fd) : FnOk P w K mg base CX0 1 f fd ["form", "link"] (spGuard K) := by
  refine F.ok scShy (fun vs H Q E h => ?_) (fun cdv A outer s H vs Q E hr h => ?_)
  · obtain ⟨R, a, s, l, t, ls, k, rfl, _⟩ := h
    rfl
  · obtain ⟨R, a, s, l, t, ls, k, rfl, FA, hk, q⟩ := h
    have hk2 : k < ls.length := by rw [FA.len]; exact hk
    have e1 : ls[k]? = some ls[k] := List.getElem?_eq_getElem hk2
    refine ⟨_, pss_one (ps_ret (pe_cmpR op_in_seq (ix3 (pe_ix ix_tup (ix1 (pv 0)) (pv 1) (fun _ _ => rfl))) (pe_tup (pa_cons pe_int (pa_cons pe_int pa_nil))) rfl)), ?_⟩
    refine ⟨_, rfl, a, _, 1, _, rfl, rfl, FA.top, atI_nat (j := 1) rfl, _, rfl, l, _, _, _, rfl, rfl, FA.lks, at_map e1, ls[k], _, 3, _, rfl, rfl, FA.lnk k _ e1, atI_nat (j := 3) rfl, (by show 2 ≤ sizeLine; decide), fun p hp => ?_⟩
    exact ⟨p, _, rfl, .inr (SqT.of upd_same), rfl, rfl, q _ (same_upd hp)⟩

/-! ### links_from -/
def pendL (R : Par) (fi : Nat) : Option Nat := if fi < R.nl then some fi else none
theorem range_filter (n fi : Nat) : (List.range n).filter (fun k => decide (k = fi)) = (if fi < n then [fi] else []) := by
  induction n with
  | zero => rfl
  | succ n ih =>
    rw [List.range_succ, List.filter_append, ih]
    by_cases h : fi < n
    · rw [if_pos h, if_pos (by omega)]
      have : List.filter (fun k => decide (k = fi)) [n] = [] := by
        rw [List.filter_cons, if_neg (by simp; omega)]
        rfl
      rw [this]
      rfl
    · rw [if_neg h]
      by_cases h2 : fi = n
      · subst h2
        rw [if_pos (by omega)]
        simp
      · rw [if_neg (by omega)]
        have : List.filter (fun k => decide (k = fi)) [n] = [] := by
          rw [List.filter_cons, if_neg (by simp; omega)]
          rfl
        rw [this]
        rfl
theorem pendL_list (R : Par) (fi : Nat) : (pendL R fi).toList = (if fi < R.nl then [fi] else []) := by
  unfold pendL
  split <;> rfl
def spFrom (K : PySem.W.Frag) : Sp := fun vs H Q _ => ∃ (R : Par) (a s l t : Addr) (ls : List Addr) (fi : Nat), vs = [.ref a, .int fi] ∧ FormAt K H R a s l t ls ∧ Bnd R ∧ ∀ H' p, Same H H' → SqT K H' p ((pendL R fi).toList.map nV) → Q (.ref p) H'
theorem scFrom : FnScope ["form", "field", "link"] ["form", "field"] (defScope sLinksFrom) := ⟨rfl, rfl, rfl, by decide +kernel, rfl, by decide +kernel, by decide +kernel⟩
theorem ok_from {f : Addr} {fd : FuncData} (F : Fun K "links_from" "links_from" sLinksFrom f fd) (T : Fre mg) : FnOk P w K mg base CX0 1 f fd ["form", "field"] (spFrom K) := by
  refine F.ok scFrom (fun vs H Q E h => ?_) (fun cdv A outer s H vs Q E hr h => ?_)
  · obtain ⟨R, a, s, l, t, ls, fi, rfl, _⟩ := h
    rfl
  · obtain ⟨R, a, s, l, t, ls, fi, rfl, FA, B, q⟩ := h
    have nd := scFrom.nd
    have n4 := B.nl4
    refine ⟨_, pss_one (ps_ret (pe_callTy call_tuple_of (by rfl) T.tuple (by decide +kernel) (pa_cons (pe_lc (own := [("link", 2)]) (g := gName 2) (tt := tTest (tOp rEq (tOp (rIxT K) (tOp (rIxT K) (tOp (rIxT K) (tVar 0) (tC (.int 1))) (tVar 2)) (tC (.int 0))) (tVar 1))) (te := tVar 2) rfl nd (pi_range1 (by rfl) T.range (pa_cons (pe_callB call_len_seq (by rfl) T.len PySem.boot_len (pa_cons (ix1 (pv 0)) pa_nil)) pa_nil)) (blkOk_by (N := ["form", "field", "link"]) (sc := defScope sLinksFrom) (by decide +kernel))
      (fun _ _ _ _ _ => pg_name (i := 2) nd rfl (Or.inl rfl)) (fun _ _ _ _ _ => by exact (pts_one (pt_cmpR op_eq (ix0 (pe_ix ix_tup (ix1 (pv 0)) (pv 2) (fun _ _ => rfl))) (pv 1) (nomark _)))) (fun _ _ _ _ _ => by exact (pv 2))) pa_nil))), ?_⟩
    refine ⟨_, rfl, a, _, 1, _, rfl, rfl, FA.top, atI_nat (j := 1) rfl, l, _, rfl, .inr FA.lks, _, rfl, by omega, by rw [List.length_map, FA.len]; omega, fun D hD => ?_⟩
    rw [List.length_map, FA.len, Int.toNat_natCast]
    refine lc_range (lo := 0) (n := R.nl) (fun i H' => Same H H' ∧ H' D = some (.lst (((List.range i).filter fun k => decide (k = fi)).map nV))) ⟨same_upd hD, upd_same⟩ (fun i H' hi p => ?_) (fun H' p => ?_)
    · obtain ⟨sm, hd⟩ := p
      have FB := FA.mono sm.tps
      have hk2 : i < ls.length := by rw [FA.len]; exact hi
      have e1 : ls[i]? = some ls[i] := List.getElem?_eq_getElem hk2
      have e0 : (0 : Int) + (i : Int) = (i : Int) := Int.zero_add _
      refine ⟨rfl, _, rfl, a, _, 1, _, rfl, rfl, FB.top, atI_nat (j := 1) rfl, _, rfl, l, _, _, _, rfl, rfl, FB.lks, by rw [e0]; exact at_map e1, ls[i], _, 0, _, rfl, rfl, FB.lnk i _ e1, atI_nat (j := 0) rfl, _, rfl, rfl, _, rfl, ?_⟩
      by_cases h : i = fi
      · subst h
        rw [decide_eq_true rfl]
        refine iteT ⟨_, rfl, _, hd, ?_, ?_, ?_⟩
        · have := List.length_filter_le (fun k => decide (k = i)) (List.range i)
          rw [List.length_range] at this
          rw [List.length_map]
          exact sz_lt (by omega)
        · exact sm.mut hD
        · rw [upd_same, List.range_succ, List.filter_append, List.map_append, e0]
          simp [nV]
      · rw [decide_eq_false (show ¬ V.int (i : Int) = V.int (fi : Int) from fun z => h (by have := V.int.inj z; omega))]
        refine iteF ⟨sm, ?_⟩
        rw [List.range_succ, List.filter_append, hd]
        have : List.filter (fun k => decide (k = fi)) [i] = [] := by
          rw [List.filter_cons, if_neg (by simp; omega)]
          rfl
        rw [this, List.append_nil]
    · obtain ⟨sm, hd⟩ := p
      refine ⟨D, _, rfl, .inl ⟨SqL.of hd, fun p hp => ?_⟩⟩
      refine q _ p (sm.new hp) ?_
      rw [pendL_list, ← range_filter]
      exact SqT.of upd_same

/-! ### with_value -/
theorem catA {x y : Addr} {xs ys : List V} {H : Hp} {Q : VK} (hx : SqT K H x xs) (hy : SqT K H y ys) (hl : xs.length + ys.length ≤ 1000) (q : ∀ p H', Same H H' → SqT K H' p (xs ++ ys) → Q (.ref p) H') : rCatA K (.ref x) (.ref y) H Q := by
  refine ⟨x, y, xs, ys, rfl, rfl, hx, hy, sz_le hl, fun e => ?_, fun _ e => ?_, fun _ _ p hp => ?_⟩
  · subst e
    exact q y H (Same.refl _) hy
  · subst e
    exact q x H (Same.refl _) (by rw [List.append_nil]; exact hx)
  · exact q p _ (same_upd hp) (SqT.of upd_same)
def spWith (K : PySem.W.Frag) : Sp := fun vs H Q _ => ∃ (R : Par) (f : Addr) (fl : List Nat) (fi v : Nat), vs = [.ref f, .int fi, .int v] ∧ FillAt K H R f fl ∧ R.many ≤ 4 ∧ fi < R.many ∧ v < R.table.length ∧ ∀ H' p, Same H H' → FillAt K H' R p (fl.set fi v) → Q (.ref p) H'
theorem scWith : FnScope ["filling", "field", "value"] ["filling", "field", "value"] (defScope sWithVal) := ⟨rfl, rfl, rfl, by decide +kernel, rfl, by decide +kernel, by decide +kernel⟩
theorem cut_to {xs : List V} {n : Nat} (h : n ≤ xs.length) : cutV xs none (some (n : Int)) = xs.take n := by
  unfold cutV
  rw [HT.sIx_none, HT.sIx_nat, Nat.min_eq_left h, Nat.sub_zero, List.drop_zero]
theorem cut_from {xs : List V} {n : Nat} (h : n ≤ xs.length) : cutV xs (some (n : Int)) none = xs.drop n := by
  unfold cutV
  rw [HT.sIx_none, HT.sIx_nat, Nat.min_eq_left h]
  apply List.take_of_length_le
  rw [List.length_drop]
  omega
theorem set_cut {fl : List Nat} {fi v : Nat} (h : fi < fl.length) : ((fl.set fi v).map nV) = ((fl.map nV).take fi ++ [nV v]) ++ (fl.map nV).drop (fi + 1) := by
  rw [List.set_eq_take_append_cons_drop, if_pos h, List.map_append, List.map_cons, List.map_take, List.map_drop, List.append_assoc]
  rfl
theorem ok_with {f : Addr} {fd : FuncData} (F : Fun K "with_value" "with_value" sWithVal f fd) : FnOk P w K mg base CX0 1 f fd ["filling", "field", "value"] (spWith K) := by
  refine F.ok scWith (fun vs H Q E h => ?_) (fun cdv A outer s H vs Q E hr h => ?_)
  · obtain ⟨R, f, fl, fi, v, rfl, _⟩ := h
    rfl
  · obtain ⟨R, f, fl, fi, v, rfl, FL, m4, hf, hv, q⟩ := h
    have hl := FL.len
    have hfl : fi < fl.length := by rw [hl]; exact hf
    have hml : (fl.map nV).length = R.many := by rw [List.length_map, hl]
    refine ⟨_, pss_one (ps_ret (pe_op op_catA (pe_op op_catA (pe_slice sl_tupA (pv 0) po_none (po_some (pv 1))) (pe_tup (pa_cons (pv 2) pa_nil))) (pe_slice sl_tupA (pv 0) (po_some (pe_op op_add (pv 1) pe_int)) po_none))), ?_⟩
    -- filling[:field]
    refine ⟨_, rfl, _, rfl, fi, rfl, f, _, rfl, FL.at_, fun z => ?_, fun _ p1 n1 => ?_⟩
    · exfalso
      have z2 := z.2
      rw [HT.sIx_nat, hml] at z2
      omega
    have s1 : Same H (upd H p1 (.tup (cutV (fl.map nV) none (some (fi : Int))))) := same_upd n1
    have h1 : SqT K (upd H p1 (.tup (cutV (fl.map nV) none (some (fi : Int))))) p1 ((fl.map nV).take fi) := by
      rw [cut_to (by rw [hml]; omega)]
      exact SqT.of upd_same
    generalize upd H p1 (.tup (cutV (fl.map nV) none (some (fi : Int)))) = H1 at s1 h1 ⊢
    -- (value,)
    refine ⟨_, rfl, (by show 1 ≤ sizeLine; decide), fun p2 n2 => ?_⟩
    have s2 : Same H1 (upd H1 p2 (.tup [nV v])) := same_upd n2
    refine catA (xs := (fl.map nV).take fi) (ys := [nV v]) (s2.tup h1) (SqT.of upd_same) (by rw [List.length_take, hml]; simp; omega) (fun p3 H3 s3 h3 => ?_)
    have s13 := (s1.trans s2).trans s3
    -- filling[field + 1:]
    have ef : (fi : Int) + 1 = ((fi + 1 : Nat) : Int) := by omega
    refine ⟨_, rfl, _, rfl, fi, 1, rfl, rfl, _, rfl, f, _, rfl, s13.tup FL.at_, fun z => ?_, fun _ p4 n4 => ?_⟩
    · exfalso
      have z1 := z.1
      rw [ef, HT.sIx_nat, hml] at z1
      omega
    have s4 : Same H3 (upd H3 p4 (.tup (cutV (fl.map nV) (some ((fi : Int) + 1)) none))) := same_upd n4
    have h4 : SqT K (upd H3 p4 (.tup (cutV (fl.map nV) (some ((fi : Int) + 1)) none))) p4 ((fl.map nV).drop (fi + 1)) := by
      rw [ef, cut_from (by rw [hml]; omega)]
      exact SqT.of upd_same
    refine catA (s4.tup h3) h4 (by rw [List.length_append, List.length_take, List.length_drop, hml]; simp; omega) (fun p5 H5 s5 h5 => ?_)
    refine q H5 p5 ((s13.trans s4).trans s5) ⟨?_, by rw [List.length_set]; exact hl, fun u hu => ?_⟩
    · rw [set_cut hfl]
      exact h5
    · rcases List.mem_or_eq_of_mem_set hu with h | h
      · exact FL.lt u h
      · rw [h]
        exact hv
end
end Ech

set_option Elab.async false
set_option linter.all false
set_option maxRecDepth 100000
set_option maxHeartbeats 4000000
namespace Ech
open PySem PySem.Spec PyProof.Rows L2 RZ StX
section
variable {P : Program} {w : World} {K : PySem.W.Frag} {mg : Str → Option Value} {base : Heap}
/-- a moment with its tuples -/
structure MomAt (K : PySem.W.Frag) (H : Hp) (R : Par) (m f p e : Addr) (x : Par.Mom) : Prop where
  top : SqT K H m [.int 0, .ref f, .ref p, .ref e]
  fil : FillAt K H R f x.1
  pen : SqT K H p (x.2.toList.map nV)
  spe : SqT K H e []
theorem MomAt.mono {H H' : Hp} {R : Par} {m f p e : Addr} {x : Par.Mom} (t : Tps H H') (M : MomAt K H R m f p e x) : MomAt K H' R m f p e x := ⟨t.tup M.top, M.fil.mono t, t.tup M.pen, t.tup M.spe⟩
theorem base_lt {R : Par} (ok : R.Ok) : ∀ v ∈ R.base, v < R.table.length := fun v hv => by
  obtain ⟨j, hj, e⟩ := List.mem_map.mp (show v ∈ (List.range R.many).map fun k => R.old.getD (k % R.old.length) 0 from hv)
  have h := Nat.mod_lt j ok.oldp
  have e2 := getD_at h
  rw [← e]
  exact ok.oldlt _ (List.mem_of_getElem? e2)

/-! ### first_moment -/
def spFirstMom (K : PySem.W.Frag) : Sp := fun vs H Q _ => ∃ (R : Par) (a s l t : Addr) (ls : List Addr) (f e : Addr), vs = [.ref a, .ref f, .ref e] ∧ FormAt K H R a s l t ls ∧ Bnd R ∧ FillAt K H R f R.base ∧ SqT K H e [.int 0, .int R.start] ∧
  ∀ H' m f' p' e', Same H H' → MomAt K H' R m f' p' e' R.init → Q (.ref m) H'
theorem scFirstMom : FnScope ["form", "filling", "edit", "field", "value"] ["form", "filling", "edit"] (defScope sFirstMom) := ⟨rfl, rfl, rfl, by decide +kernel, rfl, by decide +kernel, by decide +kernel⟩
theorem ok_firstMom {f : Addr} {fd : FuncData} (F : Fun K "first_moment" "first_moment" sFirstMom f fd) (H1 : Has P w K mg base 1 "with_value" ["filling", "field", "value"] (spWith K)) (H2 : Has P w K mg base 1 "links_from" ["form", "field"] (spFrom K)) :
    FnOk P w K mg base CX0 2 f fd ["form", "filling", "edit"] (spFirstMom K) := by
  refine F.ok scFirstMom (fun vs H Q E h => ?_) (fun cdv A outer s H vs Q E hr h => ?_)
  · obtain ⟨R, a, s, l, t, ls, f, e, rfl, _⟩ := h
    rfl
  · obtain ⟨R, a, s, l, t, ls, f, e, rfl, FA, B, FL, hE, q⟩ := h
    have nd := scFirstMom.nd
    have m2 := B.m2
    have m4 := B.m4
    have ok := B.ok
    have e0 : R.base[0]? = some (R.old.getD 0 0) := by rw [Par.base_get (by omega), Nat.zero_mod]
    refine ⟨_, pss_cons (ps_asg (pv 2) (pg_tup rfl (pgs_cons (pg_name (i := 3) nd rfl (.inl rfl)) (pgs_cons (pg_name (i := 4) nd rfl (.inl rfl)) pgs_nil))))
      (pss_cons (ps_if (pt_cmpR op_eq (pe_ix ix_tup (pv 1) (pv 3) (fun _ _ => rfl)) (pv 4) (nomark _)) (pss_one (ps_ret (pe_tup (pa_cons (pv 3) (pa_cons (pv 1) (pa_cons (pe_tup pa_nil) (pa_cons (pe_tup pa_nil) pa_nil))))))) pss_nil)
      (pss_one (ps_ret (pe_tup (pa_cons (pv 3) (pa_cons (pe_has H1 hr (by rfl) (pa_cons (pv 1) (pa_cons (pv 3) (pa_cons (pv 4) pa_nil)))) (pa_cons (pe_has H2 hr (by rfl) (pa_cons (pv 0) (pa_cons (pv 3) pa_nil))) (pa_cons (pe_tup pa_nil) pa_nil)))))))), ?_⟩
    refine ⟨_, rfl, e, _, rfl, hE, rfl, _, _, rfl, _, _, rfl, rfl, ?_⟩
    refine ⟨_, rfl, _, rfl, f, _, 0, _, rfl, rfl, FL.at_, atI_nat (j := 0) (by rw [List.getElem?_map, e0]; rfl), _, rfl, rfl, _, rfl, ?_⟩
    by_cases hs : R.old.getD 0 0 = R.start
    · rw [decide_eq_true (show nV (R.old.getD 0 0) = V.int (R.start : Int) by rw [hs]; rfl)]
      refine iteT ⟨_, rfl, _, rfl, Nat.zero_le _, fun p1 n1 => ⟨Nat.zero_le _, fun p2 n2 => ⟨(by show 4 ≤ sizeLine; decide), fun m n3 => ?_⟩⟩⟩
      have s1 : Same H (upd H p1 (.tup [])) := same_upd n1
      have s2 := same_upd (o := .tup []) n2
      have s3 := same_upd (o := .tup [.int 0, .ref f, .ref p1, .ref p2]) n3
      refine q _ m f p1 p2 ((s1.trans s2).trans s3) ⟨SqT.of upd_same, ?_, ?_, (s3.tup (SqT.of upd_same))⟩
      · unfold Par.init
        rw [if_pos hs]
        exact FL.mono ((s1.trans s2).trans s3).tps
      · unfold Par.init
        rw [if_pos hs]
        exact (s2.trans s3).tup (SqT.of upd_same)
    · rw [decide_eq_false (show ¬ nV (R.old.getD 0 0) = V.int (R.start : Int) from fun z => hs (by have := V.int.inj z; omega))]
      refine iteF ⟨_, rfl, _, rfl, _, rfl, _, rfl, R, f, R.base, 0, R.start, rfl, FL, m4, by omega, ok.startlt, fun H1 f' s1 F1 => ?_⟩
      have FA1 := FA.mono s1.tps
      refine ⟨_, rfl, _, rfl, R, a, s, l, t, ls, 0, rfl, FA1, B, fun H2 p' s2 hp => ⟨Nat.zero_le _, fun p2 n2 => ⟨(by show 4 ≤ sizeLine; decide), fun m n3 => ?_⟩⟩⟩
      have s3 : Same H2 (upd H2 p2 (.tup [])) := same_upd n2
      have s4 := same_upd (o := .tup [.int 0, .ref f', .ref p', .ref p2]) n3
      refine q _ m f' p' p2 (((s1.trans s2).trans s3).trans s4) ⟨SqT.of upd_same, ?_, ?_, (s4.tup (SqT.of upd_same))⟩
      · unfold Par.init
        rw [if_neg hs]
        exact F1.mono ((s2.trans s3).trans s4).tps
      · unfold Par.init
        rw [if_neg hs]
        exact (s3.trans s4).tup hp

/-! ### moment_after -/
theorem sorted_one {z : Option Nat} {ns : List Int} (h1 : ns.Pairwise (· < ·)) (h2 : ∀ k : Int, k ∈ ns ↔ decide (k ∈ z.toList.map fun n : Nat => (n : Int)) = true) : ns = z.toList.map fun n : Nat => (n : Int) := by
  cases z with
  | none =>
    cases ns with
    | nil => rfl
    | cons x r =>
      have := (h2 x).mp List.mem_cons_self
      simp at this
  | some v =>
    have h3 : ∀ k : Int, k ∈ ns ↔ k = (v : Int) := fun k => by
      rw [h2 k]
      simp
    cases ns with
    | nil =>
      have := (h3 v).mpr rfl
      simp at this
    | cons x r =>
      have ex := (h3 x).mp List.mem_cons_self
      cases r with
      | nil => rw [ex]; rfl
      | cons y r =>
        have ey := (h3 y).mp (List.mem_cons_of_mem _ List.mem_cons_self)
        have := (List.pairwise_cons.mp h1).1 y List.mem_cons_self
        omega
def spMomAfter (K : PySem.W.Frag) : Sp := fun vs H Q _ => ∃ (R : Par) (a s l t : Addr) (ls : List Addr) (m f p e : Addr) (fl : List Nat) (k : Nat), vs = [.ref a, .ref m, .int k] ∧ FormAt K H R a s l t ls ∧ Bnd R ∧ MomAt K H R m f p e (fl, some k) ∧ k < R.nl ∧
  ∀ H' m' f' p' e', Same H H' → MomAt K H' R m' f' p' e' (R.step (fl, some k)) → Q (.ref m') H'
theorem scMomAfter : FnScope ["form", "moment", "link", "field", "filling", "pending", "spent", "target", "value", "rest", "more", "one"] ["form", "moment", "link"] (defScope sMomAfter) := ⟨rfl, rfl, rfl, by decide +kernel, rfl, by decide +kernel, by decide +kernel⟩
theorem ok_momAfter {f : Addr} {fd : FuncData} (F : Fun K "moment_after" "moment_after" sMomAfter f fd) (T : Fre mg) (H1 : Has P w K mg base 1 "with_value" ["filling", "field", "value"] (spWith K)) (H2 : Has P w K mg base 1 "links_from" ["form", "field"] (spFrom K))
    (H3 : Has P w K mg base 1 "wished" ["form", "filling", "link"] (spWished K)) (H4 : Has P w K mg base 1 "is_once" ["form", "link"] (spGuard K)) (H5 : Has P w K mg base 1 "is_shy" ["form", "link"] (spGuard K)) :
    FnOk P w K mg base CX0 2 f fd ["form", "moment", "link"] (spMomAfter K) := by
  refine F.ok scMomAfter (fun vs H Q E h => ?_) (fun cdv A outer s H vs Q E hr h => ?_)
  · obtain ⟨R, a, s, l, t, ls, m, f, p, e, fl, k, rfl, _⟩ := h
    rfl
  · obtain ⟨R, a, s, l, t, ls, m, f, p, e, fl, k, rfl, FA, B, M, hk, q⟩ := h
    have nd := scMomAfter.nd
    have m2 := B.m2
    have m4 := B.m4
    have ok := B.ok
    have hk2 : k < ls.length := by rw [FA.len]; exact hk
    have e1 : ls[k]? = some ls[k] := List.getElem?_eq_getElem hk2
    have htg := Nat.mod_lt (k + 1) (show R.many > 0 by omega)
    refine ⟨_, pss_cons (ps_asg (pv 1) (pg_tup rfl (pgs_cons (pg_name (i := 3) nd rfl (.inl rfl)) (pgs_cons (pg_name (i := 4) nd rfl (.inl rfl)) (pgs_cons (pg_name (i := 5) nd rfl (.inl rfl)) (pgs_cons (pg_name (i := 6) nd rfl (.inr rfl)) pgs_nil))))))
      (pss_cons (ps_par (i := 7) (j := 8) rfl nd rfl rfl (by decide) rfl rfl (pa_cons (ix1 (pe_ix ix_tup (ix1 (pv 0)) (pv 2) (fun _ _ => rfl))) (pa_cons (pe_has H3 hr (by rfl) (pa_cons (pv 0) (pa_cons (pv 4) (pa_cons (pv 2) pa_nil)))) pa_nil)) (by rfl))
      (pss_cons (ps_set (i := 9) nd rfl (.inl rfl) (pe_callTy call_tuple_of (by rfl) T.tuple (by decide +kernel) (pa_cons (pe_lc (own := [("one", 11)]) (g := gName 11) (tt := tTest (tOp rNe (tVar 11) (tVar 2))) (te := tVar 11) rfl nd (pi_tup (pv 5)) (blkOk_by (N := ["form", "moment", "link", "field", "filling", "pending", "spent", "target", "value", "rest", "more", "one"]) (sc := defScope sMomAfter) (by decide +kernel))
          (fun _ _ _ _ _ => pg_name (i := 11) nd rfl (Or.inl rfl)) (fun _ _ _ _ _ => by exact (pts_one (pt_cmpR op_ne (pv 11) (pv 2) (nomark _)))) (fun _ _ _ _ _ => by exact (pv 11))) pa_nil)))
      (pss_cons (ps_if (pt_val (pe_has H4 hr (by rfl) (pa_cons (pv 0) (pa_cons (pv 2) pa_nil)))) (pss_one ps_never) pss_nil)
      (pss_cons (ps_if (PW.pt (pw_or (pt_cmpR op_isN (pv 8) pe_non (nomark _)) (pw_or (pt_cmpR op_eq (pv 8) (pe_ix ix_tup (pv 4) (pv 7) (fun _ _ => rfl)) (nomark _)) (pw_or1 (PW.pt (pw_and (pt_val (pe_has H5 hr (by rfl) (pa_cons (pv 0) (pa_cons (pv 2) pa_nil)))) (pw_and1 (pt_cmpR op_eq (pv 7) (pv 3) (nomark _)))))))))
        (pss_one (ps_ret (pe_tup (pa_cons (pv 3) (pa_cons (pv 4) (pa_cons (pv 9) (pa_cons (pv 6) pa_nil))))))) pss_nil)
      (pss_cons (ps_setLc (i := 10) (own := [("one", 11)]) (g := gName 11) (tt := tTest (tOp (rIn K true) (tVar 11) (tVar 6))) (te := tVar 11) rfl nd rfl rfl (sw_true rfl rfl rfl (by decide +kernel)) (pi_tup (pe_has H2 hr (by rfl) (pa_cons (pv 0) (pa_cons (pv 7) pa_nil)))) (blkOk_by (N := ["form", "moment", "link", "field", "filling", "pending", "spent", "target", "value", "rest", "more", "one"]) (sc := defScope sMomAfter) (by decide +kernel))
          (fun _ _ _ _ _ => pg_name (i := 11) nd rfl (Or.inl rfl)) (fun _ _ _ _ _ => by exact (pts_one (pt_cmpR op_notIn_seq (pv 11) (pv 6) rfl))) (fun _ _ _ _ _ => by exact (pv 11)))
      (pss_one (ps_ret (pe_tup (pa_cons (pv 3) (pa_cons (pe_has H1 hr (by rfl) (pa_cons (pv 4) (pa_cons (pv 7) (pa_cons (pv 8) pa_nil)))) (pa_cons (pe_callTy call_tuple_of (by rfl) T.tuple (by decide +kernel) (pa_cons (pe_callB (cr_sortedSet rfl) (by rfl) T.sorted (by decide +kernel) (pa_cons (pe_callTy (cr_setL rfl) (by rfl) T.set (by decide +kernel) (pa_cons (pe_lst (pa_star (pv 9) (pa_star (pv 10) pa_nil))) pa_nil)) pa_nil)) pa_nil)) (pa_cons (pv 6) pa_nil)))))))))))), ?_⟩
    refine ⟨_, rfl, m, _, rfl, M.top, rfl, _, _, rfl, _, _, rfl, _, _, rfl, _, _, rfl, rfl, ?_⟩
    -- target, value
    refine ⟨_, rfl, a, _, 1, _, rfl, rfl, FA.top, atI_nat (j := 1) rfl, _, rfl, l, _, _, _, rfl, rfl, FA.lks, at_map e1, ls[k], _, 1, _, rfl, rfl, FA.lnk k _ e1, atI_nat (j := 1) rfl, _, rfl, _, rfl, _, rfl, R, a, s, l, t, ls, f, fl, k, rfl, FA, M.fil, hk, _, _, rfl, ?_⟩
    -- rest
    refine ⟨_, rfl, p, rfl, ⟨_, M.pen⟩, fun D hD => lc_tup (K := K) (a := p) (xs := (some k).toList.map nV) (fun i H' => Same H H' ∧ H' D = some (.lst [])) ⟨same_upd hD, upd_same⟩ (fun i H' _ z => z.1.tup M.pen) (fun i x H' hx z => ?_) (fun H' z => ?_)⟩
    · have ei : i = 0 := by
        have h := (List.getElem?_eq_some_iff.mp hx).1
        have h2 : i < 1 := h
        omega
      subst ei
      have ex : nV k = x := Option.some.inj hx
      subst ex
      exact ⟨rfl, _, rfl, _, rfl, rfl, _, rfl, iteNS rfl z⟩
    obtain ⟨sD, hDl⟩ := z
    refine ⟨D, _, rfl, .inl ⟨SqL.of hDl, fun rs nrs => ?_⟩⟩
    have s0 : Same H (upd H' rs (.tup [])) := sD.new nrs
    have hrs : SqT K (upd H' rs (.tup [])) rs [] := SqT.of upd_same
    generalize upd H' rs (.tup []) = H0 at s0 hrs ⊢
    have FA0 := FA.mono s0.tps
    have M0 := M.mono s0.tps
    -- is_once
    refine ⟨_, rfl, _, rfl, R, a, s, l, t, ls, k, rfl, FA0, hk, fun Hb sb => ⟨false, rfl, iteF ?_⟩⟩
    have FA1 := FA0.mono sb.tps
    have M1 := M0.mono sb.tps
    have hrs1 := sb.tup hrs
    have hfl := getD_at (l := fl) (i := (k + 1) % R.many) (by rw [M.fil.len]; exact htg)
    have est : R.step (fl, some k) = match R.table.getD (fl.getD k 0) none with
      | none => (fl, none)
      | some v => if fl.getD ((k + 1) % R.many) 0 = v then (fl, none) else (fl.set ((k + 1) % R.many) v, pendL R ((k + 1) % R.many)) := rfl
    -- a way without a change
    have stay : ∀ (Hz : Hp), Same Hb Hz → R.step (fl, some k) = (fl, none) → ∀ m', Hz m' = none → Q (.ref m') (upd Hz m' (.tup [.int 0, .ref f, .ref rs, .ref e])) := fun Hz sz ez m' nm => by
      have s2 := same_upd (o := .tup [.int 0, .ref f, .ref rs, .ref e]) nm
      refine q _ m' f rs e (((s0.trans sb).trans sz).trans s2) ?_
      rw [ez]
      exact ⟨SqT.of upd_same, M1.fil.mono (sz.trans s2).tps, (sz.trans s2).tup hrs1, (sz.trans s2).tup M1.spe⟩
    cases hW : R.table.getD (fl.getD k 0) none with
    | none =>
      rw [hW] at est
      refine ⟨_, rfl, rfl, true, rfl, iteT (iteT ⟨_, rfl, _, rfl, _, rfl, _, rfl, (by show 4 ≤ sizeLine; decide), fun m' nm => stay Hb (Same.refl _) est m' nm⟩)⟩
    | some v =>
      rw [hW] at est
      have hv : v < R.table.length := by
        have h1 : R.table[fl.getD k 0]? = some (some v) := by
          rw [List.getD_eq_getElem?_getD] at hW
          cases hg : R.table[fl.getD k 0]? with
          | none => rw [hg] at hW; cases hW
          | some x =>
            rw [hg] at hW
            have hx : x = some v := hW
            rw [hx]
        exact ok.items v (List.mem_of_getElem? h1)
      refine ⟨_, rfl, rfl, false, rfl, iteF ⟨_, rfl, _, rfl, _, rfl, f, _, _, _, rfl, rfl, M1.fil.at_, at_map hfl, rfl, _, rfl, ?_⟩⟩
      by_cases hs : fl.getD ((k + 1) % R.many) 0 = v
      · rw [decide_eq_true (show oV (some v) = nV (fl.getD ((k + 1) % R.many) 0) by rw [hs]; rfl)]
        refine iteT (iteT ⟨_, rfl, _, rfl, _, rfl, _, rfl, (by show 4 ≤ sizeLine; decide), fun m' nm => stay Hb (Same.refl _) ?_ m' nm⟩)
        rw [est]
        dsimp only
        rw [if_pos hs]
      · rw [decide_eq_false (show ¬ oV (some v) = nV (fl.getD ((k + 1) % R.many) 0) from fun z => hs (by have := V.int.inj z; omega))]
        refine iteF ⟨_, rfl, _, rfl, R, a, s, l, t, ls, k, rfl, FA1, hk, fun Hc sc => ⟨false, rfl, iteF (iteF ?_)⟩⟩
        have FA2 := FA1.mono sc.tps
        have M2 := M1.mono sc.tps
        have hrs2 := sc.tup hrs1
        -- more
        refine ⟨_, rfl, _, rfl, R, a, s, l, t, ls, (k + 1) % R.many, rfl, FA2, B, fun Hd pd sd hpd => ⟨pd, rfl, ⟨_, hpd⟩, fun D2 hD2 => lc_tup (K := K) (a := pd) (xs := (pendL R ((k + 1) % R.many)).toList.map nV)
          (fun i H' => Same Hd H' ∧ H' D2 = some (.lst (((pendL R ((k + 1) % R.many)).toList.map nV).take i))) ⟨same_upd hD2, upd_same⟩ (fun i H' _ z => z.1.tup hpd) (fun i x H' hx z => ?_) (fun H' z => ?_)⟩⟩
        · obtain ⟨n, hn, rfl⟩ := map_at hx
          have hlen : i < ((pendL R ((k + 1) % R.many)).toList.map nV).length := (List.getElem?_eq_some_iff.mp hx).1
          refine ⟨rfl, _, rfl, _, rfl, e, _, rfl, .inr ((sd.trans z.1).tup M2.spe), rfl, rfl, true, rfl, iteT ⟨_, rfl, _, z.2, ?_, z.1.mut hD2, ?_⟩⟩
          · rw [List.length_take]
            have : (pendL R ((k + 1) % R.many)).toList.length ≤ 1 := by cases pendL R ((k + 1) % R.many) <;> simp
            rw [List.length_map] at hlen ⊢
            exact sz_lt (by omega)
          · rw [upd_same, List.take_add_one, hx]
            rfl
        obtain ⟨sE, hmore⟩ := z
        rw [List.take_of_length_le (Nat.le_refl _)] at hmore
        have s3 := sd.trans sE
        have M3 := M2.mono s3.tps
        have hrs3 := s3.tup hrs2
        -- with_value
        refine ⟨_, rfl, _, rfl, _, rfl, _, rfl, R, f, fl, (k + 1) % R.many, v, rfl, M3.fil, m4, htg, hv, fun H5 f' s5 F5 => ?_⟩
        have hmore5 := s5 D2 _ hmore
        have hrs5 := s5.tup hrs3
        -- [*rest, *more]
        refine ⟨_, rfl, rs, [], rfl, .inl hrs5, _, rfl, D2, _, rfl, .inr (SqL.of hmore5), ?_, fun l6 n6 => ?_⟩
        · rw [List.nil_append, List.append_nil, List.length_map]
          have : (pendL R ((k + 1) % R.many)).toList.length ≤ 1 := by cases pendL R ((k + 1) % R.many) <;> simp
          exact sz_le (by omega)
        have s6 := same_upd (o := .lst ([] ++ ((pendL R ((k + 1) % R.many)).toList.map nV ++ []))) n6
        refine ⟨l6, (pendL R ((k + 1) % R.many)).toList.map fun n : Nat => (n : Int), rfl, ?_, ?_, fun a7 c hc n7 => ?_⟩
        · rw [List.map_map]
          exact SqL.of (by rw [upd_same, List.nil_append, List.append_nil]; rfl)
        · rw [List.length_map]
          have : (pendL R ((k + 1) % R.many)).toList.length ≤ 1 := by cases pendL R ((k + 1) % R.many) <;> simp
          omega
        refine ⟨a7, _, c, rfl, upd_same, ?_, fun ns' l8 hp hm hlen n8 => ?_⟩
        · rw [List.length_map] at hc
          have : (pendL R ((k + 1) % R.many)).toList.length ≤ 1 := by cases pendL R ((k + 1) % R.many) <;> simp
          omega
        have ens := sorted_one hp hm
        subst ens
        refine ⟨l8, _, rfl, .inl ⟨SqL.of upd_same, fun p9 n9 => ?_⟩⟩
        have s7 := (same_upd (o := SetO w a7 (fun j => decide (j ∈ (pendL R ((k + 1) % R.many)).toList.map fun n : Nat => (n : Int))) c) n7)
        have s8 := same_upd (o := .lst (((pendL R ((k + 1) % R.many)).toList.map fun n : Nat => (n : Int)).map V.int)) n8
        have s9 := same_upd (o := .tup (((pendL R ((k + 1) % R.many)).toList.map fun n : Nat => (n : Int)).map V.int)) n9
        refine ⟨_, rfl, (by show 4 ≤ sizeLine; decide), fun m' nm => ?_⟩
        have s10 := same_upd (o := .tup [.int 0, .ref f', .ref p9, .ref e]) nm
        have s59 := ((s6.trans s7).trans s8).trans s9
        refine q _ m' f' p9 e (((((((s0.trans sb).trans sc).trans s3).trans s5).trans s59).trans s10)) ?_
        rw [est]
        dsimp only
        rw [if_neg hs]
        refine ⟨SqT.of upd_same, F5.mono (s59.trans s10).tps, ?_, ((s5.trans s59).trans s10).tup M3.spe⟩
        refine s10.tup (SqT.of ?_)
        rw [upd_same, List.map_map]
        rfl
end
end Ech

set_option Elab.async false
set_option linter.all false
set_option maxRecDepth 100000
set_option maxHeartbeats 4000000
namespace Ech
open PySem PySem.Spec PyProof.Rows L2 RZ StX
section
variable {P : Program} {w : World} {K : PySem.W.Frag} {mg : Str → Option Value} {base : Heap}
/-- len of a list or tuple -/
def rLenK (K : PySem.W.Frag) : List V → Hp → VK → Prop := fun xs H Q => ∃ p ys, xs = [.ref p] ∧ (SqL K H p ys ∨ SqT K H p ys) ∧ Q (.int ys.length) H
theorem call_lenK {X : Cx} : CallR X (.builtin "len") (rLenK X.K) := call_len_seq
theorem all_rep (n : Nat) : (List.replicate n true).all id = true := by simp

/-! ### are_links -/
def spAreLinks (K : PySem.W.Frag) : Sp := fun vs H Q _ => ∃ (R : Par) (a s l t : Addr) (ls : List Addr) (p : Addr) (z : Option Nat), vs = [.ref a, .ref p] ∧ FormAt K H R a s l t ls ∧ Bnd R ∧ SqT K H p (z.toList.map nV) ∧ (∀ v, z = some v → v < R.nl) ∧ ∀ H', Same H H' → Q (.bl true) H'
theorem scAreLinks : FnScope ["form", "value", "link", "one", "other"] ["form", "value"] (defScope sAreLinks) := ⟨rfl, rfl, rfl, by decide +kernel, rfl, by decide +kernel, by decide +kernel⟩
theorem ok_areLinks {f : Addr} {fd : FuncData} (F : Fun K "are_links" "are_links" sAreLinks f fd) (T : Fre mg) (H1 : Has P w K mg base 1 "is_integer" ["value", "low", "high"] spIsInt) : FnOk P w K mg base CX0 2 f fd ["form", "value"] (spAreLinks K) := by
  refine F.ok scAreLinks (fun vs H Q E h => ?_) (fun cdv A outer s H vs Q E hr h => ?_)
  · obtain ⟨R, a, s, l, t, ls, p, z, rfl, _⟩ := h
    rfl
  · obtain ⟨R, a, s, l, t, ls, p, z, rfl, FA, B, hS, hz, q⟩ := h
    have nd := scAreLinks.nd
    have n4 := B.nl4
    have hzl : z.toList.length ≤ 1 := by cases z <;> simp
    refine ⟨_, pss_cons (ps_if (PW.pt (pw_or (pt_not (pt_val (pe_isiTup T (pv 1)))) (pw_or1 (pt_not (pt_val (pe_callB (cr_all rfl) (by rfl) T.all (by decide +kernel) (pa_cons (pe_lc (own := [("link", 2)]) (g := gName 2) (tt := tYes) (te := tCall spIsInt [] E0 (tCons (tVar 2) (tCons (tC (.int 0)) (tCons (tOp (rI0 fun i j => .int (i - j)) (tCB (rLenK K) (tCons (tOp (rIxT K) (tVar 0) (tC (.int 1))) tNil)) (tC (.int 1))) tNil)))) rfl nd (pi_tup (pv 1)) (blkOk_by (N := ["form", "value", "link", "one", "other"]) (sc := defScope sAreLinks) (by decide +kernel))
          (fun _ _ _ _ _ => pg_name (i := 2) nd rfl (Or.inl rfl)) (fun _ _ _ _ _ => pts_nil) (fun _ _ _ _ _ => by exact (pe_has H1 hr (by rfl) (pa_cons (pv 2) (pa_cons pe_int (pa_cons (pe_op op_sub (pe_callB call_lenK (by rfl) T.len PySem.boot_len (pa_cons (ix1 (pv 0)) pa_nil)) pe_int) pa_nil)))))) pa_nil))))))) (pss_one ps_never) pss_nil)
      (pss_one (ps_ret (pe_callB (cr_all rfl) (by rfl) T.all (by decide +kernel) (pa_cons (pe_lc (own := [("one", 3), ("other", 4)]) (g := gTup K 2 (gCons (gName 3) (gCons (gName 4) gNil))) (tt := tYes) rfl nd (pi_zipA (by rfl) T.zip (pa_cons (pv 1) (pa_cons (pe_slice sl_tupA (pv 1) (po_some pe_int) po_none) pa_nil))) (blkOk_by (N := ["form", "value", "link", "one", "other"]) (sc := defScope sAreLinks) (by decide +kernel))
          (fun _ _ _ _ _ => pg_tup rfl (pgs_cons (pg_name (i := 3) nd rfl (.inl rfl)) (pgs_cons (pg_name (i := 4) nd rfl (.inl rfl)) pgs_nil))) (fun _ _ _ _ _ => pts_nil) (fun _ _ _ _ _ => pe_cmpR op_lt (pv 3) (pv 4) (nomark _))) pa_nil)))), ?_⟩
    refine ⟨_, rfl, p, _, rfl, hS, true, rfl, iteF ⟨_, rfl, p, rfl, ⟨_, hS⟩, fun D hD => lcT hD (fun _ y _ => y = .bl true) (fun _ _ _ _ _ h => h) hS (by rw [List.length_map]; omega) (fun x => rfl) ?_ ?_⟩⟩
    · intro i x H' hx sm Q' hQ
      obtain ⟨v, hv, rfl⟩ := map_at hx
      have hlt : v < R.nl := hz v (by
        cases z with
        | none => simp at hv
        | some u =>
          have hm := List.mem_of_getElem? hv
          simp at hm
          rw [hm])
      refine ⟨_, rfl, _, rfl, a, _, 1, _, rfl, rfl, sm.tup FA.top, atI_nat (j := 1) rfl, l, _, rfl, .inr (sm.tup FA.lks), _, _, rfl, rfl, v, 0, _, rfl, ?_⟩
      rw [List.length_map, FA.len, decide_eq_true (show (0 : Int) ≤ (v : Int) ∧ (v : Int) ≤ (R.nl : Int) - 1 by omega)]
      exact hQ _ _ (Same.refl _) rfl
    intro ys H' sm hy hlen hp2
    have ey := all_true hp2
    refine ⟨D, List.replicate ys.length true, rfl, ?_, ?_⟩
    · rw [← ey]
      exact SqL.of hy
    rw [all_rep]
    refine ⟨true, rfl, iteF ?_⟩
    have hS1 := sm.tup hS
    -- zip(value, value[1:])
    have fin : ∀ (H2 : Hp) (p2 : Addr), Same H' H2 → SqT K H2 p2 [] → ∀ D2, H2 D2 = none → ∃ W : Nat → Nat → Hp → Prop, (∃ m, W 0 m (upd H2 D2 (.lst []))) ∧ ∀ i m H, W i m H →
      ((ItzT K p p2).stop i H ∧ (∃ (a : Addr) (bs : List Bool), [V.ref D2] = [V.ref a] ∧ SqL K H a (bs.map V.bl) ∧ Q (.bl (bs.all id)) H)) ∨ ((ItzT K p p2).go i H ∧ ∃ Nx : Hp → Prop, (∀ H', Nx H' → ∃ m', m' < m ∧ W (i + 1) m' H') ∧ ∀ x H', (ItzT K p p2).yld i H x H' → gTup K 2 (gCons (gName 3) (gCons (gName 4) gNil)) x (wipe (L2.start ["form", "value", "link", "one", "other"] [.ref a, .ref p]) [3, 4]) H' fun σ2 H2 => wipe σ2 [3, 4] = wipe (L2.start ["form", "value", "link", "one", "other"] [.ref a, .ref p]) [3, 4] ∧ tYes σ2 H2 fun b H3 =>
        if b = true then (tOp (rI0 fun i j => .bl (decide (i < j))) (tVar 3) (tVar 4)) σ2 H3 fun y H4 => ∃ acc, H4 D2 = some (.lst acc) ∧ acc.length < sizeLine ∧ Nx (upd H4 D2 (.lst (acc ++ [y]))) else Nx H3) := fun H2 p2 s2 hp2 D2 hD2 =>
      lcZ hD2 (fun _ y _ => y = .bl true) (fun _ _ _ _ _ h => h) (s2.tup hS1) hp2 (by rw [List.length_map]; omega) (fun x y => rfl) (fun i x y H3 hx hy2 => by simp at hy2) (fun ys3 H3 s3 hy3 hl3 _ => by
        have e0 : ys3 = [] := List.eq_nil_of_length_eq_zero (by rw [hl3]; simp)
        subst e0
        exact ⟨D2, [], rfl, SqL.of hy3, q H3 ((sm.trans s2).trans s3)⟩)
    refine ⟨_, rfl, _, rfl, _, rfl, p, _, rfl, hS1, fun hw => ?_, fun hw p2 n2 => ?_⟩
    · have ez : z.toList.map nV = [] := by
        cases z with
        | none => rfl
        | some v =>
          have h1 : (1 : Nat) = 0 := hw.1
          omega
      refine ⟨p, p, _, _, rfl, .inr ⟨hS1, hS1, fin H' p (Same.refl _) (by rw [← ez]; exact hS1)⟩⟩
    · have s2 := same_upd (o := .tup (cutV (z.toList.map nV) (some 1) none)) n2
      have ez : cutV (z.toList.map nV) (some 1) none = [] := by cases z <;> rfl
      have hp2 : SqT K (upd H' p2 (.tup (cutV (z.toList.map nV) (some 1) none))) p2 [] := by
        rw [ez]
        exact SqT.of upd_same
      exact ⟨p, p2, _, _, rfl, .inr ⟨s2.tup hS1, hp2, fin _ p2 s2 hp2⟩⟩

/-! ### is_moment -/
def spIsMom (K : PySem.W.Frag) : Sp := fun vs H Q _ => ∃ (R : Par) (a s l t : Addr) (ls : List Addr) (m f p e : Addr) (x : Par.Mom), vs = [.ref a, .ref m] ∧ FormAt K H R a s l t ls ∧ Bnd R ∧ MomAt K H R m f p e x ∧ (∀ v, x.2 = some v → v < R.nl) ∧ ∀ H', Same H H' → Q (.bl true) H'
theorem scIsMom : FnScope ["form", "value", "field", "filling", "pending", "spent", "link"] ["form", "value"] (defScope sIsMom) := ⟨rfl, rfl, rfl, by decide +kernel, rfl, by decide +kernel, by decide +kernel⟩
theorem ok_isMom {f : Addr} {fd : FuncData} (F : Fun K "is_moment" "is_moment" sIsMom f fd) (T : Fre mg) (H1 : Has P w K mg base 1 "is_integer" ["value", "low", "high"] spIsInt) (H2 : Has P w K mg base 2 "is_filling" ["form", "value"] (spIsFill K)) (H3 : Has P w K mg base 2 "are_links" ["form", "value"] (spAreLinks K))
    (H4 : Has P w K mg base 1 "is_once" ["form", "link"] (spGuard K)) : FnOk P w K mg base CX0 3 f fd ["form", "value"] (spIsMom K) := by
  refine F.ok scIsMom (fun vs H Q E h => ?_) (fun cdv A outer s H vs Q E hr h => ?_)
  · obtain ⟨R, a, s, l, t, ls, m, f, p, e, x, rfl, _⟩ := h
    rfl
  · obtain ⟨R, a, s, l, t, ls, m, f, p, e, x, rfl, FA, B, M, hx, q⟩ := h
    have nd := scIsMom.nd
    have m2 := B.m2
    refine ⟨_, pss_cons (ps_if (PW.pt (pw_or (pt_not (pt_val (pe_isiTup T (pv 1)))) (pw_or (pt_cmpR op_ne (pe_callB call_len_seq (by rfl) T.len PySem.boot_len (pa_cons (pv 1) pa_nil)) pe_int (nomark _)) (pw_or1 (pt_not (pt_val (pe_has H1 hr (by rfl) (pa_cons (ix0 (pv 1)) (pa_cons pe_int (pa_cons (pe_op op_sub (pe_callB call_len_seq (by rfl) T.len PySem.boot_len (pa_cons (ix0 (pv 0)) pa_nil)) pe_int) pa_nil))))))))))
      (pss_one ps_never) pss_nil)
      (pss_cons (ps_asg (pv 1) (pg_tup rfl (pgs_cons (pg_name (i := 2) nd rfl (.inl rfl)) (pgs_cons (pg_name (i := 3) nd rfl (.inl rfl)) (pgs_cons (pg_name (i := 4) nd rfl (.inr rfl)) (pgs_cons (pg_name (i := 5) nd rfl (.inl rfl)) pgs_nil))))))
      (pss_cons (ps_if (PW.pt (pw_or (pt_not (pt_val (pe_has H2 hr (by rfl) (pa_cons (pv 0) (pa_cons (pv 3) pa_nil))))) (pw_or (pt_not (pt_val (pe_has H3 hr (by rfl) (pa_cons (pv 0) (pa_cons (pv 4) pa_nil))))) (pw_or1 (pt_not (pt_val (pe_has H3 hr (by rfl) (pa_cons (pv 0) (pa_cons (pv 5) pa_nil))))))))) (pss_one ps_never) pss_nil)
      (pss_one (ps_ret (pe_callB (cr_all rfl) (by rfl) T.all (by decide +kernel) (pa_cons (pe_lc (own := [("link", 6)]) (g := gName 6) (tt := tYes) (te := tAndV (tCall (spGuard K) [] E0 (tCons (tVar 0) (tCons (tVar 6) tNil))) (tOp (rIn K true) (tVar 6) (tVar 4))) rfl nd (pi_tup (pv 5)) (blkOk_by (N := ["form", "value", "field", "filling", "pending", "spent", "link"]) (sc := defScope sIsMom) (by decide +kernel))
          (fun _ _ _ _ _ => pg_name (i := 6) nd rfl (Or.inl rfl)) (fun _ _ _ _ _ => pts_nil) (fun _ _ _ _ _ => by exact (pe_and (pe_has H4 hr (by rfl) (pa_cons (pv 0) (pa_cons (pv 6) pa_nil))) (pe_one (pe_cmpR op_notIn_seq (pv 6) (pv 4) rfl))))) pa_nil)))))), ?_⟩
    refine ⟨_, rfl, m, _, rfl, M.top, true, rfl, iteF ⟨_, rfl, m, _, rfl, .inr M.top, rfl, _, rfl, iteNS rfl ?_⟩⟩
    refine ⟨_, rfl, m, _, 0, _, rfl, rfl, M.top, atI_nat (j := 0) rfl, _, rfl, a, _, 0, _, rfl, rfl, FA.top, atI_nat (j := 0) rfl, s, _, rfl, .inr FA.siz, _, _, rfl, rfl, 0, 0, _, rfl, _, rfl, ?_⟩
    rw [List.length_replicate, decide_eq_true (show (0 : Int) ≤ 0 ∧ (0 : Int) ≤ (R.many : Int) - 1 by omega)]
    refine iteF ?_
    refine ⟨_, rfl, m, _, rfl, M.top, rfl, _, _, rfl, _, _, rfl, _, _, rfl, _, _, rfl, rfl, ?_⟩
    refine ⟨_, rfl, _, rfl, R, a, s, l, t, ls, f, x.1, rfl, FA, B, M.fil, fun H2 s2 => ⟨true, rfl, iteF ?_⟩⟩
    have FA2 := FA.mono s2.tps
    have M2 := M.mono s2.tps
    refine ⟨_, rfl, _, rfl, R, a, s, l, t, ls, p, x.2, rfl, FA2, B, M2.pen, hx, fun H3 s3 => ⟨true, rfl, iteF ?_⟩⟩
    have FA3 := FA2.mono s3.tps
    have M3 := M2.mono s3.tps
    refine ⟨_, rfl, _, rfl, R, a, s, l, t, ls, e, none, rfl, FA3, B, M3.spe, (fun v z => nomatch z), fun H4 s4 => ⟨true, rfl, iteF ?_⟩⟩
    have M4 := M3.mono s4.tps
    refine ⟨_, rfl, e, rfl, ⟨_, M4.spe⟩, fun D hD => lcT hD (fun _ y _ => y = .bl true) (fun _ _ _ _ _ h => h) M4.spe (by decide) (fun x => rfl) (fun i x H' hx => by simp at hx) (fun ys H' sm hy hlen _ => ?_)⟩
    have e0 : ys = [] := List.eq_nil_of_length_eq_zero hlen
    subst e0
    exact ⟨D, [], rfl, SqL.of hy, q H' (((s2.trans s3).trans s4).trans sm)⟩

/-! ### require_beginning, begin -/
def spReqBeg (K : PySem.W.Frag) : Sp := fun vs H Q _ => ∃ (R : Par) (a s l t : Addr) (ls : List Addr) (f e : Addr), vs = [.ref a, .ref f, .ref e] ∧ FormAt K H R a s l t ls ∧ Bnd R ∧ FillAt K H R f R.base ∧ SqT K H e [.int 0, .int R.start] ∧ ∀ H', Same H H' → Q .non H'
theorem scReqBeg : FnScope ["form", "filling", "edit"] ["form", "filling", "edit"] (defScope sReqBeg) := ⟨rfl, rfl, rfl, by decide +kernel, rfl, by decide +kernel, by decide +kernel⟩
theorem ok_reqBeg {f : Addr} {fd : FuncData} (F : Fun K "require_beginning" "require_beginning" sReqBeg f fd) (H1 : Has P w K mg base 3 "require_filling" ["form", "filling"] (spReqFill K)) (H2 : Has P w K mg base 2 "is_edit" ["form", "value"] (spIsEdit K)) : FnOk P w K mg base CX0 4 f fd ["form", "filling", "edit"] (spReqBeg K) := by
  refine F.ok scReqBeg (fun vs H Q E h => ?_) (fun cdv A outer s H vs Q E hr h => ?_)
  · obtain ⟨R, a, s, l, t, ls, f, e, rfl, _⟩ := h
    rfl
  · obtain ⟨R, a, s, l, t, ls, f, e, rfl, FA, B, FL, hE, q⟩ := h
    have m2 := B.m2
    refine ⟨_, pss_cons (ps_expr (pe_has H1 hr (by rfl) (pa_cons (pv 0) (pa_cons (pv 1) pa_nil)))) (pss_one (ps_if (pt_not (pt_val (pe_has H2 hr (by rfl) (pa_cons (pv 0) (pa_cons (pv 2) pa_nil))))) (pss_one ps_never) pss_nil)), ?_⟩
    refine ⟨_, rfl, _, rfl, R, a, s, l, t, ls, f, R.base, rfl, FA, B, FL, fun H2 s2 => ?_⟩
    exact ⟨_, rfl, _, rfl, R, a, s, l, t, ls, e, 0, R.start, rfl, FA.mono s2.tps, s2.tup hE, by omega, B.ok.startlt, true, rfl, iteF (q H2 s2)⟩
theorem scBegin : FnScope ["form", "filling", "edit"] ["form", "filling", "edit"] (defScope sBegin) := ⟨rfl, rfl, rfl, by decide +kernel, rfl, by decide +kernel, by decide +kernel⟩
theorem ok_begin {f : Addr} {fd : FuncData} (F : Fun K "begin" "begin" sBegin f fd) (H1 : Has P w K mg base 4 "require_beginning" ["form", "filling", "edit"] (spReqBeg K)) (H2 : Has P w K mg base 2 "first_moment" ["form", "filling", "edit"] (spFirstMom K)) : FnOk P w K mg base CX0 5 f fd ["form", "filling", "edit"] (spFirstMom K) := by
  refine F.ok scBegin (fun vs H Q E h => ?_) (fun cdv A outer s H vs Q E hr h => ?_)
  · obtain ⟨R, a, s, l, t, ls, f, e, rfl, _⟩ := h
    rfl
  · obtain ⟨R, a, s, l, t, ls, f, e, rfl, FA, B, FL, hE, q⟩ := h
    refine ⟨_, pss_cons (ps_expr (pe_has H1 hr (by rfl) (pa_cons (pv 0) (pa_cons (pv 1) (pa_cons (pv 2) pa_nil))))) (pss_one (ps_ret (pe_has H2 hr (by rfl) (pa_cons (pv 0) (pa_cons (pv 1) (pa_cons (pv 2) pa_nil)))))), ?_⟩
    refine ⟨_, rfl, _, rfl, _, rfl, R, a, s, l, t, ls, f, e, rfl, FA, B, FL, hE, fun H2 s2 => ?_⟩
    exact ⟨_, rfl, _, rfl, _, rfl, R, a, s, l, t, ls, f, e, rfl, FA.mono s2.tps, B, FL.mono s2.tps, s2.tup hE, fun H3 m f' p' e' s3 M => q H3 m f' p' e' (s2.trans s3) M⟩

/-! ### is_pending, fire -/
def spIsPend (K : PySem.W.Frag) : Sp := fun vs H Q _ => ∃ (R : Par) (m f p e : Addr) (fl : List Nat) (k : Nat), vs = [.ref m, .int k] ∧ MomAt K H R m f p e (fl, some k) ∧ Q (.bl true) H
theorem scIsPend : FnScope ["moment", "link"] ["moment", "link"] (defScope sIsPend) := ⟨rfl, rfl, rfl, by decide +kernel, rfl, by decide +kernel, by decide +kernel⟩
theorem ok_isPend {f : Addr} {fd : FuncData} (F : Fun K "is_pending" "is_pending" sIsPend f fd) (T : Fre mg) : FnOk P w K mg base CX0 1 f fd ["moment", "link"] (spIsPend K) := by
  refine F.ok scIsPend (fun vs H Q E h => ?_) (fun cdv A outer s H vs Q E hr h => ?_)
  · obtain ⟨R, m, f, p, e, fl, k, rfl, _⟩ := h
    rfl
  · obtain ⟨R, m, f, p, e, fl, k, rfl, M, q⟩ := h
    refine ⟨_, pss_one (ps_ret (pe_and (pe_isiInt T (pv 1)) (pe_and (pe_not (pe_isiBool T (pv 1))) (pe_one (pe_cmpR op_in_seq (pv 1) (ix2 (pv 0)) rfl))))), ?_⟩
    refine ⟨_, rfl, k, rfl, true, rfl, iteT ⟨_, rfl, k, rfl, false, rfl, true, rfl, iteT ⟨_, rfl, _, rfl, m, _, 2, _, rfl, rfl, M.top, atI_nat (j := 2) rfl, p, _, rfl, .inr M.pen, rfl, rfl, ?_⟩⟩⟩
    have e1 : inV (V.int (k : Int)) ((some k).toList.map nV) = true := by
      simp [inV, nV, eqV]
    have z := q
    rw [← e1] at z
    exact z
theorem scFire : FnScope ["form", "value", "link"] ["form", "value", "link"] (defScope sFire) := ⟨rfl, rfl, rfl, by decide +kernel, rfl, by decide +kernel, by decide +kernel⟩
theorem ok_fire {f : Addr} {fd : FuncData} (F : Fun K "fire" "fire" sFire f fd) (H1 : Has P w K mg base 3 "is_moment" ["form", "value"] (spIsMom K)) (H2 : Has P w K mg base 1 "is_pending" ["moment", "link"] (spIsPend K)) (H3 : Has P w K mg base 2 "moment_after" ["form", "moment", "link"] (spMomAfter K)) :
    FnOk P w K mg base CX0 4 f fd ["form", "value", "link"] (spMomAfter K) := by
  refine F.ok scFire (fun vs H Q E h => ?_) (fun cdv A outer s H vs Q E hr h => ?_)
  · obtain ⟨R, a, s, l, t, ls, m, f, p, e, fl, k, rfl, _⟩ := h
    rfl
  · obtain ⟨R, a, s, l, t, ls, m, f, p, e, fl, k, rfl, FA, B, M, hk, q⟩ := h
    refine ⟨_, pss_cons (ps_if (pt_not (pt_val (pe_has H1 hr (by rfl) (pa_cons (pv 0) (pa_cons (pv 1) pa_nil))))) (pss_one ps_never) pss_nil) (pss_cons (ps_if (pt_not (pt_val (pe_has H2 hr (by rfl) (pa_cons (pv 1) (pa_cons (pv 2) pa_nil))))) (pss_one ps_never) pss_nil)
      (pss_one (ps_ret (pe_has H3 hr (by rfl) (pa_cons (pv 0) (pa_cons (pv 1) (pa_cons (pv 2) pa_nil))))))), ?_⟩
    refine ⟨_, rfl, _, rfl, R, a, s, l, t, ls, m, f, p, e, (fl, some k), rfl, FA, B, M, (fun v z => by cases z; exact hk), fun H2 s2 => ⟨true, rfl, iteF ?_⟩⟩
    refine ⟨_, rfl, _, rfl, R, m, f, p, e, fl, k, rfl, M.mono s2.tps, true, rfl, iteF ?_⟩
    exact ⟨_, rfl, _, rfl, _, rfl, R, a, s, l, t, ls, m, f, p, e, fl, k, rfl, FA.mono s2.tps, B, M.mono s2.tps, hk, fun H3 m' f' p' e' s3 M' => q H3 m' f' p' e' (s2.trans s3) M'⟩
end
end Ech

set_option Elab.async false
set_option linter.all false
set_option maxRecDepth 100000
set_option maxHeartbeats 4000000
namespace Ech
open PySem PySem.Spec PyProof.Rows L2 RZ StX
section
variable {P : Program} {w : World} {K : PySem.W.Frag} {mg : Str → Option Value} {base : Heap}

/-! ### wishes_from -/
/-- the dict places behind the found ones -/
def kvN : List Nat → Nat → List (Key × V)
  | [], _ => []
  | v :: r, n => (Sum.inl (v : Int), .int (n : Int)) :: kvN r (n + 1)
theorem kvN_len : ∀ (fs : List Nat) (n : Nat), (kvN fs n).length = fs.length
  | [], _ => rfl
  | _ :: r, n => congrArg Nat.succ (kvN_len r (n + 1))
theorem kvN_add : ∀ (fs : List Nat) (n v : Nat), kvN (fs ++ [v]) n = kvN fs n ++ [(Sum.inl (v : Int), .int ((n + fs.length : Nat) : Int))]
  | [], n, v => rfl
  | u :: r, n, v => by
    show (Sum.inl (u : Int), V.int (n : Int)) :: kvN (r ++ [v]) (n + 1) = (Sum.inl (u : Int), V.int (n : Int)) :: (kvN r (n + 1) ++ [(Sum.inl (v : Int), .int ((n + (r.length + 1) : Nat) : Int))])
    rw [kvN_add r (n + 1) v, show n + 1 + r.length = n + (r.length + 1) by omega]
theorem valV_cons {kv : Key × V} {r : List (Key × V)} {k : Key} : valV (kv :: r) k = if kv.1 = k then some kv.2 else valV r k := by
  unfold valV
  rw [List.find?_cons]
  by_cases h : kv.1 = k
  · rw [if_pos h, decide_eq_true h]
    rfl
  · rw [if_neg h, decide_eq_false h]
theorem kvN_none : ∀ (fs : List Nat) (n v : Nat), v ∉ fs → valV (kvN fs n) (Sum.inl (v : Int)) = none
  | [], _, _, _ => rfl
  | u :: r, n, v, h => by
    show valV ((Sum.inl (u : Int), V.int (n : Int)) :: kvN r (n + 1)) _ = none
    rw [valV_cons, if_neg ?_]
    · exact kvN_none r (n + 1) v fun z => h (List.mem_cons_of_mem _ z)
    · intro z
      have z2 := Sum.inl.inj z
      have : u = v := by
        have z3 : (u : Int) = (v : Int) := z2
        omega
      exact h (by rw [this]; exact List.mem_cons_self)
theorem kvN_some : ∀ (fs : List Nat) (n v : Nat), v ∈ fs → ∃ i, fs[i]? = some v ∧ valV (kvN fs n) (Sum.inl (v : Int)) = some (.int ((n + i : Nat) : Int))
  | [], _, _, h => absurd h List.not_mem_nil
  | u :: r, n, v, h => by
    by_cases hu : u = v
    · subst hu
      refine ⟨0, rfl, ?_⟩
      show valV ((Sum.inl (u : Int), V.int (n : Int)) :: kvN r (n + 1)) _ = _
      rw [valV_cons, if_pos rfl]
      rfl
    · have h2 : v ∈ r := by
        rcases List.mem_cons.mp h with z | z
        · exact absurd z.symm hu
        · exact z
      obtain ⟨i, e1, e2⟩ := kvN_some r (n + 1) v h2
      refine ⟨i + 1, e1, ?_⟩
      show valV ((Sum.inl (u : Int), V.int (n : Int)) :: kvN r (n + 1)) _ = _
      rw [valV_cons, if_neg ?_, e2, show n + 1 + i = n + (i + 1) by omega]
      intro z
      have z2 := Sum.inl.inj z
      have z3 : (u : Int) = (v : Int) := z2
      exact hu (by omega)
def spWishes (K : PySem.W.Frag) : Sp := fun vs H Q _ => ∃ (a : Addr) (tb : List (Option Nat)) (st : Nat), vs = [.ref a, .int st] ∧ SqT K H a (tb.map oV) ∧ tb.length ≤ 6 ∧ st < tb.length ∧ (∀ v, some v ∈ tb → v < tb.length) ∧
  ∀ found ahead H' p q, WF tb st found ahead → found.length ≤ tb.length → Same H H' → SqT K H' p [.ref q, oV ahead] → SqT K H' q (found.map nV) → Q (.ref p) H'
theorem scWishes : FnScope ["table", "start", "places", "found", "value"] ["table", "start"] (defScope sWishes) := ⟨rfl, rfl, rfl, by decide +kernel, rfl, by decide +kernel, by decide +kernel⟩
theorem ok_wishes {f : Addr} {fd : FuncData} (F : Fun K "wishes_from" "wishes_from" sWishes f fd) (T : Fre mg) : FnOk P w K mg base CX0 1 f fd ["table", "start"] (spWishes K) := by
  refine F.ok scWishes (fun vs H Q E h => ?_) (fun cdv A outer s H vs Q E hr h => ?_)
  · obtain ⟨a, tb, st, rfl, _⟩ := h
    rfl
  · obtain ⟨a, tb, st, rfl, hS, h6, hst, hit, q⟩ := h
    have nd := scWishes.nd
    have hu := hu_of hr
    refine ⟨_, pss_cons (ps_par3 (i := 2) (j := 3) (l := 4) rfl nd rfl rfl rfl (by decide) (by decide) (by decide) rfl rfl rfl (pa_cons pe_dnewK (pa_cons (pe_lst pa_nil) (pa_cons (pv 1) pa_nil))) (by rfl))
      (pss_cons (ps_while PassesOwn.never (PW.pt (pw_and (pt_cmpR op_notN (pv 4) pe_non (nomark _)) (pw_and1 (pt_cmp (pc_dnotin hu (pv 4) (pv 2))))))
        (pss_cons (ps_dput hu (pv 2) (pv 4) (pe_callB call_len_seq (by rfl) T.len PySem.boot_len (pa_cons (pv 3) pa_nil)) rfl)
        (pss_cons (ps_expr (pe_bm PySem.F.plainAttrs_list PySem.F.slot_list_append PySem.F.type_list_append mt_append (pv 3) (pa_cons (pv 4) pa_nil)))
        (pss_one (ps_set (i := 4) nd rfl (.inl rfl) (pe_ix ix_tup (pv 0) (pv 4) (fun _ _ => rfl)))))))
      (pss_one (ps_ret (pe_tup (pa_cons (pe_callTy call_tuple_of (by rfl) T.tuple (by decide +kernel) (pa_cons (pv 3) pa_nil)) (pa_cons (pe_ifExp (pt_cmpR op_isN (pv 4) pe_non (nomark _)) pe_non (pe_dget hu (pv 2) (pv 4) (fun _ _ => rfl))) pa_nil)))))), ?_⟩
    intro d hd
    refine ⟨Nat.zero_le _, fun l nl => ⟨_, rfl, _, _, _, rfl, ?_⟩⟩
    have s1 : Same H (upd H d (.dK [])) := same_upd hd
    have s2 : Same (upd H d (.dK [])) (upd (upd H d (.dK [])) l (.lst [])) := same_upd nl
    have ndl : d ≠ l := ne_of_none upd_same nl
    have hlH : H l = none := by
      rw [upd_ne ndl.symm] at nl
      exact nl
    refine ⟨fun m σ H' => ∃ fs : List Nat, σ = [some (.ref a), some (.int st), some (.ref d), some (.ref l), some (oV (wsh tb st fs.length))] ∧ (∀ i, i < fs.length → wsh tb st i = fs[i]?) ∧ fs.Nodup ∧ (∀ x ∈ fs, x < tb.length) ∧
      Same H H' ∧ H' d = some (.dK (kvN fs 0)) ∧ H' l = some (.lst (fs.map nV)) ∧ m + fs.length = tb.length, ⟨tb.length, [], rfl, (fun i h => absurd h (Nat.not_lt_zero _)), List.nodup_nil, (fun x h => absurd h List.not_mem_nil), s1.trans s2, s2 _ _ upd_same, upd_same, rfl⟩, ?_⟩
    rintro m σ H' ⟨fs, rfl, hw, hn, hlt, sm, ed, el, em⟩
    have hS' := sm.tup hS
    -- behind the loop
    have fin : ∀ ahead, WF tb st fs ahead → ∀ H2, Same H H2 → H2 l = some (.lst (fs.map nV)) → ∀ q2 p2 H3, Same H2 H3 → SqT K H3 p2 [.ref q2, oV ahead] → SqT K H3 q2 (fs.map nV) → Q (.ref p2) H3 := fun ahead W H2 s2 _ q2 p2 H3 s3 h1 h2 =>
      q fs ahead H3 p2 q2 W (by omega) (s2.trans s3) h1 h2
    cases hv : wsh tb st fs.length with
    | none =>
      refine ⟨_, rfl, rfl, false, rfl, iteF (iteF ?_)⟩
      have hpos : 0 < fs.length := by
        cases fs with
        | nil => cases hv
        | cons x r => exact Nat.succ_pos _
      have W : WF tb st fs none := ⟨hpos, hw, hn, (fun _ => hv), (fun p z => nomatch z)⟩
      refine ⟨_, rfl, l, _, rfl, .inl ⟨SqL.of el, fun q2 n2 => ⟨_, rfl, rfl, true, rfl, iteT ⟨(by show 2 ≤ sizeLine; decide), fun p2 n3 => ?_⟩⟩⟩⟩
      have s3 := same_upd (o := .tup (fs.map nV)) n2
      have s4 := same_upd (o := .tup [.ref q2, .non]) n3
      exact fin none W H' sm el q2 p2 _ (s3.trans s4) (SqT.of upd_same) (s4.tup (SqT.of upd_same))
    | some v =>
      have hv2 : v < tb.length := by
        cases hf : fs.length with
        | zero =>
          rw [hf] at hv
          have e : st = v := Option.some.inj hv
          omega
        | succ n =>
          rw [hf] at hv
          have e : (wsh tb st n).bind (fun u => tb.getD u none) = some v := hv
          cases hq : wsh tb st n with
          | none => rw [hq] at e; cases e
          | some u =>
            rw [hq] at e
            have e2 : tb.getD u none = some v := e
            rw [List.getD_eq_getElem?_getD] at e2
            cases hg : tb[u]? with
            | none => rw [hg] at e2; cases e2
            | some x =>
              rw [hg] at e2
              have e3 : x = some v := e2
              subst e3
              exact hit v (List.mem_of_getElem? hg)
      refine ⟨_, rfl, rfl, true, rfl, iteT ⟨_, rfl, _, rfl, d, _, rfl, DGet.k (k := Sum.inl (v : Int)) ed, _, rfl, ?_⟩⟩
      by_cases hm : v ∈ fs
      · obtain ⟨i, e1, e2⟩ := kvN_some fs 0 v hm
        rw [e2]
        refine iteF ?_
        have hi : i < fs.length := (List.getElem?_eq_some_iff.mp e1).1
        have W : WF tb st fs (some i) := ⟨by omega, hw, hn, (fun z => nomatch z), fun p z => by cases z; exact ⟨hi, by rw [hv, e1]⟩⟩
        refine ⟨_, rfl, l, _, rfl, .inl ⟨SqL.of el, fun q2 n2 => ?_⟩⟩
        have s3 : Same H' (upd H' q2 (.tup (fs.map nV))) := same_upd n2
        refine ⟨_, rfl, rfl, false, rfl, iteF ⟨_, rfl, _, rfl, d, _, rfl, by rw [← e2]; exact DGet.k (k := Sum.inl (v : Int)) (s3 _ _ ed), (by show 2 ≤ sizeLine; decide), fun p2 n3 => ?_⟩⟩
        have s4 := same_upd (o := .tup [.ref q2, .int ((0 + i : Nat) : Int)]) n3
        refine fin (some i) W H' sm el q2 p2 _ (s3.trans s4) (SqT.of ?_) (s4.tup (SqT.of upd_same))
        rw [upd_same, Nat.zero_add]
        rfl
      · rw [kvN_none fs 0 v hm]
        refine iteT ?_
        have hlen : fs.length + 1 ≤ tb.length := by
          have := nodup_lt tb.length (v :: fs) (List.nodup_cons.mpr ⟨hm, hn⟩) (fun x hx => by
            rcases List.mem_cons.mp hx with z | z
            · rw [z]; exact hv2
            · exact hlt x z)
          exact this
        refine ⟨fun σ2 H2 => ∃ fs2 : List Nat, σ2 = [some (.ref a), some (.int st), some (.ref d), some (.ref l), some (oV (wsh tb st fs2.length))] ∧ (∀ i, i < fs2.length → wsh tb st i = fs2[i]?) ∧ fs2.Nodup ∧ (∀ x ∈ fs2, x < tb.length) ∧
          Same H H2 ∧ H2 d = some (.dK (kvN fs2 0)) ∧ H2 l = some (.lst (fs2.map nV)) ∧ fs2.length = fs.length + 1, fun σ2 H2 ⟨fs2, z1, z2, z3, z4, z5, z6, z7, z8⟩ => ⟨m - 1, by omega, fs2, z1, z2, z3, z4, z5, z6, z7, by omega⟩, ?_⟩
        -- places[value] = len(found)
        refine ⟨_, rfl, l, _, rfl, .inl (SqL.of el), _, rfl, _, rfl, d, _, rfl, DPut.k (k := Sum.inl (v : Int)) ed (by rw [kvN_len]; exact sz_lt (by omega)), ?_⟩
        have ndl' : l ≠ d := ndl.symm
        -- found.append(value)
        refine ⟨_, rfl, .inl ⟨rfl, _, SqL.of (by rw [upd_ne ndl']; exact el)⟩, _, rfl, l, fs.map nV, _, rfl, rfl, by rw [upd_ne ndl']; exact el, by rw [List.length_map]; exact sz_lt (by omega), ?_⟩
        have s3 : Same H (upd (upd H' d (.dK (putK (kvN fs 0) (Sum.inl (v : Int)) (.int ((fs.map nV).length : Int))))) l (.lst (fs.map nV ++ [oV (some v)]))) := (sm.mut hd).mut hlH
        -- value = table[value]
        refine ⟨_, rfl, _, rfl, a, _, _, _, rfl, rfl, s3.tup hS, at_map (getD_atO hv2), fs ++ [v], ?_, fun i hi => ?_, ?_, fun x hx => ?_, s3, ?_, ?_, by rw [List.length_append]; rfl⟩
        · have ew : wsh tb st (fs ++ [v]).length = tb.getD v none := by
            rw [List.length_append]
            show (wsh tb st fs.length).bind _ = _
            rw [hv]
            rfl
          rw [ew]
          rfl
        · rw [List.length_append] at hi
          by_cases h : i < fs.length
          · rw [List.getElem?_append_left h]
            exact hw i h
          · have h2 : i = fs.length := by
              have : i < fs.length + 1 := hi
              omega
            subst h2
            rw [List.getElem?_append_right (Nat.le_refl _), Nat.sub_self, hv]
            rfl
        · exact List.nodup_append.mpr ⟨hn, List.nodup_cons.mpr ⟨List.not_mem_nil, List.nodup_nil⟩, fun x hx y hy => by
            have e : y = v := List.mem_singleton.mp hy
            intro z
            rw [e] at z
            rw [z] at hx
            exact hm hx⟩
        · rcases List.mem_append.mp hx with z | z
          · exact hlt x z
          · rw [List.mem_singleton.mp z]; exact hv2
        · rw [upd_ne ndl, upd_same, putK_new _ (kvN_none fs 0 v hm), kvN_add, List.length_map, Nat.zero_add]
        · rw [upd_same, List.map_append]
          rfl
end
end Ech

set_option Elab.async false
set_option linter.all false
set_option maxRecDepth 100000
set_option maxHeartbeats 4000000
namespace Ech
open PySem PySem.Spec PyProof.Rows L2 RZ StX
section
variable {P : Program} {w : World} {K : PySem.W.Frag} {mg : Str → Option Value} {base : Heap}
/-- the table and the old values -/
structure RingAt (K : PySem.W.Frag) (H : Hp) (R : Par) (a o : Addr) : Prop where
  tab : SqT K H a (R.table.map oV)
  old : SqT K H o (R.old.map nV)
theorem RingAt.mono {H H' : Hp} {R : Par} {a o : Addr} (e : Tps H H') (h : RingAt K H R a o) : RingAt K H' R a o := ⟨e.tup h.tab, e.tup h.old⟩

/-! ### wish_at -/
def spWishAt (K : PySem.W.Frag) : Sp := fun vs H Q _ => ∃ (q : Addr) (found : List Nat) (ahead : Option Nat) (k : Nat) (tb : List (Option Nat)) (st : Nat), vs = [.ref q, oV ahead, .int k] ∧ SqT K H q (found.map nV) ∧ WF tb st found ahead ∧ Q (oV (wsh tb st k)) H
theorem scWishAt : FnScope ["found", "ahead", "number"] ["found", "ahead", "number"] (defScope sWishAt) := ⟨rfl, rfl, rfl, by decide +kernel, rfl, by decide +kernel, by decide +kernel⟩
theorem ok_wishAt {f : Addr} {fd : FuncData} (F : Fun K "wish_at" "wish_at" sWishAt f fd) (T : Fre mg) : FnOk P w K mg base CX0 1 f fd ["found", "ahead", "number"] (spWishAt K) := by
  refine F.ok scWishAt (fun vs H Q E h => ?_) (fun cdv A outer s H vs Q E hr h => ?_)
  · obtain ⟨q, found, ahead, k, tb, st, rfl, _⟩ := h
    rfl
  · obtain ⟨q, found, ahead, k, tb, st, rfl, hS, W, hq⟩ := h
    refine ⟨_, pss_cons (ps_if (pt_cmpR op_lt (pv 2) (pe_callB call_len_seq (by rfl) T.len PySem.boot_len (pa_cons (pv 0) pa_nil)) (nomark _)) (pss_one (ps_ret (pe_ix ix_tup (pv 0) (pv 2) (fun _ _ => rfl)))) pss_nil)
      (pss_cons (ps_if (pt_cmpR op_isN (pv 1) pe_non (nomark _)) (pss_one (ps_ret pe_non)) pss_nil)
      (pss_one (ps_ret (pe_ix ix_tup (pv 0) (pe_op op_add (pv 1) (pe_op op_mod (pe_op op_sub (pv 2) (pv 1)) (pe_op op_sub (pe_callB call_len_seq (by rfl) T.len PySem.boot_len (pa_cons (pv 0) pa_nil)) (pv 1)))) (fun _ _ => rfl))))), ?_⟩
    refine ⟨_, rfl, _, rfl, q, _, rfl, .inr hS, _, _, rfl, rfl, _, rfl, ?_⟩
    rw [List.length_map]
    by_cases hk : k < found.length
    · rw [decide_eq_true (show (k : Int) < (found.length : Int) by omega)]
      refine iteT ⟨_, rfl, _, rfl, q, _, _, _, rfl, rfl, hS, at_map (List.getElem?_eq_getElem hk), ?_⟩
      rw [W.some_of hk] at hq
      exact hq
    · rw [decide_eq_false (show ¬ (k : Int) < (found.length : Int) by omega)]
      refine iteF ?_
      cases ha : ahead with
      | none =>
        rw [wsh_none_le (W.fin0 ha) (by omega)] at hq
        exact ⟨_, rfl, rfl, true, rfl, iteT hq⟩
      | some p =>
        obtain ⟨hp, _⟩ := W.fin1 p ha
        have hm := Nat.mod_lt (k - p) (show found.length - p > 0 by omega)
        have hi : p + (k - p) % (found.length - p) < found.length := by omega
        have ew := W.wishAt_eq k
        unfold wishAt at ew
        rw [if_neg hk, ha] at ew
        have ew2 : found[p + (k - p) % (found.length - p)]? = wsh tb st k := ew
        rw [← ew2, List.getElem?_eq_getElem hi] at hq
        have e1 : (k : Int) - (p : Int) = ((k - p : Nat) : Int) := by omega
        have e2 : (found.length : Int) - (p : Int) = ((found.length - p : Nat) : Int) := by omega
        refine ⟨_, rfl, rfl, false, rfl, iteF ?_⟩
        refine ⟨_, rfl, _, rfl, _, rfl, _, rfl, _, _, rfl, rfl, _, rfl, q, _, rfl, .inr hS, _, rfl, _, _, rfl, rfl, _, _, rfl, rfl, ?_, _, _, rfl, rfl, q, _, _, _, rfl, rfl, hS, ?_, hq⟩
        · rw [List.length_map]
          omega
        · refine at_of (j := p + (k - p) % (found.length - p)) ?_ (by rw [List.getElem?_map, List.getElem?_eq_getElem hi]; rfl)
          rw [List.length_map, e1, e2]
          rfl

/-! ### first_stop -/
def spFirst (K : PySem.W.Frag) : Sp := fun vs H Q _ => ∃ (R : Par) (a o : Addr), vs = [.ref a, .ref o, .int R.start] ∧ RingAt K H R a o ∧ Bnd R ∧ ∀ first H', FS R.table R.old R.start first → Same H H' → Q (oV first) H'
theorem scFirst : FnScope ["table", "old", "start", "found", "ahead", "period", "number"] ["table", "old", "start"] (defScope sFirst) := ⟨rfl, rfl, rfl, by decide +kernel, rfl, by decide +kernel, by decide +kernel⟩
theorem flat_o (z : Option Nat) : flatV (oV z) = true := by cases z <;> rfl
theorem in_stop (z : Option Nat) (o : Nat) : inV (oV z) [.non, nV o] = decide (z = none ∨ z = some o) := by
  cases z with
  | none => rfl
  | some v =>
    show (([V.non, nV o] : List V).any fun y => eqV y (.int (v : Int))) = _
    by_cases h : v = o
    · subst h
      rw [decide_eq_true (Or.inr rfl)]
      simp [eqV, nV]
    · have h2 : ¬ ((some v : Option Nat) = none ∨ some v = some o) := by
        rintro (z | z)
        · cases z
        · exact h (Option.some.inj z)
      rw [decide_eq_false h2]
      simp [eqV, nV]
      omega
theorem ok_first {f : Addr} {fd : FuncData} (F : Fun K "first_stop" "first_stop" sFirst f fd) (T : Fre mg) (H1 : Has P w K mg base 1 "wishes_from" ["table", "start"] (spWishes K)) (H2 : Has P w K mg base 1 "wish_at" ["found", "ahead", "number"] (spWishAt K)) :
    FnOk P w K mg base CX0 2 f fd ["table", "old", "start"] (spFirst K) := by
  refine F.ok scFirst (fun vs H Q E h => ?_) (fun cdv A outer s H vs Q E hr h => ?_)
  · obtain ⟨R, a, o, rfl, _⟩ := h
    rfl
  · obtain ⟨R, a, o, rfl, RA, B, q⟩ := h
    have nd := scFirst.nd
    have ok := B.ok
    have t6 := B.t6
    have o6 := B.o6
    have op := ok.oldp
    refine ⟨_, pss_cons (ps_asg (pe_has H1 hr (by rfl) (pa_cons (pv 0) (pa_cons (pv 2) pa_nil))) (pg_tup rfl (pgs_cons (pg_name (i := 3) nd rfl (.inl rfl)) (pgs_cons (pg_name (i := 4) nd rfl (.inl rfl)) pgs_nil))))
      (pss_cons (ps_set (i := 5) nd rfl (.inl rfl) (pe_ifExp (pt_cmpR op_isN (pv 4) pe_non (nomark _)) pe_int (pe_op op_sub (pe_callB call_len_seq (by rfl) T.len PySem.boot_len (pa_cons (pv 3) pa_nil)) (pv 4))))
      (pss_cons (ps_for PassesOwn.never rfl (pi_range2 (by rfl) T.range (pa_cons pe_int (pa_cons (pe_op op_add (pe_op op_add (pe_callB call_len_seq (by rfl) T.len PySem.boot_len (pa_cons (pv 3) pa_nil)) (pe_op op_mul (pv 5) (pe_callB call_len_seq (by rfl) T.len PySem.boot_len (pa_cons (pv 1) pa_nil)))) pe_int) pa_nil))) (pg_name (i := 6) nd rfl (.inl rfl))
        (pss_one (ps_if (pt_cmpR op_in_seq (pe_has H2 hr (by rfl) (pa_cons (pv 3) (pa_cons (pv 4) (pa_cons (pv 6) pa_nil)))) (pe_tup (pa_cons pe_non (pa_cons (pe_ix ix_tup (pv 1) (pe_op op_mod (pv 6) (pe_callB call_len_seq (by rfl) T.len PySem.boot_len (pa_cons (pv 1) pa_nil))) (fun _ _ => rfl)) pa_nil))) rfl) (pss_one (ps_ret (pv 6))) pss_nil)))
      (pss_one (ps_ret pe_non)))), ?_⟩
    refine ⟨_, rfl, _, rfl, a, R.table, R.start, rfl, RA.tab, t6, ok.startlt, ok.items, fun found ahead H1 p0 fq W hfl s1 hp0 hfq => ⟨p0, _, rfl, hp0, rfl, _, _, rfl, _, _, rfl, rfl, ?_⟩⟩
    have RA1 := RA.mono s1.tps
    -- the loop, with the period known
    have loop : ∀ (pr : Nat), pr = period found.length ahead → tSeq (tFor (iRng2 (tCons (tC (.int 1)) (tCons (tOp (rI0 fun i j => .int (i + j)) (tOp (rI0 fun i j => .int (i + j)) (tCB (rLenK K) (tCons (tVar 3) tNil)) (tOp (rI CMul fun i j => .int (i * j)) (tVar 5) (tCB (rLenK K) (tCons (tVar 1) tNil)))) (tC (.int 1))) tNil))) (gName 6)
        (tIfS (tTest (tOp (rIn K false) (tCall (spWishAt K) [] E0 (tCons (tVar 3) (tCons (tVar 4) (tCons (tVar 6) tNil)))) (tTup (tCons (tC .non) (tCons (tOp (rIxT K) (tVar 1) (tOp (rI (fun _ j => 0 < j) fun i j => .int (i % j)) (tVar 6) (tCB (rLenK K) (tCons (tVar 1) tNil)))) tNil))))) (tRet (tVar 6)) tNext)) (tRet (tC .non))
        { nx := fun _ H' => Q .non H', rt := Q } [some (.ref a), some (.ref o), some (.int R.start), some (.ref fq), some (oV ahead), some (.int (pr : Int)), none] H1 := fun pr epr => by
      have hpr : pr ≤ 6 := by
        rw [epr]
        unfold period
        cases ahead with
        | none => exact (by decide : 1 ≤ 6)
        | some p =>
          show found.length - p ≤ 6
          omega
      have hmul : ((pr : Int) * (R.old.length : Int)) = ((pr * R.old.length : Nat) : Int) := by rw [Int.natCast_mul]
      have hmb : pr * R.old.length ≤ 36 := Nat.mul_le_mul hpr o6
      refine ⟨_, rfl, fq, _, rfl, .inr hfq, _, rfl, _, rfl, o, _, rfl, .inr RA1.old, _, _, rfl, rfl, .inl ⟨by omega, by omega⟩, _, _, rfl, rfl, _, _, rfl, rfl, _, _, rfl, ?_, ?_⟩
      · rw [List.length_map, List.length_map, hmul]
        omega
      rw [List.length_map, List.length_map, hmul]
      have en : (((found.length : Int) + ((pr * R.old.length : Nat) : Int) + 1) - 1).toNat = found.length + pr * R.old.length := by omega
      rw [en]
      refine for_range (lo := 1) (n := found.length + pr * R.old.length) (fun i σ H' => ∃ y, σ = [some (.ref a), some (.ref o), some (.int R.start), some (.ref fq), some (oV ahead), some (.int (pr : Int)), y] ∧ Same H1 H' ∧ ∀ j, 1 ≤ j → j ≤ i → ¬ StopO R.table R.old R.start j) ⟨none, rfl, Same.refl _, fun j h1 h2 => by omega⟩ ?_ ?_
      · rintro i σ H' hi ⟨y, rfl, sm, hno⟩
        have ei : (1 : Int) + (i : Int) = ((i + 1 : Nat) : Int) := by omega
        rw [ei]
        have RA2 := RA1.mono sm.tps
        have hfq2 := sm.tup hfq
        have hml := Nat.mod_lt (i + 1) op
        have eo := getD_at hml
        refine ⟨_, rfl, _, rfl, _, rfl, fq, found, ahead, i + 1, R.table, R.start, rfl, hfq2, W, _, rfl, _, rfl, _, rfl, o, _, rfl, .inr RA2.old, _, _, rfl, rfl, ?_, o, _, _, nV (R.old.getD ((i + 1) % R.old.length) 0), rfl, rfl, RA2.old, ?_, (by show 2 ≤ sizeLine; decide), fun p np => ?_⟩
        · rw [List.length_map]
          omega
        · refine at_of (j := (i + 1) % R.old.length) ?_ (by rw [List.getElem?_map, eo]; rfl)
          rw [List.length_map]
          rfl
        have s2 : Same H' (upd H' p (.tup [.non, nV (R.old.getD ((i + 1) % R.old.length) 0)])) := same_upd np
        refine ⟨p, _, rfl, .inr (SqT.of upd_same), flat_o _, rfl, _, rfl, ?_⟩
        show if (inV (oV (wsh R.table R.start (i + 1))) [.non, nV (R.old.getD ((i + 1) % R.old.length) 0)]) = true then _ else _
        rw [in_stop]
        have est : StopO R.table R.old R.start (i + 1) ↔ (wsh R.table R.start (i + 1) = none ∨ wsh R.table R.start (i + 1) = some (R.old.getD ((i + 1) % R.old.length) 0)) := by
          unfold StopO
          rw [eo]
        refine ite2 (fun e => ?_) (fun e => ?_)
        · have hs := est.mpr (of_decide_eq_true e)
          exact ⟨_, rfl, q (some (i + 1)) _ ⟨by omega, hs, fun j j1 j2 => hno j j1 (by omega)⟩ ((s1.trans sm).trans s2)⟩
        · refine ⟨_, rfl, sm.trans s2, fun j j1 j2 => ?_⟩
          by_cases hj : j ≤ i
          · exact hno j j1 hj
          · have : j = i + 1 := by omega
            rw [this]
            exact fun z => e (decide_eq_true (est.mp z))
      · rintro σ H' ⟨y, rfl, sm, hno⟩
        refine q none H' (W.fs_none fun j j1 j2 => hno j j1 ?_) (s1.trans sm)
        rw [← epr] at j2
        omega
    cases ha : ahead with
    | none =>
      rw [ha] at loop
      exact ⟨_, rfl, rfl, true, rfl, iteT (loop 1 rfl)⟩
    | some p =>
      rw [ha] at loop
      obtain ⟨hp, _⟩ := W.fin1 p ha
      refine ⟨_, rfl, rfl, false, rfl, iteF ⟨_, rfl, fq, _, rfl, .inr hfq, _, rfl, _, _, rfl, rfl, ?_⟩⟩
      have z := loop (found.length - p) rfl
      have e2 : ((found.length - p : Nat) : Int) = (((found.map nV).length : Nat) : Int) - (p : Int) := by
        rw [List.length_map]
        omega
      rw [e2] at z
      exact z
end
end Ech

set_option Elab.async false
set_option linter.all false
set_option maxRecDepth 100000
set_option maxHeartbeats 4000000
namespace Ech
open PySem PySem.Spec PyProof.Rows L2 RZ StX
section
variable {P : Program} {w : World} {K : PySem.W.Frag} {mg : Str → Option Value} {base : Heap}

/-! ### calls with closed=.. -/
theorem fun_kb {x qual : Str} {st : Stmt} {f : Addr} {fd : FuncData} {ps : List Str} (F : Fun K x qual st f fd) (n : Nat)
    (h : ∀ (kV doc pm : Value) (an : Option Addr) (cdv ct : Value) (us ws : List Value), us.length = n → ws.length = 1 → bindArgs (PySem.W.fnOf x qual (defArgs st) (defBody st) (defScope st) .none kV doc pm an cdv ct) ⟨us, (["closed"] : List Str).zip ws⟩ = pure (ps.zip (us ++ ws))) :
    KBn K fd ps n ["closed"] (fun us ws => us ++ ws) (fun vs zs => vs ++ zs) := by
  obtain ⟨oc, od, kV, doc, pm, an, cdv, ct, osl, rfl, lk, hcd⟩ := F.ex
  exact ⟨fun s us ws _ l1 l2 => .of_eq (h kV doc pm an cdv ct us ws l1 l2), fun r1 r2 => r1.append r2⟩
def HasK (P : Program) (w : World) (K : PySem.W.Frag) (mg : Str → Option Value) (base : Heap) (k : Nat) (x : Str) (ps : List Str) (n : Nat) (sp : Sp) : Prop :=
  ∃ f fd, FnOk P w K mg base CX0 k f fd ps sp ∧ mg x = some (.ref f) ∧ PySem.W.keepIn K (.ref f) = true ∧ KBn K fd ps n ["closed"] (fun us ws => us ++ ws) (fun vs zs => vs ++ zs)
theorem pe_hasK {X : Cx} {j k n : Nat} {x : Str} {ps : List Str} {sp : Sp} {p pos : Pos} {e : Expr} {es : List Expr} {kws : List Keyword} {t tk : TA} (h : HasK X.prog X.w X.K X.mg X.base j x ps n sp) (hr : Room k X.A) (hg : Gl X x) (ha : PA X (e :: es) t) (hkw : PK X kws tk)
    (hjk : j ≤ k := by decide) (hall : (backToKw pos (keywordEach kws X.env)).all (·.1.isSome) = true := by rfl) (hks : (backToKw pos (keywordEach kws X.env)).filterMap (·.1) = (["closed"] : List Str) := by rfl)
    (hdb : (x == ("__debug__" : Str)) = false := by decide) (he : starEach (e :: es) X.env = (false, eval e X.env) :: starEach es X.env := by rfl)
    (hpl : ((backTo pos (starEach (e :: es) X.env)).any (·.1) || (backToKw pos (keywordEach kws X.env)).any (·.1.isNone)) = false := by rfl) :
    PE X (.Call (.Name x p) (e :: es) kws pos) (tCallN n 1 sp (fun vs zs => vs ++ zs) E0 t tk) := by
  obtain ⟨f, fd, F, m, kp, b⟩ := h
  exact pe_callN F (hr.mono hjk) hg m kp b pass0 ha hkw hall hks hdb he hpl

/-! ### require_many -/
def spReqMany : Sp := fun vs H Q _ => ∃ n : Nat, vs = [.int n] ∧ 2 ≤ n ∧ n ≤ 1000 ∧ Q .non H
theorem scReqMany : FnScope ["many"] ["many"] (defScope sReqMany) := ⟨rfl, rfl, rfl, by decide +kernel, rfl, by decide +kernel, by decide +kernel⟩
theorem ok_reqMany {f : Addr} {fd : FuncData} (F : Fun K "require_many" "require_many" sReqMany f fd) (C : Cns mg) (H1 : Has P w K mg base 1 "is_integer" ["value", "low", "high"] spIsInt) : FnOk P w K mg base CX0 2 f fd ["many"] spReqMany := by
  refine F.ok scReqMany (fun vs H Q E h => ?_) (fun cdv A outer s H vs Q E hr h => ?_)
  · obtain ⟨n, rfl, _⟩ := h
    rfl
  · obtain ⟨n, rfl, h2, h3, q⟩ := h
    refine ⟨_, pss_one (ps_if (pt_not (pt_val (pe_has H1 hr (by rfl) (pa_cons (pv 0) (pa_cons pe_int (pa_cons (pe_glo (by rfl) C.far) pa_nil)))))) (pss_one ps_never) pss_nil), ?_⟩
    refine ⟨_, rfl, n, 2, 10 ^ 18, rfl, _, rfl, ?_⟩
    rw [decide_eq_true (show (2 : Int) ≤ (n : Int) ∧ (n : Int) ≤ 10 ^ 18 by omega)]
    exact iteF q

/-! ### firings -/
def spFirings (K : PySem.W.Frag) : Sp := fun vs H Q _ => ∃ (R : Par) (a o : Addr), vs = [.ref a, .ref o, .int R.start, .int R.many, .bl R.closed] ∧ RingAt K H R a o ∧ Bnd R ∧ ∀ total H', IsFir R total → Same H H' → Q (oV total) H'
theorem scFirings : FnScope ["table", "old", "start", "many", "closed", "first", "found", "ahead"] ["table", "old", "start", "many", "closed"] (defScope sFirings) := ⟨rfl, rfl, rfl, by decide +kernel, rfl, by decide +kernel, by decide +kernel⟩
theorem ok_firings {f : Addr} {fd : FuncData} (F : Fun K "firings" "firings" sFirings f fd) (T : Fre mg) (H1 : Has P w K mg base 2 "require_many" ["many"] spReqMany) (H2 : Has P w K mg base 2 "first_stop" ["table", "old", "start"] (spFirst K)) (H3 : Has P w K mg base 1 "wishes_from" ["table", "start"] (spWishes K)) :
    FnOk P w K mg base CX0 3 f fd ["table", "old", "start", "many", "closed"] (spFirings K) := by
  refine F.ok scFirings (fun vs H Q E h => ?_) (fun cdv A outer s H vs Q E hr h => ?_)
  · obtain ⟨R, a, o, rfl, _⟩ := h
    rfl
  · obtain ⟨R, a, o, rfl, RA, B, q⟩ := h
    have nd := scFirings.nd
    have ok := B.ok
    have m2 := B.m2
    have m4 := B.m4
    have t6 := B.t6
    have op := ok.oldp
    refine ⟨_, pss_cons (ps_expr (pe_has H1 hr (by rfl) (pa_cons (pv 3) pa_nil)))
      (pss_cons (ps_if (pt_cmpR op_eq (ix0 (pv 1)) (pv 2) (nomark _)) (pss_one (ps_ret pe_int)) pss_nil)
      (pss_cons (ps_set (i := 5) nd rfl (.inl rfl) (pe_has H2 hr (by rfl) (pa_cons (pv 0) (pa_cons (pv 1) (pa_cons (pv 2) pa_nil)))))
      (pss_cons (ps_if (PW.pt (pw_and (pt_cmpR op_notN (pv 5) pe_non (nomark _)) (pw_and1 (pt_cmpR op_lt (pv 5) (pv 3) (nomark _))))) (pss_one (ps_ret (pv 5))) pss_nil)
      (pss_cons (ps_if (pt_not (pt_truth (pv 4) (by intro _; rfl))) (pss_one (ps_ret (pe_op op_sub (pv 3) pe_int))) pss_nil)
      (pss_cons (ps_asg (pe_has H3 hr (by rfl) (pa_cons (pv 0) (pa_cons (pv 2) pa_nil))) (pg_tup rfl (pgs_cons (pg_name (i := 6) nd rfl (.inl rfl)) (pgs_cons (pg_name (i := 7) nd rfl (.inl rfl)) pgs_nil))))
      (pss_cons (ps_if (pt_cmpR op_isN (pv 7) pe_non (nomark _)) (pss_one (ps_ret (pe_callB call_len_seq (by rfl) T.len PySem.boot_len (pa_cons (pv 6) pa_nil)))) pss_nil)
      (pss_one (ps_ret (pe_ifExp (pt_cmpR op_eq (pe_op op_mod (pv 3) (pe_op op_sub (pe_callB call_len_seq (by rfl) T.len PySem.boot_len (pa_cons (pv 6) pa_nil)) (pv 7))) pe_int (nomark _)) (pe_op op_add (pv 3) (pv 7)) pe_non))))))))), ?_⟩
    refine ⟨_, rfl, R.many, rfl, m2, by omega, ?_⟩
    have eo : R.old[0]? = some (R.old.getD 0 0) := getD_at op
    refine ⟨_, rfl, o, _, 0, _, rfl, rfl, RA.old, atI_nat (j := 0) (by rw [List.getElem?_map, eo]; rfl), _, rfl, rfl, _, rfl, ?_⟩
    by_cases h0 : R.old.getD 0 0 = R.start
    · rw [decide_eq_true (show nV (R.old.getD 0 0) = V.int (R.start : Int) by rw [h0]; rfl)]
      exact iteT (q (some 0) H (fir_same ok h0) (Same.refl _))
    rw [decide_eq_false (show ¬ nV (R.old.getD 0 0) = V.int (R.start : Int) from fun z => h0 (by have := V.int.inj z; omega))]
    refine iteF ⟨_, rfl, _, rfl, _, rfl, R, a, o, rfl, RA, B, fun first H1 FSf s1 => ?_⟩
    have RA1 := RA.mono s1.tps
    -- what is left where no early stop is
    have late : (∀ f, first = some f → ¬ f < R.many) → ∀ found ahead, WF R.table R.start found ahead → Par.fir R first found.length ahead = Par.firL R found.length ahead := fun hf found ahead W => by
      unfold Par.fir
      rw [if_neg h0]
      cases first with
      | none => rfl
      | some f =>
        dsimp only
        rw [if_neg (hf f rfl)]
    -- from «if not closed» on
    have rest : (∀ f, first = some f → ¬ f < R.many) → tSeq (tIfS (tNot (fun σ H Q => tVar 4 σ H fun x H' => ∃ k, TruV K x H' k ∧ Q k H')) (tRet (tOp (rI0 fun i j => .int (i - j)) (tVar 3) (tC (.int 1)))) tNext)
        (tSeq (tAsg (tCall (spWishes K) [] E0 (tCons (tVar 0) (tCons (tVar 2) tNil))) (gTup K 2 (gCons (gName 6) (gCons (gName 7) gNil))))
        (tSeq (tIfS (tTest (tOp (fun x y H Q => y = .non ∧ Q (.bl (decide (x = .non))) H) (tVar 7) (tC .non))) (tRet (tCB (rLenK K) (tCons (tVar 6) tNil))) tNext)
        (tRet (tIf (tTest (tOp rEq (tOp (rI (fun _ j => 0 < j) fun i j => .int (i % j)) (tVar 3) (tOp (rI0 fun i j => .int (i - j)) (tCB (rLenK K) (tCons (tVar 6) tNil)) (tVar 7))) (tC (.int 0)))) (tOp (rI0 fun i j => .int (i + j)) (tVar 3) (tVar 7)) (tC .non)))))
        { nx := fun _ H' => Q .non H', rt := Q } [some (.ref a), some (.ref o), some (.int R.start), some (.int R.many), some (.bl R.closed), some (oV first), none, none] H1 := fun hf => by
      refine ⟨_, rfl, R.closed, rfl, ?_⟩
      cases hc : R.closed with
      | false =>
        refine iteT ⟨_, rfl, _, _, rfl, rfl, ?_⟩
        obtain ⟨found, ahead, W⟩ := exists_wf ok.startlt ok.items
        have e1 := late hf found ahead W
        unfold Par.firL at e1
        rw [if_pos hc] at e1
        have z := q (some (R.many - 1)) H1 ⟨found, ahead, first, W, FSf, e1.symm⟩ s1
        have e2 : ((R.many - 1 : Nat) : Int) = (R.many : Int) - 1 := by omega
        have z2 : Q (.int ((R.many - 1 : Nat) : Int)) H1 := z
        rw [e2] at z2
        exact z2
      | true =>
        refine iteF ⟨_, rfl, _, rfl, a, R.table, R.start, rfl, RA1.tab, t6, ok.startlt, ok.items, fun found ahead H2 p2 q2 W hfl s2 hp2 hq2 => ⟨p2, _, rfl, hp2, rfl, _, _, rfl, _, _, rfl, rfl, ?_⟩⟩
        have e1 := late hf found ahead W
        unfold Par.firL at e1
        rw [if_neg (by rw [hc]; exact Bool.noConfusion)] at e1
        cases ha : ahead with
        | none =>
          rw [ha] at e1
          refine ⟨_, rfl, rfl, true, rfl, iteT ⟨_, rfl, q2, _, rfl, .inr hq2, ?_⟩⟩
          have z := q (some found.length) H2 ⟨found, none, first, ha ▸ W, FSf, e1.symm⟩ (s1.trans s2)
          rw [List.length_map]
          exact z
        | some p =>
          rw [ha] at e1
          obtain ⟨hp, _⟩ := W.fin1 p ha
          have e2 : (((found.map nV).length : Nat) : Int) - (p : Int) = ((found.length - p : Nat) : Int) := by
            rw [List.length_map]
            omega
          refine ⟨_, rfl, rfl, false, rfl, iteF ⟨_, rfl, _, rfl, q2, _, rfl, .inr hq2, _, rfl, _, _, rfl, rfl, _, _, rfl, rfl, ?_, rfl, _, rfl, ?_⟩⟩
          · rw [e2]
            omega
          · rw [e2]
            have e1' : Par.fir R first found.length (some p) = if R.many % (found.length - p) = 0 then some (R.many + p) else none := e1
            show if decide (V.int ((R.many % (found.length - p) : Nat) : Int) = V.int 0) = true then _ else _
            by_cases hd : R.many % (found.length - p) = 0
            · rw [decide_eq_true (show V.int ((R.many % (found.length - p) : Nat) : Int) = V.int 0 by rw [hd]; rfl)]
              refine iteT ⟨_, rfl, _, rfl, _, _, rfl, rfl, ?_⟩
              rw [if_pos hd] at e1'
              exact q (some (R.many + p)) H2 ⟨found, some p, first, ha ▸ W, FSf, e1'.symm⟩ (s1.trans s2)
            · rw [decide_eq_false (show ¬ V.int ((R.many % (found.length - p) : Nat) : Int) = V.int 0 from fun z => hd (by have := V.int.inj z; omega))]
              rw [if_neg hd] at e1'
              exact iteF (q none H2 ⟨found, some p, first, ha ▸ W, FSf, e1'.symm⟩ (s1.trans s2))
    cases hfi : first with
    | none =>
      rw [hfi] at rest
      exact ⟨_, rfl, rfl, false, rfl, iteF (iteF (rest fun f z => nomatch z))⟩
    | some f =>
      refine ⟨_, rfl, rfl, true, rfl, iteT ⟨_, rfl, _, rfl, _, _, rfl, rfl, _, rfl, ?_⟩⟩
      by_cases hf : f < R.many
      · rw [decide_eq_true (show (f : Int) < (R.many : Int) by omega)]
        refine iteT ⟨_, rfl, ?_⟩
        obtain ⟨found, ahead, W⟩ := exists_wf ok.startlt ok.items
        refine q (some f) H1 ⟨found, ahead, some f, W, hfi ▸ FSf, ?_⟩ s1
        unfold Par.fir
        rw [if_neg h0]
        dsimp only
        rw [if_pos hf]
      · rw [decide_eq_false (show ¬ (f : Int) < (R.many : Int) by omega)]
        rw [hfi] at rest
        exact iteF (rest fun g z => by cases z; exact hf)

/-! ### changes_done -/
def spChanges (K : PySem.W.Frag) : Sp := fun vs H Q _ => ∃ (R : Par) (a o : Addr) (t : Nat), vs = [.ref a, .ref o, .int R.start, .int R.many, .int t, .bl R.closed] ∧ RingAt K H R a o ∧ Bnd R ∧ ∀ (d : Nat) H', IsDone R t d → Same H H' → Q (.int d) H'
theorem scChanges : FnScope ["table", "old", "start", "many", "times", "closed", "total", "first"] ["table", "old", "start", "many", "times", "closed"] (defScope sChanges) := ⟨rfl, rfl, rfl, by decide +kernel, rfl, by decide +kernel, by decide +kernel⟩
theorem ok_changes {f : Addr} {fd : FuncData} (F : Fun K "changes_done" "changes_done" sChanges f fd) (H1 : HasK P w K mg base 3 "firings" ["table", "old", "start", "many", "closed"] 4 (spFirings K)) (H2 : Has P w K mg base 2 "first_stop" ["table", "old", "start"] (spFirst K)) :
    FnOk P w K mg base CX0 4 f fd ["table", "old", "start", "many", "times", "closed"] (spChanges K) := by
  refine F.ok scChanges (fun vs H Q E h => ?_) (fun cdv A outer s H vs Q E hr h => ?_)
  · obtain ⟨R, a, o, t, rfl, _⟩ := h
    rfl
  · obtain ⟨R, a, o, t, rfl, RA, B, q⟩ := h
    have nd := scChanges.nd
    have m2 := B.m2
    refine ⟨_, pss_cons (ps_set (i := 6) nd rfl (.inl rfl) (pe_hasK H1 hr (by rfl) (pa_cons (pv 0) (pa_cons (pv 1) (pa_cons (pv 2) (pa_cons (pv 3) pa_nil)))) (pk_cons (pv 5) pk_nil)))
      (pss_cons (ps_if (PW.pt (pw_or (pt_cmpR op_isN (pv 6) pe_non (nomark _)) (pw_or1 (pt_cmpR op_lt (pv 4) (pv 6) (nomark _))))) (pss_one (ps_ret (pv 4))) pss_nil)
      (pss_cons (ps_set (i := 7) nd rfl (.inl rfl) (pe_has H2 hr (by rfl) (pa_cons (pv 0) (pa_cons (pv 1) (pa_cons (pv 2) pa_nil)))))
      (pss_cons (ps_if (PW.pt (pw_or (pt_cmpR op_eq (pv 6) pe_int (nomark _)) (pw_or1 (PW.pt (pw_and (pt_not (pt_truth (pv 5) (by intro _; rfl))) (pw_and1 (PW.pt (pw_or (pt_cmpR op_isN (pv 7) pe_non (nomark _)) (pw_or1 (pt_cmpR op_ge (pv 7) (pv 3) (nomark _))))))))))) (pss_one (ps_ret (pv 6))) pss_nil)
      (pss_one (ps_ret (pe_op op_sub (pv 6) pe_int)))))), ?_⟩
    refine ⟨_, rfl, _, rfl, _, rfl, _, rfl, _, rfl, rfl, rfl, R, a, o, rfl, RA, B, fun total H1 ht s1 => ?_⟩
    obtain ⟨found, ahead, first0, W, F0, et⟩ := ht
    cases htt : total with
    | none =>
      rw [htt] at et
      exact ⟨_, rfl, rfl, true, rfl, iteT (iteT ⟨_, rfl, q t H1 ⟨found, ahead, first0, none, W, F0, et, rfl⟩ s1⟩)⟩
    | some T =>
      rw [htt] at et
      refine ⟨_, rfl, rfl, false, rfl, iteF ⟨_, rfl, _, rfl, _, _, rfl, rfl, _, rfl, ?_⟩⟩
      by_cases hT : t < T
      · rw [decide_eq_true (show (t : Int) < (T : Int) by omega)]
        refine iteT ⟨_, rfl, q t H1 ⟨found, ahead, first0, some T, W, F0, et, ?_⟩ s1⟩
        show t = if t < T then t else _
        rw [if_pos hT]
      rw [decide_eq_false (show ¬ (t : Int) < (T : Int) by omega)]
      refine iteF ⟨_, rfl, _, rfl, _, rfl, R, a, o, rfl, RA.mono s1.tps, B, fun first H2 F1 s2 => ?_⟩
      have ef := fs_unique F0 F1
      subst ef
      have s12 := s1.trans s2
      -- the two ways out
      have yes : (T = 0 ∨ (R.closed = false ∧ ∀ f, first0 = some f → R.many ≤ f)) → Q (.int (T : Int)) H2 := fun h => by
        refine q T H2 ⟨found, ahead, first0, some T, W, F0, et, ?_⟩ s12
        show T = if t < T then t else if T = 0 ∨ (R.closed = false ∧ ∀ f, first0 = some f → R.many ≤ f) then T else T - 1
        rw [if_neg hT, if_pos h]
      have no : ¬ (T = 0 ∨ (R.closed = false ∧ ∀ f, first0 = some f → R.many ≤ f)) → Q (.int ((T : Int) - 1)) H2 := fun h => by
        have hT0 : T ≠ 0 := fun z => h (.inl z)
        have z : Q (.int ((T - 1 : Nat) : Int)) H2 := q (T - 1) H2 ⟨found, ahead, first0, some T, W, F0, et, by
          show T - 1 = if t < T then t else if T = 0 ∨ (R.closed = false ∧ ∀ f, first0 = some f → R.many ≤ f) then T else T - 1
          rw [if_neg hT, if_neg h]⟩ s12
        have e : ((T - 1 : Nat) : Int) = (T : Int) - 1 := by omega
        rw [e] at z
        exact z
      refine ⟨_, rfl, rfl, _, rfl, ?_⟩
      by_cases hT0 : T = 0
      · rw [decide_eq_true (show oV (some T) = V.int 0 by rw [hT0]; rfl)]
        exact iteT (iteT ⟨_, rfl, yes (.inl hT0)⟩)
      rw [decide_eq_false (show ¬ oV (some T) = V.int 0 from fun z => hT0 (by have := V.int.inj z; omega))]
      refine iteF ⟨_, rfl, R.closed, rfl, ?_⟩
      cases hc : R.closed with
      | true =>
        refine iteF (iteF ⟨_, rfl, _, _, rfl, rfl, no ?_⟩)
        rintro (z | ⟨z, _⟩)
        · exact hT0 z
        · rw [hc] at z
          cases z
      | false =>
        refine iteT ?_
        cases hfi : first0 with
        | none =>
          rw [hfi] at yes
          exact ⟨_, rfl, rfl, true, rfl, iteT (iteT ⟨_, rfl, yes (.inr ⟨hc, fun f z => nomatch z⟩)⟩)⟩
        | some g =>
          rw [hfi] at yes no
          refine ⟨_, rfl, rfl, false, rfl, iteF ⟨_, rfl, _, rfl, _, _, rfl, rfl, _, rfl, ?_⟩⟩
          by_cases hg : R.many ≤ g
          · rw [decide_eq_true (show (R.many : Int) ≤ (g : Int) by omega)]
            exact iteT ⟨_, rfl, yes (.inr ⟨hc, fun f z => by cases z; exact hg⟩)⟩
          · rw [decide_eq_false (show ¬ (R.many : Int) ≤ (g : Int) by omega)]
            refine iteF ⟨_, rfl, _, _, rfl, rfl, no ?_⟩
            rintro (z | ⟨_, z⟩)
            · exact hT0 z
            · exact hg (z g rfl)

/-! ### value_after -/
def spValue (K : PySem.W.Frag) : Sp := fun vs H Q _ => ∃ (R : Par) (a o : Addr) (fi t : Nat), vs = [.ref a, .ref o, .int R.start, .int R.many, .int fi, .int t, .bl R.closed] ∧ RingAt K H R a o ∧ Bnd R ∧ fi < R.many ∧ t ≤ 1000 ∧ ∀ H', Same H H' → Q (nV ((R.st t).1.getD fi 0)) H'
theorem scValue : FnScope ["table", "old", "start", "many", "field", "times", "closed", "done", "found", "ahead"] ["table", "old", "start", "many", "field", "times", "closed"] (defScope sValue) := ⟨rfl, rfl, rfl, by decide +kernel, rfl, by decide +kernel, by decide +kernel⟩
theorem ok_value {f : Addr} {fd : FuncData} (F : Fun K "value_after" "value_after" sValue f fd) (T : Fre mg) (C : Cns mg) (H1 : Has P w K mg base 2 "require_many" ["many"] spReqMany) (H2 : Has P w K mg base 1 "is_integer" ["value", "low", "high"] spIsInt) (H3 : Has P w K mg base 4 "changes_done" ["table", "old", "start", "many", "times", "closed"] (spChanges K))
    (H4 : Has P w K mg base 1 "wishes_from" ["table", "start"] (spWishes K)) (H5 : Has P w K mg base 1 "wish_at" ["found", "ahead", "number"] (spWishAt K)) : FnOk P w K mg base CX0 5 f fd ["table", "old", "start", "many", "field", "times", "closed"] (spValue K) := by
  refine F.ok scValue (fun vs H Q E h => ?_) (fun cdv A outer s H vs Q E hr h => ?_)
  · obtain ⟨R, a, o, fi, t, rfl, _⟩ := h
    rfl
  · obtain ⟨R, a, o, fi, t, rfl, RA, B, hfi, ht, q⟩ := h
    have nd := scValue.nd
    have ok := B.ok
    have m2 := B.m2
    have m4 := B.m4
    have t6 := B.t6
    have op := ok.oldp
    refine ⟨_, pss_cons (ps_expr (pe_has H1 hr (by rfl) (pa_cons (pv 3) pa_nil)))
      (pss_cons (ps_if (pt_not (pt_val (pe_has H2 hr (by rfl) (pa_cons (pv 4) (pa_cons pe_int (pa_cons (pe_op op_sub (pv 3) pe_int) pa_nil)))))) (pss_one ps_never) pss_nil)
      (pss_cons (ps_if (pt_not (pt_val (pe_has H2 hr (by rfl) (pa_cons (pv 5) (pa_cons pe_int (pa_cons (pe_glo (by rfl) C.far) pa_nil)))))) (pss_one ps_never) pss_nil)
      (pss_cons (ps_set (i := 7) nd rfl (.inl rfl) (pe_has H3 hr (by rfl) (pa_cons (pv 0) (pa_cons (pv 1) (pa_cons (pv 2) (pa_cons (pv 3) (pa_cons (pv 5) (pa_cons (pv 6) pa_nil))))))))
      (pss_cons (ps_if (pt_cmpR op_gt (pv 4) (pv 7) (nomark _)) (pss_one (ps_ret (pe_ix ix_tup (pv 1) (pe_op op_mod (pv 4) (pe_callB call_len_seq (by rfl) T.len PySem.boot_len (pa_cons (pv 1) pa_nil))) (fun _ _ => rfl)))) pss_nil)
      (pss_cons (ps_asg (pe_has H4 hr (by rfl) (pa_cons (pv 0) (pa_cons (pv 2) pa_nil))) (pg_tup rfl (pgs_cons (pg_name (i := 8) nd rfl (.inl rfl)) (pgs_cons (pg_name (i := 9) nd rfl (.inl rfl)) pgs_nil))))
      (pss_one (ps_ret (pe_has H5 hr (by rfl) (pa_cons (pv 8) (pa_cons (pv 9) (pa_cons (pe_op op_add (pv 4) (pe_op op_mul (pe_op op_fdiv (pe_op op_sub (pv 7) (pv 4)) (pv 3)) (pv 3))) pa_nil))))))))))), ?_⟩
    refine ⟨_, rfl, R.many, rfl, m2, by omega, ?_⟩
    refine ⟨_, rfl, _, rfl, _, _, rfl, rfl, fi, 0, _, rfl, _, rfl, ?_⟩
    rw [decide_eq_true (show (0 : Int) ≤ (fi : Int) ∧ (fi : Int) ≤ (R.many : Int) - 1 by omega)]
    refine iteF ⟨_, rfl, t, 0, 10 ^ 18, rfl, _, rfl, ?_⟩
    rw [decide_eq_true (show (0 : Int) ≤ (t : Int) ∧ (t : Int) ≤ 10 ^ 18 by omega)]
    refine iteF ⟨_, rfl, _, rfl, _, rfl, _, rfl, _, rfl, _, rfl, R, a, o, t, rfl, RA, B, fun d H1 hd s1 => ?_⟩
    have RA1 := RA.mono s1.tps
    have ev := done_val ok hd hfi
    unfold Par.val at ev
    refine ⟨_, rfl, _, rfl, _, _, rfl, rfl, _, rfl, ?_⟩
    by_cases hlt : d < fi
    · rw [decide_eq_true (show (d : Int) < (fi : Int) by omega)]
      rw [if_pos hlt] at ev
      refine iteT ⟨_, rfl, _, rfl, _, rfl, o, _, rfl, .inr RA1.old, _, _, rfl, rfl, ?_, o, _, _, _, rfl, rfl, RA1.old, at_of (j := fi % R.old.length) ?_ (by rw [List.getElem?_map, ev]; rfl), q H1 s1⟩
      · rw [List.length_map]
        omega
      · rw [List.length_map]
        rfl
    · rw [decide_eq_false (show ¬ (d : Int) < (fi : Int) by omega)]
      rw [if_neg hlt] at ev
      refine iteF ⟨_, rfl, _, rfl, a, R.table, R.start, rfl, RA1.tab, t6, ok.startlt, ok.items, fun found ahead H2 p2 q2 W hfl s2 hp2 hq2 => ⟨p2, _, rfl, hp2, rfl, _, _, rfl, _, _, rfl, rfl, ?_⟩⟩
      refine ⟨_, rfl, _, rfl, _, rfl, _, rfl, _, rfl, _, _, rfl, rfl, _, rfl, _, _, rfl, rfl, ⟨by omega, by omega⟩, _, rfl, _, _, rfl, rfl, .inr ⟨by omega, by omega⟩, _, _, rfl, rfl, q2, found, ahead, fi + (d - fi) / R.many * R.many, R.table, R.start, ?_, hq2, W, ?_⟩
      · have e1 : (d : Int) - (fi : Int) = ((d - fi : Nat) : Int) := by omega
        rw [e1]
        have e2 : ((d - fi : Nat) : Int) / (R.many : Int) * (R.many : Int) = (((d - fi) / R.many * R.many : Nat) : Int) := by
          rw [Int.natCast_mul]
          rfl
        rw [e2]
        show [V.ref q2, oV ahead, V.int ((fi : Int) + (((d - fi) / R.many * R.many : Nat) : Int))] = _
        rw [← Int.natCast_add]
      · have e3 : wsh R.table R.start (fi + (d - fi) / R.many * R.many) = some ((R.st t).1.getD fi 0) := ev
        rw [e3]
        exact q H2 (s1.trans s2)
end
end Ech

set_option Elab.async false
set_option linter.all false
namespace Ech
namespace Par
variable {R : Par}
/-- what is pending is a link -/
theorem step_pend {m : Mom} {k : Nat} (hm : ∀ k, m.2 = some k → k < R.nl) (h : (R.step m).2 = some k) : k < R.nl := by
  unfold step at h
  split at h
  · rename_i e
    rw [e] at h
    cases h
  · split at h
    · cases h
    · split at h
      · cases h
      · dsimp only at h
        split at h
        · rename_i q
          cases h
          exact q
        · cases h
theorem st_pend : ∀ (t : Nat) {k : Nat}, (R.st t).2 = some k → k < R.nl
  | 0, k, h => by
    have h' : R.init.2 = some k := h
    unfold init at h'
    split at h'
    · cases h'
    · dsimp only at h'
      split at h'
      · rename_i q
        cases h'
        exact q
      · cases h'
  | t + 1, k, h => step_pend (fun k => st_pend t) h
/-- the firings are few -/
theorem fir_le {found : List Nat} {ahead first : Option Nat} (W : WF R.table R.start found ahead) {n : Nat} (h : fir R first found.length ahead = some n) : n ≤ R.many + found.length := by
  unfold fir at h
  split at h
  · cases h
    exact Nat.zero_le _
  · split at h
    · rename_i f hf
      cases h
      split at hf
      · split at hf
        · rename_i g q
          cases hf
          omega
        · cases hf
      · cases hf
    · unfold firL at h
      split at h
      · cases h
        omega
      · cases ahead with
        | none =>
          cases h
          omega
        | some p =>
          dsimp only at h
          split at h
          · cases h
            obtain ⟨h1, _⟩ := W.fin1 p rfl
            omega
          · cases h
theorem st_ends_le (ok : R.Ok) {found : List Nat} {ahead first : Option Nat} (W : WF R.table R.start found ahead) (F : FS R.table R.old R.start first) :
    ∃ B, B ≤ R.many + found.length + found.length * R.many ∧ ((R.st B).2 = none ∨ ∃ A, A < B ∧ R.st B = R.st A) := by
  have hm := ok.many2
  have T := fir_tot ok W F
  have z := st_don ok W F (total := fir R first found.length ahead) rfl
  cases ht : fir R first found.length ahead with
  | some n =>
    have hn := fir_le W ht
    exact ⟨n, by omega, .inl ((z n).2.2.1.mpr ⟨n, ht, Nat.le_refl n⟩)⟩
  | none =>
    rw [ht] at T
    cases T with
    | goes h0 hc ns =>
      cases ha : ahead with
      | none => exact absurd (.inl (W.fin0 ha)) (ns found.length found.length W.pos (Nat.le_refl _))
      | some p =>
        obtain ⟨h1, _⟩ := W.fin1 p ha
        have hpp : 0 < (found.length - p) * R.many := Nat.mul_pos (by omega) (by omega)
        have hle : (found.length - p) * R.many ≤ found.length * R.many := Nat.mul_le_mul_right _ (Nat.sub_le _ _)
        refine ⟨p + R.many + (found.length - p) * R.many, by omega, .inr ⟨p + R.many, by omega, ?_⟩⟩
        rw [st_run ok h0 _ (ns _) (.inl hc), st_run ok h0 _ (ns _) (.inl hc)]
        have ep : R.pend (p + R.many + (found.length - p) * R.many) = R.pend (p + R.many) := by
          unfold pend
          rw [Nat.add_mul_mod_self_right]
        rw [ep]
        congr 1
        unfold fill
        apply List.map_congr_left
        intro j hj
        rw [List.mem_range] at hj
        congr 1
        unfold val
        rw [if_neg (by omega), if_neg (by omega)]
        have e1 : (p + R.many + (found.length - p) * R.many - j) / R.many = (p + R.many - j) / R.many + (found.length - p) := by
          rw [show p + R.many + (found.length - p) * R.many - j = (p + R.many - j) + (found.length - p) * R.many by omega, Nat.add_mul_div_right _ _ (by omega)]
        rw [e1, Nat.add_mul, ← Nat.add_assoc]
        have q := Nat.mod_add_div (p + R.many - j) R.many
        have ql := Nat.mod_lt (p + R.many - j) (show R.many > 0 by omega)
        rw [Nat.mul_comm] at q
        exact W.perN ha (by omega) R.many
/-- the answer of firings, where it is reached: the run is over -/
theorem fir_over (ok : R.Ok) {total : Option Nat} (h : IsFir R total) : (∀ t, (R.st t).2 = none ↔ ∃ n, total = some n ∧ n ≤ t) := fun t => by
  obtain ⟨found, ahead, first, W, F, e⟩ := h
  exact (st_don ok W F e t).2.2.1
/-- .. within thirty firings, or never -/
theorem fir_thirty (ok : R.Ok) (m4 : R.many ≤ 4) (t6 : R.table.length ≤ 6) {total : Option Nat} (h : IsFir R total) {n : Nat} (e : total = some n) : n ≤ 30 := by
  obtain ⟨found, ahead, first, W, F, et⟩ := h
  have h1 := fir_le W (et.symm.trans e)
  have h2 : found.length ≤ R.table.length := nodup_lt _ _ W.nd fun x hx => by
    obtain ⟨i, hi, ex⟩ := List.mem_iff_getElem.mp hx
    exact wsh_lt ok.startlt ok.items (by rw [W.some_of hi, ex])
  omega
end Par
end Ech

set_option Elab.async false
set_option linter.all false
set_option maxRecDepth 100000
set_option maxHeartbeats 4000000
namespace Ech
open PySem PySem.Spec PyProof.Rows L2 RZ StX

/-! ### tuples of whole numbers as data -/
def dN (fs : List Nat) : List PyData := fs.map fun (n : Nat) => PyData.int (n : Int)
theorem dpAll_ints {K : PySem.W.Frag} {H : Hp} : ∀ fs : List Nat, DpAll K H (fs.map nV) (dN fs)
  | [] => .nil
  | _ :: r => .cons (.int _) (dpAll_ints r)
theorem dp_ints {K : PySem.W.Frag} {H : Hp} {p : Addr} {fs : List Nat} (h : SqT K H p (fs.map nV)) : Dp K H (.ref p) (.tuple (dN fs)) := .tup h (dpAll_ints fs)
theorem dp_nil {K : PySem.W.Frag} {H : Hp} {p : Addr} (h : SqT K H p []) : Dp K H (.ref p) (.tuple []) := .tup h .nil
theorem eqv_ints : ∀ (xs ys : List Nat), PyData.eqvAll (dN xs) (dN ys) = decide (xs = ys)
  | [], [] => rfl
  | [], _ :: _ => rfl
  | _ :: _, [] => rfl
  | x :: xs, y :: ys => by
    show (((x : Int) == (y : Int)) && PyData.eqvAll (dN xs) (dN ys)) = decide (x :: xs = y :: ys)
    rw [eqv_ints xs ys]
    by_cases hx : x = y
    · subst hx
      by_cases hy : xs = ys
      · subst hy
        simp
      · simp [hy]
    · have : ¬ (x : Int) = (y : Int) := by omega
      simp [hx, this]
theorem eqv_tups (xs ys : List Nat) : PyData.eqv (.tuple (dN xs)) (.tuple (dN ys)) = decide (xs = ys) := eqv_ints xs ys
theorem canLay_ints : ∀ fs : List Nat, PyData.canLayAll0 (dN fs) = true
  | [] => rfl
  | x :: r => by
    show (PyData.canLay0 (.int (x : Int)) && PyData.canLayAll0 (dN r)) = true
    rw [canLay_ints r]
    rfl
theorem depth_ints : ∀ fs : List Nat, PyData.depthAll (dN fs) ≤ 1
  | [] => by show (0 : Nat) ≤ 1; decide
  | x :: r => by
    have ih := depth_ints r
    show max (PyData.depth (.int (x : Int))) (PyData.depthAll (dN r)) ≤ 1
    have : PyData.depth (.int (x : Int)) ≤ 1 := by show (0 : Nat) ≤ 1; decide
    omega
theorem shaped_ints (fs : List Nat) : SeqAt.shaped (.tuple (dN fs)) = true := by
  unfold SeqAt.shaped
  have h1 : PyData.canLay0 (.tuple (dN fs)) = true := canLay_ints fs
  have h2 : PyData.depth (.tuple (dN fs)) ≤ 64 := by
    have := depth_ints fs
    show PyData.depthAll (dN fs) + 1 ≤ 64
    omega
  rw [h1, decide_eq_true h2]
  rfl

/-! ### the dict seen: its keys moments -/
def nK (fs : List Nat) : NestedKey := .tup (fs.map fun (n : Nat) => .num (n : Int))
def momKey (x : Par.Mom) : NestedKey := .tup [.num 0, nK x.1, nK x.2.toList, .tup []]
theorem nK_inj : ∀ {xs ys : List Nat}, nK xs = nK ys → xs = ys
  | [], [], _ => rfl
  | [], _ :: _, h => by
    have h1 := NestedKey.tup.inj h
    cases h1
  | _ :: _, [], h => by
    have h1 := NestedKey.tup.inj h
    cases h1
  | x :: xs, y :: ys, h => by
    have h1 := NestedKey.tup.inj h
    rw [List.map_cons, List.map_cons] at h1
    injection h1 with h2 h3
    have h4 := NestedKey.num.inj h2
    have h5 : xs = ys := nK_inj (show nK xs = nK ys from congrArg NestedKey.tup h3)
    rw [h5, show x = y by omega]
theorem momKey_inj {x y : Par.Mom} (h : momKey x = momKey y) : x = y := by
  have h1 := NestedKey.tup.inj h
  injection h1 with _ h2
  injection h2 with h3 h4
  injection h4 with h5 _
  have e1 := nK_inj h3
  have e2 := nK_inj h5
  obtain ⟨x1, x2⟩ := x
  obtain ⟨y1, y2⟩ := y
  dsimp only at e1 e2
  rw [e1]
  cases x2 with
  | none =>
    cases y2 with
    | none => rfl
    | some b => cases e2
  | some a =>
    cases y2 with
    | none => cases e2
    | some b => cases e2; rfl
theorem nums_depth : ∀ fs : List Nat, NestedKey.depthAll (fs.map fun (n : Nat) => NestedKey.num (n : Int)) = 0
  | [] => by simp only [List.map_nil, NestedKey.depthAll]
  | x :: r => by
    rw [List.map_cons]
    simp only [NestedKey.depthAll, NestedKey.depth, nums_depth r]
    rfl
theorem momKey_depth (x : Par.Mom) : (momKey x).depth ≤ 8 := by
  unfold momKey nK
  simp only [NestedKey.depth, NestedKey.depthAll, nums_depth]
  decide
theorem nested_nums {h : Heap} : ∀ {fs : List Nat} {us : List Value}, Vals (fs.map nV) us → NestedAll h (fs.map fun (n : Nat) => NestedKey.num (n : Int)) us
  | [], _, r => by cases r; exact .nil
  | x :: r, _, q => by
    cases q with
    | cons q1 q2 =>
      obtain ⟨t, rfl⟩ := q1
      exact .cons (.int _ t) (nested_nums q2)
/-- the value at m is the moment x -/
def MomK (K : PySem.W.Frag) (H : Hp) (m : Addr) (x : Par.Mom) : Prop := ∃ f p e, SqT K H m [.int 0, .ref f, .ref p, .ref e] ∧ SqT K H f (x.1.map nV) ∧ SqT K H p (x.2.toList.map nV) ∧ SqT K H e []
theorem MomK.mono {K : PySem.W.Frag} {H H' : Hp} {m : Addr} {x : Par.Mom} (t : Tps H H') (h : MomK K H m x) : MomK K H' m x := by
  obtain ⟨f, p, e, h1, h2, h3, h4⟩ := h
  exact ⟨f, p, e, t.tup h1, t.tup h2, t.tup h3, t.tup h4⟩
theorem MomAt.key {K : PySem.W.Frag} {H : Hp} {R : Par} {m f p e : Addr} {x : Par.Mom} (M : MomAt K H R m f p e x) : MomK K H m x := ⟨f, p, e, M.top, M.fil.at_, M.pen, M.spe⟩
section
variable {X : Cx} {pins : List (Addr × Obj)} {σ : L2.St} {H : Hp} {s : Shared}
theorem nested_tup {a : Addr} {fs : List Nat} (I : Inv X pins σ H s) (h : SqT X.K H a (fs.map nV)) : NestedIs s.heap (nK fs) (.ref a) := by
  obtain ⟨its, r, ⟨o, h1, h2, n, h3⟩, _⟩ := I.tuple h
  exact .tup h1 h2 h3 (by simpa using nested_nums r)
theorem mom_is {m : Addr} {x : Par.Mom} (I : Inv X pins σ H s) (h : MomK X.K H m x) : (nestedKind X.prog X.w).is s.heap (momKey x) m := by
  obtain ⟨f, p, e, q1, q2, q3, q4⟩ := h
  refine ⟨?_, momKey_depth x⟩
  obtain ⟨its, r, ⟨o, h1, h2, n, h3⟩, _⟩ := I.tuple q1
  refine .tup h1 h2 h3 ?_
  cases r with
  | cons r1 r =>
    cases r with
    | cons r2 r =>
      cases r with
      | cons r3 r =>
        cases r with
        | cons r4 r =>
          cases r
          obtain ⟨t, rfl⟩ := r1
          cases r2
          cases r3
          cases r4
          have e4 : NestedIs s.heap (nK []) (.ref e) := nested_tup I (fs := []) q4
          exact .cons (.int 0 t) (.cons (nested_tup I q2) (.cons (nested_tup I q3) (.cons e4 .nil)))
end
/-- the entries of the dict: a moment, where it stands, its value -/
abbrev Ent := Par.Mom × Addr × V
abbrev NP : List Ent → List (NestedKey × Addr × Value) → Prop := Paired fun p q => momKey p.1 = q.1 ∧ p.2.1 = q.2.1 ∧ RelV p.2.2 q.2.2
def SeenO (P : Program) (w : World) (d : Addr) (kvs : List Ent) : HO := .ext fun h => (d == sysModules) = false ∧ ∃ xs, NP kvs xs ∧ ∃ o es ep, h.get? d = some o ∧ o.ExactDict ∧ o.data = .dict es ep ∧ es.toList = xs.map (entryOfKey (nestedKind P w)) ∧ (xs.map (·.1)).Nodup
theorem seen_new {P : Program} {w : World} {H : Hp} {h : Heap} {d : Addr} {kvs : List Ent} (hd : (d == sysModules) = false) {xs : List (NestedKey × Addr × Value)} (r : NP kvs xs) {o : Obj} {es : Array DictEntry} {ep : Nat}
    (h1 : h.get? d = some o) (h2 : o.ExactDict) (h3 : o.data = .dict es ep) (h4 : es.toList = xs.map (entryOfKey (nestedKind P w))) (h5 : (xs.map (·.1)).Nodup) : ObjOk P w H h d (SeenO P w d kvs) :=
  ⟨⟨hd, xs, r, o, es, ep, h1, h2, h3, h4, h5⟩, ⟨o, h1⟩, fun g1 g2 p k => by
    obtain ⟨z, xs, r, o, es, ep, h1, h⟩ := p
    exact ⟨z, xs, r, o, es, ep, k o h1, h⟩⟩
theorem NP.keys {kvs : List Ent} {xs : List (NestedKey × Addr × Value)} (r : NP kvs xs) : xs.map (·.1) = kvs.map fun p => momKey p.1 := by
  induction r with
  | nil => rfl
  | cons h t ih => rw [List.map_cons, List.map_cons, ih, h.1]
theorem NP.get {kvs : List Ent} {xs : List (NestedKey × Addr × Value)} (r : NP kvs xs) : ∀ {i : Nat} {p : Ent}, kvs[i]? = some p → ∃ u, xs[i]? = some (momKey p.1, p.2.1, u) ∧ RelV p.2.2 u := by
  induction r with
  | nil => intro i p h; simp at h
  | @cons a b _ _ h t ih =>
    intro i p e
    cases i with
    | zero =>
      rw [List.getElem?_cons_zero] at e
      cases e
      obtain ⟨q1, q2, u⟩ := b
      obtain ⟨e1, e2, e3⟩ := h
      dsimp only at e1 e2 e3
      subst e1 e2
      exact ⟨u, rfl, e3⟩
    | succ i =>
      rw [List.getElem?_cons_succ] at e
      exact ih e
section
variable {X : Cx} {pins : List (Addr × Obj)} {σ : L2.St} {H : Hp} {s : Shared} {d m : Addr} {kvs : List Ent} {x : Par.Mom} {A : Around} {E : Value → Shared → Prop}
theorem seen_of (I : Inv X pins σ H s) (e : H d = some (SeenO X.prog X.w d kvs)) (ks : ∀ p ∈ kvs, MomK X.K H p.2.1 p.1) :
    (d == sysModules) = false ∧ ∃ xs, NP kvs xs ∧ s.heap.DictOfH (nestedKind X.prog X.w) d xs := by
  obtain ⟨⟨z, xs, r, o, es, ep, h1, h2, h3, h4, h5⟩, _, _⟩ := I.hok d _ e
  refine ⟨z, xs, r, o, es, ep, h1, h2, h3, h4, fun y hy => ?_, h5⟩
  have all : ∀ {l : List Ent} {n : List (NestedKey × Addr × Value)}, NP l n → (∀ p ∈ l, MomK X.K H p.2.1 p.1) → ∀ x ∈ n, (nestedKind X.prog X.w).is s.heap x.1 x.2.1 := by
    intro l n q
    induction q with
    | nil => intro _ x hx; exact nomatch hx
    | @cons p q ps qs hq t ih =>
      intro hl x hx
      rcases List.mem_cons.mp hx with e | hx
      · subst e
        rw [← hq.1, ← hq.2.1]
        exact mom_is I (hl p List.mem_cons_self)
      · exact ih (fun p hp => hl p (List.mem_cons_of_mem _ hp)) x hx
  exact all r ks y hy
theorem seen_room (hu : A.units + 64 < cLine) : (nestedKind X.prog X.w).room A.in1 := by
  show A.in1.units + 8 < cLine
  simp only [Around.in1_units]
  omega
theorem seen_notIn {Q : Value → Shared → Prop} (hu : A.units + 64 < cLine) (I : Inv X pins σ H s) (e : H d = some (SeenO X.prog X.w d kvs)) (ks : ∀ p ∈ kvs, MomK X.K H p.2.1 p.1) (hm : MomK X.K H m x)
    (h : ∀ s', Inv X pins σ H s' → Q (.bool (decide (x ∉ kvs.map (·.1)))) s') : wpAny (model X.prog X.w) A (compareOp .NotIn (.ref m) (.ref d)) Q E s := by
  obtain ⟨z, xs, r, dd⟩ := seen_of I e ks
  refine wpAny_notIn_heap (seen_room (X := X) hu) (mom_is I hm) z dd ?_
  have key : (atKey xs (momKey x)).isSome = decide (x ∈ kvs.map (·.1)) := by
    obtain ⟨o, es, ep, h1, h2, h3, h4, h5, h6⟩ := dd
    by_cases hx : x ∈ kvs.map (·.1)
    · rw [decide_eq_true hx]
      obtain ⟨p, hp, ep⟩ := List.mem_map.mp hx
      obtain ⟨i, hi⟩ := List.mem_iff_getElem?.mp hp
      obtain ⟨u, hu1, _⟩ := r.get hi
      rw [← ep, atKey_of_get h6 hu1]
      rfl
    · rw [decide_eq_false hx, atKey_none_of_get ?_]
      · rfl
      intro j p hj
      have h7 : (xs.map (·.1))[j]? = some (momKey x) := by rw [List.getElem?_map, hj]; rfl
      rw [r.keys, List.getElem?_map] at h7
      cases hk : kvs[j]? with
      | none => rw [hk] at h7; cases h7
      | some y =>
        rw [hk] at h7
        have h8 : momKey y.1 = momKey x := Option.some.inj h7
        exact hx (List.mem_map.mpr ⟨y, List.mem_of_getElem? hk, momKey_inj h8⟩)
  rw [key]
  have e2 : (!decide (x ∈ kvs.map (·.1))) = decide (x ∉ kvs.map (·.1)) := by
    by_cases hx : x ∈ kvs.map (·.1) <;> simp [hx]
  rw [e2]
  exact h _ (I.tok _)
theorem seen_get {Q : Value → Shared → Prop} {i : Nat} {m' : Addr} {v : V} (hu : A.units + 64 < cLine) (I : Inv X pins σ H s) (e : H d = some (SeenO X.prog X.w d kvs)) (ks : ∀ p ∈ kvs, MomK X.K H p.2.1 p.1) (hm : MomK X.K H m x)
    (hi : kvs[i]? = some (x, m', v)) (h : ∀ u s', Inv X pins σ H s' → RelV v u → Q u s') : wpAny (model X.prog X.w) A (getItem (.ref d) (.ref m)) Q E s := by
  obtain ⟨z, xs, r, dd⟩ := seen_of I e ks
  obtain ⟨u, hu1, hu2⟩ := r.get hi
  have dd' := dd
  obtain ⟨o, es, ep, h1, h2, h3, h4, h5, h6⟩ := dd'
  refine wpAny_getItem_heap (seen_room (X := X) hu) (mom_is I hm) dd (p := (m', u)) (atKey_of_get h6 hu1) ?_
  exact h u _ (I.tok _) hu2
theorem seen_put {Q : Unit → Shared → Prop} {v : V} {u : Value} (hu : A.units + 64 < cLine) (I : Inv X pins σ H s) (e : H d = some (SeenO X.prog X.w d kvs)) (ks : ∀ p ∈ kvs, MomK X.K H p.2.1 p.1) (hm : MomK X.K H m x)
    (hz : kvs.length ≤ 1000) (hx : x ∉ kvs.map (·.1)) (rv : RelV v u) (h : ∀ s', Inv X pins σ (upd H d (SeenO X.prog X.w d (kvs ++ [(x, m, v)]))) s' → Q () s') : wpAny (model X.prog X.w) A (setItem (.ref d) (.ref m) u) Q E s := by
  obtain ⟨z, xs, r, dd⟩ := seen_of I e ks
  have hl : xs.length ≤ sizeLine := by rw [← Paired.length r]; exact sz_le hz
  refine wpAny_setItem_heap (hsz := hl) (seen_room (X := X) hu) (mom_is I hm) dd fun h' dd' hs => h _ ?_
  have hn : atKey xs (momKey x) = none := by
    refine atKey_none_of_get fun j p hj => ?_
    have h7 : (xs.map (·.1))[j]? = some (momKey x) := by rw [List.getElem?_map, hj]; rfl
    rw [r.keys, List.getElem?_map] at h7
    cases hk : kvs[j]? with
    | none => rw [hk] at h7; cases h7
    | some y =>
      rw [hk] at h7
      have h8 : momKey y.1 = momKey x := Option.some.inj h7
      exact hx (List.mem_map.mpr ⟨y, List.mem_of_getElem? hk, momKey_inj h8⟩)
  rw [storedH_new hn] at dd'
  obtain ⟨q, es, ep, hq, h2, h3, h4, _, h5⟩ := dd'
  exact d_write I (by rw [e]; exact True.intro) hs ⟨q, hq⟩ (seen_new z (Paired.snoc r ⟨rfl, rfl, rv⟩) hq h2 h3 h4 h5)
end
/-- {} -/
def tSeen0 (P : Program) (w : World) : TE := fun _ H Q => ∀ p, H p = none → Q (.ref p) (upd H p (SeenO P w p []))
/-- m not in seen -/
def tSeenNot (P : Program) (w : World) (K : PySem.W.Frag) (ty td : TE) : TE := fun σ H Q => ty σ H fun y H1 => td σ H1 fun z H2 => ∃ (m d : Addr) (kvs : List Ent) (x : Par.Mom), y = .ref m ∧ z = .ref d ∧ H2 d = some (SeenO P w d kvs) ∧
  (∀ p ∈ kvs, MomK K H2 p.2.1 p.1) ∧ MomK K H2 m x ∧ Q (.bl (decide (x ∉ kvs.map (·.1)))) H2
/-- seen[m] -/
def tSeenGet (P : Program) (w : World) (K : PySem.W.Frag) (td ty : TE) : TE := fun σ H Q => td σ H fun z H1 => ty σ H1 fun y H2 => ∃ (m d : Addr) (kvs : List Ent) (x : Par.Mom) (i : Nat) (m' : Addr) (v : V), z = .ref d ∧ y = .ref m ∧ H2 d = some (SeenO P w d kvs) ∧
  (∀ p ∈ kvs, MomK K H2 p.2.1 p.1) ∧ MomK K H2 m x ∧ kvs[i]? = some (x, m', v) ∧ Q v H2
/-- seen[m] = v -/
def sSeenPut (P : Program) (w : World) (K : PySem.W.Frag) (td ty tv : TE) : TS := fun D σ H => tv σ H fun v H1 => td σ H1 fun z H2 => ty σ H2 fun y H3 => ∃ (m d : Addr) (kvs : List Ent) (x : Par.Mom), z = .ref d ∧ y = .ref m ∧ H3 d = some (SeenO P w d kvs) ∧
  (∀ p ∈ kvs, MomK K H3 p.2.1 p.1) ∧ MomK K H3 m x ∧ kvs.length ≤ 1000 ∧ x ∉ kvs.map (·.1) ∧ D.nx σ (upd H3 d (SeenO P w d (kvs ++ [(x, m, v)])))
section
variable {X : Cx} {o i value : Expr} {pos pos' : Pos} {td ty tv : TE}
theorem pe_seen0 : PE X (.Dict [] [] pos) (tSeen0 X.prog X.w) := ⟨fun pins s σ H Q I h =>
  wpAny_Dict_empty ⟨.ref s.heap.objs.size, _, I.laid (a := s.heap.objs.size) (o := SeenO X.prog X.w s.heap.objs.size []) (t' := s.toks) (fun _ _ q => Heap.get?_push_of_some _ q) (Nat.le_refl _)
    (seen_new (beq_eq_false_iff_ne.mpr (Ne.symm (Nat.ne_of_lt I.big))) .nil (Heap.get?_push_size _ rfl) ⟨rfl, rfl, rfl⟩ rfl rfl List.nodup_nil), rfl, h _ (I.hok.fresh (Nat.le_refl _))⟩⟩
theorem pc_seenNot (hu : X.A.units + 64 < cLine) (hi : PE X i ty) (ho : PE X o td) : PC X .NotIn i o (tSeenNot X.prog X.w X.K ty td) := by
  refine ⟨fun pins s σ H Q I h => ?_⟩
  refine thn (hi.run pins s σ H _ I h) fun iv s1 ⟨y, H1, I1, ry, q1⟩ => thn (ho.run pins s1 σ H1 _ I1 q1) fun u s2 ⟨z, H2, I2, rx, m, d, kvs, x, ey, ez, e, ks, hm, q2⟩ => ?_
  subst ey ez
  obtain rfl : u = Value.ref d := rx
  obtain rfl : iv = Value.ref m := ry
  exact seen_notIn hu I2 e ks hm fun s3 I3 => ⟨.bl _, H2, I3, rfl, q2⟩
theorem pe_seenGet (hu : X.A.units + 64 < cLine) (ho : PE X o td) (hi : PE X i ty) (hs : NoSl i) : PE X (.Subscript o i pos) (tSeenGet X.prog X.w X.K td ty) := by
  refine ⟨fun pins s σ H Q I h => ?_⟩
  refine subD_of PySem.F.slot_dict_getitem.lookup hs (thn (ho.run pins s σ H _ I h) fun u s1 ⟨z, H1, I1, rx, q1⟩ => thn (hi.run pins s1 σ H1 _ I1 q1) fun iv s2 ⟨y, H2, I2, ry, m, d, kvs, x, j, m', v, ez, ey, e, ks, hm, hj, q2⟩ => ?_)
  subst ez ey
  obtain rfl : u = Value.ref d := rx
  obtain rfl : iv = Value.ref m := ry
  have dd := (seen_of I2 e ks).2
  refine ⟨let ⟨_, _, dd⟩ := dd; dd.typeIs, seen_get hu I2 e ks hm hj fun u s3 I3 ru => ⟨v, H2, I3, ru, q2⟩⟩
theorem ps_seenPut (hu : X.A.units + 64 < cLine) (ho : PE X o td) (hi : PE X i ty) (hv : PE X value tv) (hs : swapsWith value (some (.Subscript o i pos')) pos.line X.env = pure false) :
    PS X (.Assign [.Subscript o i pos'] value pos) (sSeenPut X.prog X.w X.K td ty tv) := by
  refine ⟨fun pins s σ H D I h => ?_⟩
  refine wpAny_Assign_Subscript (thn (hv.run pins s σ H _ I h) fun r s1 ⟨v, H1, I1, rv, q1⟩ => thn (ho.run pins s1 σ H1 _ I1 q1) fun u s2 ⟨z, H2, I2, rx, q2⟩ => thn (hi.run pins s2 σ H2 _ I2 q2) fun iv s3 ⟨y, H3, I3, ry, m, d, kvs, x, ez, ey, e, ks, hm, hz, hx, q3⟩ => ?_) hs
  subst ez ey
  obtain rfl : u = Value.ref d := rx
  obtain rfl : iv = Value.ref m := ry
  exact seen_put hu I3 e ks hm hz hx rv fun s4 I4 => ⟨σ, _, I4, q3⟩
end
end Ech

set_option Elab.async false
set_option linter.all false
set_option maxRecDepth 100000
set_option maxHeartbeats 4000000
namespace Ech
open PySem PySem.Spec PyProof.Rows L2 RZ StX
section
variable {P : Program} {w : World} {K : PySem.W.Frag} {mg : Str → Option Value} {base : Heap}
def spLeast (K : PySem.W.Frag) : Sp := fun vs H Q _ => ∃ (R : Par) (a s l t : Addr) (ls : List Addr) (m f p e : Addr), vs = [.ref a, .ref m] ∧ FormAt K H R a s l t ls ∧ Bnd R ∧ MomAt K H R m f p e (R.st 0) ∧
  ∀ (H' : Hp) (r o m' q : Addr) (zs ys : List Nat), Same H H' → SqT K H' r [.ref o, .ref m', .ref q] → SqT K H' o (zs.map nV) → SqT K H' q (ys.map nV) →
    ((ys = [] ∧ ∃ n f' p' e', (R.st n).2 = none ∧ MomAt K H' R m' f' p' e' (R.st n)) ∨ (ys ≠ [] ∧ ∀ n, (R.st n).2 ≠ none)) → Q (.ref r) H'
theorem scLeast : FnScope ["form", "moment", "seen", "order"] ["form", "moment"] (defScope sLeast) := ⟨rfl, rfl, rfl, by decide +kernel, rfl, by decide +kernel, by decide +kernel⟩
def pnd (R : Par) (i : Nat) : Nat := (R.st i).2.getD 0
theorem cutV_map (xs : List Nat) (lo hi : Option Int) : cutV (xs.map nV) lo hi = ((xs.drop (HT.sIx xs.length 0 lo)).take (HT.sIx xs.length xs.length hi - HT.sIx xs.length 0 lo)).map nV := by
  unfold cutV
  rw [List.map_take, List.map_drop, List.length_map]
/-- the loop's invariant -/
def LR (P : Program) (w : World) (K : PySem.W.Frag) (R : Par) (a d l1 : Addr) (H : Hp) (Bn k : Nat) (σ : L2.St) (H' : Hp) : Prop := ∃ (n : Nat) (mo f p e : Addr) (kvs : List Ent), σ = [some (.ref a), some (.ref mo), some (.ref d), some (.ref l1)] ∧ k + n = Bn ∧ MomAt K H' R mo f p e (R.st n) ∧ Same H H' ∧ H' d = some (SeenO P w d kvs) ∧ kvs.length = n ∧
      (∀ (i : Nat) (y : Ent), kvs[i]? = some y → y.1 = R.st i ∧ y.2.2 = nV i) ∧ (∀ y ∈ kvs, MomK K H' y.2.1 y.1) ∧ H' l1 = some (.lst (((List.range n).map (pnd R)).map nV)) ∧ (∀ i, i < n → (R.st i).2 ≠ none)
theorem ok_least {f : Addr} {fd : FuncData} (F : Fun K "least_run" "least_run" sLeast f fd) (T : Fre mg) (H1 : Has P w K mg base 2 "moment_after" ["form", "moment", "link"] (spMomAfter K)) :
    FnOk P w K mg base CX0 3 f fd ["form", "moment"] (spLeast K) := by
  refine F.ok scLeast (fun vs H Q E h => ?_) (fun cdv A outer s H vs Q E hr h => ?_)
  · obtain ⟨R, a, s, l, t, ls, m, f, p, e, rfl, _⟩ := h
    rfl
  · obtain ⟨R, a, s, l, t, ls, m0, f, p, e, rfl, FA, B, M0, q⟩ := h
    have nd := scLeast.nd
    have hu := hr.units
    have ok := B.ok
    refine ⟨_, pss_cons (ps_par (i := 2) (j := 3) rfl nd rfl rfl (by decide) rfl rfl (pa_cons pe_seen0 (pa_cons (pe_lst pa_nil) pa_nil)) (by rfl))
      (pss_cons (ps_while PassesOwn.never (PW.pt (pw_and (pt_cmpR (op_neD hu) (ix2 (pv 1)) (pe_tup pa_nil) (nomark _)) (pw_and1 (pt_cmp (pc_seenNot hu (pv 1) (pv 2))))))
        (pss_cons (ps_seenPut hu (pv 2) (pv 1) (pe_callB call_len_seq (by rfl) T.len PySem.boot_len (pa_cons (pv 3) pa_nil)) rfl)
        (pss_cons (ps_expr (pe_bm PySem.F.plainAttrs_list PySem.F.slot_list_append PySem.F.type_list_append mt_append (pv 3) (pa_cons (ix0 (ix2 (pv 1))) pa_nil)))
        (pss_one (ps_set (i := 1) nd rfl (.inl rfl) (pe_has H1 hr (by rfl) (pa_cons (pv 0) (pa_cons (pv 1) (pa_cons (ix0 (ix2 (pv 1))) pa_nil)))))))))
      (pss_cons (ps_if (pt_cmpR (op_eqD hu) (ix2 (pv 1)) (pe_tup pa_nil) (nomark _))
        (pss_one (ps_ret (pe_tup (pa_cons (pe_callTy call_tuple_of (by rfl) T.tuple (by decide +kernel) (pa_cons (pv 3) pa_nil)) (pa_cons (pv 1) (pa_cons (pe_tup pa_nil) pa_nil)))))) pss_nil)
      (pss_one (ps_ret (pe_tup (pa_cons (pe_callTy call_tuple_of (by rfl) T.tuple (by decide +kernel) (pa_cons (pe_slice sl_list (pv 3) po_none (po_some (pe_seenGet hu (pv 2) (pv 1) (fun _ _ => rfl)))) pa_nil)) (pa_cons (pv 1) (pa_cons (pe_callTy call_tuple_of (by rfl) T.tuple (by decide +kernel) (pa_cons (pe_slice sl_list (pv 3) (po_some (pe_seenGet hu (pv 2) (pv 1) (fun _ _ => rfl))) po_none) pa_nil)) pa_nil)))))))), ?_⟩
    have hz2 : 2 ≤ sizeLine := by decide
    have hz0 : 0 ≤ sizeLine := Nat.zero_le _
    have hz3 : 3 ≤ sizeLine := by decide
    intro d hd
    refine ⟨Nat.zero_le _, fun l1 nl => ⟨_, _, rfl, ?_⟩⟩
    have s1 : Same H (upd H d (SeenO P w d [])) := same_upd hd
    have s2 : Same (upd H d (SeenO P w d [])) (upd (upd H d (SeenO P w d [])) l1 (.lst [])) := same_upd nl
    have ndl : d ≠ l1 := ne_of_none upd_same nl
    have hlH : H l1 = none := by
      rw [upd_ne ndl.symm] at nl
      exact nl
    obtain ⟨found, ahead, W⟩ := exists_wf ok.startlt ok.items
    obtain ⟨first, FF⟩ := exists_fs R.table R.old R.start
    obtain ⟨Bn, hB, hE⟩ := Par.st_ends_le ok W FF
    have hfl : found.length ≤ R.table.length := nodup_lt _ _ W.nd fun x hx => by
      obtain ⟨i, hi, ex⟩ := List.mem_iff_getElem.mp hx
      exact wsh_lt ok.startlt ok.items (by rw [W.some_of hi, ex])
    have hBn : Bn ≤ 34 := by
      have h1 := B.m4
      have h2 := B.t6
      have h3 : found.length * R.many ≤ 6 * 4 := Nat.mul_le_mul (by omega) h1
      omega
    refine ⟨LR P w K R a d l1 H Bn,
      ⟨Bn, 0, m0, f, p, e, [], rfl, rfl, M0.mono (s1.trans s2).tps, s1.trans s2, s2 _ _ upd_same, rfl, (fun i y h => by simp at h), (fun y h => absurd h List.not_mem_nil), upd_same, fun i h => absurd h (Nat.not_lt_zero i)⟩, ?_⟩
    rintro k σ H' ⟨n, mo, f, p, e, kvs, rfl, hk, M, sm, ed, ek, ev, eks, el, epn⟩
    have FA' := FA.mono sm.tps
    refine ⟨_, rfl, mo, _, 2, _, rfl, rfl, M.top, atI_nat (j := 2) rfl, hz0, fun p2 n2 => ⟨_, _, dp_ints ((same_upd n2).tup M.pen), dp_nil (SqT.of upd_same), shaped_ints _, shaped_ints [], _, rfl, ?_⟩⟩
    have t2 : Same H' (upd H' p2 (.tup [])) := same_upd n2
    have ed2 := t2 _ _ ed
    have el2 := t2 _ _ el
    have M2 := M.mono t2.tps
    have FA2 := FA'.mono t2.tps
    have eks2 : ∀ y ∈ kvs, MomK K (upd H' p2 (.tup [])) y.2.1 y.1 := fun y hy => (eks y hy).mono t2.tps
    have sm2 := sm.trans t2
    clear n2
    generalize upd H' p2 (.tup []) = G at t2 ed2 el2 M2 FA2 eks2 sm2 ⊢
    have hor : (R.st n).2 = none ∨ ∃ j, (R.st n).2 = some j := by
      cases (R.st n).2 with
      | none => exact .inl rfl
      | some j => exact .inr ⟨j, rfl⟩
    rcases hor with hv | ⟨j, hv⟩
    · skip
      have e0 : PyData.eqv (.tuple (dN (R.st n).2.toList)) (.tuple []) = true := by rw [hv]; rfl
      rw [e0]
      refine iteF (iteF ⟨_, rfl, mo, _, 2, _, rfl, rfl, M2.top, atI_nat (j := 2) rfl, hz0, fun p3 n3 => ⟨_, _, dp_ints ((same_upd n3).tup M2.pen), dp_nil (SqT.of upd_same), shaped_ints _, shaped_ints [], _, rfl, ?_⟩⟩)
      rw [e0]
      have t3 : Same G (upd G p3 (.tup [])) := same_upd n3
      refine iteT ⟨_, rfl, l1, _, rfl, .inl ⟨SqL.of (t3 _ _ el2), fun q2 nq => ⟨_, rfl, hz0, fun p4 n4 => ⟨hz3, fun r nr => ?_⟩⟩⟩⟩
      have t4 := same_upd (o := .tup (((List.range n).map (pnd R)).map nV)) nq
      have t5 := same_upd (o := HO.tup []) n4
      have t6 := same_upd (o := .tup [.ref q2, .ref mo, .ref p4]) nr
      refine q _ r q2 mo p4 _ [] (sm2.trans (t3.trans (t4.trans (t5.trans t6)))) (SqT.of upd_same) (t6.tup (t5.tup (SqT.of upd_same))) (t6.tup (SqT.of upd_same)) (.inl ⟨rfl, n, f, p, e, hv, M2.mono (t3.trans (t4.trans (t5.trans t6))).tps⟩)
    · have e0 : PyData.eqv (.tuple (dN (R.st n).2.toList)) (.tuple []) = false := by rw [hv]; rfl
      have hj : j < R.nl := Par.st_pend n hv
      have hne : (R.st n).2 ≠ none := by rw [hv]; exact fun z => nomatch z
      rw [e0]
      refine iteT ⟨_, rfl, _, rfl, mo, d, kvs, R.st n, rfl, rfl, ed2, eks2, M2.key, _, rfl, ?_⟩
      by_cases hm : R.st n ∈ kvs.map (·.1)
      · rw [decide_eq_false (show ¬ (R.st n ∉ kvs.map (·.1)) from fun z => z hm)]
        obtain ⟨y, hy, ey⟩ := List.mem_map.mp hm
        obtain ⟨i, hi⟩ := List.mem_iff_getElem?.mp hy
        have hin : i < n := by
          have := (List.getElem?_eq_some_iff.mp hi).1
          omega
        obtain ⟨ev1, ev2⟩ := ev i y hi
        have hi' : kvs[i]? = some (R.st n, y.2.1, nV i) := by
          rw [hi, ← ey, ← ev2]
        refine iteF ⟨_, rfl, mo, _, 2, _, rfl, rfl, M2.top, atI_nat (j := 2) rfl, hz0, fun p3 n3 => ⟨_, _, dp_ints ((same_upd n3).tup M2.pen), dp_nil (SqT.of upd_same), shaped_ints _, shaped_ints [], _, rfl, ?_⟩⟩
        rw [e0]
        have t3 : Same G (upd G p3 (.tup [])) := same_upd n3
        have M3 := M2.mono t3.tps
        have ed3 := t3 _ _ ed2
        have el3 := t3 _ _ el2
        have eks3 : ∀ y ∈ kvs, MomK K (upd G p3 (.tup [])) y.2.1 y.1 := fun y hy => (eks2 y hy).mono t3.tps
        have sm3 := sm2.trans t3
        clear n3
        generalize upd G p3 (.tup []) = G3 at t3 ed3 el3 M3 eks3 sm3 ⊢
        refine iteF ⟨_, rfl, _, rfl, _, rfl, mo, d, kvs, R.st n, i, y.2.1, nV i, rfl, rfl, ed3, eks3, M3.key, hi', (i : Int), rfl, l1, _, rfl, SqL.of el3, fun q2 nq => ⟨q2, _, rfl, .inl ⟨SqL.of upd_same, fun o no => ?_⟩⟩⟩
        have t4 : Same G3 (upd (upd G3 q2 (.lst (cutV (((List.range n).map (pnd R)).map nV) none (some (i : Int))))) o (.tup (cutV (((List.range n).map (pnd R)).map nV) none (some (i : Int))))) := (same_upd nq).new no
        have ho : SqT K (upd (upd G3 q2 (.lst (cutV (((List.range n).map (pnd R)).map nV) none (some (i : Int))))) o (.tup (cutV (((List.range n).map (pnd R)).map nV) none (some (i : Int))))) o (cutV (((List.range n).map (pnd R)).map nV) none (some (i : Int))) := SqT.of upd_same
        have M4 := M3.mono t4.tps
        have ed4 := t4 _ _ ed3
        have el4 := t4 _ _ el3
        have eks4 : ∀ y ∈ kvs, MomK K _ y.2.1 y.1 := fun y hy => (eks3 y hy).mono t4.tps
        have sm4 := sm3.trans t4
        clear nq no
        revert ho M4 ed4 el4 eks4 sm4 t4
        generalize upd (upd G3 q2 (.lst (cutV (((List.range n).map (pnd R)).map nV) none (some (i : Int))))) o (.tup (cutV (((List.range n).map (pnd R)).map nV) none (some (i : Int)))) = G4
        intro t4 ho M4 ed4 el4 eks4 sm4
        refine ⟨_, rfl, _, rfl, _, rfl, _, rfl, mo, d, kvs, R.st n, i, y.2.1, nV i, rfl, rfl, ed4, eks4, M4.key, hi', (i : Int), rfl, l1, _, rfl, SqL.of el4, fun q3 nq => ⟨q3, _, rfl, .inl ⟨SqL.of upd_same, fun o2 no => ⟨hz3, fun r nr => ?_⟩⟩⟩⟩
        have t5 := same_upd (o := .lst (cutV (((List.range n).map (pnd R)).map nV) (some (i : Int)) none)) nq
        have t6 := same_upd (o := .tup (cutV (((List.range n).map (pnd R)).map nV) (some (i : Int)) none)) no
        have t7 := same_upd (o := .tup [.ref o, .ref mo, .ref o2]) nr
        rw [cutV_map] at ho
        refine q _ r o mo o2 _ ((((List.range n).map (pnd R)).drop (HT.sIx ((List.range n).map (pnd R)).length 0 (some (i : Int)))).take (HT.sIx ((List.range n).map (pnd R)).length ((List.range n).map (pnd R)).length none - HT.sIx ((List.range n).map (pnd R)).length 0 (some (i : Int)))) (sm4.trans (t5.trans (t6.trans t7))) (SqT.of upd_same) (t7.tup (t6.tup (t5.tup ho))) (t7.tup (by rw [← cutV_map]; exact SqT.of upd_same)) (.inr ⟨fun z => ?_, ?_⟩)
        · have z2 := congrArg List.length z
          have hL : ((List.range n).map (pnd R)).length = n := by rw [List.length_map, List.length_range]
          rw [hL, HT.sIx_none, HT.sIx_nat, List.length_take, List.length_drop, hL] at z2
          have z3 : min (n - min i n) (n - min i n) = 0 := z2
          omega
        · refine Par.st_again (i := n) (j := i) hin (ey.symm.trans ev1) fun k hk2 => ?_
          rcases Nat.lt_or_ge k n with z | z
          · exact epn k z
          · exact absurd hk2 (by omega)
      · rw [decide_eq_true hm]
        have hnB : n < Bn := by
          by_cases hc : n < Bn
          · exact hc
          exfalso
          have en : n = Bn := by omega
          rcases hE with z | ⟨A, hA, z⟩
          · exact hne (by rw [en]; exact z)
          · apply hm
            have hA2 : A < kvs.length := by omega
            obtain ⟨ev1, _⟩ := ev A kvs[A] (List.getElem?_eq_getElem hA2)
            rw [en, z, ← ev1]
            exact List.mem_map.mpr ⟨kvs[A], List.getElem_mem hA2, rfl⟩
        have est : R.st n = ((R.st n).1, some j) := by rw [← hv]
        have hlen : (((List.range n).map (pnd R)).map nV).length = n := by rw [List.length_map, List.length_map, List.length_range]
        refine iteT ⟨LR P w K R a d l1 H Bn (k - 1), fun σ2 H2 z => ⟨k - 1, by omega, z⟩, ?_⟩
        refine ⟨_, rfl, l1, _, rfl, .inl (SqL.of el2), _, rfl, _, rfl, mo, d, kvs, R.st n, rfl, rfl, ed2, eks2, M2.key, by omega, hm, ?_⟩
        have ndl' : l1 ≠ d := ndl.symm
        have tp1 : Tps G (upd G d (SeenO P w d (kvs ++ [(R.st n, mo, V.int ((((List.range n).map (pnd R)).map nV).length : Int))]))) := Tps.upd fun u eu i => by
          rw [ed2] at eu
          cases eu
          exact i
        have M5 := M2.mono tp1
        refine ⟨_, rfl, .inl ⟨rfl, _, SqL.of (by rw [upd_ne ndl']; exact el2)⟩, _, rfl, mo, _, 2, _, rfl, rfl, M5.top, atI_nat (j := 2) rfl, p, _, 0, _, rfl, rfl, M5.pen, atI_nat (j := 0) (by rw [hv]; rfl), l1, _, _, rfl, rfl, by rw [upd_ne ndl']; exact el2, by rw [hlen]; exact sz_lt (by omega), ?_⟩
        have e7 : upd G d (SeenO P w d (kvs ++ [(R.st n, mo, V.int ((((List.range n).map (pnd R)).map nV).length : Int))])) l1 = some (.lst (((List.range n).map (pnd R)).map nV)) := by rw [upd_ne ndl']; exact el2
        have tp2 : Tps (upd G d (SeenO P w d (kvs ++ [(R.st n, mo, V.int ((((List.range n).map (pnd R)).map nV).length : Int))]))) (upd (upd G d (SeenO P w d (kvs ++ [(R.st n, mo, V.int ((((List.range n).map (pnd R)).map nV).length : Int))]))) l1 (.lst (((List.range n).map (pnd R)).map nV ++ [nV j]))) := Tps.lst e7
        have s7 : Same H (upd (upd G d (SeenO P w d (kvs ++ [(R.st n, mo, V.int ((((List.range n).map (pnd R)).map nV).length : Int))]))) l1 (.lst (((List.range n).map (pnd R)).map nV ++ [nV j]))) := (sm2.mut hd).mut hlH
        have M6 := M5.mono tp2
        have ed6 : upd (upd G d (SeenO P w d (kvs ++ [(R.st n, mo, V.int ((((List.range n).map (pnd R)).map nV).length : Int))]))) l1 (.lst (((List.range n).map (pnd R)).map nV ++ [nV j])) d = some (SeenO P w d (kvs ++ [(R.st n, mo, V.int ((((List.range n).map (pnd R)).map nV).length : Int))])) := by rw [upd_ne ndl, upd_same]
        have FA6 := FA2.mono (tp1.trans tp2)
        have eks6 : ∀ y ∈ kvs ++ [(R.st n, mo, V.int ((((List.range n).map (pnd R)).map nV).length : Int))], MomK K (upd (upd G d (SeenO P w d (kvs ++ [(R.st n, mo, V.int ((((List.range n).map (pnd R)).map nV).length : Int))]))) l1 (.lst (((List.range n).map (pnd R)).map nV ++ [nV j]))) y.2.1 y.1 := fun y hy => by
          rcases List.mem_append.mp hy with z | z
          · exact (eks2 y z).mono (tp1.trans tp2)
          · rw [List.mem_singleton.mp z]
            exact M6.key
        refine ⟨_, rfl, _, rfl, _, rfl, mo, _, 2, _, rfl, rfl, M6.top, atI_nat (j := 2) rfl, p, _, 0, _, rfl, rfl, M6.pen, atI_nat (j := 0) (by rw [hv]; rfl), R, a, s, l, t, ls, mo, f, p, e, (R.st n).1, j, rfl, FA6, B, ⟨M6.top, M6.fil, by have z := M6.pen; rw [hv] at z; exact z, M6.spe⟩, hj, fun H8 m8 f8 p8 e8 s8 M8 => ?_⟩
        refine ⟨n + 1, m8, f8, p8, e8, _, rfl, by omega, ?_, s7.trans s8, s8 _ _ ed6, by rw [List.length_append, ek]; rfl, fun i y hy => ?_, fun y hy => (eks6 y hy).mono s8.tps, ?_, fun i hi => ?_⟩
        · rw [← est] at M8
          exact M8
        · by_cases hi : i < kvs.length
          · rw [List.getElem?_append_left hi] at hy
            exact ev i y hy
          · rw [List.getElem?_append_right (by omega)] at hy
            cases hq : i - kvs.length with
            | succ z => rw [hq] at hy; simp at hy
            | zero =>
              rw [hq] at hy
              have ey : _ = y := Option.some.inj hy
              have ei : i = n := by omega
              rw [← ey, ei, hlen]
              exact ⟨rfl, rfl⟩
        · rw [s8 l1 _ upd_same, List.range_succ, List.map_append, List.map_append]
          have : pnd R n = j := by unfold pnd; rw [hv]; rfl
          show some (HO.lst (_ ++ [nV j])) = some (HO.lst (_ ++ [nV (pnd R n)]))
          rw [this]
        · rcases Nat.lt_or_ge i n with z | z
          · exact epn i z
          · have : i = n := by omega
            rw [this]
            exact hne
end
end Ech

set_option Elab.async false
set_option linter.all false
set_option maxRecDepth 100000
set_option maxHeartbeats 4000000
namespace Ech
open PySem PySem.Spec PyProof.Rows L2 RZ StX

/-! ### name += e, the name an instance with __iadd__ -/
def tIadd (i : Nat) (te : TE) (C : Addr) (sp : Sp) (E : L2.St → XK) : TS := fun D σ H => ∃ a : Addr, σ[i]? = some (some (.ref a)) ∧ te σ H fun y H1 => ∃ (dx : Addr) (fs : List (Str × V)), H1 a = some (.ins C dx fs) ∧ sp [.ref a, y] H1 (fun z H2 => D.nx (σ.set i (some z)) H2) (E σ)
/-- the class has __iadd__ at f -/
structure Iadd (K : PySem.W.Frag) (C f : Addr) : Prop where
  sf : PySem.W.selfFirst K C = true
  at_ : PySem.W.findIn K (.ref C) "__iadd__" = some (some (.ref f))
  fn : PySem.W.isFn K (.ref f) = true
section
variable {X : Cx} {CX : CXT} {k : Nat} {C f : Addr} {fd : FuncData} {ps : List Str} {sp : Sp} {E : L2.St → XK}
theorem iadd_ok {pins : List (Addr × Obj)} {σ : L2.St} {H : Hp} {s : Shared} {Q : VK} {a dx : Addr} {fs : List (Str × V)} {y : V} {u : Value} (h1 : Iadd X.K C f) (F : FnOk X.prog X.w X.K X.mg X.base CX k f fd ps sp) (hr : Room k X.A) (hb : Binds X.K fd ps [])
    (hx : PassesAt CX X σ (E σ)) (I : Inv X pins σ H s) (ea : H a = some (.ins C dx fs)) (r : RelV y u) (h : sp [.ref a, y] H Q (E σ)) : wpAny (model X.prog X.w) X.A (inplaceOp .Add (.ref a) u) (EP X pins σ Q) X.xe s := by
  obtain ⟨mA, O, _, _, _, _⟩ := ins_get I.hok ea
  obtain ⟨od, J, _⟩ := O.look
  obtain ⟨m, fr⟩ := I.fr
  refine PySem.W.ksp_inplace (op := .Add) fr I.ok.mod.kin J h1.sf h1.at_ h1.fn (thn (run_fnS (vs := [.ref a, y]) (us := [.ref a, u]) F hr hb hx I (.cons rfl (.cons r .nil)) h) fun v s' hv => ?_)
  obtain ⟨x, H', I', rv, q⟩ := hv
  cases v with
  | notImplemented =>
    cases x with
    | _ => first | (obtain ⟨t, z⟩ := rv; exact nomatch z) | exact nomatch rv
  | _ => exact ⟨x, H', I', rv, q⟩
theorem ps_iadd {i : Nat} {x : Str} {e : Expr} {te : TE} {pos pos' : Pos} (h1 : Iadd X.K C f) (F : FnOk X.prog X.w X.K X.mg X.base CX k f fd ps sp) (hr : Room k X.A) (hb : Binds X.K fd ps []) (hx : ∀ σ, PassesAt CX X σ (E σ))
    (hN : X.N.Nodup) (hi : X.N[i]? = some x) (hl : X.env.scope.names.lookup x = some .local) (he : PE X e te) : PS X (.AugAssign (.Name x pos') .Add e pos) (tIadd i te C sp E) := by
  refine ⟨fun pins s σ H D I h => ?_⟩
  obtain ⟨a, e1, h⟩ := h
  obtain ⟨m, hn, hlm⟩ := I.loc
  obtain ⟨u, r, l⟩ := hlm i x (.ref a) hi e1 (.inl hl)
  obtain rfl : u = Value.ref a := r
  refine wpAny_AugAssign_Name ?_
  have go : wpAny (model X.prog X.w) X.A (eval e X.env) (fun w s₂ => wpAny (model X.prog X.w) X.A (inplaceOp .Add (.ref a) w) (fun r s₃ => wpAny (model X.prog X.w) X.A (storeName X.env x r) (fun _ => SP X pins D .next) X.xe s₃) X.xe s₂) X.xe s := by
    refine thn (he.run pins s σ H _ I h) fun w s1 ⟨y, H1, I1, r1, dx, fs, ea, q1⟩ => ?_
    refine thn (iadd_ok h1 F hr hb (hx σ) I1 ea r1 q1) fun z s2 ⟨zv, H2, I2, r2, q2⟩ => ?_
    exact store_ok I2 hN hi (.inl hl) r2 (fun s3 I3 => ⟨_, H2, I3, q2⟩) (.inr hl)
  rcases l with ⟨hk, hm⟩ | ⟨hk, c, hc, hcell⟩
  · exact wpAny_loadName_local I.ok.kind hk hn hm go
  · rcases hk with hk | hk
    · exact wpAny_loadName_cell I.ok.kind hk hc hcell go
    · have : X.env.scope.names.lookup x = some .free := hk
      rw [hl] at this
      cases this
end

/-! ### the texts -/
abbrev sEndlessInit : Stmt := inClass (topS 14) 0
abbrev sFInit : Stmt := inClass sFields 0
abbrev sFFilling : Stmt := inClass sFields 2
abbrev sFEdited : Stmt := inClass sFields 8
abbrev sFIadd : Stmt := inClass sFields 10
/-- what is there stands, but p -/
def But (p : Addr) (H H' : Hp) : Prop := ∀ b o, H b = some o → b ≠ p → H' b = some o
theorem But.refl (p : Addr) (H : Hp) : But p H H := fun _ _ h _ => h
theorem But.trans {p : Addr} {H H1 H2 : Hp} (a : But p H H1) (b : But p H1 H2) : But p H H2 := fun c o h n => b c o (a c o h n) n
theorem _root_.L2.Same.but {p : Addr} {H H' : Hp} (e : Same H H') : But p H H' := fun b o h _ => e b o h
theorem But.put {p : Addr} {H H' : Hp} {o : HO} (e : But p H H') : But p H (upd H' p o) := fun b u h n => by
  rw [upd_ne n]
  exact e b u h n
/-- the tuples stand, as p is none -/
theorem But.tps {p C dx : Addr} {fs : List (Str × V)} {H H' : Hp} (e : But p H H') (hp : H p = some (.ins C dx fs)) : Tps H H' := fun b u h i => e b u h fun z => by
  rw [z, hp] at h
  cases h
  exact i
section
variable {P : Program} {w : World} {K : PySem.W.Frag} {mg : Str → Option Value} {base : Heap}

/-! ### Endless.__init__ -/
def spEndInit (K : PySem.W.Frag) (CE : Addr) : Sp := fun vs H Q _ => ∃ (a : Addr) (x y : V), vs = [.ref a, x, y] ∧ H a = some (exo a CE none) ∧
  ∀ d, H d = none → d ≠ a → Q .non (upd (upd (upd H d (exd d [(("order" : Str), x)])) a (exo a CE (some d))) d (exd d [(("ring" : Str), y), (("order" : Str), x)]))
theorem scEndInit : FnScope ["self", "order", "ring"] ["self", "order", "ring"] (defScope sEndlessInit) := ⟨rfl, rfl, rfl, by decide +kernel, rfl, by decide +kernel, by decide +kernel⟩
theorem ok_endInit {f CE : Addr} {fd : FuncData} (F : Fun K "__init__" "Endless.__init__" sEndlessInit f fd) (T : OexC K CE) (n1 : PySem.W.findIn K (.ref CE) "order" = some none) (n2 : PySem.W.findIn K (.ref CE) "ring" = some none) :
    FnOk P w K mg base CX0 1 f fd ["self", "order", "ring"] (spEndInit K CE) := by
  refine F.ok scEndInit (fun vs H Q E h => ?_) (fun cdv A outer s H vs Q E hr h => ?_)
  · obtain ⟨a, x, y, rfl, _⟩ := h
    rfl
  · obtain ⟨a, x, y, rfl, ha, q⟩ := h
    refine ⟨_, pss_cons (ps_ost (pv 0) (pv 1)) (pss_one (ps_ost (pv 0) (pv 2))), ?_⟩
    refine ⟨_, rfl, _, rfl, a, CE, rfl, T, n1, .inl ⟨ha, fun d hd hda => ⟨_, rfl, _, rfl, a, CE, rfl, T, n2, .inr ⟨d, _, upd_same, ?_, (by show 1 ≤ 900; decide), q d hd hda⟩⟩⟩⟩
    rw [upd_ne hda]
    exact upd_same

/-! ### Fields -/
/-- what the walk asks of the class -/
structure FTxt (K : PySem.W.Frag) (C : Addr) : Prop where
  cl : Cls K C
  nT : NoAttr K C "table"
  nH : NoAttr K C "held"
  nF : NoAttr K C "fired"
theorem f1 : ¬ (("held" : Str) = "table") := by decide +kernel
theorem f2 : ¬ (("fired" : Str) = "table") := by decide +kernel
theorem f3 : ¬ (("fired" : Str) = "held") := by decide +kernel
theorem f4 : ¬ (("table" : Str) = "held") := by decide +kernel
theorem f5 : ¬ (("table" : Str) = "fired") := by decide +kernel
theorem f6 : ¬ (("held" : Str) = "fired") := by decide +kernel
def spFInit (K : PySem.W.Frag) (C : Addr) : Sp := fun vs H Q _ => ∃ (R : Par) (a s l t : Addr) (ls : List Addr) (p dx f : Addr) (fl : List Nat), vs = [.ref p, .ref a, .ref f] ∧ H p = some (.ins C dx []) ∧ FormAt K H R a s l t ls ∧ Bnd R ∧ FillAt K H R f fl ∧
  ∀ H' fs, But p H H' → H' p = some (.ins C dx fs) → fs.length ≤ 3 → fs.lookup ("table" : Str) = some (.ref a) → fs.lookup ("held" : Str) = some (.ref f) → (∀ m : Str, m ≠ "table" → m ≠ "held" → m ≠ "fired" → fs.lookup m = none) → Q .non H'
theorem scFInit : FnScope ["self", "form", "filling", "error"] ["self", "form", "filling"] (defScope sFInit) := ⟨rfl, rfl, rfl, by decide +kernel, rfl, by decide +kernel, by decide +kernel⟩
theorem ok_fInit {f C : Addr} {fd : FuncData} (F : Fun K "__init__" "Fields.__init__" sFInit f fd) (T : FTxt K C) (H1 : Has P w K mg base 4 "form_error" ["value"] (spFormErr K)) (H2 : Has P w K mg base 2 "is_filling" ["form", "value"] (spIsFill K)) :
    FnOk P w K mg base CX0 5 f fd ["self", "form", "filling"] (spFInit K C) := by
  refine F.ok scFInit (fun vs H Q E h => ?_) (fun cdv A outer s H vs Q E hr h => ?_)
  · obtain ⟨R, a, s, l, t, ls, p, dx, f, fl, rfl, _⟩ := h
    rfl
  · obtain ⟨R, a, s, l, t, ls, p, dx, f, fl, rfl, hp, FA, B, FL, q⟩ := h
    have nd := scFInit.nd
    refine ⟨_, pss_cons (ps_set (i := 3) nd rfl (.inl rfl) (pe_has H1 hr (by rfl) (pa_cons (pv 1) pa_nil)))
      (pss_cons (ps_if (pt_cmpR op_notN (pv 3) pe_non (nomark _)) (pss_one ps_never) pss_nil)
      (pss_cons (ps_if (pt_not (pt_val (pe_has H2 hr (by rfl) (pa_cons (pv 1) (pa_cons (pv 2) pa_nil))))) (pss_one ps_never) pss_nil)
      (pss_cons (ps_fld (pv 0) (pv 1) rfl)
      (pss_cons (ps_fld (pv 0) (pv 2) rfl)
      (pss_one (ps_fld (pv 0) (pe_tup pa_nil) rfl)))))), ?_⟩
    refine ⟨_, rfl, R, a, s, l, t, ls, rfl, FA, B, fun G1 s1 => ?_⟩
    refine ⟨_, rfl, rfl, false, rfl, iteF ⟨_, rfl, _, rfl, R, a, s, l, t, ls, f, fl, rfl, FA.mono s1.tps, B, FL.mono s1.tps, fun G2 s2 => ⟨_, rfl, iteF ?_⟩⟩⟩
    have s12 := s1.trans s2
    have hp2 := s12 _ _ hp
    refine ⟨_, rfl, _, rfl, p, C, dx, [], rfl, hp2, T.cl, T.nT, (by show 0 < 1000; decide), ?_⟩
    refine ⟨_, rfl, _, rfl, p, C, dx, _, rfl, upd_same, T.cl, T.nH, (by show 1 < 1000; decide), ?_⟩
    refine ⟨Nat.zero_le _, fun z nz => ?_⟩
    have npz : p ≠ z := ne_of_none upd_same nz
    have nz0 : G2 z = none := by
      rw [upd_ne npz.symm, upd_ne npz.symm] at nz
      exact nz
    refine ⟨_, rfl, p, C, dx, _, rfl, by rw [upd_ne npz]; exact upd_same, T.cl, T.nF, (by
      have h1 := length_putF "held" (V.ref f) (putF "table" (V.ref a) [])
      have h2 := length_putF "table" (V.ref a) []
      have h3 : ([] : List (Str × V)).length = 0 := rfl
      omega), ?_⟩
    refine q _ _ ?_ upd_same ?_ ?_ ?_ ?_
    · exact ((((s12.but).put.put).trans (Same.but (same_upd (by rw [upd_ne npz.symm, upd_ne npz.symm]; exact nz0)))).put)
    · have h0 := length_putF "fired" (V.ref z) (putF "held" (V.ref f) (putF "table" (V.ref a) []))
      have h1 := length_putF "held" (V.ref f) (putF "table" (V.ref a) [])
      have h2 := length_putF "table" (V.ref a) []
      have h3 : ([] : List (Str × V)).length = 0 := rfl
      omega
    · rw [lookup_putF, if_neg f5, lookup_putF, if_neg f4, lookup_putF, if_pos rfl]
    · rw [lookup_putF, if_neg f6, lookup_putF, if_pos rfl]
    · intro m h1 h2 h3
      rw [lookup_putF, if_neg h3, lookup_putF, if_neg h2, lookup_putF, if_neg h1]
      rfl

/-! ### edited -/
def spEdited (K : PySem.W.Frag) (C CE : Addr) : Sp := fun vs H Q E => ∃ (R : Par) (a s l t : Addr) (ls : List Addr) (p dx f e : Addr) (fs : List (Str × V)), vs = [.ref p, .ref e] ∧ H p = some (.ins C dx fs) ∧ fs.length ≤ 3 ∧ fs.lookup ("table" : Str) = some (.ref a) ∧ fs.lookup ("held" : Str) = some (.ref f) ∧
  (∀ m : Str, m ≠ "table" → m ≠ "held" → m ≠ "fired" → fs.lookup m = none) ∧ FormAt K H R a s l t ls ∧ Bnd R ∧ FillAt K H R f R.base ∧ SqT K H e [.int 0, .int R.start] ∧
  (∀ (H' : Hp) (fs' : List (Str × V)) (f' : Addr) (n : Nat), But p H H' → H' p = some (.ins C dx fs') → fs'.lookup ("held" : Str) = some (.ref f') → FillAt K H' R f' (R.st n).1 → (R.st n).2 = none → Q .non H') ∧
  ((∀ n, (R.st n).2 ≠ none) → ∀ d H', But p H H' → E (.ref CE) d H')
theorem scEdited : FnScope ["self", "edit", "order", "moment", "ring"] ["self", "edit"] (defScope sFEdited) := ⟨rfl, rfl, rfl, by decide +kernel, rfl, by decide +kernel, by decide +kernel⟩
/-- what the walk asks of Endless -/
structure ETxt (P : Program) (w : World) (K : PySem.W.Frag) (mg : Str → Option Value) (base : Heap) (CE : Addr) : Prop where
  oex : OexC K CE
  gC : mg "Endless" = some (.ref CE)
  init : ∃ fI fdI, PySem.W.findIn K (.ref CE) "__init__" = some (some (.ref fI)) ∧ PySem.W.typeIn K (.ref fI) = some (.type "function") ∧ FnOk P w K mg base CX0 1 fI fdI ["self", "order", "ring"] (spEndInit K CE) ∧ Binds K fdI ["self", "order", "ring"] []
theorem ok_edited {f C CE : Addr} {fd : FuncData} (F : Fun K "edited" "Fields.edited" sFEdited f fd) (T : FTxt K C) (TE : ETxt P w K mg base CE) (H1 : Has P w K mg base 2 "is_edit" ["form", "value"] (spIsEdit K))
    (H2 : Has P w K mg base 2 "first_moment" ["form", "filling", "edit"] (spFirstMom K)) (H3 : Has P w K mg base 3 "least_run" ["form", "moment"] (spLeast K)) :
    FnOk P w K mg base (L2.CX P w) 4 f fd ["self", "edit"] (spEdited K C CE) := by
  obtain ⟨fI, fdI, eI1, eI2, FI, bI⟩ := TE.init
  refine F.okX scEdited (fun vs H Q E h => ?_) (fun cdv A outer s H vs Q E hr h => ?_)
  · obtain ⟨R, a, s, l, t, ls, p, dx, f, e, fs, rfl, _⟩ := h
    rfl
  · obtain ⟨R, a, s, l, t, ls, p, dx, f, e, fs, rfl, hp, hl, lt, lh, lo, FA, B, FL, hE, q, qx⟩ := h
    have nd := scEdited.nd
    have hu := hr.units
    have m2 := B.m2
    refine ⟨_, pss_cons (ps_if (pt_not (pt_val (pe_has H1 hr (by rfl) (pa_cons (pe_fld (pv 0) rfl) (pa_cons (pv 1) pa_nil))))) (pss_one ps_never) pss_nil)
      (pss_cons (ps_asg (pe_has H3 hr (by rfl) (pa_cons (pe_fld (pv 0) rfl) (pa_cons (pe_has H2 hr (by rfl) (pa_cons (pe_fld (pv 0) rfl) (pa_cons (pe_fld (pv 0) rfl) (pa_cons (pv 1) pa_nil)))) pa_nil)))
        (pg_tup rfl (pgs_cons (pg_name (i := 2) nd rfl (.inl rfl)) (pgs_cons (pg_name (i := 3) nd rfl (.inl rfl)) (pgs_cons (pg_name (i := 4) nd rfl (.inl rfl)) pgs_nil)))))
      (pss_cons (ps_if (pt_cmpR (op_neD hu) (pv 4) (pe_tup pa_nil) (nomark _)) (pss_one (ps_raise rfl (takes_of rfl rfl rfl rfl) (pmk_oex TE.oex eI1 eI2 FI (hr.mono (by decide)) bI .nil pass0 rfl TE.gC (pa_cons (pv 2) (pa_cons (pv 4) pa_nil))))) pss_nil)
      (pss_cons (ps_fld (pv 0) (ix1 (pv 3)) rfl)
      (pss_one (ps_fld (pv 0) (pv 2) rfl))))), ?_⟩
    refine ⟨_, rfl, p, C, dx, fs, _, rfl, hp, T.cl, T.nT, lt, _, rfl, R, a, s, l, t, ls, e, 0, R.start, rfl, FA, hE, by omega, B.ok.startlt, _, rfl, iteF ?_⟩
    refine ⟨_, rfl, p, C, dx, fs, _, rfl, hp, T.cl, T.nT, lt, _, rfl, p, C, dx, fs, _, rfl, hp, T.cl, T.nT, lt, _, rfl, p, C, dx, fs, _, rfl, hp, T.cl, T.nH, lh, _, rfl, R, a, s, l, t, ls, f, e, rfl, FA, B, FL, hE, fun G1 m f1 p1 e1 s1 M1 => ?_⟩
    refine ⟨R, a, s, l, t, ls, m, f1, p1, e1, rfl, FA.mono s1.tps, B, M1, fun G2 r o m' qq zs ys s2 hr2 ho2 hq2 alt => ?_⟩
    refine ⟨r, _, rfl, hr2, rfl, _, _, rfl, _, _, rfl, _, _, rfl, rfl, ?_⟩
    refine ⟨_, rfl, Nat.zero_le _, fun z nz => ⟨_, _, dp_ints ((same_upd nz).tup hq2), dp_nil (SqT.of upd_same), shaped_ints _, shaped_ints [], _, rfl, ?_⟩⟩
    have s3 : Same G2 (upd G2 z (.tup [])) := same_upd nz
    have s123 := (s1.trans s2).trans s3
    have hp3 := s123 _ _ hp
    have ev : PyData.eqv (.tuple (dN ys)) (.tuple []) = decide (ys = []) := eqv_tups ys []
    rw [ev]
    rcases alt with ⟨hy, n, f', p', e', hn, M2⟩ | ⟨hy, hall⟩
    · rw [decide_eq_true hy]
      have M3 := M2.mono s3.tps
      generalize upd G2 z (.tup []) = G3 at s3 s123 hp3 M3
      refine iteF ⟨_, rfl, m', _, 1, _, rfl, rfl, M3.top, atI_nat (j := 1) rfl, _, rfl, p, C, dx, fs, rfl, hp3, T.cl, T.nH, by omega, ?_⟩
      refine ⟨_, rfl, _, rfl, p, C, dx, _, rfl, upd_same, T.cl, T.nF, (by have := length_putF "held" (V.ref f') fs; omega), ?_⟩
      have t4 : Tps G3 (upd (upd G3 p (.ins C dx (putF "held" (V.ref f') fs))) p (.ins C dx (putF "fired" (V.ref o) (putF "held" (V.ref f') fs)))) := (But.put (But.put (But.refl p G3))).tps hp3
      refine q _ _ f' n (((s123.but).put).put) upd_same ?_ (M3.fil.mono t4) hn
      rw [lookup_putF, if_neg f6, lookup_putF, if_pos rfl]
    · rw [decide_eq_false hy]
      refine iteT ⟨_, rfl, _, rfl, (by show 2 ≤ 1000; decide), fun x nx => ⟨x, _, _, rfl, upd_same, fun d nd2 hda => ⟨rfl, d, _, ?_, upd_same, ?_, ?_⟩⟩⟩
      · rw [upd_ne hda.symm]
        exact upd_same
      · rw [upd_ne hda] at nd2
        exact nd2
      · refine qx hall _ _ fun b u hb hbp => ?_
        have hb3 := s123 b u hb
        have bx : b ≠ x := ne_of_none hb3 nx
        rw [upd_ne hda] at nd2
        have bd : b ≠ d := ne_of_none hb3 nd2
        rw [upd_ne bd, del_ne bx, upd_ne bd, upd_ne bx, upd_ne bd, upd_ne bx]
        exact hb3

/-! ### __iadd__ -/
def spIadd (K : PySem.W.Frag) (C CE : Addr) : Sp := fun vs H Q E => ∃ (R : Par) (a s l t : Addr) (ls : List Addr) (p dx f e : Addr) (fs : List (Str × V)), vs = [.ref p, .ref e] ∧ H p = some (.ins C dx fs) ∧ fs.length ≤ 3 ∧ fs.lookup ("table" : Str) = some (.ref a) ∧ fs.lookup ("held" : Str) = some (.ref f) ∧
  (∀ m : Str, m ≠ "table" → m ≠ "held" → m ≠ "fired" → fs.lookup m = none) ∧ FormAt K H R a s l t ls ∧ Bnd R ∧ FillAt K H R f R.base ∧ SqT K H e [.int 0, .int R.start] ∧
  (∀ (H' : Hp) (fs' : List (Str × V)) (f' : Addr) (n : Nat), But p H H' → H' p = some (.ins C dx fs') → fs'.lookup ("held" : Str) = some (.ref f') → FillAt K H' R f' (R.st n).1 → (R.st n).2 = none → Q (.ref p) H') ∧
  ((∀ n, (R.st n).2 ≠ none) → ∀ d H', But p H H' → E (.ref CE) d H')
theorem scIadd : FnScope ["self", "edit"] ["self", "edit"] (defScope sFIadd) := ⟨rfl, rfl, rfl, by decide +kernel, rfl, by decide +kernel, by decide +kernel⟩
theorem ok_iadd {f C CE f2 : Addr} {fd fd2 : FuncData} (F : Fun K "__iadd__" "Fields.__iadd__" sFIadd f fd) (T : FTxt K C) (M : Meth K C "edited" f2) (F2 : FnOk P w K mg base (L2.CX P w) 4 f2 fd2 ["self", "edit"] (spEdited K C CE)) (b2 : Binds K fd2 ["self", "edit"] []) :
    FnOk P w K mg base (L2.CX P w) 5 f fd ["self", "edit"] (spIadd K C CE) := by
  refine F.okX scIadd (fun vs H Q E h => ?_) (fun cdv A outer s H vs Q E hr h => ?_)
  · obtain ⟨R, a, s, l, t, ls, p, dx, f, e, fs, rfl, _⟩ := h
    rfl
  · obtain ⟨R, a, s, l, t, ls, p, dx, f, e, fs, rfl, hp, hl, lt, lh, lo, FA, B, FL, hE, q, qx⟩ := h
    refine ⟨_, pss_cons (ps_expr (pe_meth (pv 0) T.cl M F2 hr b2 .nil (passes_call (takes_of rfl rfl rfl rfl) (fun _ _ _ _ z => z)) (pa_cons (pv 1) pa_nil))) (pss_one (ps_ret (pv 0))), ?_⟩
    exact ⟨_, rfl, p, dx, fs, rfl, hp, lo _ (by decide +kernel) (by decide +kernel) (by decide +kernel), _, rfl, R, a, s, l, t, ls, p, dx, f, e, fs, rfl, hp, hl, lt, lh, lo, FA, B, FL, hE,
      fun H' fs' f' n b hp' lh' FL' hn => ⟨_, rfl, q H' fs' f' n b hp' lh' FL' hn⟩, fun hall d H' b => qx hall d H' b⟩

/-! ### filling, the property -/
theorem scFilling : FnScope ["self"] ["self"] (defScope sFFilling) := ⟨rfl, rfl, rfl, by decide +kernel, rfl, by decide +kernel, by decide +kernel⟩
theorem ok_filling {f C : Addr} {fd : FuncData} (F : Fun K "filling" "Fields.filling" sFFilling f fd) (T : FTxt K C) : FnOk P w K mg base CX0 1 f fd ["self"] (getSp C "held") := by
  refine F.ok scFilling (fun vs H Q E h => ?_) (fun cdv A outer s H vs Q E hr h => ?_)
  · obtain ⟨a, dx, fs, v, rfl, _⟩ := h
    rfl
  · obtain ⟨a, dx, fs, v, rfl, ea, l, q⟩ := h
    exact ⟨_, pss_one (ps_ret (pe_fld (pv 0) rfl)), _, rfl, a, C, dx, fs, v, rfl, ea, T.cl, T.nH, l, q⟩

/-! ### _law_end -/
structure FOk (P : Program) (w : World) (K : PySem.W.Frag) (mg : Str → Option Value) (base : Heap) (C CE : Addr) : Prop where
  gF : mg "Fields" = some (.ref C)
  gE : mg "Endless" = some (.ref CE)
  te : PySem.W.exmOne K (.ref CE) (.ref CE) = some true
  cl : Cls K C
  init : ∃ fI fdI, Mk K C fI ∧ FnOk P w K mg base CX0 5 fI fdI ["self", "form", "filling"] (spFInit K C) ∧ Binds K fdI ["self", "form", "filling"] []
  iadd : ∃ f fd, Iadd K C f ∧ FnOk P w K mg base (L2.CX P w) 5 f fd ["self", "edit"] (spIadd K C CE) ∧ Binds K fd ["self", "edit"] []
  fill : ∃ p g fd, PropOf K C "filling" p g ∧ FnOk P w K mg base CX0 1 g fd ["self"] (getSp C "held") ∧ Binds K fd ["self"] []
def spEnd (K : PySem.W.Frag) : Sp := fun vs H Q _ => ∃ (R : Par) (a s l t : Addr) (ls : List Addr) (f e : Addr), vs = [.ref a, .ref f, .ref e] ∧ FormAt K H R a s l t ls ∧ Bnd R ∧ FillAt K H R f R.base ∧ SqT K H e [.int 0, .int R.start] ∧
  (∀ (H' : Hp) (f' : Addr) (n : Nat), Same H H' → FillAt K H' R f' (R.st n).1 → (R.st n).2 = none → Q (.ref f') H') ∧ ((∀ n, (R.st n).2 ≠ none) → ∀ H', Same H H' → Q .non H')
theorem scEnd : FnScope ["_law_form", "_law_filling", "_law_edit", "_law_fields"] ["_law_form", "_law_filling", "_law_edit"] (defScope sEnd) := ⟨rfl, rfl, rfl, by decide +kernel, rfl, by decide +kernel, by decide +kernel⟩
theorem ok_end {f C CE : Addr} {fd : FuncData} (F : Fun K "_law_end" "_law_end" sEnd f fd) (O : FOk P w K mg base C CE) : FnOk P w K mg base CX0 7 f fd ["_law_form", "_law_filling", "_law_edit"] (spEnd K) := by
  obtain ⟨fI, fdI, MI, FI, bI⟩ := O.init
  obtain ⟨fA, fdA, IA, FA0, bA⟩ := O.iadd
  obtain ⟨pp, gg, fdG, PG, FG, bG⟩ := O.fill
  refine F.ok scEnd (fun vs H Q E h => ?_) (fun cdv A outer s H vs Q E hr h => ?_)
  · obtain ⟨R, a, s, l, t, ls, f, e, rfl, _⟩ := h
    rfl
  · obtain ⟨R, a, s, l, t, ls, f, e, rfl, FA, B, FL, hE, q, qx⟩ := h
    have nd := scEnd.nd
    have hr5 : Room 5 _ := hr.mono (by decide)
    refine ⟨_, pss_cons (ps_set (i := 3) nd rfl (.inl rfl) (pe_make MI FI hr rfl O.gF bI .nil pass0 (pa_cons (pv 0) (pa_cons (pv 1) pa_nil))))
      (pss_cons (ps_try_only (tb := fun W => tIadd 3 (tVar 2) C (spIadd K C CE) (WE W)) (ts := fun _ _ _ => tRet (tC .non)) (Wout := fun _ _ _ _ => False) rfl rfl ⟨rfl, by decide, Or.inl O.gE⟩ takes0
        (fun W pn xe tk _ => pss_one (ps_iadd IA FA0 hr5 bA (fun σ => passAt tk σ) nd rfl rfl (pv 2)))
        (fun a oe cls d pn hz hf => pss_one (ps_ret pe_non)))
      (pss_one (ps_ret (pe_prop (pv 3) O.cl PG FG (hr.mono (by decide)) bG .nil pass0 rfl)))), ?_⟩
    refine ⟨_, rfl, _, rfl, fun x dx nx ndx nex => ?_⟩
    have s1 : Same H (upd (upd H dx (.own x)) x (.ins C dx [])) := fun b o eb => by
      rw [upd_ne (ne_of_none eb nx), upd_ne (ne_of_none eb ndx)]
      exact eb
    refine ⟨R, a, s, l, t, ls, x, dx, f, R.base, rfl, upd_same, FA.mono s1.tps, B, FL.mono s1.tps, fun G fs b1 hp hl lt lh lo => ⟨rfl, ?_⟩⟩
    have s2 : Same H G := fun b o eb => b1 b o (s1 b o eb) (ne_of_none eb nx)
    refine ⟨x, rfl, _, rfl, dx, fs, hp, R, a, s, l, t, ls, x, dx, f, e, fs, rfl, hp, hl, lt, lh, lo, FA.mono s2.tps, B, FL.mono s2.tps, s2.tup hE, fun G2 fs' f' n b2 hp2 lh2 FL2 hn => ?_, fun hall d G2 b2 => ?_⟩
    · refine ⟨_, rfl, x, dx, fs', rfl, hp2, x, dx, fs', _, rfl, hp2, lh2, q G2 f' n (fun b o eb => b2 b o (s2 b o eb) (ne_of_none eb nx)) FL2 hn⟩
    · exact ⟨true, O.te, fun _ a0 _ => qx hall G2 (fun b o eb => b2 b o (s2 b o eb) (ne_of_none eb nx)), fun z => Bool.noConfusion z⟩
end
end Ech

set_option Elab.async false
set_option linter.all false
set_option maxRecDepth 100000
set_option maxHeartbeats 4000000
namespace Ech
open PySem PySem.Spec PyProof.Rows L2 RZ StX

/-! ### lists of whole numbers as data -/
theorem dpL {K : PySem.W.Frag} {H : Hp} {p : Addr} {fs : List Nat} (h : H p = some (.lst (fs.map nV))) : Dp K H (.ref p) (.list (dN fs)) := .lst (SqL.of h) (dpAll_ints fs)
theorem eqv_lists (xs ys : List Nat) : PyData.eqv (.list (dN xs)) (.list (dN ys)) = decide (xs = ys) := eqv_ints xs ys
theorem shaped_list (fs : List Nat) : SeqAt.shaped (.list (dN fs)) = true := by
  unfold SeqAt.shaped
  have h1 : PyData.canLay0 (.list (dN fs)) = true := canLay_ints fs
  have h2 : PyData.depth (.list (dN fs)) ≤ 64 := by
    have := depth_ints fs
    show PyData.depthAll (dN fs) + 1 ≤ 64
    omega
  rw [h1, decide_eq_true h2]
  rfl

/-! ### the box -/
def kG : Key := Sum.inr "great"
def kS : Key := Sum.inr "small"
def kT : Key := Sum.inr "turn"
theorem nGS : ¬ kG = kS := by decide +kernel
theorem nGT : ¬ kG = kT := by decide +kernel
theorem nST : ¬ kS = kT := by decide +kernel
def bK (g s : Addr) (t : Nat) : List (Key × V) := [(kG, .ref g), (kS, .ref s), (kT, .int (t : Int))]
theorem bK_g {g s : Addr} {t : Nat} : valV (bK g s t) kG = some (.ref g) := by
  unfold bK
  rw [valV_cons, if_pos rfl]
theorem bK_s {g s : Addr} {t : Nat} : valV (bK g s t) kS = some (.ref s) := by
  unfold bK
  rw [valV_cons, if_neg nGS, valV_cons, if_pos rfl]
theorem bK_t {g s : Addr} {t : Nat} : valV (bK g s t) kT = some (.int (t : Int)) := by
  unfold bK
  rw [valV_cons, if_neg nGT, valV_cons, if_neg nST, valV_cons, if_pos rfl]
theorem bK_put {g s : Addr} {t u : Nat} : putK (bK g s t) kT (.int (u : Int)) = bK g s u := by
  unfold bK putK
  simp [nGT, nST]
/-- a box stands at b, its lists at g and s -/
structure BoxAt (H : Hp) (b g s : Addr) : Prop where
  box : ∃ t : Nat, H b = some (.dK (bK g s t))
  great : ∃ gs : List Nat, H g = some (.lst (gs.map nV)) ∧ gs.length ≤ 100
  small : ∃ ss : List Nat, H s = some (.lst (ss.map nV)) ∧ 0 < ss.length ∧ ss.length ≤ 100
  ne : g ≠ s
theorem BoxAt.bg {H : Hp} {b g s : Addr} (B : BoxAt H b g s) : b ≠ g := by
  obtain ⟨t, h1⟩ := B.box
  obtain ⟨gs, h2, _⟩ := B.great
  exact ne_of h1 h2 (fun z => nomatch z)
theorem BoxAt.bs {H : Hp} {b g s : Addr} (B : BoxAt H b g s) : b ≠ s := by
  obtain ⟨t, h1⟩ := B.box
  obtain ⟨gs, h2, _⟩ := B.small
  exact ne_of h1 h2 (fun z => nomatch z)
/-- what is there stands, but the box and its great list -/
def Dr (b g : Addr) (H H' : Hp) : Prop := ∀ x o, H x = some o → x ≠ b → x ≠ g → H' x = some o
theorem Dr.refl (b g : Addr) (H : Hp) : Dr b g H H := fun _ _ h _ _ => h
theorem Dr.trans {b g : Addr} {H H1 H2 : Hp} (a : Dr b g H H1) (c : Dr b g H1 H2) : Dr b g H H2 := fun x o h n1 n2 => c x o (a x o h n1 n2) n1 n2
theorem _root_.L2.Same.dr {b g : Addr} {H H' : Hp} (e : Same H H') : Dr b g H H' := fun x o h _ _ => e x o h
theorem Dr.putb {b g : Addr} {H H' : Hp} {o : HO} (e : Dr b g H H') : Dr b g H (upd H' b o) := fun x u h n1 n2 => by
  rw [upd_ne n1]
  exact e x u h n1 n2
theorem Dr.putg {b g : Addr} {H H' : Hp} {o : HO} (e : Dr b g H H') : Dr b g H (upd H' g o) := fun x u h n1 n2 => by
  rw [upd_ne n2]
  exact e x u h n1 n2
theorem Dr.tps {b g s : Addr} {H H' : Hp} (e : Dr b g H H') (B : BoxAt H b g s) : Tps H H' := fun x u h i => by
  obtain ⟨t, h1⟩ := B.box
  obtain ⟨gs, h2, _⟩ := B.great
  refine e x u h (fun z => ?_) (fun z => ?_)
  · rw [z, h1] at h
    cases h
    exact i
  · rw [z, h2] at h
    cases h
    exact i
theorem BoxAt.same {H H' : Hp} {b g s : Addr} (e : Same H H') (B : BoxAt H b g s) : BoxAt H' b g s := by
  obtain ⟨⟨t, h1⟩, ⟨gs, h2, h3⟩, ⟨ss, h4, h5⟩, ne⟩ := B
  exact ⟨⟨t, e _ _ h1⟩, ⟨gs, e _ _ h2, h3⟩, ⟨ss, e _ _ h4, h5⟩, ne⟩
/-- a free address, a list that is another -/
theorem Dr.lst {b g s : Addr} {H H' : Hp} {x : Addr} {xs : List V} (e : Dr b g H H') (B : BoxAt H b g s) (h : H x = some (.lst xs)) (hg : x ≠ g) : H' x = some (.lst xs) := by
  obtain ⟨t, h1⟩ := B.box
  exact e x _ h (ne_of h h1 (fun z => nomatch z)) hg
section
variable {P : Program} {w : World} {K : PySem.W.Frag} {mg : Str → Option Value} {base : Heap}

/-! ### _law_draw -/
def spDraw : Sp := fun vs H Q _ => ∃ (b g s : Addr) (m : Nat), vs = [.ref b, .int m] ∧ BoxAt H b g s ∧ 1 ≤ m ∧ m ≤ 1000 ∧ ∀ (d : Nat) H', d < m → BoxAt H' b g s → Dr b g H H' → Q (.int d) H'
theorem scDraw : FnScope ["_law_box", "_law_many", "_law_great", "_law_digit", "_law_cell", "_law_mixed"] ["_law_box", "_law_many"] (defScope sDraw) := ⟨rfl, rfl, rfl, by decide +kernel, rfl, by decide +kernel, by decide +kernel⟩
def nV_int (n : Nat) : Int := (n : Int)
theorem map_last {gs : List Nat} {v : Nat} : atI ((gs ++ [v]).map nV) (-1) = some (nV v) := by
  rw [List.map_append]
  exact atI_last _ _
theorem pe_last {X : Cx} {b : Expr} {tb : TE} {z z2 z3 : Pos} (h : PE X b tb) : PE X (.Subscript b (.UnaryOp .USub (.Constant (.int 1) 0 z) z2) z3) (tOp (rIxL X.K) tb (tUn (rU fun i => .int (-i)) (tC (.int 1)))) := pe_ix ix_list h (pe_un un_neg pe_int) (fun _ _ => rfl)
theorem ok_draw {f : Addr} {fd : FuncData} (F : Fun K "_law_draw" "_law_draw" sDraw f fd) (T : Fre mg) : FnOk P w K mg base CX0 1 f fd ["_law_box", "_law_many"] spDraw := by
  refine F.ok scDraw (fun vs H Q E h => ?_) (fun cdv A outer s H vs Q E hr h => ?_)
  · obtain ⟨b, g, s, m, rfl, _⟩ := h
    rfl
  · obtain ⟨b, g, s, m, rfl, B, hm1, hm2, q⟩ := h
    have nd := scDraw.nd
    have hu := hr.units
    have hu1 := hu_of hr
    refine ⟨_, pss_cons (ps_set (i := 2) nd rfl (.inl rfl) (pe_dget hu1 (pv 0) pe_str (fun _ _ => rfl)))
      (pss_cons (ps_while PassesOwn.never (pt_cmpR (op_neD hu) (pv 2) (pe_lst pa_nil) (nomark _))
        (pss_cons (ps_if (pt_cmpR op_gt (pe_last (pv 2)) pe_int (nomark _))
          (pss_cons (ps_set (i := 3) nd rfl (.inl rfl) (pe_op op_mod (pe_callTy call_int1 (by rfl) T.int (by decide +kernel) (pa_cons (pe_last (pv 2)) pa_nil)) (pv 1)))
          (pss_cons (ps_asg (pe_op op_fdiv (pe_callTy call_int1 (by rfl) T.int (by decide +kernel) (pa_cons (pe_last (pv 2)) pa_nil)) (pv 1)) (pg_sub (pv 2) (pe_un un_neg pe_int) set_list (by intro; rfl)))
          (pss_one (ps_ret (pv 3))))) pss_nil)
        (pss_one (ps_expr (pe_bm0 PySem.F.plainAttrs_list PySem.F.slot_list_pop PySem.F.type_list_pop mt_pop (pv 2))))))
      (pss_cons (ps_dput hu1 (pv 0) pe_str (pe_op op_add (pe_dget hu1 (pv 0) pe_str (fun _ _ => rfl)) pe_int) rfl)
      (pss_cons (ps_set (i := 4) nd rfl (.inl rfl) (pe_ix ix_list (pe_dget hu1 (pv 0) pe_str (fun _ _ => rfl)) (pe_op op_mod (pe_callTy call_int1 (by rfl) T.int (by decide +kernel) (pa_cons (pe_dget hu1 (pv 0) pe_str (fun _ _ => rfl)) pa_nil)) (pe_callB call_len_seq (by rfl) T.len PySem.boot_len (pa_cons (pe_dget hu1 (pv 0) pe_str (fun _ _ => rfl)) pa_nil))) (fun _ _ => rfl)))
      (pss_cons (ps_set (i := 5) nd rfl (.inl rfl) (pe_op op_add (pe_op op_mul (pv 4) pe_int) (pe_op op_mul (pe_dget hu1 (pv 0) pe_str (fun _ _ => rfl)) pe_int)))
      (pss_cons (ps_set (i := 5) nd rfl (.inl rfl) (pe_op op_mod (pe_callTy call_int1 (by rfl) T.int (by decide +kernel) (pa_cons (pv 5) pa_nil)) pe_int))
      (pss_cons (ps_set (i := 5) nd rfl (.inl rfl) (pe_op op_mod (pe_callTy call_int1 (by rfl) T.int (by decide +kernel) (pa_cons (pe_op op_mul (pv 5) (pe_op op_add (pe_op op_fdivW (pv 5) pe_int) pe_int)) pa_nil)) pe_int))
      (pss_one (ps_ret (pe_op op_mod (pe_callTy call_int1 (by rfl) T.int (by decide +kernel) (pa_cons (pe_op op_fdiv (pv 5) pe_int) pa_nil)) (pv 1)))))))))), ?_⟩
    obtain ⟨⟨t, h1⟩, ⟨gs, h2, h3⟩, ⟨ss, h4, h5, h6⟩, ne⟩ := id B
    have nbg := B.bg
    have nbs := B.bs
    refine ⟨_, rfl, b, .ref g, rfl, by rw [← bK_g]; exact DGet.k (k := kG) h1, ?_⟩
    refine ⟨fun k σ H' => ∃ gs' : List Nat, σ = [some (.ref b), some (.int (m : Int)), some (.ref g), none, none, none] ∧ H' b = some (.dK (bK g s t)) ∧ H' g = some (.lst (gs'.map nV)) ∧ gs'.length = k ∧ k ≤ 100 ∧ H' s = some (.lst (ss.map nV)) ∧ Dr b g H H',
      ⟨gs.length, gs, rfl, h1, h2, rfl, h3, h4, Dr.refl b g H⟩, ?_⟩
    rintro k σ H' ⟨gs', rfl, e1, e2, e3, e4, e5, dr⟩
    refine ⟨_, rfl, Nat.zero_le _, fun p np => ⟨_, _, dpL ((same_upd np) _ _ e2), dpL (fs := []) upd_same, shaped_list _, shaped_list [], _, rfl, ?_⟩⟩
    have t1 : Same H' (upd H' p (.lst [])) := same_upd np
    have e1 := t1 _ _ e1
    have e2 := t1 _ _ e2
    have e5 := t1 _ _ e5
    have dr := dr.trans t1.dr
    generalize upd H' p (.lst []) = G at t1 e1 e2 e5 dr ⊢
    rw [eqv_lists]
    rcases List.eq_nil_or_concat gs' with hgs | ⟨r, v, hgs⟩
    · subst hgs
      rw [decide_eq_true (show ([] : List Nat) = [] from rfl)]
      refine iteF ?_
      -- the turn
      have ec : (t : Int) + 1 = ((t + 1 : Nat) : Int) := by omega
      have hput : DPut G b (.str "turn") (.int ((t : Int) + 1)) (upd G b (.dK (bK g s (t + 1)))) := by
        have z := DPut.k (k := kT) (v := .int ((t + 1 : Nat) : Int)) e1 (by show 3 < sizeLine; decide)
        rw [bK_put] at z
        rw [ec]
        exact z
      refine ⟨_, rfl, b, .int (t : Int), rfl, by rw [← bK_t]; exact DGet.k (k := kT) e1, _, _, rfl, rfl, _, rfl, b, _, rfl, hput, ?_⟩
      have f1 : upd G b (.dK (bK g s (t + 1))) b = some (.dK (bK g s (t + 1))) := upd_same
      have f2 : upd G b (.dK (bK g s (t + 1))) g = some (.lst []) := by rw [upd_ne nbg.symm]; exact e2
      have f5 : upd G b (.dK (bK g s (t + 1))) s = some (.lst (ss.map nV)) := by rw [upd_ne nbs.symm]; exact e5
      have dr2 : Dr b g H (upd G b (.dK (bK g s (t + 1)))) := dr.putb
      generalize upd G b (.dK (bK g s (t + 1))) = G2 at f1 f2 f5 dr2 ⊢
      have B2 : BoxAt G2 b g s := ⟨⟨_, f1⟩, ⟨[], f2, Nat.zero_le _⟩, ⟨ss, f5, h5, h6⟩, ne⟩
      have hlen : (ss.map nV).length = ss.length := List.length_map _
      have gT : DGet G2 b (.str "turn") (some (.int ((t + 1 : Nat) : Int))) := by rw [← bK_t]; exact DGet.k (k := kT) f1
      have gS : DGet G2 b (.str "small") (some (.ref s)) := by rw [← bK_s]; exact DGet.k (k := kS) f1
      have hmod : (t + 1) % ss.length < ss.length := Nat.mod_lt _ h5
      refine ⟨_, rfl, b, .ref s, rfl, gS, _, rfl, b, _, rfl, gT, .inl ⟨_, rfl, _, rfl, b, .ref s, rfl, gS, s, _, rfl, .inl (SqL.of f5), _, _, rfl, rfl, by rw [hlen]; omega, s, _, _, _, rfl, rfl, SqL.of f5, at_of (j := (t + 1) % ss.length) (by rw [hlen]; rfl) (by rw [List.getElem?_map, getD_at hmod]; rfl), ?_⟩⟩
      refine ⟨_, rfl, _, _, rfl, rfl, .inr ⟨by decide, by decide⟩, _, rfl, b, _, rfl, gT, _, _, rfl, rfl, .inr ⟨by decide, by decide⟩, _, _, rfl, rfl, ?_⟩
      refine ⟨_, rfl, .inl ⟨_, rfl, _, _, rfl, rfl, (by show (0 : Int) < 18446744073709551557; decide), ?_⟩⟩
      have rest : ∀ M : Int, ((M % 18446744073709551557) * ((M % 18446744073709551557) / 4294967296 + 17)) % 18446744073709551557 / 65536 % (m : Int) = (((((M % 18446744073709551557) * ((M % 18446744073709551557) / 4294967296 + 17)) % 18446744073709551557 / 65536 % (m : Int)).toNat : Nat) : Int) ∧
          (((M % 18446744073709551557) * ((M % 18446744073709551557) / 4294967296 + 17)) % 18446744073709551557 / 65536 % (m : Int)).toNat < m := fun M => by
        have c1 := Int.emod_nonneg (((M % 18446744073709551557) * ((M % 18446744073709551557) / 4294967296 + 17)) % 18446744073709551557 / 65536) (show (m : Int) ≠ 0 by omega)
        have c2 := Int.emod_lt_of_pos (((M % 18446744073709551557) * ((M % 18446744073709551557) / 4294967296 + 17)) % 18446744073709551557 / 65536) (show (0 : Int) < (m : Int) by omega)
        generalize ((M % 18446744073709551557) * ((M % 18446744073709551557) / 4294967296 + 17)) % 18446744073709551557 / 65536 % (m : Int) = Z at c1 c2 ⊢
        exact ⟨by omega, by omega⟩
      have lim : ∀ M : Int, -(2 ^ 64) < M % 18446744073709551557 ∧ M % 18446744073709551557 < 2 ^ 64 := fun M => by
        have c1 := Int.emod_nonneg M (show (18446744073709551557 : Int) ≠ 0 by decide)
        have c2 := Int.emod_lt_of_pos M (show (0 : Int) < 18446744073709551557 by decide)
        exact ⟨by omega, by omega⟩
      refine ⟨_, rfl, _, rfl, _, _, rfl, rfl, ⟨by decide, by decide +kernel⟩, _, _, rfl, rfl, _, _, rfl, rfl, .inl (lim _), .inl ⟨_, rfl, _, _, rfl, rfl, (by show (0 : Int) < 18446744073709551557; decide), ?_⟩⟩
      refine ⟨_, rfl, _, _, rfl, rfl, ⟨by decide, by decide⟩, .inl ⟨_, rfl, _, rfl, _, _, rfl, rfl, (by show (0 : Int) < (m : Int); omega), ?_⟩⟩
      have fin := rest (((ss.getD ((t + 1) % ss.length) 0 : Nat) : Int) * 6364136223846793005 + ((t + 1 : Nat) : Int) * 1442695040888963407)
      have qq := q _ G2 fin.2 B2 dr2
      rw [← fin.1] at qq
      exact qq
    · have hgs : gs' = r ++ [v] := by simpa using hgs
      subst hgs
      have hlen : ((r ++ [v]).map nV).length = r.length + 1 := by rw [List.length_map, List.length_append]; rfl
      rw [decide_eq_false (show ¬ r ++ [v] = [] by simp)]
      refine iteT ⟨fun σ2 H2 => ∃ gs' : List Nat, σ2 = [some (.ref b), some (.int (m : Int)), some (.ref g), none, none, none] ∧ H2 b = some (.dK (bK g s t)) ∧ H2 g = some (.lst (gs'.map nV)) ∧ gs'.length = k - 1 ∧ k - 1 ≤ 100 ∧ H2 s = some (.lst (ss.map nV)) ∧ Dr b g H H2,
        fun σ2 H2 z => ⟨k - 1, by rw [← e3, List.length_append]; show r.length + 1 - 1 < r.length + 1; omega, z⟩, ?_⟩
      refine ⟨_, rfl, _, rfl, g, _, _, _, rfl, rfl, SqL.of e2, map_last, _, _, rfl, rfl, _, rfl, ?_⟩
      by_cases hv : 0 < v
      · rw [decide_eq_true (show (0 : Int) < (v : Int) by omega)]
        refine iteT ⟨_, rfl, _, rfl, g, _, _, _, rfl, rfl, SqL.of e2, map_last, .inl ⟨_, rfl, _, rfl, _, _, rfl, rfl, (by show (0 : Int) < (m : Int); omega), ?_⟩⟩
        have hix : ixN ((r ++ [v]).map nV).length (-1) = some r.length := by
          unfold ixN
          rw [hlen, if_neg (by decide), if_pos (by omega)]
          congr 1
          omega
        refine ⟨_, rfl, _, rfl, g, _, _, _, rfl, rfl, SqL.of e2, map_last, .inl ⟨_, rfl, _, rfl, _, _, rfl, rfl, ⟨by omega, by omega⟩, _, rfl, _, rfl, g, _, _, _, rfl, rfl, e2, hix, ?_⟩⟩
        have hset : ((r ++ [v]).map nV).set r.length (V.int ((v : Int) / (m : Int))) = (r ++ [v / m]).map nV := by
          rw [List.map_append, List.map_append, List.set_append_right _ _ (by rw [List.length_map]; exact Nat.le_refl _), List.length_map, Nat.sub_self]
          rfl
        have hl2 : (r ++ [v / m]).length ≤ 100 := by
          have z : (r ++ [v]).length = r.length + 1 := by rw [List.length_append]; rfl
          rw [List.length_append]
          show r.length + 1 ≤ 100
          omega
        refine ⟨_, rfl, ?_⟩
        have qq := q (v % m) (upd G g (.lst ((r ++ [v / m]).map nV))) (Nat.mod_lt _ (by omega)) ⟨⟨t, by rw [upd_ne nbg]; exact e1⟩, ⟨_, upd_same, hl2⟩, ⟨ss, by rw [upd_ne ne.symm]; exact e5, h5, h6⟩, ne⟩ dr.putg
        rw [← hset] at qq
        exact qq
      · rw [decide_eq_false (show ¬ (0 : Int) < (v : Int) by omega)]
        have hz : (r ++ [v]).length = r.length + 1 := by rw [List.length_append]; rfl
        refine iteF ⟨_, rfl, .inl ⟨rfl, _, SqL.of e2⟩, g, _, nV v, rfl, rfl, e2, ?_, ?_⟩
        · rw [hlen, List.map_append, Nat.add_sub_cancel, List.getElem?_append_right (by rw [List.length_map]; exact Nat.le_refl _), List.length_map, Nat.sub_self]
          rfl
        · refine ⟨r, rfl, by rw [upd_ne nbg]; exact e1, ?_, by omega, by omega, by rw [upd_ne ne.symm]; exact e5, dr.putg⟩
          rw [upd_same, List.map_append]
          show some (HO.lst (r.map nV ++ [nV v]).dropLast) = _
          rw [List.dropLast_concat]
end
end Ech

set_option Elab.async false
set_option linter.all false
set_option maxRecDepth 100000
set_option maxHeartbeats 4000000
namespace Ech
open PySem PySem.Spec PyProof.Rows L2 RZ StX
section
variable {P : Program} {w : World} {K : PySem.W.Frag} {mg : Str → Option Value} {base : Heap}

/-! ### _law_one -/
def spOne : Sp := fun vs H Q _ => ∃ (b g s l : Addr) (xs : List V), vs = [.ref b, .ref l] ∧ BoxAt H b g s ∧ H l = some (.lst xs) ∧ l ≠ g ∧ 1 ≤ xs.length ∧ xs.length ≤ 1000 ∧
  ∀ (i : Nat) (v : V) H', xs[i]? = some v → BoxAt H' b g s → Dr b g H H' → Q v H'
theorem scOne : FnScope ["_law_box", "_law_items"] ["_law_box", "_law_items"] (defScope sOne) := ⟨rfl, rfl, rfl, by decide +kernel, rfl, by decide +kernel, by decide +kernel⟩
theorem ok_one {f : Addr} {fd : FuncData} (F : Fun K "_law_one" "_law_one" sOne f fd) (T : Fre mg) (H1 : Has P w K mg base 1 "_law_draw" ["_law_box", "_law_many"] spDraw) : FnOk P w K mg base CX0 2 f fd ["_law_box", "_law_items"] spOne := by
  refine F.ok scOne (fun vs H Q E h => ?_) (fun cdv A outer s H vs Q E hr h => ?_)
  · obtain ⟨b, g, s, l, xs, rfl, _⟩ := h
    rfl
  · obtain ⟨b, g, s, l, xs, rfl, B, hl, hlg, h1, h2, q⟩ := h
    refine ⟨_, pss_one (ps_ret (pe_ix ix_list (pv 1) (pe_has H1 hr (by rfl) (pa_cons (pv 0) (pa_cons (pe_callB call_len_seq (by rfl) T.len PySem.boot_len (pa_cons (pv 1) pa_nil)) pa_nil))) (fun _ _ => rfl))), ?_⟩
    refine ⟨_, rfl, _, rfl, _, rfl, l, _, rfl, .inl (SqL.of hl), b, g, s, xs.length, rfl, B, h1, h2, fun d H' hd B' dr => ?_⟩
    have e := List.getElem?_eq_getElem hd
    exact ⟨l, xs, _, _, rfl, rfl, SqL.of (dr.lst B hl hlg), atI_nat e, q d _ H' e B' dr⟩

/-! ### _law_opened -/
def spOpened (K : PySem.W.Frag) : Sp := fun vs H Q _ => ∃ (a : Addr) (ns : List Int), vs = [.ref a] ∧ SqL K H a (ns.map V.int) ∧ ns.length ≤ 63 ∧ ∀ H' b g s, Same H H' → BoxAt H' b g s → Q (.ref b) H'
theorem scOpened : FnScope ["_law_script", "_law_cells", "_law_small", "_law_great", "_law_cell"] ["_law_script"] (defScope sOpened) := ⟨rfl, rfl, rfl, by decide +kernel, rfl, by decide +kernel, by decide +kernel⟩
def rAbs : List V → Hp → VK → Prop := fun xs H Q => ∃ i, xs = [.int i] ∧ Q (.int (if i < 0 then -i else i)) H
def rPow (lim : Int) : R2 := fun x y H Q => x = .int 10 ∧ y = .int 18 ∧ Q (.int lim) H
theorem op_pow18 {X : Cx} {lim : Int} (hl : (10 : Int) ^ (18 : Int).toNat = lim) : OpR X (binaryOp .Pow) (rPow lim) := fun pins s σ H x y v u Q I rx ry ⟨e1, e2, q⟩ => op_pow pins s σ H x y v u Q I rx ry ⟨10, 18, e1, e2, ⟨by decide, by decide, by decide⟩, by
  show Q (V.int (10 ^ (18 : Int).toNat)) H
  rw [hl]
  exact q⟩
def rLt : R2 := rI0 fun i j => .bl (decide (i < j))
def rGe : R2 := rI0 fun i j => .bl (decide (j ≤ i))
theorem cutV_mapI (xs : List Int) (lo hi : Option Int) : cutV (xs.map V.int) lo hi = ((xs.drop (HT.sIx xs.length 0 lo)).take (HT.sIx xs.length xs.length hi - HT.sIx xs.length 0 lo)).map V.int := by
  unfold cutV
  rw [List.map_take, List.map_drop, List.length_map]
theorem abs_nat (i : Int) : (if i < 0 then -i else i) = ((i.natAbs : Nat) : Int) := by
  split <;> omega
theorem snocN (ys : List Nat) (v : Nat) : ys.map nV ++ [nV v] = (ys ++ [v]).map nV := by rw [List.map_append]; rfl
theorem bK_merge {g s : Addr} : mergeK [] (bK g s 0) = bK g s 0 := by
  unfold bK mergeK
  simp [putK, nGS, nGT, nST]
theorem ok_opened {f : Addr} {fd : FuncData} (F : Fun K "_law_opened" "_law_opened" sOpened f fd) (T : Fre mg) : FnOk P w K mg base CX0 1 f fd ["_law_script"] (spOpened K) := by
  refine F.ok scOpened (fun vs H Q E h => ?_) (fun cdv A outer s H vs Q E hr h => ?_)
  · obtain ⟨a, ns, rfl, _⟩ := h
    rfl
  · obtain ⟨a, ns, rfl, hS, h63, q⟩ := h
    have nd := scOpened.nd
    have hu := hr.units
    obtain ⟨lim, hlim⟩ : ∃ l : Int, (10 : Int) ^ (18 : Int).toNat = l := ⟨_, rfl⟩
    refine ⟨_, pss_cons (ps_setLc (i := 1) (own := [("_law_cell", 4)]) (g := gName 4) (tt := tYes) (te := tCB rAbs (tCons (tVar 4) tNil)) rfl nd rfl rfl (sw_true rfl rfl rfl (by decide +kernel)) (pi_list (pe_slice sl_list (pv 0) po_none (po_some pe_int))) (blkOk_by (N := ["_law_script", "_law_cells", "_law_small", "_law_great", "_law_cell"]) (sc := defScope sOpened) (by decide +kernel))
          (fun _ _ _ _ _ => pg_name (i := 4) nd rfl (Or.inl rfl)) (fun _ _ _ _ _ => pts_nil) (fun _ _ _ _ _ => by exact (pe_callB call_abs (by rfl) T.abs (by decide +kernel) (pa_cons (pv 4) pa_nil))))
      (pss_cons (ps_setLc (i := 2) (own := [("_law_cell", 4)]) (g := gName 4) (tt := tTest (tOp rLt (tVar 4) (tOp (rPow lim) (tC (.int 10)) (tC (.int 18))))) (te := tVar 4) rfl nd rfl rfl (sw_true rfl rfl rfl (by decide +kernel)) (pi_list (pv 1)) (blkOk_by (N := ["_law_script", "_law_cells", "_law_small", "_law_great", "_law_cell"]) (sc := defScope sOpened) (by decide +kernel))
          (fun _ _ _ _ _ => pg_name (i := 4) nd rfl (Or.inl rfl)) (fun _ _ _ _ _ => by exact (pts_one (pt_cmpR op_lt (pv 4) (pe_op (op_pow18 hlim) pe_int pe_int) (nomark _)))) (fun _ _ _ _ _ => by exact (pv 4)))
      (pss_cons (ps_setLc (i := 3) (own := [("_law_cell", 4)]) (g := gName 4) (tt := tTest (tOp rGe (tVar 4) (tOp (rPow lim) (tC (.int 10)) (tC (.int 18))))) (te := tVar 4) rfl nd rfl rfl (sw_true rfl rfl rfl (by decide +kernel)) (pi_list (pv 1)) (blkOk_by (N := ["_law_script", "_law_cells", "_law_small", "_law_great", "_law_cell"]) (sc := defScope sOpened) (by decide +kernel))
          (fun _ _ _ _ _ => pg_name (i := 4) nd rfl (Or.inl rfl)) (fun _ _ _ _ _ => by exact (pts_one (pt_cmpR op_ge (pv 4) (pe_op (op_pow18 hlim) pe_int pe_int) (nomark _)))) (fun _ _ _ _ _ => by exact (pv 4)))
      (pss_one (ps_ret (pe_disp (pps_cons pe_str (pv 3) (pps_cons pe_str (pe_op op_cat (pv 2) (pe_op op_rep (pe_lst (pa_cons pe_int pa_nil)) (pe_callTy call_int1 (by rfl) T.int (by decide +kernel) (pa_cons (pe_cmpR (op_eqD hu) (pv 2) (pe_lst pa_nil) (nomark _)) pa_nil)))) (pps_cons pe_str pe_int pps_nil))) rfl rfl (by simp) (by decide)))))), ?_⟩
    refine ⟨_, rfl, 61, rfl, a, _, rfl, hS, fun p np => ⟨p, rfl, ⟨_, SqL.of upd_same⟩, fun D hD => ?_⟩⟩
    rw [cutV_mapI] at hD ⊢
    have s1 : Same H (upd H p (.lst (((ns.drop (HT.sIx ns.length 0 none)).take (HT.sIx ns.length ns.length (some 61) - HT.sIx ns.length 0 none)).map V.int))) := same_upd np
    have e1 : upd H p (.lst (((ns.drop (HT.sIx ns.length 0 none)).take (HT.sIx ns.length ns.length (some 61) - HT.sIx ns.length 0 none)).map V.int)) p = some (.lst (((ns.drop (HT.sIx ns.length 0 none)).take (HT.sIx ns.length ns.length (some 61) - HT.sIx ns.length 0 none)).map V.int)) := upd_same
    have h61 : ((ns.drop (HT.sIx ns.length 0 none)).take (HT.sIx ns.length ns.length (some 61) - HT.sIx ns.length 0 none)).length ≤ 63 := by
      rw [List.length_take, List.length_drop]
      omega
    revert s1 e1 h61 hD
    generalize (ns.drop (HT.sIx ns.length 0 none)).take (HT.sIx ns.length ns.length (some 61) - HT.sIx ns.length 0 none) = ms
    generalize upd H p (.lst (ms.map V.int)) = H1
    intro hD s1 e1 h61
    refine lc_list (K := K) (a := p) (xs := ms.map V.int) (fun i H' => Same H1 H' ∧ ∃ ys : List Nat, H' D = some (.lst (ys.map nV)) ∧ ys.length = i) ⟨same_upd hD, [], upd_same, rfl⟩ (fun i H' _ z => SqL.of (z.1 _ _ e1)) (fun i x H' hx z => ?_) (fun H' z => ?_)
    · obtain ⟨z1, ys, z2, z3⟩ := z
      obtain ⟨n, hn, rfl⟩ := map_at hx
      have hi := (List.getElem?_eq_some_iff.mp hn).1
      refine ⟨rfl, iteT (B := Same H1 H' ∧ ∃ ys : List Nat, H' D = some (.lst (ys.map nV)) ∧ ys.length = i + 1) ⟨_, rfl, n, rfl, _, z2, by rw [List.length_map]; exact sz_lt (by omega), z1.mut hD, ys ++ [n.natAbs], ?_, by rw [List.length_append, z3]; rfl⟩⟩
      rw [upd_same, abs_nat, ← snocN]
      rfl
    obtain ⟨z1, ys, z2, z3⟩ := z
    rw [List.length_map] at z3
    have s2 := s1.trans z1
    clear z1 e1 hD s1
    -- the small ones
    refine ⟨_, rfl, D, rfl, ⟨_, SqL.of z2⟩, fun D2 hD2 => lc_list (K := K) (a := D) (xs := ys.map nV) (fun i G => Same H' G ∧ ∃ us : List Nat, G D2 = some (.lst (us.map nV)) ∧ us.length ≤ i) ⟨same_upd hD2, [], upd_same, Nat.le_refl _⟩ (fun i G _ z => SqL.of (z.1 _ _ z2)) (fun i x G hx z => ?_) (fun G z => ?_)⟩
    · obtain ⟨y1, us, y2, y3⟩ := z
      obtain ⟨n, hn, rfl⟩ := map_at hx
      have hi := (List.getElem?_eq_some_iff.mp hn).1
      refine ⟨rfl, _, rfl, rfl, rfl, _, _, rfl, rfl, _, rfl, ?_⟩
      refine ite2 (B := Same H' G ∧ ∃ us : List Nat, G D2 = some (.lst (us.map nV)) ∧ us.length ≤ i + 1) (fun _ => ?_) (fun _ => ?_)
      · refine ⟨_, rfl, _, y2, by rw [List.length_map]; exact sz_lt (by omega), y1.mut hD2, us ++ [n], by rw [upd_same, ← snocN], by rw [List.length_append]; exact Nat.succ_le_succ y3⟩
      · exact ⟨y1, us, y2, by omega⟩
    obtain ⟨y1, us, y2, y3⟩ := z
    rw [List.length_map] at y3
    have z2 := y1 _ _ z2
    have s3 := s2.trans y1
    clear y1 hD2
    -- the great ones
    refine ⟨_, rfl, D, rfl, ⟨_, SqL.of z2⟩, fun D3 hD3 => lc_list (K := K) (a := D) (xs := ys.map nV) (fun i G' => Same G G' ∧ ∃ gs : List Nat, G' D3 = some (.lst (gs.map nV)) ∧ gs.length ≤ i) ⟨same_upd hD3, [], upd_same, Nat.le_refl _⟩ (fun i G' _ z => SqL.of (z.1 _ _ z2)) (fun i x G' hx z => ?_) (fun G' z => ?_)⟩
    · obtain ⟨x1, gs, x2, x3⟩ := z
      obtain ⟨n, hn, rfl⟩ := map_at hx
      have hi := (List.getElem?_eq_some_iff.mp hn).1
      refine ⟨rfl, _, rfl, rfl, rfl, _, _, rfl, rfl, _, rfl, ?_⟩
      refine ite2 (B := Same G G' ∧ ∃ gs : List Nat, G' D3 = some (.lst (gs.map nV)) ∧ gs.length ≤ i + 1) (fun _ => ?_) (fun _ => ?_)
      · refine ⟨_, rfl, _, x2, by rw [List.length_map]; exact sz_lt (by omega), x1.mut hD3, gs ++ [n], by rw [upd_same, ← snocN], by rw [List.length_append]; exact Nat.succ_le_succ x3⟩
      · exact ⟨x1, gs, x2, by omega⟩
    obtain ⟨x1, gs, x2, x3⟩ := z
    rw [List.length_map] at x3
    have y2 := x1 _ _ y2
    have s4 := s3.trans x1
    clear x1 hD3
    -- the box
    intro b nb
    have t1 : Same G' (upd G' b (.dK [])) := same_upd nb
    have x2 := t1 _ _ x2
    have y2 := t1 _ _ y2
    have s5 := s4.trans t1
    have eb : upd G' b (.dK []) b = some (.dK []) := upd_same
    revert t1 x2 y2 s5 eb
    generalize upd G' b (.dK []) = G1
    intro t1 x2 y2 s5 eb
    refine ⟨_, rfl, _, rfl, (by show 1 ≤ sizeLine; decide), fun l nl => ?_⟩
    have t2 := same_upd (o := .lst [.int 103]) nl
    have x2 := t2 _ _ x2
    have y2 := t2 _ _ y2
    have s5 := s5.trans t2
    have eb := t2 _ _ eb
    have el : upd G1 l (.lst [.int 103]) l = some (.lst [.int 103]) := upd_same
    revert t1 t2 x2 y2 s5 eb el
    generalize upd G1 l (.lst [.int 103]) = G2
    intro t1 t2 x2 y2 s5 eb el
    refine ⟨_, rfl, Nat.zero_le _, fun z nz => ⟨_, _, dpL ((same_upd nz) _ _ y2), dpL (fs := []) upd_same, shaped_list _, shaped_list [], ?_⟩⟩
    have t3 := same_upd (o := HO.lst []) nz
    have x2 := t3 _ _ x2
    have y2 := t3 _ _ y2
    have s5 := s5.trans t3
    have eb := t3 _ _ eb
    have el := t3 _ _ el
    revert t3 x2 y2 s5 eb el
    generalize upd G2 z (.lst []) = G3
    intro t3 x2 y2 s5 eb el
    rw [eqv_lists]
    refine .inr ⟨_, rfl, l, _, _, rfl, rfl, el, ?_, ?_, ?_, fun r nr => ?_⟩
    · split <;> decide
    · split <;> decide
    · split <;> decide
    obtain ⟨ex, hex, hpos, hex1⟩ : ∃ ex : List Nat, (List.replicate (if decide (us = []) = true then (1 : Int) else 0).toNat [V.int 103]).flatten = ex.map nV ∧ 0 < us.length + ex.length ∧ ex.length ≤ 1 := by
      cases us with
      | nil => exact ⟨[103], rfl, by decide, by decide⟩
      | cons u us => exact ⟨[], rfl, Nat.succ_pos _, by decide⟩
    have t4 := same_upd (o := .lst (List.replicate (if decide (us = []) = true then (1 : Int) else 0).toNat [V.int 103]).flatten) nr
    have x2 := t4 _ _ x2
    have y2 := t4 _ _ y2
    have s5 := s5.trans t4
    have eb := t4 _ _ eb
    have er : upd G3 r (.lst (List.replicate (if decide (us = []) = true then (1 : Int) else 0).toNat [V.int 103]).flatten) r = some (.lst (ex.map nV)) := by rw [upd_same, hex]
    revert t4 x2 y2 s5 eb er
    generalize upd G3 r (.lst (List.replicate (if decide (us = []) = true then (1 : Int) else 0).toNat [V.int 103]).flatten) = G4
    intro t4 x2 y2 s5 eb er
    refine ⟨D2, r, _, _, rfl, rfl, y2, er, by rw [List.length_map, List.length_map]; exact sz_le (by omega), fun c nc => ?_⟩
    rw [← List.map_append]
    have ngc : D3 ≠ c := ne_of_none x2 nc
    have t5 := same_upd (o := .lst ((us ++ ex).map nV)) nc
    have x2 := t5 _ _ x2
    have s5 := s5.trans t5
    have eb := t5 _ _ eb
    have ec : upd G4 c (.lst ((us ++ ex).map nV)) c = some (.lst ((us ++ ex).map nV)) := upd_same
    revert t5 x2 s5 eb ec
    generalize upd G4 c (.lst ((us ++ ex).map nV)) = G5
    intro t5 x2 s5 eb ec
    refine ⟨eb, bK D3 c 0, rfl, (by show 3 ≤ 15; decide), ?_⟩
    rw [bK_merge]
    have nbD : D3 ≠ b := ne_of x2 eb (fun z => nomatch z)
    have nbc : c ≠ b := ne_of ec eb (fun z => nomatch z)
    have nHb : H b = none := by
      cases hh : H b with
      | none => rfl
      | some o =>
        exfalso
        have z := s4 _ _ hh
        rw [nb] at z
        cases z
    refine q _ b D3 c (s5.mut nHb) ⟨⟨0, upd_same⟩, ⟨gs, by rw [upd_ne nbD]; exact x2, by omega⟩, ⟨us ++ ex, by rw [upd_ne nbc]; exact ec, by rw [List.length_append]; exact hpos, by rw [List.length_append]; omega⟩, ngc⟩
end
end Ech

set_option Elab.async false
set_option linter.all false
set_option maxRecDepth 100000
set_option maxHeartbeats 8000000
namespace Ech
open PySem PySem.Spec PyProof.Rows L2 RZ StX

/-! ### comprehensions that draw -/
theorem BoxAt.updD {H : Hp} {b g s D : Addr} {o : HO} (B : BoxAt H b g s) (n1 : b ≠ D) (n2 : g ≠ D) (n3 : s ≠ D) : BoxAt (upd H D o) b g s := by
  obtain ⟨⟨t, h1⟩, ⟨gs, h2, h3⟩, ⟨ss, h4, h5⟩, ne⟩ := B
  exact ⟨⟨t, by rw [upd_ne n1]; exact h1⟩, ⟨gs, by rw [upd_ne n2]; exact h2, h3⟩, ⟨ss, by rw [upd_ne n3]; exact h4, h5⟩, ne⟩
theorem Dr.mut {b g : Addr} {H H' : Hp} {p : Addr} {o : HO} (e : Dr b g H H') (h : H p = none) : Dr b g H (upd H' p o) := fun x u hx n1 n2 => by
  rw [upd_ne (ne_of_none hx h)]
  exact e x u hx n1 n2
section
variable {te : TE} {vs : List Nat} {σ : L2.St} {H : Hp} {D b g s : Addr} {Qd : Hp → Prop} {j : Nat}
theorem lcD (hD : H D = none) (B : BoxAt H b g s) {n : Nat} (P : Nat → V → Prop) (hz : n ≤ 1000) (hw : ∀ x, wipe ((wipe σ vs).set j (some x)) vs = wipe σ vs)
    (step : ∀ (i : Nat) H', i < n → BoxAt H' b g s → Dr b g H H' → ∀ R : VK, (∀ y H'', BoxAt H'' b g s → Dr b g H' H'' → P i y → R y H'') → te ((wipe σ vs).set j (some (.int (i : Int)))) H' R)
    (k : ∀ ys H', BoxAt H' b g s → Dr b g H H' → H' D = some (.lst ys) → ys.length = n → (∀ i y, ys[i]? = some y → P i y) → Qd H') :
    ∃ W : Nat → Nat → Hp → Prop, (∃ m, W 0 m (upd H D (.lst []))) ∧ ∀ i m H, W i m H →
      ((Itr 0 n).stop i H ∧ Qd H) ∨ ((Itr 0 n).go i H ∧ ∃ Nx : Hp → Prop, (∀ H', Nx H' → ∃ m', m' < m ∧ W (i + 1) m' H') ∧ ∀ x H', (Itr 0 n).yld i H x H' → gName j x (wipe σ vs) H' fun σ2 H2 => wipe σ2 vs = wipe σ vs ∧ tYes σ2 H2 fun b H3 =>
        if b = true then te σ2 H3 fun y H4 => ∃ acc, H4 D = some (.lst acc) ∧ acc.length < sizeLine ∧ Nx (upd H4 D (.lst (acc ++ [y]))) else Nx H3) := by
  obtain ⟨t0, e1⟩ := B.box
  obtain ⟨gs, e2, _⟩ := B.great
  obtain ⟨ss, e3, _⟩ := B.small
  have n1 : b ≠ D := ne_of_none e1 hD
  have n2 : g ≠ D := ne_of_none e2 hD
  have n3 : s ≠ D := ne_of_none e3 hD
  refine lc_range (lo := 0) (n := n) (fun i H' => BoxAt H' b g s ∧ Dr b g H H' ∧ ∃ ys, H' D = some (.lst ys) ∧ ys.length = i ∧ ∀ m y, ys[m]? = some y → P m y) ⟨B.updD n1 n2 n3, (Dr.refl b g H).mut hD, [], upd_same, rfl, fun m y e => by simp at e⟩ (fun i H' hi p => ?_) (fun H' p => ?_)
  · have e0 : (0 : Int) + (i : Int) = (i : Int) := Int.zero_add _
    obtain ⟨p1, p2, ys, p3, p4, p5⟩ := p
    show wipe ((wipe σ vs).set j (some (.int ((0 : Int) + (i : Int))))) vs = wipe σ vs ∧ (if true = true then te ((wipe σ vs).set j (some (.int ((0 : Int) + (i : Int))))) H' fun y H4 => ∃ acc, H4 D = some (.lst acc) ∧ acc.length < sizeLine ∧
      (BoxAt (upd H4 D (.lst (acc ++ [y]))) b g s ∧ Dr b g H (upd H4 D (.lst (acc ++ [y]))) ∧ ∃ ys, (upd H4 D (.lst (acc ++ [y]))) D = some (.lst ys) ∧ ys.length = i + 1 ∧ ∀ m y, ys[m]? = some y → P m y) else (BoxAt H' b g s ∧ Dr b g H H' ∧ ∃ ys : List V, H' D = some (.lst ys) ∧ ys.length = i + 1 ∧ ∀ m y, ys[m]? = some y → P m y))
    rw [e0]
    refine ⟨hw _, iteT (step i H' hi p1 p2 _ fun y H'' B'' dr e => ?_)⟩
    refine ⟨ys, dr D _ p3 n1.symm n2.symm, sz_lt (by omega), B''.updD n1 n2 n3, (p2.trans dr).mut hD, ys ++ [y], upd_same, by rw [List.length_append, p4]; rfl, fun m z hz' => ?_⟩
    by_cases hm : m < ys.length
    · rw [List.getElem?_append_left hm] at hz'
      exact p5 m z hz'
    · rw [List.getElem?_append_right (by omega)] at hz'
      have hm0 : m - ys.length = 0 := by
        cases h : m - ys.length with
        | zero => rfl
        | succ q => rw [h] at hz'; simp at hz'
      rw [hm0] at hz'
      have ez : y = z := Option.some.inj hz'
      have em : m = i := by omega
      subst ez em
      exact e
  · obtain ⟨p1, p2, ys, p3, p4, p5⟩ := p
    exact k ys H' p1 p2 p3 p4 p5
end
/-- a list whose items are told by a map -/
theorem list_of {α : Type} (g : α → V) (Pr : α → Prop) : ∀ {ys : List V}, (∀ (i : Nat) (y : V), ys[i]? = some y → ∃ a, y = g a ∧ Pr a) → ∃ l : List α, ys = l.map g ∧ ∀ a ∈ l, Pr a
  | [], _ => ⟨[], rfl, fun a h => absurd h List.not_mem_nil⟩
  | y :: ys, h => by
    obtain ⟨a, e, p⟩ := h 0 y rfl
    obtain ⟨l, el, pl⟩ := list_of g Pr (ys := ys) (fun i z hz => h (i + 1) z hz)
    refine ⟨a :: l, by rw [e, el]; rfl, fun x hx => ?_⟩
    rcases List.mem_cons.mp hx with z | z
    · rw [z]; exact p
    · exact pl x z
/-- a list whose items are told by their places -/
theorem list_at {f : Nat → V} {n : Nat} {ys : List V} (hl : ys.length = n) (h : ∀ (i : Nat) (y : V), ys[i]? = some y → y = f i) : ys = (List.range n).map f := by
  apply List.ext_getElem?
  intro i
  rw [List.getElem?_map]
  by_cases hi : i < n
  · rw [List.getElem?_range hi]
    have e := List.getElem?_eq_getElem (show i < ys.length by omega)
    rw [e, h i _ e]
    rfl
  · rw [List.getElem?_eq_none (show ys.length ≤ i by omega), List.getElem?_eq_none (show (List.range n).length ≤ i by rw [List.length_range]; omega)]
    rfl
end Ech

set_option Elab.async false
set_option linter.all false
set_option maxRecDepth 100000
set_option maxHeartbeats 16000000
namespace Ech
open PySem PySem.Spec PyProof.Rows L2 RZ StX
def eAddU : R2 := fun x y H Q => ∃ n m : Nat, x = .int (n : Int) ∧ y = .int (m : Int) ∧ Q (.int ((n + m : Nat) : Int)) H
theorem op_addU {X : Cx} : OpR X (binaryOp .Add) eAddU := fun pins s σ H x y v u Q I rx ry ⟨n, m, e1, e2, q⟩ => op_add pins s σ H x y v u Q I rx ry ⟨n, m, e1, e2, q⟩
theorem fit : ∀ d1, d1 < 3 → ∀ d2, d2 < 5 → d2 < ([5, 2, 1] : List Nat).getD d1 0 → prodI (List.replicate (2 + d1) (((2 + d2 : Nat)) : Int)) ≤ 36 := by decide
theorem pick3 : ∀ d1, d1 < 3 → 1 ≤ ([5, 2, 1] : List Nat).getD d1 0 ∧ ([5, 2, 1] : List Nat).getD d1 0 ≤ 5 := by decide
theorem at3 {d1 : Nat} (h : d1 < 3) : ([V.int 5, V.int 2, V.int 1] : List V)[d1]? = some (.int ((([5, 2, 1] : List Nat).getD d1 0 : Nat) : Int)) := by
  match d1, h with
  | 0, _ => rfl
  | 1, _ => rfl
  | 2, _ => rfl
theorem pick2 {size : Nat} (k : Nat) (hs : 0 < size) (t : Nat) : ∃ o : Option Nat, atI [V.non, V.int (((k + 1) % size : Nat) : Int)] (((t % 2 : Nat)) : Int) = some (oV o) ∧ ∀ v, o = some v → v < size := by
  have h : t % 2 = 0 ∨ t % 2 = 1 := by omega
  rcases h with h | h
  · rw [h]
    exact ⟨none, atI_nat (j := 0) rfl, fun v z => nomatch z⟩
  · rw [h]
    exact ⟨some ((k + 1) % size), atI_nat (j := 1) rfl, fun v z => by cases z; exact Nat.mod_lt _ hs⟩
theorem rep1 {α : Type} (x : α) : ∀ n : Nat, (List.replicate n [x]).flatten = List.replicate n x
  | 0 => rfl
  | n + 1 => by
    rw [List.replicate_succ, List.flatten_cons, rep1 x n]
    rfl
def eGt : R2 := fun x y H Q => ∃ i j : Int, x = .int i ∧ y = .int j ∧ ∀ b : Bool, Q (.bl b) H
theorem op_gtA {X : Cx} : OpR X (compareOp .Gt) eGt := fun pins s σ H x y v u Q I rx ry ⟨i, j, e1, e2, q⟩ => op_gt pins s σ H x y v u Q I rx ry ⟨i, j, e1, e2, q _⟩
theorem at_map' {l : List Nat} {i x : Nat} (h : l[i]? = some x) : (l.map nV)[i]? = some (nV x) := by rw [List.getElem?_map, h]; rfl
theorem fill_again {fl : List Nat} {n : Nat} (h : fl.length = n) : (List.range n).map (fun fi => nV (fl.getD fi 0)) = fl.map nV := by
  apply List.ext_getElem?
  intro i
  rw [List.getElem?_map, List.getElem?_map]
  by_cases hi : i < n
  · rw [List.getElem?_range hi, getD_at (show i < fl.length by omega)]
    rfl
  · rw [List.getElem?_eq_none (show (List.range n).length ≤ i by rw [List.length_range]; omega), List.getElem?_eq_none (show fl.length ≤ i by omega)]
    rfl
def eMod : R2 := rI (fun _ j => 0 < j) fun i j => .int (i % j)
def eAdd : R2 := rI0 fun i j => .int (i + j)
def eInt : List V → Hp → VK → Prop := fun xs H Q => (∃ i, xs = [.int i] ∧ Q (.int i) H) ∨ ∃ k, xs = [.bl k] ∧ Q (.int (if k then 1 else 0)) H
abbrev lawN : List Str := ["_law_script", "_law_box", "_law_turn", "_law_many", "_law_size", "_law_table", "_law_old", "_law_start", "_law_looped", "_law_links", "_law_form", "_law_filling", "_law_moment", "_law_total", "_law_times", "_law_found", "_law_end_here", "_law_k", "_law_field"]
theorem scLaw : FnScope lawN ["_law_script"] (defScope sLaw) := ⟨rfl, rfl, rfl, by decide +kernel, rfl, by decide +kernel, by decide +kernel⟩
def spLaw (K : PySem.W.Frag) : Sp := fun vs H Q _ => ∃ (a : Addr) (ns : List Int), vs = [.ref a] ∧ SqL K H a (ns.map V.int) ∧ ns.length ≤ 63 ∧ ∀ H', Q (.bl true) H'
section
variable {P : Program} {w : World} {K : PySem.W.Frag} {mg : Str → Option Value} {base : Heap}
/-- what the law calls -/
structure Calls (P : Program) (w : World) (K : PySem.W.Frag) (mg : Str → Option Value) (base : Heap) : Prop where
  opened : Has P w K mg base 1 "_law_opened" ["_law_script"] (spOpened K)
  draw : Has P w K mg base 1 "_law_draw" ["_law_box", "_law_many"] spDraw
  one : Has P w K mg base 2 "_law_one" ["_law_box", "_law_items"] spOne
  isForm : Has P w K mg base 5 "is_form" ["value"] (spIsForm K)
  begin_ : Has P w K mg base 5 "begin" ["form", "filling", "edit"] (spFirstMom K)
  firings : HasK P w K mg base 3 "firings" ["table", "old", "start", "many", "closed"] 4 (spFirings K)
  value : HasK P w K mg base 5 "value_after" ["table", "old", "start", "many", "field", "times", "closed"] 6 (spValue K)
  fire : Has P w K mg base 4 "fire" ["form", "value", "link"] (spMomAfter K)
  end_ : Has P w K mg base 7 "_law_end" ["_law_form", "_law_filling", "_law_edit"] (spEnd K)
theorem ok_law {f : Addr} {fd : FuncData} (F : Fun K "law" "law" sLaw f fd) (T : Fre mg) (C : Calls P w K mg base) : FnOk P w K mg base CX0 8 f fd ["_law_script"] (spLaw K) := by
  refine F.ok scLaw (fun vs H Q E h => ?_) (fun cdv A outer s H vs Q E hr h => ?_)
  · obtain ⟨a, ns, rfl, _⟩ := h
    rfl
  · obtain ⟨a, ns, rfl, hS, h63, q⟩ := h
    have nd := scLaw.nd
    have hu := hr.units
    refine ⟨_, pss_cons (ps_set (i := 1) nd rfl (.inr rfl) (pe_has C.opened hr (by rfl) (pa_cons (pv 0) pa_nil)))
      (pss_cons (ps_for PassesOwn.never rfl (pi_range1 (by rfl) T.range (pa_cons pe_int pa_nil)) (pg_name (i := 2) nd rfl (.inr rfl))
        (pss_cons (ps_set (i := 3) nd rfl (.inr rfl) (pe_op op_addU pe_int (pe_has C.draw hr (by rfl) (pa_cons (pv 1) (pa_cons pe_int pa_nil)))))
        (pss_cons (ps_set (i := 4) nd rfl (.inr rfl) (pe_op op_addU pe_int (pe_has C.draw hr (by rfl) (pa_cons (pv 1) (pa_cons (pe_ix ix_list (pe_lst (pa_cons pe_int (pa_cons pe_int (pa_cons pe_int pa_nil)))) (pe_op op_sub (pv 3) pe_int) (fun _ _ => rfl)) pa_nil)))))
        (pss_cons (ps_set (i := 5) nd rfl (.inr rfl) (pe_callTy call_tuple_of (by rfl) T.tuple (by decide +kernel) (pa_cons (pe_lc (own := [("_law_k", 17)]) (g := gName 17) (tt := tYes)
            (te := tCall spOne [] E0 (tCons (tVar 1) (tCons (tLst (tCons (tCall spDraw [] E0 (tCons (tVar 1) (tCons (tVar 4) tNil))) (tCons (tOp (rIxL K) (tLst (tCons (tC .non) (tCons (tOp eMod (tCB eInt (tCons (tOp eAdd (tVar 17) (tC (.int 1))) tNil)) (tVar 4)) tNil))) (tOp eMod (tVar 2) (tC (.int 2)))) tNil))) tNil)))
            rfl nd (pi_range1 (by rfl) T.range (pa_cons (pv 4) pa_nil)) (blkOk_by (N := lawN) (sc := defScope sLaw) (by decide +kernel)) (fun _ _ _ _ _ => pg_name (i := 17) nd rfl (Or.inl rfl)) (fun _ _ _ _ _ => pts_nil)
            (fun _ _ _ _ _ => by exact (pe_has C.one hr (by rfl) (pa_cons (pv 1) (pa_cons (pe_lst (pa_cons (pe_has C.draw hr (by rfl) (pa_cons (pv 1) (pa_cons (pv 4) pa_nil))) (pa_cons (pe_ix ix_list (pe_lst (pa_cons pe_non (pa_cons (pe_op op_mod (pe_callTy call_int1 (by rfl) T.int (by decide +kernel) (pa_cons (pe_op op_add (pv 17) pe_int) pa_nil)) (pv 4)) pa_nil))) (pe_op op_mod (pv 2) pe_int) (fun _ _ => rfl)) pa_nil))) pa_nil))))) pa_nil)))
        (pss_cons (ps_set (i := 6) nd rfl (.inr rfl) (pe_callTy call_tuple_of (by rfl) T.tuple (by decide +kernel) (pa_cons (pe_lc (own := [("_law_k", 17)]) (g := gName 17) (tt := tYes) (te := tCall spDraw [] E0 (tCons (tVar 1) (tCons (tVar 4) tNil)))
            rfl nd (pi_range1 (by rfl) T.range (pa_cons (pe_op op_addU pe_int (pe_has C.draw hr (by rfl) (pa_cons (pv 1) (pa_cons pe_int pa_nil)))) pa_nil)) (blkOk_by (N := lawN) (sc := defScope sLaw) (by decide +kernel)) (fun _ _ _ _ _ => pg_name (i := 17) nd rfl (Or.inl rfl)) (fun _ _ _ _ _ => pts_nil)
            (fun _ _ _ _ _ => by exact (pe_has C.draw hr (by rfl) (pa_cons (pv 1) (pa_cons (pv 4) pa_nil))))) pa_nil)))
        (pss_cons (ps_asg (pe_tup (pa_cons (pe_has C.draw hr (by rfl) (pa_cons (pv 1) (pa_cons (pv 4) pa_nil))) (pa_cons (pe_cmpR op_gtA (pe_has C.draw hr (by rfl) (pa_cons (pv 1) (pa_cons pe_int pa_nil))) pe_int (nomark _)) pa_nil))) (pg_tup rfl (pgs_cons (pg_name (i := 7) nd rfl (.inr rfl)) (pgs_cons (pg_name (i := 8) nd rfl (.inr rfl)) pgs_nil))))
        (pss_cons (ps_setLc (i := 9) (own := [("_law_k", 17)]) (g := gName 17) (tt := tYes) (te := tTup (tCons (tVar 17) (tCons (tOp eMod (tCB eInt (tCons (tOp eAdd (tVar 17) (tC (.int 1))) tNil)) (tVar 3)) (tCons (tVar 5) (tCons (tC (.int 0)) tNil)))))
            rfl nd rfl rfl (sw_true rfl rfl rfl (by decide +kernel)) (pi_range1 (by rfl) T.range (pa_cons (pe_op op_sub (pv 3) (pe_callTy call_int1 (by rfl) T.int (by decide +kernel) (pa_cons (pe_not (pv 8)) pa_nil))) pa_nil)) (blkOk_by (N := lawN) (sc := defScope sLaw) (by decide +kernel)) (fun _ _ _ _ _ => pg_name (i := 17) nd rfl (Or.inl rfl)) (fun _ _ _ _ _ => pts_nil)
            (fun _ _ _ _ _ => by exact (pe_tup (pa_cons (pv 17) (pa_cons (pe_op op_mod (pe_callTy call_int1 (by rfl) T.int (by decide +kernel) (pa_cons (pe_op op_add (pv 17) pe_int) pa_nil)) (pv 3)) (pa_cons (pv 5) (pa_cons pe_int pa_nil)))))))
        (pss_cons (ps_par (i := 10) (j := 11) rfl nd rfl rfl (by decide) rfl rfl (pa_cons (pe_tup (pa_cons (pe_op op_repT (pe_tup (pa_cons (pv 4) pa_nil)) (pv 3)) (pa_cons (pe_callTy call_tuple_of (by rfl) T.tuple (by decide +kernel) (pa_cons (pv 9) pa_nil)) pa_nil)))
            (pa_cons (pe_callTy call_tuple_of (by rfl) T.tuple (by decide +kernel) (pa_cons (pe_lc (own := [("_law_k", 17)]) (g := gName 17) (tt := tYes) (te := tOp (rIxT K) (tVar 6) (tOp eMod (tCB eInt (tCons (tVar 17) tNil)) (tCB (rLenK K) (tCons (tVar 6) tNil))))
              rfl nd (pi_range1 (by rfl) T.range (pa_cons (pv 3) pa_nil)) (blkOk_by (N := lawN) (sc := defScope sLaw) (by decide +kernel)) (fun _ _ _ _ _ => pg_name (i := 17) nd rfl (Or.inl rfl)) (fun _ _ _ _ _ => pts_nil)
              (fun _ _ _ _ _ => by exact (pe_ix ix_tup (pv 6) (pe_op op_mod (pe_callTy call_int1 (by rfl) T.int (by decide +kernel) (pa_cons (pv 17) pa_nil)) (pe_callB call_lenK (by rfl) T.len PySem.boot_len (pa_cons (pv 6) pa_nil))) (fun _ _ => rfl)))) pa_nil)) pa_nil)) (by rfl))
        (pss_cons (ps_if (pt_not (pt_val (pe_has C.isForm hr (by rfl) (pa_cons (pv 10) pa_nil)))) (pss_one (ps_ret pe_bl)) pss_nil)
        (pss_cons (ps_par (i := 12) (j := 13) rfl nd rfl rfl (by decide) rfl rfl (pa_cons (pe_has C.begin_ hr (by rfl) (pa_cons (pv 10) (pa_cons (pv 11) (pa_cons (pe_tup (pa_cons pe_int (pa_cons (pv 7) pa_nil))) pa_nil))))
            (pa_cons (pe_hasK C.firings hr (by rfl) (pa_cons (pv 5) (pa_cons (pv 6) (pa_cons (pv 7) (pa_cons (pv 3) pa_nil)))) (pk_cons (pv 8) pk_nil)) pa_nil)) (by rfl))
        (pss_cons (ps_for PassesOwn.never rfl (pi_range1 (by rfl) T.range (pa_cons pe_int pa_nil)) (pg_name (i := 14) nd rfl (.inr rfl))
          (pss_cons (ps_setLc (i := 15) (own := [("_law_field", 18)]) (g := gName 18) (tt := tYes) (te := tCallN 6 1 (spValue K) (fun vs zs => vs ++ zs) E0 (tCons (tVar 5) (tCons (tVar 6) (tCons (tVar 7) (tCons (tVar 3) (tCons (tVar 18) (tCons (tVar 14) tNil)))))) (tCons (tVar 8) tNil))
              rfl nd rfl rfl (sw_true rfl rfl rfl (by decide +kernel)) (pi_range1 (by rfl) T.range (pa_cons (pv 3) pa_nil)) (blkOk_by (N := lawN) (sc := defScope sLaw) (by decide +kernel)) (fun _ _ _ _ _ => pg_name (i := 18) nd rfl (Or.inl rfl)) (fun _ _ _ _ _ => pts_nil)
              (fun _ _ _ _ _ => by exact (pe_hasK C.value hr (by rfl) (pa_cons (pv 5) (pa_cons (pv 6) (pa_cons (pv 7) (pa_cons (pv 3) (pa_cons (pv 18) (pa_cons (pv 14) pa_nil)))))) (pk_cons (pv 8) pk_nil))))
          (pss_cons (ps_if (PW.pt (pw_or (pt_cmpR (op_neD hu) (pe_callTy call_tuple_of (by rfl) T.tuple (by decide +kernel) (pa_cons (pv 15) pa_nil)) (ix1 (pv 12)) (nomark _)) (pw_or1 (pt_cmpR op_gt (pe_callB call_len_seq (by rfl) T.len PySem.boot_len (pa_cons (ix2 (pv 12)) pa_nil)) pe_int (nomark _))))) (pss_one (ps_ret pe_bl)) pss_nil)
          (pss_cons (ps_if (pt_cmpR (op_neD hu) (pe_cmpR (op_eqD hu) (ix2 (pv 12)) (pe_tup pa_nil) (nomark _)) (pe_and (pe_cmpR op_notN (pv 13) pe_non (nomark _)) (pe_one (pe_cmpR op_ge (pv 14) (pv 13) (nomark _)))) (nomark _)) (pss_one (ps_ret pe_bl)) pss_nil)
          (pss_one (ps_if (pt_cmpR (op_neD hu) (ix2 (pv 12)) (pe_tup pa_nil) (nomark _)) (pss_one (ps_set (i := 12) nd rfl (.inl rfl) (pe_has C.fire hr (by rfl) (pa_cons (pv 10) (pa_cons (pv 12) (pa_cons (ix0 (ix2 (pv 12))) pa_nil)))))) pss_nil))))))
        (pss_cons (ps_set (i := 16) nd rfl (.inl rfl) (pe_has C.end_ hr (by rfl) (pa_cons (pv 10) (pa_cons (pv 11) (pa_cons (pe_tup (pa_cons pe_int (pa_cons (pv 7) pa_nil))) pa_nil)))))
        (pss_one (ps_if (PW.pt (pw_or (pt_cmpR (op_neD hu) (pe_cmpR op_isN (pv 16) pe_non (nomark _)) (pe_cmpR op_isN (pv 13) pe_non (nomark _)) (nomark _)) (pw_or1 (PW.pt (pw_and (pt_cmpR op_notN (pv 16) pe_non (nomark _)) (pw_and1 (pt_cmpR (op_neD hu) (pv 16) (ix1 (pv 12)) (nomark _)))))))) (pss_one (ps_ret pe_bl)) pss_nil))))))))))))) )
      (pss_one (ps_ret pe_bl))), ?_⟩
    have z1 : 1 ≤ sizeLine := by decide
    have z2 : 2 ≤ sizeLine := by decide
    have z3 : 3 ≤ sizeLine := by decide
    have z4 : 4 ≤ sizeLine := by decide
    refine ⟨_, rfl, a, ns, rfl, hS, h63, fun H1 b g s0 _ B0 => ?_⟩
    refine ⟨10, rfl, by decide, by decide, for_range (lo := 0) (n := 10) (fun i σ H' => ∃ x2 x3 x4 x5 x6 x7 x8 x9 x10 x11 x12 x13 x14 x15 x16 : Option V, σ = [some (.ref a), some (.ref b), x2, x3, x4, x5, x6, x7, x8, x9, x10, x11, x12, x13, x14, x15, x16, none, none] ∧ BoxAt H' b g s0)
      ⟨_, _, _, _, _, _, _, _, _, _, _, _, _, _, _, rfl, B0⟩ ?_ (fun σ H' _ => q H')⟩
    rintro turn σ H2 hturn ⟨x2, x3, x4, x5, x6, x7, x8, x9, x10, x11, x12, x13, x14, x15, x16, rfl, B⟩
    -- many
    refine ⟨_, rfl, b, g, s0, 3, rfl, B, by decide, by decide, fun d1 G1 hd1 B1 _ => ⟨2, d1, rfl, rfl, ?_⟩⟩
    -- size
    refine ⟨_, rfl, z3, fun l1 nl1 => ⟨_, rfl, _, _, rfl, rfl, l1, _, _, _, rfl, rfl, SqL.of upd_same, at_of (j := d1) (by show ((2 + d1 : Nat) : Int) - 2 = (d1 : Int); omega) (at3 hd1), ?_⟩⟩
    refine ⟨b, g, s0, ([5, 2, 1] : List Nat).getD d1 0, rfl, B1.same (same_upd nl1), (pick3 d1 hd1).1, Nat.le_trans (pick3 d1 hd1).2 (by decide), fun d2 G2 hd2 B2 _ => ⟨2, d2, rfl, rfl, ?_⟩⟩
    have hd5 : d2 < 5 := Nat.lt_of_lt_of_le hd2 (pick3 d1 hd1).2
    have p36 := fit d1 hd1 d2 hd5 hd2
    obtain ⟨many, hmany⟩ : ∃ m, m = 2 + d1 := ⟨_, rfl⟩
    obtain ⟨size, hsize⟩ : ∃ m, m = 2 + d2 := ⟨_, rfl⟩
    rw [← hmany, ← hsize] at p36
    rw [← hmany, ← hsize]
    have m2 : 2 ≤ many := by omega
    have m4 : many ≤ 4 := by omega
    have t2 : 2 ≤ size := by omega
    have t6 : size ≤ 6 := by omega
    clear hd5 hd2 hd1 hmany hsize B1 B0 B
    -- table
    refine ⟨_, rfl, (size : Int), rfl, by omega, by omega, fun D hD => ?_⟩
    rw [Int.toNat_natCast]
    refine lcD (b := b) (g := g) (s := s0) (n := size) hD B2 (fun _ y => ∃ o : Option Nat, y = oV o ∧ ∀ v, o = some v → v < size) (by omega) (fun _ => rfl) (fun i G hi Bi _ R hR => ?_) (fun ys G BG _ eD hlen hys => ?_)
    · refine ⟨_, rfl, _, rfl, _, rfl, b, g, s0, size, rfl, Bi, by omega, by omega, fun d G4 hd B4 dr4 => ?_⟩
      refine ⟨_, rfl, _, _, rfl, rfl, .inl ⟨_, rfl, _, rfl, _, _, rfl, rfl, (by show (0 : Int) < (size : Int); omega), z2, fun l2 nl2 => ?_⟩⟩
      obtain ⟨o2, ho1, ho2⟩ := pick2 (size := size) i (by omega) turn
      refine ⟨_, rfl, _, _, rfl, rfl, (by show (0 : Int) < 2; decide), l2, _, _, oV o2, rfl, rfl, SqL.of upd_same, ?_, z2, fun l3 nl3 => ?_⟩
      · have e0 : ((0 : Int) + (turn : Int)) % 2 = ((turn % 2 : Nat) : Int) := by omega
        show atI [V.non, V.int (((i : Int) + 1) % (size : Int))] (((0 : Int) + (turn : Int)) % 2) = some (oV o2)
        rw [e0]
        exact ho1
      · have t5 := same_upd (o := HO.lst [V.non, V.int (((i : Int) + 1) % (size : Int))]) nl2
        have t6' := same_upd (o := HO.lst [V.int (d : Int), oV o2]) nl3
        have B5 := (B4.same t5).same t6'
        obtain ⟨gs, eg, _⟩ := (B4.same t5).great
        have n3g : l3 ≠ g := (ne_of_none eg nl3).symm
        refine ⟨b, g, s0, l3, _, rfl, B5, upd_same, n3g, (by show 1 ≤ 2; decide), (by show 2 ≤ 1000; decide), fun j v G5 hj B6 dr6 => hR v G5 B6 (dr4.trans ((t5.dr.trans t6'.dr).trans dr6)) ?_⟩
        match j, hj with
        | 0, hj =>
          have e : V.int (d : Int) = v := Option.some.inj hj
          exact ⟨some d, e.symm, fun v z => by cases z; exact hd⟩
        | 1, hj =>
          have e : oV o2 = v := Option.some.inj hj
          exact ⟨o2, e.symm, ho2⟩
        | j + 2, hj => exact absurd hj (by simp)
    obtain ⟨tb, etb, ptb⟩ := list_of oV (fun o : Option Nat => ∀ v, o = some v → v < size) hys
    rw [etb, List.length_map] at hlen
    rw [etb] at eD
    clear etb hys
    refine ⟨D, _, rfl, .inl ⟨SqL.of eD, fun t nt => ?_⟩⟩
    have ht : SqT K (upd G t (.tup (tb.map oV))) t (tb.map oV) := SqT.of upd_same
    have B3 := BG.same (same_upd (o := .tup (tb.map oV)) nt)
    revert ht B3
    generalize upd G t (.tup (tb.map oV)) = G3
    intro ht B3
    clear nt eD BG hD B2
    -- old
    refine ⟨_, rfl, b, g, s0, 6, rfl, B3, by decide, by decide, fun d3 G4 hd3 B4 dr4 => ⟨1, d3, rfl, rfl, ((1 + d3 : Nat) : Int), rfl, by omega, by omega, fun D hD => ?_⟩⟩
    have ht := (dr4.tps B3).tup ht
    rw [Int.toNat_natCast]
    refine lcD (b := b) (g := g) (s := s0) (n := 1 + d3) hD B4 (fun _ y => ∃ v : Nat, y = nV v ∧ v < size) (by omega) (fun _ => rfl) (fun i G hi Bi _ R hR => ?_) (fun ys G BG drG eD hlen2 hys => ?_)
    · exact ⟨_, rfl, _, rfl, b, g, s0, size, rfl, Bi, by omega, by omega, fun d G5 hd B5 dr5 => hR _ G5 B5 dr5 ⟨d, rfl, hd⟩⟩
    have ht := (drG.tps B4).tup ht
    obtain ⟨old, eold, pold⟩ := list_of nV (fun v : Nat => v < size) hys
    rw [eold, List.length_map] at hlen2
    rw [eold] at eD
    clear eold hys
    refine ⟨D, _, rfl, .inl ⟨SqL.of eD, fun o no => ?_⟩⟩
    have ho : SqT K (upd G o (.tup (old.map nV))) o (old.map nV) := SqT.of upd_same
    have s5 := same_upd (o := .tup (old.map nV)) no
    have ht := s5.tup ht
    have B5 := BG.same s5
    revert ho ht B5
    generalize upd G o (.tup (old.map nV)) = G5
    intro ho ht B5
    clear s5 no eD BG hD B4 dr4 B3 drG
    -- start, looped
    refine ⟨_, rfl, _, rfl, b, g, s0, size, rfl, B5, by omega, by omega, fun st G6 hst B6 dr6 => ⟨_, rfl, b, g, s0, 3, rfl, B6, by decide, by decide, fun c G7 _ B7 dr7 => ⟨_, _, rfl, rfl, fun closed => ⟨z2, fun p np => ⟨p, _, rfl, SqT.of upd_same, rfl, _, _, rfl, _, _, rfl, rfl, ?_⟩⟩⟩⟩⟩
    have dr67 := dr6.trans dr7
    have ht := (dr67.tps B5).tup ht
    have ho := (dr67.tps B5).tup ho
    have s8 := same_upd (o := HO.tup [V.int (st : Int), V.bl closed]) np
    have ht := s8.tup ht
    have ho := s8.tup ho
    have B8 := B7.same s8
    revert ht ho B8
    generalize upd G7 p (HO.tup [V.int (st : Int), V.bl closed]) = G8
    intro ht ho B8
    clear s8 np dr67 dr6 dr7 B7 B6 B5
    obtain ⟨R, hR1, hR2, hR3, hR4, hR5⟩ : ∃ R : Par, R.table = tb ∧ R.old = old ∧ R.start = st ∧ R.many = many ∧ R.closed = closed := ⟨⟨tb, old, st, many, closed⟩, rfl, rfl, rfl, rfl, rfl⟩
    have Bn : Bnd R := {
      ok := {
        many2 := by rw [hR4]; exact m2
        oldp := by rw [hR2, hlen2]; omega
        startlt := by rw [hR3, hR1, hlen]; exact hst
        items := fun v hv => by rw [hR1] at hv ⊢; rw [hlen]; exact ptb _ hv v rfl
        oldlt := fun v hv => by rw [hR2] at hv; rw [hR1, hlen]; exact pold v hv }
      m4 := by rw [hR4]; exact m4
      t2 := by rw [hR1, hlen]; exact t2
      t6 := by rw [hR1, hlen]; exact t6
      p36 := by rw [hR4, hR1, hlen]; exact p36
      o6 := by rw [hR2, hlen2]; omega }
    have RA : RingAt K G8 R t o := ⟨by rw [hR1]; exact ht, by rw [hR2]; exact ho⟩
    have hsz : (size : Int) = (R.table.length : Int) := by rw [hR1, hlen]
    clear ptb pold p36 ht ho
    rw [← hlen, ← hR1]
    rw [← hR3, ← hR4, ← hR5]
    clear hR1 hR2 hR3 hR4 hR5 hlen hlen2 hsz hst t2 t6 m2 m4
    have m2 := Bn.m2
    have m4 := Bn.m4
    have ok := Bn.ok
    -- links
    have en : ((R.many : Int) - (if (!R.closed) = true then (1 : Int) else 0)).toNat = R.nl := by
      unfold Par.nl
      cases R.closed with
      | true =>
        show ((R.many : Int) - 0).toNat = R.many
        omega
      | false =>
        show ((R.many : Int) - 1).toNat = R.many - 1
        omega
    have en1 : -(2 ^ 62) ≤ ((R.many : Int) - (if (!R.closed) = true then (1 : Int) else 0)) := by split <;> omega
    have en2 : ((R.many : Int) - (if (!R.closed) = true then (1 : Int) else 0)) < 2 ^ 62 := by split <;> omega
    have nl4 := Bn.nl4
    refine ⟨_, rfl, _, rfl, R.closed, rfl, .inr ⟨_, rfl, _, _, rfl, rfl, (R.many : Int) - (if (!R.closed) = true then (1 : Int) else 0), rfl, en1, en2, fun D hD => ?_⟩⟩
    rw [en]
    refine lcR (n := R.nl) hD (fun i y G => ∃ p, y = .ref p ∧ SqT K G p [.int (i : Int), .int (((i + 1) % R.many : Nat) : Int), .ref t, .int 0]) (fun j y G G' tp ⟨p, e, z⟩ => ⟨p, e, tp.tup z⟩) (by omega) (fun _ => rfl) (fun i G hi _ Rr hRr => ?_) (fun ys G sG eD hlen hys => ?_)
    · exact ⟨_, rfl, _, rfl, _, _, rfl, rfl, .inl ⟨_, rfl, _, rfl, _, _, rfl, rfl, (by show (0 : Int) < (R.many : Int); omega), _, rfl, z4, fun p np => hRr (.ref p) _ (same_upd np) ⟨p, rfl, SqT.of upd_same⟩⟩⟩
    obtain ⟨ls, els, _⟩ := list_of V.ref (fun _ => True) (fun i y e => ⟨(hys i y e).choose, (hys i y e).choose_spec.1, True.intro⟩)
    rw [els, List.length_map] at hlen
    rw [els] at eD
    have hlnk : ∀ (k : Nat) (p : Addr), ls[k]? = some p → SqT K G p [.int (k : Int), .int (((k + 1) % R.many : Nat) : Int), .ref t, .int 0] := fun k p hk => by
      obtain ⟨p', e1, e2⟩ := hys k (V.ref p) (by rw [els, List.getElem?_map, hk]; rfl)
      cases e1
      exact e2
    clear hys els
    have RA := RA.mono sG.tps
    have B9 := B8.same sG
    clear sG hD B8
    -- the form
    refine ⟨_, rfl, z1, fun p1 n1 => ⟨_, rfl, p1, (R.many : Int), _, rfl, rfl, SqT.of upd_same, by simp, by omega, by omega, (by show 1 ≤ 1000; decide), fun sa n2 => ?_⟩⟩
    rw [Int.toNat_natCast, rep1]
    have t1 : Same G (upd G p1 (.tup [.int (R.table.length : Int)])) := same_upd n1
    have t2' : Same (upd G p1 (.tup [.int (R.table.length : Int)])) (upd (upd G p1 (.tup [.int (R.table.length : Int)])) sa (.tup (List.replicate R.many (.int (R.table.length : Int))))) := same_upd n2
    have esa : SqT K (upd (upd G p1 (.tup [.int (R.table.length : Int)])) sa (.tup (List.replicate R.many (.int (R.table.length : Int))))) sa (List.replicate R.many (.int (R.table.length : Int))) := SqT.of upd_same
    have t12 := t1.trans t2'
    have eD := t12 _ _ eD
    have RA := RA.mono t12.tps
    have B9 := B9.same t12
    have hlnk : ∀ (k : Nat) (p : Addr), ls[k]? = some p → SqT K _ p [.int (k : Int), .int (((k + 1) % R.many : Nat) : Int), .ref t, .int 0] := fun k p hk => t12.tup (hlnk k p hk)
    revert esa eD RA B9 hlnk
    generalize upd (upd G p1 (.tup [.int (R.table.length : Int)])) sa (.tup (List.replicate R.many (.int (R.table.length : Int)))) = G10
    intro esa eD RA B9 hlnk
    clear t12 t1 t2' n1 n2
    refine ⟨_, rfl, D, _, rfl, .inl ⟨SqL.of eD, fun la n3 => ⟨z2, fun a0 n4 => ?_⟩⟩⟩
    have t1 := same_upd (o := .tup (ls.map V.ref)) n3
    have t2' := same_upd (o := .tup [.ref sa, .ref la]) n4
    have t12 := t1.trans t2'
    have FA : FormAt K (upd (upd G10 la (.tup (ls.map V.ref))) a0 (.tup [.ref sa, .ref la])) R a0 sa la t ls := ⟨SqT.of upd_same, t12.tup esa, t2'.tup (SqT.of upd_same), hlen, fun k p hk => t12.tup (hlnk k p hk), t12.tup RA.tab⟩
    have RA := RA.mono t12.tps
    have B10 := B9.same t12
    revert FA RA B10
    generalize upd (upd G10 la (.tup (ls.map V.ref))) a0 (.tup [.ref sa, .ref la]) = G11
    intro FA RA B10
    clear t12 t1 t2' n3 n4 eD hlnk esa B9
    -- the filling
    refine ⟨_, rfl, (R.many : Int), rfl, by omega, by omega, fun D2 hD2 => ?_⟩
    rw [Int.toNat_natCast]
    refine lcR (n := R.many) hD2 (fun i y G => y = nV (R.old.getD (i % R.old.length) 0)) (fun _ _ _ _ _ e => e) (by omega) (fun _ => rfl) (fun i G hi sG Rr hRr => ?_) (fun ys G sG eD hlen3 hys => ?_)
    · have hm := Nat.mod_lt i ok.oldp
      refine ⟨_, rfl, _, rfl, .inl ⟨_, rfl, _, rfl, o, _, rfl, .inr (sG.tup RA.old), _, _, rfl, rfl, ?_, o, _, _, _, rfl, rfl, sG.tup RA.old, at_of (j := i % R.old.length) ?_ (at_map' (getD_at hm)), hRr _ G (Same.refl _) rfl⟩⟩
      · rw [List.length_map]
        have := ok.oldp
        omega
      · rw [List.length_map]
        rfl
    have ebase := list_at (f := fun i => nV (R.old.getD (i % R.old.length) 0)) hlen3 hys
    have ebase : ys = R.base.map nV := by
      rw [ebase]
      unfold Par.base
      rw [List.map_map]
      rfl
    rw [ebase] at eD
    clear ebase hys hlen3
    refine ⟨D2, _, rfl, .inl ⟨SqL.of eD, fun fa n5 => ⟨_, _, rfl, ?_⟩⟩⟩
    have t1 := sG.trans (same_upd (o := .tup (R.base.map nV)) n5)
    have FL : FillAt K (upd G fa (.tup (R.base.map nV))) R fa R.base := ⟨SqT.of upd_same, Par.base_len, base_lt ok⟩
    have FA := FA.mono t1.tps
    have RA := RA.mono t1.tps
    have B11 := B10.same t1
    revert FL FA RA B11
    generalize upd G fa (.tup (R.base.map nV)) = G12
    intro FL FA RA B11
    clear t1 n5 eD sG hD2 B10
    -- is_form
    refine ⟨_, rfl, R, a0, sa, la, t, ls, rfl, FA, Bn, fun G13 sm => ⟨true, rfl, iteF ?_⟩⟩
    have FL := FL.mono sm.tps
    have FA := FA.mono sm.tps
    have RA := RA.mono sm.tps
    have B12 := B11.same sm
    clear sm B11
    -- begin, firings
    refine ⟨_, rfl, _, rfl, _, rfl, z2, fun e ne => ?_⟩
    have t1 := same_upd (o := .tup [.int 0, .int (R.start : Int)]) ne
    refine ⟨R, a0, sa, la, t, ls, fa, e, rfl, FA.mono t1.tps, Bn, FL.mono t1.tps, SqT.of upd_same, fun G14 m f1 p1 e1 s14 M1 => ?_⟩
    have t1 := t1.trans s14
    refine ⟨_, rfl, _, rfl, _, rfl, _, rfl, _, rfl, rfl, rfl, R, t, o, rfl, RA.mono t1.tps, Bn, fun total G15 hT s15 => ⟨_, _, rfl, ?_⟩⟩
    have t1 := t1.trans s15
    have FL := FL.mono t1.tps
    have FA := FA.mono t1.tps
    have RA := RA.mono t1.tps
    have B13 := B12.same t1
    have M1 := M1.mono s15.tps
    clear t1 s14 s15 ne B12
    have over := Par.fir_over ok hT
    have few : ∀ n, total = some n → n ≤ 30 := fun n e => Par.fir_thirty ok m4 Bn.t6 hT e
    clear hT
    refine ⟨30, rfl, by decide, by decide, for_range (lo := 0) (n := 30) (fun i σ G => ∃ (m f1 p1 e1 : Addr) (x14 x15 : Option V), σ = [some (.ref a), some (.ref b), some (.int ((0 : Int) + (turn : Int))), some (.int (R.many : Int)), some (.int (R.table.length : Int)), some (.ref t), some (.ref o), some (.int (R.start : Int)), some (.bl R.closed), some (.ref D), some (.ref a0), some (.ref fa), some (.ref m), some (oV total), x14, x15, x16, none, none] ∧
      FormAt K G R a0 sa la t ls ∧ RingAt K G R t o ∧ FillAt K G R fa R.base ∧ BoxAt G b g s0 ∧ MomAt K G R m f1 p1 e1 (R.st i)) ⟨m, f1, p1, e1, _, _, rfl, FA, RA, FL, B13, M1⟩ ?_ ?_⟩
    · clear FA RA FL B13 M1
      rintro i σ G hi ⟨m, f1, p1, e1, x14, x15, rfl, FA, RA, FL, B13, M⟩
      rw [Int.zero_add (i : Int)]
      -- found
      refine ⟨_, rfl, (R.many : Int), rfl, by omega, by omega, fun D3 hD3 => ?_⟩
      rw [Int.toNat_natCast]
      refine lcR (n := R.many) hD3 (fun fi y _ => y = nV ((R.st i).1.getD fi 0)) (fun _ _ _ _ _ e => e) (by omega) (fun _ => rfl) (fun fi G2 hfi sG Rr hRr => ?_) (fun ys G2 sG eD hlen3 hys => ?_)
      · exact ⟨_, rfl, _, rfl, _, rfl, _, rfl, _, rfl, _, rfl, _, rfl, rfl, rfl, R, t, o, fi, i, rfl, RA.mono sG.tps, Bn, hfi, by omega, fun G3 s3 => hRr _ G3 s3 rfl⟩
      have M := M.mono sG.tps
      have eys : ys = (R.st i).1.map nV := by
        rw [list_at (f := fun fi => nV ((R.st i).1.getD fi 0)) hlen3 hys]
        exact fill_again M.fil.len
      rw [eys] at eD
      clear eys hys hlen3
      have FA := FA.mono sG.tps
      have RA := RA.mono sG.tps
      have FL := FL.mono sG.tps
      have B14 := B13.same sG
      clear sG hD3 B13
      refine ⟨_, rfl, D3, _, rfl, .inl ⟨SqL.of eD, fun fo nfo => ?_⟩⟩
      have t1 := same_upd (o := .tup ((R.st i).1.map nV)) nfo
      have hfo : SqT K (upd G2 fo (.tup ((R.st i).1.map nV))) fo ((R.st i).1.map nV) := SqT.of upd_same
      have M := M.mono t1.tps
      have FA := FA.mono t1.tps
      have RA := RA.mono t1.tps
      have FL := FL.mono t1.tps
      have B15 := B14.same t1
      revert hfo M FA RA FL B15
      generalize upd G2 fo (.tup ((R.st i).1.map nV)) = G3
      intro hfo M FA RA FL B15
      clear t1 nfo eD B14
      refine ⟨_, rfl, m, _, 1, _, rfl, rfl, M.top, atI_nat (j := 1) rfl, _, _, dp_ints hfo, dp_ints M.fil.at_, shaped_ints _, shaped_ints _, _, rfl, ?_⟩
      rw [eqv_tups, decide_eq_true rfl]
      refine iteF ⟨_, rfl, m, _, 2, _, rfl, rfl, M.top, atI_nat (j := 2) rfl, p1, _, rfl, .inr M.pen, _, _, rfl, rfl, _, rfl, ?_⟩
      have hp1 : ((R.st i).2.toList.map nV).length ≤ 1 := by
        rw [List.length_map]
        cases (R.st i).2 with
        | none => exact Nat.zero_le _
        | some x => exact Nat.le_refl _
      rw [decide_eq_false (show ¬ (1 : Int) < (((R.st i).2.toList.map nV).length : Int) by omega)]
      refine iteF ?_
      -- over, or not
      refine ⟨_, rfl, m, _, 2, _, rfl, rfl, M.top, atI_nat (j := 2) rfl, Nat.zero_le _, fun z nz => ⟨_, _, dp_ints ((same_upd nz).tup M.pen), dp_nil (SqT.of upd_same), shaped_ints _, shaped_ints [], ?_⟩⟩
      have t1 : Same G3 (upd G3 z (.tup [])) := same_upd nz
      have M := M.mono t1.tps
      have FA := FA.mono t1.tps
      have RA := RA.mono t1.tps
      have FL := FL.mono t1.tps
      have B16 := B15.same t1
      clear hfo
      revert M FA RA FL B16
      generalize upd G3 z (.tup []) = G4
      intro M FA RA FL B16
      clear t1 nz B15
      have ev : PyData.eqv (.tuple (dN (R.st i).2.toList)) (.tuple []) = decide ((R.st i).2.toList = []) := eqv_tups _ []
      have ov := over i
      have hor : (R.st i).2 = none ∨ ∃ j, (R.st i).2 = some j := by
        cases (R.st i).2 with
        | none => exact .inl rfl
        | some j => exact .inr ⟨j, rfl⟩
      -- the rest of the turn
      have goal2 : ∀ (bb : Bool), bb = decide ((R.st i).2.toList = []) → (!PyData.eqv (.bool (decide ((R.st i).2.toList = []))) (.bool bb)) = false := fun bb e => by
        rw [e]
        cases decide ((R.st i).2.toList = []) <;> rfl
      rw [ev]
      cases htt : total with
      | none =>
        have hn : (R.st i).2 ≠ none := fun e => by
          obtain ⟨n, e2, _⟩ := ov.mp e
          rw [htt] at e2
          cases e2
        have hd : decide ((R.st i).2.toList = []) = false := by
          rcases hor with e | ⟨j, e⟩
          · exact absurd e hn
          · rw [e]; rfl
        refine ⟨_, rfl, rfl, false, rfl, iteF ⟨_, _, .bl _, .bl _, rfl, rfl, _, rfl, ?_⟩⟩
        rw [goal2 false hd.symm]
        refine iteF ?_
        refine ⟨_, rfl, m, _, 2, _, rfl, rfl, M.top, atI_nat (j := 2) rfl, Nat.zero_le _, fun z nz => ⟨_, _, dp_ints ((same_upd nz).tup M.pen), dp_nil (SqT.of upd_same), shaped_ints _, shaped_ints [], _, rfl, ?_⟩⟩
        have t1 : Same G4 (upd G4 z (.tup [])) := same_upd nz
        have M := M.mono t1.tps
        have FA := FA.mono t1.tps
        have RA := RA.mono t1.tps
        have FL := FL.mono t1.tps
        have B17 := B16.same t1
        revert M FA RA FL B17
        generalize upd G4 z (.tup []) = G5
        intro M FA RA FL B17
        clear t1 nz B16
        rw [ev]
        rcases hor with e | ⟨j, e⟩
        · rw [show decide ((R.st i).2.toList = []) = true by rw [e]; rfl]
          refine iteF ⟨m, f1, p1, e1, _, _, rfl, FA, RA, FL, B17, ?_⟩
          rw [Par.st_over e 1]
          exact M
        · rw [show decide ((R.st i).2.toList = []) = false by rw [e]; rfl]
          refine iteT ⟨_, rfl, _, rfl, _, rfl, m, _, 2, _, rfl, rfl, M.top, atI_nat (j := 2) rfl, p1, _, 0, _, rfl, rfl, M.pen, atI_nat (j := 0) (by rw [e]; rfl), R, a0, sa, la, t, ls, m, f1, p1, e1, (R.st i).1, j, rfl, FA, Bn, ⟨M.top, M.fil, by have zz := M.pen; rw [e] at zz; exact zz, M.spe⟩, Par.st_pend i e, fun G6 m' f' p' e' s6 M6 => ?_⟩
          refine ⟨m', f', p', e', _, _, rfl, FA.mono s6.tps, RA.mono s6.tps, FL.mono s6.tps, B17.same s6, ?_⟩
          have est : R.st i = ((R.st i).1, some j) := by rw [← e]
          rw [← est] at M6
          exact M6
      | some TT =>
        refine ⟨_, rfl, rfl, true, rfl, iteT ⟨_, rfl, _, rfl, _, _, rfl, rfl, _, _, .bl _, .bl _, rfl, rfl, _, rfl, ?_⟩⟩
        have hd : decide ((TT : Int) ≤ (i : Int)) = decide ((R.st i).2.toList = []) := by
          rcases hor with e | ⟨j, e⟩
          · obtain ⟨n, e2, e3⟩ := ov.mp e
            rw [htt] at e2
            cases e2
            rw [e]
            exact (decide_eq_true (show (TT : Int) ≤ (i : Int) by omega))
          · have : ¬ TT ≤ i := fun z => by
              have := ov.mpr ⟨TT, htt, z⟩
              rw [e] at this
              cases this
            rw [e]
            exact (decide_eq_false (show ¬ (TT : Int) ≤ (i : Int) by omega))
        rw [goal2 _ hd]
        refine iteF ?_
        refine ⟨_, rfl, m, _, 2, _, rfl, rfl, M.top, atI_nat (j := 2) rfl, Nat.zero_le _, fun z nz => ⟨_, _, dp_ints ((same_upd nz).tup M.pen), dp_nil (SqT.of upd_same), shaped_ints _, shaped_ints [], _, rfl, ?_⟩⟩
        have t1 : Same G4 (upd G4 z (.tup [])) := same_upd nz
        have M := M.mono t1.tps
        have FA := FA.mono t1.tps
        have RA := RA.mono t1.tps
        have FL := FL.mono t1.tps
        have B17 := B16.same t1
        revert M FA RA FL B17
        generalize upd G4 z (.tup []) = G5
        intro M FA RA FL B17
        clear t1 nz B16
        rw [ev]
        rcases hor with e | ⟨j, e⟩
        · rw [show decide ((R.st i).2.toList = []) = true by rw [e]; rfl]
          refine iteF ⟨m, f1, p1, e1, _, _, rfl, FA, RA, FL, B17, ?_⟩
          rw [Par.st_over e 1]
          exact M
        · rw [show decide ((R.st i).2.toList = []) = false by rw [e]; rfl]
          refine iteT ⟨_, rfl, _, rfl, _, rfl, m, _, 2, _, rfl, rfl, M.top, atI_nat (j := 2) rfl, p1, _, 0, _, rfl, rfl, M.pen, atI_nat (j := 0) (by rw [e]; rfl), R, a0, sa, la, t, ls, m, f1, p1, e1, (R.st i).1, j, rfl, FA, Bn, ⟨M.top, M.fil, by have zz := M.pen; rw [e] at zz; exact zz, M.spe⟩, Par.st_pend i e, fun G6 m' f' p' e' s6 M6 => ?_⟩
          refine ⟨m', f', p', e', _, _, rfl, FA.mono s6.tps, RA.mono s6.tps, FL.mono s6.tps, B17.same s6, ?_⟩
          have est : R.st i = ((R.st i).1, some j) := by rw [← e]
          rw [← est] at M6
          exact M6
    · clear FA RA FL B13 M1
      rintro σ G ⟨m, f1, p1, e1, x14, x15, rfl, FA, RA, FL, B13, M⟩
      refine ⟨_, rfl, _, rfl, _, rfl, z2, fun e ne => ?_⟩
      have t1 := same_upd (o := .tup [.int 0, .int (R.start : Int)]) ne
      refine ⟨R, a0, sa, la, t, ls, fa, e, rfl, FA.mono t1.tps, Bn, FL.mono t1.tps, SqT.of upd_same, fun G2 f' n s2 FL' hn => ?_, fun hall G2 s2 => ?_⟩
      · have s3 := t1.trans s2
        have M := M.mono s3.tps
        have B14 := B13.same s3
        obtain ⟨TT, htt, hTn⟩ := (over n).mp hn
        have hT30 := few TT htt
        have hTT : (R.st TT).2 = none := (over TT).mpr ⟨TT, htt, Nat.le_refl _⟩
        have e30 : (R.st n).1 = (R.st 30).1 := by
          rw [Par.st_over_le hTT hTn, Par.st_over_le hTT hT30]
        rw [htt]
        refine ⟨_, rfl, rfl, _, rfl, rfl, _, _, .bl _, .bl _, rfl, rfl, _, rfl, ?_⟩
        refine iteF ⟨_, rfl, rfl, true, rfl, iteT ⟨_, rfl, _, rfl, m, _, 1, _, rfl, rfl, M.top, atI_nat (j := 1) rfl, _, _, dp_ints FL'.at_, dp_ints M.fil.at_, shaped_ints _, shaped_ints _, _, rfl, ?_⟩⟩
        rw [eqv_tups, decide_eq_true e30]
        exact iteF ⟨_, _, _, _, _, _, _, _, _, _, _, _, _, _, _, rfl, B14⟩
      · have s3 := t1.trans s2
        have B14 := B13.same s3
        have htt : total = none := by
          cases h : total with
          | none => rfl
          | some TT => exact absurd ((over TT).mpr ⟨TT, h, Nat.le_refl _⟩) (hall TT)
        rw [htt]
        refine ⟨_, rfl, rfl, _, rfl, rfl, _, _, .bl _, .bl _, rfl, rfl, _, rfl, ?_⟩
        refine iteF ⟨_, rfl, rfl, false, rfl, iteF ?_⟩
        exact ⟨_, _, _, _, _, _, _, _, _, _, _, _, _, _, _, rfl, B14⟩
end
end Ech

set_option Elab.async false
set_option linter.all false
set_option maxRecDepth 100000
set_option maxHeartbeats 16000000
namespace Ech
open PySem PySem.Spec PyProof.Rows L2 RZ StX
/-! ### what the top has written, def by def -/
structure Df (K : PySem.W.Frag) (x : Str) (st : Stmt) (f : Addr) : Prop where
  at_ : PySem.W.nsIn K mainGlobals x = some (some (.ref f))
  ex : ∃ fd, Fun K x x st f fd
theorem df_mk {K : PySem.W.Frag} {x : Str} {st : Stmt} {f : Addr} {oc : Value} {od an : Option Addr} {osl : Array (Option Value)} {kV doc pm cdv ct : Value} (a : PySem.W.nsIn K mainGlobals x = some (some (.ref f)))
    (l : K.lookup f = some ⟨oc, od, .func (PySem.W.fnOf x x (defArgs st) (defBody st) (defScope st) .none kV doc pm an cdv ct), osl⟩) (c : PySem.W.codeIn K cdv x = true) (k : PySem.W.keepIn K (.ref f) = true) : Df K x st f := ⟨a, _, fun_mk (st := st) l c k⟩
/-- a method -/
structure Mt (K : PySem.W.Frag) (C : Addr) (m qual : Str) (st : Stmt) (f : Addr) : Prop where
  at_ : PySem.W.findIn K (.ref C) m = some (some (.ref f))
  fn : PySem.W.isFn K (.ref f) = true
  ex : ∃ fd, Fun K m qual st f fd
theorem mt_mk {K : PySem.W.Frag} {C : Addr} {m qual : Str} {st : Stmt} {f : Addr} {oc : Value} {od an : Option Addr} {osl : Array (Option Value)} {kV doc pm cdv ct : Value} (a : PySem.W.findIn K (.ref C) m = some (some (.ref f))) (i : PySem.W.isFn K (.ref f) = true)
    (l : K.lookup f = some ⟨oc, od, .func (PySem.W.fnOf m qual (defArgs st) (defBody st) (defScope st) .none kV doc pm an cdv ct), osl⟩) (c : PySem.W.codeIn K cdv qual = true) (k : PySem.W.keepIn K (.ref f) = true) : Mt K C m qual st f := ⟨a, i, _, fun_mk (st := st) l c k⟩
section
variable {P : Program} {w : World} {K : PySem.W.Frag} {mg : Str → Option Value} {base h : Heap}
theorem Df.has {x : Str} {st : Stmt} {f : Addr} {k : Nat} {ps : List Str} {sp : Sp} (X : K.In h) (G : h.Ns mainGlobals mg) (d : Df K x st f) (ok : ∀ fd, Fun K x x st f fd → FnOk P w K mg base CX0 k f fd ps sp)
    (hb : ∀ (kV doc pm : Value) (an : Option Addr) (cdv ct : Value) (us : List Value), us.length = ps.length → bindArgs (PySem.W.fnOf x x (defArgs st) (defBody st) (defScope st) .none kV doc pm an cdv ct) ⟨us, []⟩ = pure (ps.zip us)) : Has P w K mg base k x ps sp := by
  obtain ⟨a, fd, F⟩ := d
  exact ⟨f, fd, ok fd F, PySem.W.mg_of X G a, F.kp, F.binds hb⟩
theorem Df.hasK {x : Str} {st : Stmt} {f : Addr} {k n : Nat} {ps : List Str} {sp : Sp} (X : K.In h) (G : h.Ns mainGlobals mg) (d : Df K x st f) (ok : ∀ fd, Fun K x x st f fd → FnOk P w K mg base CX0 k f fd ps sp)
    (hb : ∀ (kV doc pm : Value) (an : Option Addr) (cdv ct : Value) (us ws : List Value), us.length = n → ws.length = 1 → bindArgs (PySem.W.fnOf x x (defArgs st) (defBody st) (defScope st) .none kV doc pm an cdv ct) ⟨us, (["closed"] : List Str).zip ws⟩ = pure (ps.zip (us ++ ws))) : HasK P w K mg base k x ps n sp := by
  obtain ⟨a, fd, F⟩ := d
  exact ⟨f, fd, ok fd F, PySem.W.mg_of X G a, F.kp, fun_kb F n hb⟩
/-- an error of the class at S is what «except S» names -/
theorem exm_self {K : PySem.W.Frag} {S : Addr} (h1 : PySem.W.subIn K (.ref S) (.type "BaseException") = some true) (h2 : PySem.W.isClsIn K S = true) (h3 : PySem.W.typeIn K (.ref S) = some (.type "type")) (h4 : PySem.W.subIn K (.ref S) (.ref S) = some true) :
    PySem.W.exmOne K (.ref S) (.ref S) = some true := by
  have e1 : (PySem.W.subIn K (.ref S) (.type "BaseException") == some true) = true := by rw [h1] <;> rfl
  have e2 : ((PySem.W.clsIn K S).isSome && PySem.W.typeIn K (.ref S) == some (.type "type")) = true := by
    have h2' : (PySem.W.clsIn K S).isSome = true := h2
    rw [h2', h3] <;> rfl
  show (if (PySem.W.subIn K (.ref S) (.type "BaseException") == some true) = true then (if ((PySem.W.clsIn K S).isSome && PySem.W.typeIn K (.ref S) == some (.type "type")) = true then PySem.W.subIn K (.ref S) (.ref S) else none) else none) = some true
  rw [if_pos e1, if_pos e2]
  exact h4

theorem all_mk {l : PySem.W.OpenLaw} {w : World} {K : PySem.W.Frag} {h : Heap} {mg : Str → Option Value} {fa : Addr} (X : K.In h) (G : h.Ns mainGlobals mg) (hfa : mg "law" = some (.ref fa))
    {f0 f1 f2 f3 f4 f5 f6 f7 f8 f9 f10 f11 f12 f13 f14 f15 f16 f17 f18 f19 f20 f21 f22 f23 f24 f25 f26 f27 f28 f29 f30 f31 f32 f33 f34 fL CF CE CB g1 g2 g3 g4 g5 pp NN : Addr} {u0 u1 u2 u3 u4 : Tok} {prest : List Value} {nm qq : Str} {bs : List Value} {sn : List Str} {sub : List Value} {ab : Bool} {col : Option Bool} {dd : Option Addr} {k0 k1 k2 k3 k5 : Option Value}
    {oc4 kV4 dc4 pm4 cd4 ct4 : Value} {od4 an4 : Option Addr} {sl4 : Array (Option Value)}
    (d0 : Df K "is_integer" sIsInt f0)
    (d1 : Df K "product_of" sProd f1)
    (d2 : Df K "are_sizes" sSizes f2)
    (d3 : Df K "is_table" sTable f3)
    (d4 : Df K "link_error" sLinkErr f4)
    (d5 : Df K "form_error" sFormErr f5)
    (d6 : Df K "is_form" sIsForm f6)
    (d7 : Df K "is_filling" sIsFill f7)
    (d8 : Df K "is_edit" sIsEdit f8)
    (d9 : Df K "require_filling" sReqFill f9)
    (d10 : Df K "wished" sWished f10)
    (d11 : Df K "is_once" sIsOnce f11)
    (d12 : Df K "is_shy" sIsShy f12)
    (d13 : Df K "links_from" sLinksFrom f13)
    (d14 : Df K "with_value" sWithVal f14)
    (d15 : Df K "first_moment" sFirstMom f15)
    (d16 : Df K "moment_after" sMomAfter f16)
    (d17 : Df K "are_links" sAreLinks f17)
    (d18 : Df K "is_moment" sIsMom f18)
    (d19 : Df K "require_beginning" sReqBeg f19)
    (d20 : Df K "begin" sBegin f20)
    (d21 : Df K "is_pending" sIsPend f21)
    (d22 : Df K "fire" sFire f22)
    (d23 : Df K "wishes_from" sWishes f23)
    (d24 : Df K "wish_at" sWishAt f24)
    (d25 : Df K "first_stop" sFirst f25)
    (d26 : Df K "require_many" sReqMany f26)
    (d27 : Df K "firings" sFirings f27)
    (d28 : Df K "changes_done" sChanges f28)
    (d29 : Df K "value_after" sValue f29)
    (d30 : Df K "least_run" sLeast f30)
    (d31 : Df K "_law_opened" sOpened f31)
    (d32 : Df K "_law_draw" sDraw f32)
    (d33 : Df K "_law_one" sOne f33)
    (d34 : Df K "_law_end" sEnd f34)
    (dL : Df K "law" sLaw fL)
    (z0 : PySem.W.nsIn K mainGlobals "isinstance" = some none)
    (z1 : PySem.W.nsIn K mainGlobals "int" = some none)
    (z2 : PySem.W.nsIn K mainGlobals "bool" = some none)
    (z3 : PySem.W.nsIn K mainGlobals "tuple" = some none)
    (z4 : PySem.W.nsIn K mainGlobals "len" = some none)
    (z5 : PySem.W.nsIn K mainGlobals "all" = some none)
    (z6 : PySem.W.nsIn K mainGlobals "enumerate" = some none)
    (z7 : PySem.W.nsIn K mainGlobals "zip" = some none)
    (z8 : PySem.W.nsIn K mainGlobals "range" = some none)
    (z9 : PySem.W.nsIn K mainGlobals "abs" = some none)
    (z10 : PySem.W.nsIn K mainGlobals "sorted" = some none)
    (z11 : PySem.W.nsIn K mainGlobals "set" = some none)
    (c0 : PySem.W.nsIn K mainGlobals "MAX_FAR" = some (some (.int 1000000000000000000 u0)))
    (c1 : PySem.W.nsIn K mainGlobals "MAX_FIELDS" = some (some (.int 4 u1)))
    (c2 : PySem.W.nsIn K mainGlobals "MAX_FILLINGS" = some (some (.int 36 u2)))
    (c3 : PySem.W.nsIn K mainGlobals "MAX_LINKS" = some (some (.int 6 u3)))
    (c4 : PySem.W.nsIn K mainGlobals "MAX_SIZE" = some (some (.int 6 u4)))
    (aC : PySem.W.nsIn K mainGlobals "Fields" = some (some (.ref CF)))
    (pg : PySem.W.plainGet K CF Str.empty = true)
    (hd : PySem.W.hasDictIn K CF = true)
    (po : PySem.W.plainOver K CF = true)
    (sa : PySem.W.findIn K (.ref CF) "__setattr__" = some (some (.builtin "object.__setattr__")))
    (mk : PySem.W.makesIn K CF = true)
    (kc : PySem.W.keepIn K (.ref CF) = true)
    (nT : PySem.W.findIn K (.ref CF) "table" = some none)
    (nH : PySem.W.findIn K (.ref CF) "held" = some none)
    (nF : PySem.W.findIn K (.ref CF) "fired" = some none)
    (sf : PySem.W.selfFirst K CF = true)
    (m1 : Mt K CF "__init__" "Fields.__init__" sFInit g1)
    (m2 : Mt K CF "edited" "Fields.edited" sFEdited g2)
    (m3 : Mt K CF "__iadd__" "Fields.__iadd__" sFIadd g3)
    (p1 : PySem.W.findIn K (.ref CF) "filling" = some (some (.ref pp)))
    (p2 : PySem.W.specialIn K (.ref pp) "__get__" = some (some (.builtin "property.__get__")))
    (p3 : PySem.W.takesIn K (.ref pp) = some true)
    (p4 : PySem.W.recIn K pp "property" = some (.ref g4 :: prest))
    (p5 : K.lookup g4 = some ⟨oc4, od4, .func (PySem.W.fnOf "filling" "Fields.filling" (defArgs sFFilling) (defBody sFFilling) (defScope sFFilling) .none kV4 dc4 pm4 an4 cd4 ct4), sl4⟩)
    (p6 : PySem.W.codeIn K cd4 "Fields.filling" = true)
    (p7 : PySem.W.keepIn K (.ref g4) = true)
    (aE : PySem.W.nsIn K mainGlobals "Endless" = some (some (.ref CE)))
    (xE : K.lookup CE = some (excClassObj nm qq CE NN bs [.ref CB, .type "ValueError", .type "Exception", .type "BaseException", .type "object"] true sn sub ab col dd k0 k1 k2 k3 k5 "ValueError.__new__"))
    (sE : PySem.W.findIn K (.ref CE) "__setattr__" = some (some (.builtin "object.__setattr__")))
    (bE : PySem.W.subIn K (.ref CE) (.type "BaseException") = some true)
    (tE : PySem.W.typeIn K (.ref CE) = some (.type "type"))
    (kE : PySem.W.keepIn K (.ref CE) = true)
    (iE : PySem.W.isClsIn K CE = true)
    (qE : PySem.W.subIn K (.ref CE) (.ref CE) = some true)
    (n1 : PySem.W.findIn K (.ref CE) "order" = some none)
    (n2 : PySem.W.findIn K (.ref CE) "ring" = some none)
    (m5 : Mt K CE "__init__" "Endless.__init__" sEndlessInit g5)
    (t5 : PySem.W.typeIn K (.ref g5) = some (.type "function"))
    : ∃ fd : FuncData, (∀ (s : Shared) (v : Value), BindsTo s fd ⟨[v], []⟩ [("_law_script", v)]) ∧ ∀ base : Heap, K.In base → base.Ns mainGlobals mg → FnOk l.prog w K mg base CX0 8 fa fd ["_law_script"] (spLaw K) := by
  obtain ⟨aL, fdL, FL⟩ := dL
  have e := hfa.symm.trans (PySem.W.mg_of X G aL)
  cases e
  have bL : Binds K fdL ["_law_script"] [] := FL.binds (ps := ["_law_script"]) fun _ _ _ _ _ _ us hl => match us, hl with | [_], _ => rfl
  have T : Fre mg := ⟨PySem.W.mg_none_of X G z0, PySem.W.mg_none_of X G z1, PySem.W.mg_none_of X G z2, PySem.W.mg_none_of X G z3, PySem.W.mg_none_of X G z4, PySem.W.mg_none_of X G z5, PySem.W.mg_none_of X G z6, PySem.W.mg_none_of X G z7, PySem.W.mg_none_of X G z8, PySem.W.mg_none_of X G z9, PySem.W.mg_none_of X G z10, PySem.W.mg_none_of X G z11⟩
  have C : Cns mg := ⟨⟨u0, PySem.W.mg_of X G c0⟩, ⟨u1, PySem.W.mg_of X G c1⟩, ⟨u2, PySem.W.mg_of X G c2⟩, ⟨u3, PySem.W.mg_of X G c3⟩, ⟨u4, PySem.W.mg_of X G c4⟩⟩
  refine ⟨fdL, fun s v => ?_, fun base _ _ => ?_⟩
  · obtain ⟨oc, od, kV, doc, pm, an, cdv, ct, osl, rfl, _, _⟩ := FL.ex
    exact .of_eq rfl
  have cl : Cls K CF := ⟨pg, hd, po, sa⟩
  have FT : FTxt K CF := ⟨cl, nT, nH, nF⟩
  have OX : OexC K CE := ⟨⟨nm, qq, NN, bs, _, sn, sub, ab, col, dd, k0, k1, k2, k3, k5, xE, by rfl⟩, sE, bE, tE, kE⟩
  have h_is_integer : Has l.prog w K mg base 1 "is_integer" ["value", "low", "high"] spIsInt := d0.has X G (fun fd F => ok_isInt F T) (fun _ _ _ _ _ _ us hl => match us, hl with | [_, _, _], _ => rfl)
  have h_product_of : Has l.prog w K mg base 1 "product_of" ["numbers"] (spProd K) := d1.has X G (fun fd F => ok_prod F) (fun _ _ _ _ _ _ us hl => match us, hl with | [_], _ => rfl)
  have h_are_sizes : Has l.prog w K mg base 2 "are_sizes" ["value"] (spSizes K) := d2.has X G (fun fd F => ok_sizes F T C h_is_integer h_product_of) (fun _ _ _ _ _ _ us hl => match us, hl with | [_], _ => rfl)
  have h_is_table : Has l.prog w K mg base 2 "is_table" ["value", "many", "size"] (spTable K) := d3.has X G (fun fd F => ok_table F T h_is_integer) (fun _ _ _ _ _ _ us hl => match us, hl with | [_, _, _], _ => rfl)
  have h_link_error : Has l.prog w K mg base 3 "link_error" ["sizes", "value"] (spLink K) := d4.has X G (fun fd F => ok_link F T h_is_integer h_is_table) (fun _ _ _ _ _ _ us hl => match us, hl with | [_, _], _ => rfl)
  have h_form_error : Has l.prog w K mg base 4 "form_error" ["value"] (spFormErr K) := d5.has X G (fun fd F => ok_formErr F T C h_are_sizes h_link_error) (fun _ _ _ _ _ _ us hl => match us, hl with | [_], _ => rfl)
  have h_is_form : Has l.prog w K mg base 5 "is_form" ["value"] (spIsForm K) := d6.has X G (fun fd F => ok_isForm F h_form_error) (fun _ _ _ _ _ _ us hl => match us, hl with | [_], _ => rfl)
  have h_is_filling : Has l.prog w K mg base 2 "is_filling" ["form", "value"] (spIsFill K) := d7.has X G (fun fd F => ok_isFill F T h_is_integer) (fun _ _ _ _ _ _ us hl => match us, hl with | [_, _], _ => rfl)
  have h_is_edit : Has l.prog w K mg base 2 "is_edit" ["form", "value"] (spIsEdit K) := d8.has X G (fun fd F => ok_isEdit F T h_is_integer) (fun _ _ _ _ _ _ us hl => match us, hl with | [_, _], _ => rfl)
  have h_require_filling : Has l.prog w K mg base 3 "require_filling" ["form", "filling"] (spReqFill K) := d9.has X G (fun fd F => ok_reqFill F h_is_filling) (fun _ _ _ _ _ _ us hl => match us, hl with | [_, _], _ => rfl)
  have h_wished : Has l.prog w K mg base 1 "wished" ["form", "filling", "link"] (spWished K) := d10.has X G (fun fd F => ok_wished F) (fun _ _ _ _ _ _ us hl => match us, hl with | [_, _, _], _ => rfl)
  have h_is_once : Has l.prog w K mg base 1 "is_once" ["form", "link"] (spGuard K) := d11.has X G (fun fd F => ok_once F) (fun _ _ _ _ _ _ us hl => match us, hl with | [_, _], _ => rfl)
  have h_is_shy : Has l.prog w K mg base 1 "is_shy" ["form", "link"] (spGuard K) := d12.has X G (fun fd F => ok_shy F) (fun _ _ _ _ _ _ us hl => match us, hl with | [_, _], _ => rfl)
  have h_links_from : Has l.prog w K mg base 1 "links_from" ["form", "field"] (spFrom K) := d13.has X G (fun fd F => ok_from F T) (fun _ _ _ _ _ _ us hl => match us, hl with | [_, _], _ => rfl)
  have h_with_value : Has l.prog w K mg base 1 "with_value" ["filling", "field", "value"] (spWith K) := d14.has X G (fun fd F => ok_with F) (fun _ _ _ _ _ _ us hl => match us, hl with | [_, _, _], _ => rfl)
  have h_first_moment : Has l.prog w K mg base 2 "first_moment" ["form", "filling", "edit"] (spFirstMom K) := d15.has X G (fun fd F => ok_firstMom F h_with_value h_links_from) (fun _ _ _ _ _ _ us hl => match us, hl with | [_, _, _], _ => rfl)
  have h_moment_after : Has l.prog w K mg base 2 "moment_after" ["form", "moment", "link"] (spMomAfter K) := d16.has X G (fun fd F => ok_momAfter F T h_with_value h_links_from h_wished h_is_once h_is_shy) (fun _ _ _ _ _ _ us hl => match us, hl with | [_, _, _], _ => rfl)
  have h_are_links : Has l.prog w K mg base 2 "are_links" ["form", "value"] (spAreLinks K) := d17.has X G (fun fd F => ok_areLinks F T h_is_integer) (fun _ _ _ _ _ _ us hl => match us, hl with | [_, _], _ => rfl)
  have h_is_moment : Has l.prog w K mg base 3 "is_moment" ["form", "value"] (spIsMom K) := d18.has X G (fun fd F => ok_isMom F T h_is_integer h_is_filling h_are_links h_is_once) (fun _ _ _ _ _ _ us hl => match us, hl with | [_, _], _ => rfl)
  have h_require_beginning : Has l.prog w K mg base 4 "require_beginning" ["form", "filling", "edit"] (spReqBeg K) := d19.has X G (fun fd F => ok_reqBeg F h_require_filling h_is_edit) (fun _ _ _ _ _ _ us hl => match us, hl with | [_, _, _], _ => rfl)
  have h_begin : Has l.prog w K mg base 5 "begin" ["form", "filling", "edit"] (spFirstMom K) := d20.has X G (fun fd F => ok_begin F h_require_beginning h_first_moment) (fun _ _ _ _ _ _ us hl => match us, hl with | [_, _, _], _ => rfl)
  have h_is_pending : Has l.prog w K mg base 1 "is_pending" ["moment", "link"] (spIsPend K) := d21.has X G (fun fd F => ok_isPend F T) (fun _ _ _ _ _ _ us hl => match us, hl with | [_, _], _ => rfl)
  have h_fire : Has l.prog w K mg base 4 "fire" ["form", "value", "link"] (spMomAfter K) := d22.has X G (fun fd F => ok_fire F h_is_moment h_is_pending h_moment_after) (fun _ _ _ _ _ _ us hl => match us, hl with | [_, _, _], _ => rfl)
  have h_wishes_from : Has l.prog w K mg base 1 "wishes_from" ["table", "start"] (spWishes K) := d23.has X G (fun fd F => ok_wishes F T) (fun _ _ _ _ _ _ us hl => match us, hl with | [_, _], _ => rfl)
  have h_wish_at : Has l.prog w K mg base 1 "wish_at" ["found", "ahead", "number"] (spWishAt K) := d24.has X G (fun fd F => ok_wishAt F T) (fun _ _ _ _ _ _ us hl => match us, hl with | [_, _, _], _ => rfl)
  have h_first_stop : Has l.prog w K mg base 2 "first_stop" ["table", "old", "start"] (spFirst K) := d25.has X G (fun fd F => ok_first F T h_wishes_from h_wish_at) (fun _ _ _ _ _ _ us hl => match us, hl with | [_, _, _], _ => rfl)
  have h_require_many : Has l.prog w K mg base 2 "require_many" ["many"] spReqMany := d26.has X G (fun fd F => ok_reqMany F C h_is_integer) (fun _ _ _ _ _ _ us hl => match us, hl with | [_], _ => rfl)
  have h_firings : HasK l.prog w K mg base 3 "firings" ["table", "old", "start", "many", "closed"] 4 (spFirings K) := d27.hasK X G (fun fd F => ok_firings F T h_require_many h_first_stop h_wishes_from) fun _ _ _ _ _ _ us ws h1 h2 => match us, ws, h1, h2 with | [_, _, _, _], [_], _, _ => rfl
  have h_changes_done : Has l.prog w K mg base 4 "changes_done" ["table", "old", "start", "many", "times", "closed"] (spChanges K) := d28.has X G (fun fd F => ok_changes F h_firings h_first_stop) (fun _ _ _ _ _ _ us hl => match us, hl with | [_, _, _, _, _, _], _ => rfl)
  have h_value_after : HasK l.prog w K mg base 5 "value_after" ["table", "old", "start", "many", "field", "times", "closed"] 6 (spValue K) := d29.hasK X G (fun fd F => ok_value F T C h_require_many h_is_integer h_changes_done h_wishes_from h_wish_at) fun _ _ _ _ _ _ us ws h1 h2 => match us, ws, h1, h2 with | [_, _, _, _, _, _], [_], _, _ => rfl
  have h_least_run : Has l.prog w K mg base 3 "least_run" ["form", "moment"] (spLeast K) := d30.has X G (fun fd F => ok_least F T h_moment_after) (fun _ _ _ _ _ _ us hl => match us, hl with | [_, _], _ => rfl)
  have h__law_opened : Has l.prog w K mg base 1 "_law_opened" ["_law_script"] (spOpened K) := d31.has X G (fun fd F => ok_opened F T) (fun _ _ _ _ _ _ us hl => match us, hl with | [_], _ => rfl)
  have h__law_draw : Has l.prog w K mg base 1 "_law_draw" ["_law_box", "_law_many"] spDraw := d32.has X G (fun fd F => ok_draw F T) (fun _ _ _ _ _ _ us hl => match us, hl with | [_, _], _ => rfl)
  have h__law_one : Has l.prog w K mg base 2 "_law_one" ["_law_box", "_law_items"] spOne := d33.has X G (fun fd F => ok_one F T h__law_draw) (fun _ _ _ _ _ _ us hl => match us, hl with | [_, _], _ => rfl)
  have ET : ETxt l.prog w K mg base CE := by
    obtain ⟨e1, e2, fd5, F5⟩ := m5
    exact ⟨OX, PySem.W.mg_of X G aE, g5, fd5, e1, t5, ok_endInit F5 OX n1 n2, F5.binds (ps := ["self", "order", "ring"]) fun _ _ _ _ _ _ us hl => match us, hl with | [_, _, _], _ => rfl⟩
  have O : FOk l.prog w K mg base CF CE := by
    obtain ⟨a1, i1, fd1, F1⟩ := m1
    obtain ⟨a2, i2, fd2, F2⟩ := m2
    obtain ⟨a3, i3, fd3, F3⟩ := m3
    have F4 : Fun K "filling" "Fields.filling" sFFilling g4 _ := fun_mk (st := sFFilling) p5 p6 p7
    have b2 : Binds K fd2 ["self", "edit"] [] := F2.binds (ps := ["self", "edit"]) fun _ _ _ _ _ _ us hl => match us, hl with | [_, _], _ => rfl
    exact ⟨PySem.W.mg_of X G aC, PySem.W.mg_of X G aE, exm_self bE iE tE qE, cl,
      ⟨g1, fd1, ⟨mk, a1, i1, kc⟩, ok_fInit F1 FT h_form_error h_is_filling, F1.binds (ps := ["self", "form", "filling"]) fun _ _ _ _ _ _ us hl => match us, hl with | [_, _, _], _ => rfl⟩,
      ⟨g3, fd3, ⟨sf, a3, i3⟩, ok_iadd F3 FT ⟨a2, i2, F2.kp⟩ (ok_edited F2 FT ET h_is_edit h_first_moment h_least_run) b2, F3.binds (ps := ["self", "edit"]) fun _ _ _ _ _ _ us hl => match us, hl with | [_, _], _ => rfl⟩,
      ⟨pp, g4, _, ⟨p1, p2, p3, prest, p4⟩, ok_filling F4 FT, F4.binds (ps := ["self"]) fun _ _ _ _ _ _ us hl => match us, hl with | [_], _ => rfl⟩⟩
  have h__law_end : Has l.prog w K mg base 7 "_law_end" ["_law_form", "_law_filling", "_law_edit"] (spEnd K) := d34.has X G (fun fd F => ok_end F O) (fun _ _ _ _ _ _ us hl => match us, hl with | [_, _, _], _ => rfl)
  exact ok_law FL T ⟨h__law_opened, h__law_draw, h__law_one, h_is_form, h_begin, h_firings, h_value_after, h_fire, h__law_end⟩
end
theorem walk {l : PySem.W.OpenLaw} {q : Program} {loose : List Str} {XP : (Str → Option Value) → Heap → Prop} {YP : World → Heap → Prop} {d : DefRec} {K : Params → PySem.W.Frag} (hn : l.most = some 63) (hdf : d.params.defaults = [])
    (hY : ∀ (w : World) (h : Heap), YP w h → (K w.params).In h)
    (F : ∀ (w : World) (mg : Str → Option Value) (fa : Addr) (h : Heap), (K w.params).In h → h.Ns mainGlobals mg → mg d.name = some (.ref fa) →
      ∃ fd : FuncData, (∀ (s : Shared) (u : Value), BindsTo s fd ⟨[u], []⟩ [("_law_script", u)]) ∧ ∀ base : Heap, (K w.params).In base → base.Ns mainGlobals mg → FnOk l.prog w (K w.params) mg base CX0 8 fa fd ["_law_script"] (spLaw (K w.params))) :
    PySem.W.WalkO q loose XP YP l.row.toRowW d [] (fun f vs => PySem.call f vs) :=
  L2.walk_of (n := 63) (k := 8) (x := "_law_script") (CX := fun _ => CX0) (sp := fun w => spLaw (K w.params)) hn (by decide) hdf ⟨rfl, by decide, by decide⟩ hY F (fun _ _ a ns hl _ hS => ⟨a, ns, rfl, hS, hl, fun _ => rfl⟩) fun _ _ _ _ _ z => z
end Ech

section
open PySem PySem.W PyProof.Rows
set_option maxHeartbeats 0
open_top hd for PySem.Challenge.rw_echofields_k74_whole_rings_are_forms
end

set_option Elab.async false
set_option linter.all false
set_option maxRecDepth 100000
set_option maxHeartbeats 0
open PySem PySem.W PyProof.Rows
theorem PySem.Challenge.cw_echofields_k74_whole_rings_are_forms_holds : PySem.Challenge.rw_echofields_k74_whole_rings_are_forms.Holds := by
  refine hd ?_
  k_fill
  refine Ech.walk (l := PySem.Challenge.rw_echofields_k74_whole_rings_are_forms) rfl rfl (fun w h Y => PySem.W.kIn_of Y) ?F
  case F =>
    intro w mg fa h KX G hmg
    refine' Ech.all_mk KX G hmg ?d0 ?d1 ?d2 ?d3 ?d4 ?d5 ?d6 ?d7 ?d8 ?d9 ?d10 ?d11 ?d12 ?d13 ?d14 ?d15 ?d16 ?d17 ?d18 ?d19 ?d20 ?d21 ?d22 ?d23 ?d24 ?d25 ?d26 ?d27 ?d28 ?d29 ?d30 ?d31 ?d32 ?d33 ?d34 ?dL ?z0 ?z1 ?z2 ?z3 ?z4 ?z5 ?z6 ?z7 ?z8 ?z9 ?z10 ?z11 ?c0 ?c1 ?c2 ?c3 ?c4 ?aC ?pg ?hd ?po ?sa ?mk ?kc ?nT ?nH ?nF ?sf ?m1 ?m2 ?m3 ?p1 ?p2 ?p3 ?p4 ?p5 ?p6 ?p7 ?aE ?xE ?sE ?bE ?tE ?kE ?iE ?qE ?n1 ?n2 ?m5 ?t5
    (case d0 => (refine' Ech.df_mk ?a ?l ?c ?k; (case a => k_is); (case l => k_is); (case c => k_is); (case k => k_is)))
    (case d1 => (refine' Ech.df_mk ?a ?l ?c ?k; (case a => k_is); (case l => k_is); (case c => k_is); (case k => k_is)))
    (case d2 => (refine' Ech.df_mk ?a ?l ?c ?k; (case a => k_is); (case l => k_is); (case c => k_is); (case k => k_is)))
    (case d3 => (refine' Ech.df_mk ?a ?l ?c ?k; (case a => k_is); (case l => k_is); (case c => k_is); (case k => k_is)))
    (case d4 => (refine' Ech.df_mk ?a ?l ?c ?k; (case a => k_is); (case l => k_is); (case c => k_is); (case k => k_is)))
    (case d5 => (refine' Ech.df_mk ?a ?l ?c ?k; (case a => k_is); (case l => k_is); (case c => k_is); (case k => k_is)))
    (case d6 => (refine' Ech.df_mk ?a ?l ?c ?k; (case a => k_is); (case l => k_is); (case c => k_is); (case k => k_is)))
    (case d7 => (refine' Ech.df_mk ?a ?l ?c ?k; (case a => k_is); (case l => k_is); (case c => k_is); (case k => k_is)))
    (case d8 => (refine' Ech.df_mk ?a ?l ?c ?k; (case a => k_is); (case l => k_is); (case c => k_is); (case k => k_is)))
    (case d9 => (refine' Ech.df_mk ?a ?l ?c ?k; (case a => k_is); (case l => k_is); (case c => k_is); (case k => k_is)))
    (case d10 => (refine' Ech.df_mk ?a ?l ?c ?k; (case a => k_is); (case l => k_is); (case c => k_is); (case k => k_is)))
    (case d11 => (refine' Ech.df_mk ?a ?l ?c ?k; (case a => k_is); (case l => k_is); (case c => k_is); (case k => k_is)))
    (case d12 => (refine' Ech.df_mk ?a ?l ?c ?k; (case a => k_is); (case l => k_is); (case c => k_is); (case k => k_is)))
    (case d13 => (refine' Ech.df_mk ?a ?l ?c ?k; (case a => k_is); (case l => k_is); (case c => k_is); (case k => k_is)))
    (case d14 => (refine' Ech.df_mk ?a ?l ?c ?k; (case a => k_is); (case l => k_is); (case c => k_is); (case k => k_is)))
    (case d15 => (refine' Ech.df_mk ?a ?l ?c ?k; (case a => k_is); (case l => k_is); (case c => k_is); (case k => k_is)))
    (case d16 => (refine' Ech.df_mk ?a ?l ?c ?k; (case a => k_is); (case l => k_is); (case c => k_is); (case k => k_is)))
    (case d17 => (refine' Ech.df_mk ?a ?l ?c ?k; (case a => k_is); (case l => k_is); (case c => k_is); (case k => k_is)))
    (case d18 => (refine' Ech.df_mk ?a ?l ?c ?k; (case a => k_is); (case l => k_is); (case c => k_is); (case k => k_is)))
    (case d19 => (refine' Ech.df_mk ?a ?l ?c ?k; (case a => k_is); (case l => k_is); (case c => k_is); (case k => k_is)))
    (case d20 => (refine' Ech.df_mk ?a ?l ?c ?k; (case a => k_is); (case l => k_is); (case c => k_is); (case k => k_is)))
    (case d21 => (refine' Ech.df_mk ?a ?l ?c ?k; (case a => k_is); (case l => k_is); (case c => k_is); (case k => k_is)))
    (case d22 => (refine' Ech.df_mk ?a ?l ?c ?k; (case a => k_is); (case l => k_is); (case c => k_is); (case k => k_is)))
    (case d23 => (refine' Ech.df_mk ?a ?l ?c ?k; (case a => k_is); (case l => k_is); (case c => k_is); (case k => k_is)))
    (case d24 => (refine' Ech.df_mk ?a ?l ?c ?k; (case a => k_is); (case l => k_is); (case c => k_is); (case k => k_is)))
    (case d25 => (refine' Ech.df_mk ?a ?l ?c ?k; (case a => k_is); (case l => k_is); (case c => k_is); (case k => k_is)))
    (case d26 => (refine' Ech.df_mk ?a ?l ?c ?k; (case a => k_is); (case l => k_is); (case c => k_is); (case k => k_is)))
    (case d27 => (refine' Ech.df_mk ?a ?l ?c ?k; (case a => k_is); (case l => k_is); (case c => k_is); (case k => k_is)))
    (case d28 => (refine' Ech.df_mk ?a ?l ?c ?k; (case a => k_is); (case l => k_is); (case c => k_is); (case k => k_is)))
    (case d29 => (refine' Ech.df_mk ?a ?l ?c ?k; (case a => k_is); (case l => k_is); (case c => k_is); (case k => k_is)))
    (case d30 => (refine' Ech.df_mk ?a ?l ?c ?k; (case a => k_is); (case l => k_is); (case c => k_is); (case k => k_is)))
    (case d31 => (refine' Ech.df_mk ?a ?l ?c ?k; (case a => k_is); (case l => k_is); (case c => k_is); (case k => k_is)))
    (case d32 => (refine' Ech.df_mk ?a ?l ?c ?k; (case a => k_is); (case l => k_is); (case c => k_is); (case k => k_is)))
    (case d33 => (refine' Ech.df_mk ?a ?l ?c ?k; (case a => k_is); (case l => k_is); (case c => k_is); (case k => k_is)))
    (case d34 => (refine' Ech.df_mk ?a ?l ?c ?k; (case a => k_is); (case l => k_is); (case c => k_is); (case k => k_is)))
    (case dL => (refine' Ech.df_mk ?a ?l ?c ?k; (case a => k_is); (case l => k_is); (case c => k_is); (case k => k_is)))
    (case z0 => k_is)
    (case z1 => k_is)
    (case z2 => k_is)
    (case z3 => k_is)
    (case z4 => k_is)
    (case z5 => k_is)
    (case z6 => k_is)
    (case z7 => k_is)
    (case z8 => k_is)
    (case z9 => k_is)
    (case z10 => k_is)
    (case z11 => k_is)
    (case c0 => k_is)
    (case c1 => k_is)
    (case c2 => k_is)
    (case c3 => k_is)
    (case c4 => k_is)
    (case aC => k_is)
    (case pg => k_is)
    (case hd => k_is)
    (case po => k_is)
    (case sa => k_is)
    (case mk => k_is)
    (case kc => k_is)
    (case nT => k_is)
    (case nH => k_is)
    (case nF => k_is)
    (case sf => k_is)
    (case m1 => (refine' Ech.mt_mk ?a ?i ?l ?c ?k; (case a => k_is); (case i => k_is); (case l => k_is); (case c => k_is); (case k => k_is)))
    (case m2 => (refine' Ech.mt_mk ?a ?i ?l ?c ?k; (case a => k_is); (case i => k_is); (case l => k_is); (case c => k_is); (case k => k_is)))
    (case m3 => (refine' Ech.mt_mk ?a ?i ?l ?c ?k; (case a => k_is); (case i => k_is); (case l => k_is); (case c => k_is); (case k => k_is)))
    (case p1 => k_is)
    (case p2 => k_is)
    (case p3 => k_is)
    (case p4 => k_is)
    (case p5 => k_is)
    (case p6 => k_is)
    (case p7 => k_is)
    (case aE => k_is)
    (case xE => k_is)
    (case sE => k_is)
    (case bE => k_is)
    (case tE => k_is)
    (case kE => k_is)
    (case iE => k_is)
    (case qE => first | rfl | k_is)
    (case n1 => k_is)
    (case n2 => k_is)
    (case m5 => (refine' Ech.mt_mk ?a ?i ?l ?c ?k; (case a => k_is); (case i => k_is); (case l => k_is); (case c => k_is); (case k => k_is)))
    (case t5 => k_is)
#print axioms PySem.Challenge.cw_echofields_k74_whole_rings_are_forms_holds
