import PyProof.Rows.All
import Wide.All
import OpenK.AllK
import Wide.FinOn
import HandS.ForMost
import HandS.Codes
import HandS.Zip
import HandS.Walk
import HandS.FStr
import HandS.StrMore
import HandS.IsInst
import KE.GoesMore
import KE.GoesZip
import KE.KCallOwn
import PySem.Challenge.RW_shortgoings_k24_whole_written_and_read
import HandS.TupAny
import HandS.Exc
import HandS.Ends
import HandS.Defaults
set_option Elab.async false
set_option linter.all false
/-! K1: the trees, their meaning, their texts, the tokens; no program in sight. -/
namespace K24
open PySem TL

inductive Sh where
  | pt (m : Int)
  | ov (ps : List Sh) (n s : Int)

abbrev BIG : Int := 10 ^ 90

/-- the moments l over again, n times, each time s later -/
def times (l : List Int) (s : Int) : Nat → List Int
  | 0 => []
  | k + 1 => times l s k ++ l.map (fun m => m + (k : Int) * s)

mutual
def moms : Sh → List Int
  | .pt m => [m]
  | .ov ps n s => times (momsR ps) s n.toNat
def momsR : List Sh → List Int
  | [] => []
  | p :: r => moms p ++ momsR r
end
mutual
def nest : Sh → Nat
  | .pt _ => 0
  | .ov ps _ _ => nestR ps + 1
def nestR : List Sh → Nat
  | [] => 0
  | p :: r => max (nest p) (nestR r)
end
mutual
def pcs : Sh → Nat
  | .pt _ => 1
  | .ov ps _ _ => pcsR ps + 1
def pcsR : List Sh → Nat
  | [] => 0
  | p :: r => pcs p + pcsR r
end
mutual
def cnt : Sh → Int
  | .pt _ => 1
  | .ov ps n _ => n * cntR ps
def cntR : List Sh → Int
  | [] => 0
  | p :: r => cnt p + cntR r
end
mutual
def fst : Sh → Int
  | .pt m => m
  | .ov ps _ _ => fstR ps
def fstR : List Sh → Int
  | [] => 0
  | p :: _ => fst p
end
mutual
def lst : Sh → Int
  | .pt m => m
  | .ov ps n s => lstR ps + (n - 1) * s
def lstR : List Sh → Int
  | [] => 0
  | [p] => lst p
  | _ :: q :: r => lstR (q :: r)
end
/-- each begins behind the end of the one ahead -/
def rising : List Sh → Prop
  | [] => True
  | [_] => True
  | p :: q :: r => lst p < fst q ∧ rising (q :: r)
mutual
def good : Sh → Prop
  | .pt m => 0 ≤ m ∧ m < BIG
  | .ov ps n s => ps ≠ [] ∧ goodR ps ∧ rising ps ∧ 2 ≤ n ∧ 1 ≤ s ∧ s < BIG ∧ lstR ps - fstR ps < s ∧ n * cntR ps ≤ 1440 ∧ lstR ps + (n - 1) * s < BIG
def goodR : List Sh → Prop
  | [] => True
  | p :: r => good p ∧ goodR r
end

/-! ### texts -/
def two (n : Nat) : List Nat := [48 + n / 10, 48 + n % 10]
def show_ (m : Nat) : List Nat := (if m / 1440 = 0 then [] else numL (m / 1440) ++ [32]) ++ (numL (m % 1440 / 60) ++ ([58] ++ two (m % 60)))
mutual
def word : Sh → List Nat
  | .pt m => show_ m.toNat
  | .ov ps n s => [40] ++ (textR ps ++ ([41, 32, 120] ++ (numL n.toNat ++ ([32, 43] ++ numL s.toNat))))
def textR : List Sh → List Nat
  | [] => []
  | [p] => word p
  | p :: q :: r => word p ++ ([44, 32] ++ textR (q :: r))
end
def rowTxt (ps : List Sh) : List Nat := if ps = [] then [45] else textR ps

theorem textR_join : ∀ ps : List Sh, textR ps = joinL [44, 32] (ps.map word)
  | [] => rfl
  | [p] => rfl
  | p :: q :: r => by
    rw [textR, textR_join (q :: r)]
    rfl

/-! ### facts of good trees -/
theorem goodR_mem : ∀ {ps : List Sh}, goodR ps → ∀ p ∈ ps, good p
  | p :: r, h, q, hq => by
    rw [goodR] at h
    rcases List.mem_cons.mp hq with e | e
    · rw [e]; exact h.1
    · exact goodR_mem h.2 q e
theorem nestR_mem : ∀ {ps : List Sh} {p : Sh}, p ∈ ps → nest p ≤ nestR ps
  | q :: r, p, h => by
    rw [nestR]
    rcases List.mem_cons.mp h with e | e
    · rw [e]; omega
    · have := nestR_mem e
      omega
theorem goodR_append {ps qs : List Sh} (h : goodR ps) (k : goodR qs) : goodR (ps ++ qs) := by
  induction ps with
  | nil => exact k
  | cons p r ih =>
    rw [goodR] at h
    show goodR (p :: (r ++ qs))
    rw [goodR]
    exact ⟨h.1, ih h.2⟩
theorem rising_tail {p : Sh} {r : List Sh} (h : rising (p :: r)) : rising r := by
  cases r with
  | nil => exact True.intro
  | cons q r => exact h.2
theorem lstR_snoc (ps : List Sh) (p : Sh) : lstR (ps ++ [p]) = lst p := by
  induction ps with
  | nil => rfl
  | cons q r ih =>
    cases r with
    | nil => rfl
    | cons x r => exact ih
theorem rising_snoc : ∀ {ps : List Sh} {p : Sh}, rising ps → (ps ≠ [] → lstR ps < fst p) → rising (ps ++ [p])
  | [], p, _, _ => True.intro
  | [q], p, _, h => ⟨h (by simp), True.intro⟩
  | q :: x :: r, p, hr, h => ⟨hr.1, rising_snoc (ps := x :: r) hr.2 fun _ => h (by simp)⟩

/-- counts are positive; the first is not above the last, both in range -/
theorem sh_facts : ∀ n : Nat, (∀ t : Sh, nest t < n → good t → 1 ≤ cnt t ∧ 0 ≤ fst t ∧ fst t ≤ lst t ∧ lst t < BIG) ∧
    (∀ ps : List Sh, nestR ps < n → goodR ps → rising ps → ps ≠ [] → (ps.length : Int) ≤ cntR ps ∧ 0 ≤ fstR ps ∧ fstR ps ≤ lstR ps ∧ lstR ps < BIG) := by
  intro n
  induction n with
  | zero => exact ⟨fun t h => absurd h (Nat.not_lt_zero _), fun ps h => absurd h (Nat.not_lt_zero _)⟩
  | succ n ih =>
    have one : ∀ t : Sh, nest t < n + 1 → good t → 1 ≤ cnt t ∧ 0 ≤ fst t ∧ fst t ≤ lst t ∧ lst t < BIG := by
      intro t ht hg
      cases t with
      | pt m =>
        rw [good] at hg
        rw [cnt, fst, lst]
        exact ⟨Int.le_refl _, hg.1, Int.le_refl _, hg.2⟩
      | ov ps k s =>
        rw [good] at hg
        obtain ⟨h1, h2, h3, h4, h5, h6, h7, h8, h9⟩ := hg
        rw [nest] at ht
        obtain ⟨a1, a2, a3, a4⟩ := ih.2 ps (by omega) h2 h3 h1
        have hl : 0 < ps.length := List.length_pos_iff.mpr h1
        have c1 : 1 ≤ cntR ps := by omega
        rw [cnt, fst, lst]
        have p1 : 2 * 1 ≤ k * cntR ps := Int.mul_le_mul h4 c1 (by omega) (by omega)
        have p2 : 0 ≤ (k - 1) * s := Int.mul_nonneg (by omega) (by omega)
        exact ⟨by omega, a2, by omega, h9⟩
    refine ⟨one, ?_⟩
    intro ps
    induction ps with
    | nil => intro _ _ _ h; exact absurd rfl h
    | cons p r ihr =>
      intro hn hg hr _
      rw [nestR] at hn
      rw [goodR] at hg
      obtain ⟨b1, b2, b3, b4⟩ := one p (by omega) hg.1
      cases r with
      | nil =>
        rw [cntR, cntR, fstR, lstR]
        refine ⟨?_, b2, b3, b4⟩
        show (1 : Int) ≤ _
        omega
      | cons q r =>
        obtain ⟨c1, c2, c3, c4⟩ := ihr (by omega) hg.2 hr.2 (by simp)
        have hlt : lst p < fst q := hr.1
        rw [cntR, fstR, lstR]
        rw [fstR] at c2 c3
        have e : (((p :: q :: r).length : Nat) : Int) = ((q :: r).length : Nat) + 1 := by simp
        exact ⟨by omega, b2, by omega, c4⟩
theorem sh_fact {t : Sh} (h : good t) : 1 ≤ cnt t ∧ 0 ≤ fst t ∧ fst t ≤ lst t ∧ lst t < BIG := (sh_facts (nest t + 1)).1 t (Nat.lt_succ_self _) h
theorem row_fact {ps : List Sh} (h : goodR ps) (r : rising ps) (n : ps ≠ []) : (ps.length : Int) ≤ cntR ps ∧ 0 ≤ fstR ps ∧ fstR ps ≤ lstR ps ∧ lstR ps < BIG :=
  (sh_facts (nestR ps + 1)).2 ps (Nat.lt_succ_self _) h r n
theorem cntR_nonneg : ∀ {ps : List Sh}, goodR ps → 0 ≤ cntR ps
  | [], _ => by rw [cntR]; exact Int.le_refl _
  | p :: r, h => by
    rw [goodR] at h
    have a := (sh_fact h.1).1
    have b := cntR_nonneg h.2
    rw [cntR]
    omega
theorem ov_facts {ps : List Sh} {n s : Int} (h : good (.ov ps n s)) : ps ≠ [] ∧ goodR ps ∧ rising ps ∧ 2 ≤ n ∧ n ≤ 1440 ∧ 1 ≤ s ∧ s < BIG ∧ lstR ps - fstR ps < s ∧ n * cntR ps ≤ 1440 ∧ cntR ps ≤ 1440 ∧ 1 ≤ cntR ps := by
  rw [good] at h
  obtain ⟨h1, h2, h3, h4, h5, h6, h7, h8, h9⟩ := h
  obtain ⟨a1, a2, a3, a4⟩ := row_fact h2 h3 h1
  have hl : 0 < ps.length := List.length_pos_iff.mpr h1
  have c1 : 1 ≤ cntR ps := by omega
  have p1 : n * 1 ≤ n * cntR ps := Int.mul_le_mul_of_nonneg_left c1 (by omega)
  have p2 : 1 * cntR ps ≤ n * cntR ps := Int.mul_le_mul_of_nonneg_right (by omega) (by omega)
  exact ⟨h1, h2, h3, h4, by omega, h5, h6, h7, h8, by omega, c1⟩

/-! ### how many moments, and which -/
theorem times_length (l : List Int) (s : Int) : ∀ k : Nat, (times l s k).length = k * l.length
  | 0 => by rw [times, Nat.zero_mul]; rfl
  | k + 1 => by
    rw [times, List.length_append, times_length l s k, List.length_map, Nat.succ_mul]
theorem moms_len : ∀ n : Nat, (∀ t : Sh, nest t < n → good t → ((moms t).length : Int) = cnt t) ∧ (∀ ps : List Sh, nestR ps < n → goodR ps → ((momsR ps).length : Int) = cntR ps) := by
  intro n
  induction n with
  | zero => exact ⟨fun t h => absurd h (Nat.not_lt_zero _), fun ps h => absurd h (Nat.not_lt_zero _)⟩
  | succ n ih =>
    have one : ∀ t : Sh, nest t < n + 1 → good t → ((moms t).length : Int) = cnt t := by
      intro t ht hg
      cases t with
      | pt m => rw [moms, cnt]; rfl
      | ov ps k s =>
        have o := ov_facts hg
        rw [nest] at ht
        have e := ih.2 ps (by omega) o.2.1
        rw [moms, cnt, times_length, ← e]
        have hk : ((k.toNat : Nat) : Int) = k := by omega
        rw [Int.natCast_mul, hk]
    refine ⟨one, ?_⟩
    intro ps
    induction ps with
    | nil => intro _ _; rw [momsR, cntR]; rfl
    | cons p r ihr =>
      intro hn hg
      rw [nestR] at hn
      rw [goodR] at hg
      rw [momsR, cntR, List.length_append, Int.natCast_add, one p (by omega) hg.1, ihr (by omega) hg.2]
theorem moms_cnt {t : Sh} (h : good t) : ((moms t).length : Int) = cnt t := (moms_len (nest t + 1)).1 t (Nat.lt_succ_self _) h
theorem momsR_cnt {ps : List Sh} (h : goodR ps) : ((momsR ps).length : Int) = cntR ps := (moms_len (nestR ps + 1)).2 ps (Nat.lt_succ_self _) h
theorem cnt_le {t : Sh} (h : good t) : cnt t ≤ 1440 := by
  cases t with
  | pt m => rw [cnt]; omega
  | ov ps n s =>
    have o := ov_facts h
    rw [cnt]
    omega
theorem fstR_cons (p : Sh) (r : List Sh) : fstR (p :: r) = fst p := by rw [fstR]
/-- every moment lies between the first and the last -/
theorem times_mem {l : List Int} {s : Int} {x : Int} : ∀ {k : Nat}, x ∈ times l s k → ∃ m ∈ l, ∃ i : Nat, i < k ∧ x = m + (i : Int) * s
  | 0, h => by rw [times] at h; cases h
  | k + 1, h => by
    rw [times] at h
    rcases List.mem_append.mp h with h | h
    · obtain ⟨m, hm, i, hi, e⟩ := times_mem h
      exact ⟨m, hm, i, by omega, e⟩
    · obtain ⟨m, hm, e⟩ := List.mem_map.mp h
      exact ⟨m, hm, k, Nat.lt_succ_self _, e.symm⟩
theorem moms_in : ∀ n : Nat, (∀ t : Sh, nest t < n → good t → ∀ x ∈ moms t, fst t ≤ x ∧ x ≤ lst t) ∧ (∀ ps : List Sh, nestR ps < n → goodR ps → rising ps → ∀ x ∈ momsR ps, fstR ps ≤ x ∧ x ≤ lstR ps) := by
  intro n
  induction n with
  | zero => exact ⟨fun t h => absurd h (Nat.not_lt_zero _), fun ps h => absurd h (Nat.not_lt_zero _)⟩
  | succ n ih =>
    have one : ∀ t : Sh, nest t < n + 1 → good t → ∀ x ∈ moms t, fst t ≤ x ∧ x ≤ lst t := by
      intro t ht hg x hx
      cases t with
      | pt m =>
        rw [moms] at hx
        rw [fst, lst, List.mem_singleton.mp hx]
        exact ⟨Int.le_refl _, Int.le_refl _⟩
      | ov ps k s =>
        have o := ov_facts hg
        rw [nest] at ht
        rw [moms] at hx
        obtain ⟨m, hm, i, hi, e⟩ := times_mem hx
        have q := ih.2 ps (by omega) o.2.1 o.2.2.1 m hm
        have hi' : (i : Int) ≤ k - 1 := by omega
        have p1 : (i : Int) * s ≤ (k - 1) * s := Int.mul_le_mul_of_nonneg_right hi' (by omega)
        have p2 : 0 ≤ (i : Int) * s := Int.mul_nonneg (by omega) (by omega)
        rw [fst, lst, e]
        omega
    refine ⟨one, ?_⟩
    intro ps
    induction ps with
    | nil => intro _ _ _ x hx; rw [momsR] at hx; cases hx
    | cons p r ihr =>
      intro hn hg hr x hx
      rw [nestR] at hn
      rw [goodR] at hg
      rw [momsR] at hx
      cases r with
      | nil =>
        rw [momsR, List.append_nil] at hx
        rw [fstR, lstR]
        exact one p (by omega) hg.1 x hx
      | cons q r =>
        have hlt : lst p < fst q := hr.1
        have f1 := sh_fact hg.1
        have f2 := row_fact hg.2 hr.2 (by simp)
        rw [fstR] at f2
        rw [fstR, lstR]
        rcases List.mem_append.mp hx with h | h
        · have := one p (by omega) hg.1 x h
          omega
        · have := ihr (by omega) hg.2 hr.2 x h
          rw [fstR] at this
          omega
theorem momsR_in {ps : List Sh} (h : goodR ps) (r : rising ps) : ∀ x ∈ momsR ps, 0 ≤ x ∧ x < BIG := by
  intro x hx
  by_cases hp : ps = []
  · subst hp
    rw [momsR] at hx
    cases hx
  · have a := (moms_in (nestR ps + 1)).2 ps (Nat.lt_succ_self _) h r x hx
    have b := row_fact h r hp
    omega
theorem moms_get0 : ∀ n : Nat, (∀ t : Sh, nest t < n → good t → (moms t)[0]? = some (fst t) ∧ (moms t)[(moms t).length - 1]? = some (lst t)) ∧
    (∀ ps : List Sh, nestR ps < n → goodR ps → ps ≠ [] → (momsR ps)[0]? = some (fstR ps) ∧ (momsR ps)[(momsR ps).length - 1]? = some (lstR ps)) := by
  intro n
  induction n with
  | zero => exact ⟨fun t h => absurd h (Nat.not_lt_zero _), fun ps h => absurd h (Nat.not_lt_zero _)⟩
  | succ n ih =>
    have one : ∀ t : Sh, nest t < n + 1 → good t → (moms t)[0]? = some (fst t) ∧ (moms t)[(moms t).length - 1]? = some (lst t) := by
      intro t ht hg
      cases t with
      | pt m => rw [moms, fst, lst]; exact ⟨rfl, rfl⟩
      | ov ps k s =>
        have o := ov_facts hg
        rw [nest] at ht
        obtain ⟨q1, q2⟩ := ih.2 ps (by omega) o.2.1 o.1
        rw [moms, fst, lst]
        have hpos : 0 < (momsR ps).length := by
          have e := momsR_cnt o.2.1
          have c := o.2.2.2.2.2.2.2.2.2.2
          omega
        have hk : 2 ≤ k.toNat := by omega
        constructor
        · have z : ∀ j : Nat, (times (momsR ps) s (j + 1))[0]? = some (fstR ps) := by
            intro j
            induction j with
            | zero =>
              rw [times, times, List.nil_append, List.getElem?_map, q1]
              show some (fstR ps + ((0 : Nat) : Int) * s) = _
              simp
            | succ j ihj =>
              rw [times, List.getElem?_append_left (by rw [times_length, Nat.succ_mul]; omega)]
              exact ihj
          obtain ⟨j, hj⟩ : ∃ j, k.toNat = j + 1 := ⟨k.toNat - 1, by omega⟩
          rw [hj]
          exact z j
        · obtain ⟨j, hj⟩ : ∃ j, k.toNat = j + 1 := ⟨k.toNat - 1, by omega⟩
          rw [hj, times, List.length_append, List.length_map, List.getElem?_append_right (by omega)]
          have e : (times (momsR ps) s j).length + (momsR ps).length - 1 - (times (momsR ps) s j).length = (momsR ps).length - 1 := by omega
          rw [e, List.getElem?_map, q2]
          have ej : (j : Int) = k - 1 := by omega
          show some (lstR ps + (j : Int) * s) = _
          rw [ej]
    refine ⟨one, ?_⟩
    intro ps
    induction ps with
    | nil => intro _ _ h; exact absurd rfl h
    | cons p r ihr =>
      intro hn hg _
      rw [nestR] at hn
      rw [goodR] at hg
      obtain ⟨a1, a2⟩ := one p (by omega) hg.1
      have c := sh_fact hg.1
      have l := moms_cnt hg.1
      cases r with
      | nil =>
        rw [momsR, momsR, List.append_nil, fstR, lstR]
        exact ⟨a1, a2⟩
      | cons q r =>
        obtain ⟨b1, b2⟩ := ihr (by omega) hg.2 (by simp)
        have hl2 : 0 < (momsR (q :: r)).length := by
          cases e : momsR (q :: r) with
          | nil => rw [e] at b1; cases b1
          | cons x y => exact Nat.succ_pos _
        rw [momsR, fstR, lstR]
        refine ⟨?_, ?_⟩
        · rw [List.getElem?_append_left (by omega)]
          exact a1
        · rw [List.length_append, List.getElem?_append_right (by omega)]
          have e : (moms p).length + (momsR (q :: r)).length - 1 - (moms p).length = (momsR (q :: r)).length - 1 := by omega
          rw [e]
          exact b2
theorem moms_ends {t : Sh} (h : good t) : (moms t)[0]? = some (fst t) ∧ (moms t)[(moms t).length - 1]? = some (lst t) := (moms_get0 (nest t + 1)).1 t (Nat.lt_succ_self _) h
theorem momsR_ends {ps : List Sh} (h : goodR ps) (n : ps ≠ []) : (momsR ps)[0]? = some (fstR ps) ∧ (momsR ps)[(momsR ps).length - 1]? = some (lstR ps) := (moms_get0 (nestR ps + 1)).2 ps (Nat.lt_succ_self _) h n
end K24

set_option Elab.async false
set_option linter.all false
/-! K2: sizes and signs of the texts, the tokens of a text, the run over the tokens. -/
namespace K24
open PySem TL SX

/-! ### signs and sizes -/
theorem big_nat {m : Int} (h : m < BIG) : m.toNat < 10 ^ 90 := by
  have e : ((10 ^ 90 : Nat) : Int) = BIG := by decide +kernel
  omega
theorem num_len {m : Int} (h : m < BIG) : (numL m.toNat).length ≤ 90 := numL_len (by decide) (big_nat h)
theorem two_len (n : Nat) : (two n).length = 2 := rfl
theorem show_len {m : Int} (h : m < BIG) : (show_ m.toNat).length ≤ 97 := by
  have h0 := big_nat h
  have a : (numL (m.toNat / 1440)).length ≤ 90 := numL_len (by decide) (Nat.lt_of_le_of_lt (Nat.div_le_self _ _) h0)
  have b : (numL (m.toNat % 1440 / 60)).length ≤ 2 := numL_len (by decide) (by
    have : m.toNat % 1440 < 1440 := Nat.mod_lt _ (by decide)
    omega)
  unfold show_
  rw [List.length_append, List.length_append, List.length_append, two_len]
  split
  · simp only [List.length_nil, List.length_cons]
    omega
  · simp only [List.length_append, List.length_nil, List.length_cons]
    omega
theorem txt_len : ∀ n : Nat, (∀ t : Sh, nest t < n → good t → (word t).length + 2 ≤ 200 * pcs t) ∧ (∀ ps : List Sh, nestR ps < n → goodR ps → (textR ps).length ≤ 200 * pcsR ps) := by
  intro n
  induction n with
  | zero => exact ⟨fun t h => absurd h (Nat.not_lt_zero _), fun ps h => absurd h (Nat.not_lt_zero _)⟩
  | succ n ih =>
    have one : ∀ t : Sh, nest t < n + 1 → good t → (word t).length + 2 ≤ 200 * pcs t := by
      intro t ht hg
      cases t with
      | pt m =>
        rw [good] at hg
        have := show_len hg.2
        rw [word, pcs]
        omega
      | ov ps k s =>
        have o := ov_facts hg
        rw [nest] at ht
        have e := ih.2 ps (by omega) o.2.1
        have a : (numL k.toNat).length ≤ 4 := numL_len (by decide) (by omega)
        have b := num_len o.2.2.2.2.2.2.1
        rw [word, pcs]
        simp only [List.length_append, List.length_nil, List.length_cons]
        omega
    refine ⟨one, ?_⟩
    intro ps
    induction ps with
    | nil => intro _ _; rw [textR]; exact Nat.zero_le _
    | cons p r ihr =>
      intro hn hg
      rw [nestR] at hn
      rw [goodR] at hg
      have a := one p (by omega) hg.1
      cases r with
      | nil =>
        rw [textR, pcsR, pcsR]
        omega
      | cons q r =>
        have b := ihr (by omega) hg.2
        rw [textR, pcsR]
        simp only [List.length_append, List.length_nil, List.length_cons]
        omega
theorem word_len {t : Sh} (h : good t) : (word t).length + 2 ≤ 200 * pcs t := (txt_len (nest t + 1)).1 t (Nat.lt_succ_self _) h
theorem textR_len {ps : List Sh} (h : goodR ps) : (textR ps).length ≤ 200 * pcsR ps := (txt_len (nestR ps + 1)).2 ps (Nat.lt_succ_self _) h
theorem rowTxt_len {ps : List Sh} (h : goodR ps) : (rowTxt ps).length ≤ 200 * pcsR ps + 1 := by
  unfold rowTxt
  split
  · exact Nat.succ_le_succ (Nat.zero_le _)
  · exact Nat.le_succ_of_le (textR_len h)
theorem pcs_mem : ∀ {ps : List Sh} {p : Sh}, p ∈ ps → pcs p ≤ pcsR ps
  | q :: r, p, h => by
    rw [pcsR]
    rcases List.mem_cons.mp h with e | e
    · rw [e]; omega
    · have := pcs_mem e
      omega
theorem pcs_pos (t : Sh) : 1 ≤ pcs t := by
  cases t with
  | pt m => rw [pcs]; exact Nat.le_refl _
  | ov ps n s => rw [pcs]; exact Nat.succ_le_succ (Nat.zero_le _)
theorem pcsR_len : ∀ ps : List Sh, ps.length ≤ pcsR ps
  | [] => Nat.zero_le _
  | p :: r => by
    have a := pcs_pos p
    have b := pcsR_len r
    rw [pcsR, List.length_cons]
    omega

theorem two_digits (n : Nat) (h : n < 100) : NumText.AllDigits (two n) := by
  intro c hc
  unfold two at hc
  rcases List.mem_cons.mp hc with e | e
  · omega
  · rw [List.mem_singleton.mp e]
    omega
theorem show_mem {m c : Nat} (h : c ∈ show_ m) : (48 ≤ c ∧ c ≤ 57) ∨ c = 32 ∨ c = 58 := by
  unfold show_ at h
  rcases List.mem_append.mp h with h | h
  · split at h
    · cases h
    · rcases List.mem_append.mp h with h | h
      · exact .inl (numL_digits _ c h)
      · exact .inr (.inl (List.mem_singleton.mp h))
  · rcases List.mem_append.mp h with h | h
    · exact .inl (numL_digits _ c h)
    · rcases List.mem_append.mp h with h | h
      · exact .inr (.inr (List.mem_singleton.mp h))
      · exact .inl (two_digits _ (by have : m % 60 < 60 := Nat.mod_lt _ (by decide); omega) c h)
theorem numL_head (n : Nat) : ∃ c r, numL n = c :: r ∧ 48 ≤ c ∧ c ≤ 57 := by
  cases e : numL n with
  | nil => exact absurd e (numL_ne n)
  | cons c r =>
    have := numL_digits n c (by rw [e]; exact List.mem_cons_self)
    exact ⟨c, r, rfl, this.1, this.2⟩
theorem show_head (m : Nat) : ∃ c r, show_ m = c :: r ∧ 48 ≤ c ∧ c ≤ 57 := by
  unfold show_
  split
  · obtain ⟨c, r, e, h⟩ := numL_head (m % 1440 / 60)
    rw [e]
    exact ⟨c, _, rfl, h⟩
  · obtain ⟨c, r, e, h⟩ := numL_head (m / 1440)
    rw [e]
    exact ⟨c, _, rfl, h⟩

/-! ### tokens -/
inductive Tok where
  | sep (c : Nat)
  | opn
  | pnt (m : Int)
  | cls (ps : List Sh) (n s : Int)
/-- what is written behind the closing bracket -/
def tail_ (n s : Int) : List Nat := [32, 120] ++ (numL n.toNat ++ ([32, 43] ++ numL s.toNat))
def chars : Tok → List Nat
  | .sep c => [c]
  | .opn => [40]
  | .pnt m => show_ m.toNat
  | .cls _ n s => 41 :: tail_ n s
def isItem : Tok → Prop
  | .pnt _ => True
  | .cls _ _ _ => True
  | _ => False
/-- a comma or a bracket -/
def stop (c : Nat) : Prop := c = 44 ∨ c = 40 ∨ c = 41
def flat (ts : List Tok) : List Nat := ts.flatMap chars
theorem flat_nil : flat [] = [] := rfl
theorem flat_cons (t : Tok) (ts : List Tok) : flat (t :: ts) = chars t ++ flat ts := by simp [flat]
theorem flat_append (as bs : List Tok) : flat (as ++ bs) = flat as ++ flat bs := by simp [flat]
/-- what comes next is the end or begins with a stop -/
def Stops (l : List Nat) : Prop := l = [] ∨ ∃ c r, l = c :: r ∧ stop c
mutual
def toks : Sh → List Tok
  | .pt m => [.pnt m]
  | .ov ps n s => .opn :: (toksR ps ++ [.cls ps n s])
def toksR : List Sh → List Tok
  | [] => []
  | [p] => toks p
  | p :: q :: r => toks p ++ (.sep 44 :: .sep 32 :: toksR (q :: r))
end
theorem flat_toks : ∀ n : Nat, (∀ t : Sh, nest t < n → flat (toks t) = word t) ∧ (∀ ps : List Sh, nestR ps < n → flat (toksR ps) = textR ps) := by
  intro n
  induction n with
  | zero => exact ⟨fun t h => absurd h (Nat.not_lt_zero _), fun ps h => absurd h (Nat.not_lt_zero _)⟩
  | succ n ih =>
    have one : ∀ t : Sh, nest t < n + 1 → flat (toks t) = word t := by
      intro t ht
      cases t with
      | pt m =>
        rw [toks, word, flat_cons, flat_nil, List.append_nil]
        rfl
      | ov ps k s =>
        rw [nest] at ht
        rw [toks, word, flat_cons, flat_append, flat_cons, flat_nil, List.append_nil, ih.2 ps (by omega)]
        rfl
    refine ⟨one, ?_⟩
    intro ps
    induction ps with
    | nil => intro _; rw [toksR, textR, flat_nil]
    | cons p r ihr =>
      intro hn
      rw [nestR] at hn
      have a := one p (by omega)
      cases r with
      | nil =>
        rw [toksR, textR, a]
      | cons q r =>
        rw [toksR, textR, flat_append, flat_cons, flat_cons, a, ihr (by omega)]
        rfl
theorem flat_row (ps : List Sh) : flat (toksR ps) = textR ps := (flat_toks (nestR ps + 1)).2 ps (Nat.lt_succ_self _)

/-! ### the run -/
/-- the open rows, the innermost first, behind a token -/
def stp : Tok → List (List Sh) → List (List Sh)
  | .sep _, st => st
  | .opn, st => [] :: st
  | .pnt m, x :: st => (x ++ [.pt m]) :: st
  | .cls ps n s, _ :: y :: st => (y ++ [.ov ps n s]) :: st
  | _, st => st
/-- what the reading asks of a token -/
def Legal : Tok → List (List Sh) → Prop
  | .sep c, _ => c = 44 ∨ c = 32
  | .opn, st => st.length ≤ 8
  | .pnt m, st => (∃ x r, st = x :: r ∧ x.length ≤ 60) ∧ 0 ≤ m ∧ m < BIG
  | .cls ps n s, st => (∃ y r, st = ps :: y :: r ∧ y.length ≤ 60) ∧ good (.ov ps n s) ∧ nestR ps < 8 ∧ pcsR ps ≤ 40
inductive Run : List Tok → List (List Sh) → List (List Sh) → Prop where
  | nil {st : List (List Sh)} : Run [] st st
  | cons {t : Tok} {ts : List Tok} {st st' : List (List Sh)} (l : Legal t st) (e : isItem t → Stops (flat ts)) (r : Run ts (stp t st) st') : Run (t :: ts) st st'
theorem Run.append {as bs : List Tok} {st st' st'' : List (List Sh)} (a : Run as st st') (b : Run bs st' st'') (h : Stops (flat bs)) : Run (as ++ bs) st st'' := by
  induction a with
  | nil => exact b
  | @cons t ts st st' l e r ih =>
    refine .cons l (fun i => ?_) (ih b)
    show Stops (flat (ts ++ bs))
    rw [flat_append]
    rcases e i with z | ⟨c, q, z, hs⟩
    · rw [z]
      exact h
    · rw [z]
      exact .inr ⟨c, _, rfl, hs⟩
theorem Stops.nil : Stops [] := .inl rfl
theorem Stops.cons {c : Nat} {r : List Nat} (h : stop c) : Stops (c :: r) := .inr ⟨c, r, rfl, h⟩
theorem run_toks : ∀ n : Nat, (∀ (t : Sh) (x : List Sh) (st : List (List Sh)), nest t < n → good t → pcs t ≤ 40 → st.length + nest t ≤ 8 → x.length < 60 → Run (toks t) (x :: st) ((x ++ [t]) :: st)) ∧
    (∀ (ps x : List Sh) (st : List (List Sh)), nestR ps < n → goodR ps → pcsR ps ≤ 40 → st.length + nestR ps ≤ 8 → x.length + ps.length ≤ 60 → Run (toksR ps) (x :: st) ((x ++ ps) :: st)) := by
  intro n
  induction n with
  | zero => exact ⟨fun t _ _ h => absurd h (Nat.not_lt_zero _), fun ps _ _ h => absurd h (Nat.not_lt_zero _)⟩
  | succ n ih =>
    have one : ∀ (t : Sh) (x : List Sh) (st : List (List Sh)), nest t < n + 1 → good t → pcs t ≤ 40 → st.length + nest t ≤ 8 → x.length < 60 → Run (toks t) (x :: st) ((x ++ [t]) :: st) := by
      intro t x st ht hg hp hs hx
      cases t with
      | pt m =>
        rw [good] at hg
        rw [toks]
        exact .cons ⟨⟨x, st, rfl, by omega⟩, hg⟩ (fun _ => Stops.nil) .nil
      | ov ps k s =>
        have o := ov_facts hg
        rw [nest] at ht hs
        rw [pcs] at hp
        have inner := ih.2 ps [] (x :: st) (by omega) o.2.1 (by omega) (by rw [List.length_cons]; omega) (by have := pcsR_len ps; simp only [List.length_nil]; omega)
        rw [List.nil_append] at inner
        rw [toks]
        refine .cons (show (x :: st).length ≤ 8 by rw [List.length_cons]; omega) (fun z => z.elim) ?_
        refine Run.append inner (.cons ⟨⟨x, st, rfl, by omega⟩, hg, by omega, by omega⟩ (fun _ => Stops.nil) .nil) ?_
        rw [flat_cons]
        exact Stops.cons (.inr (.inr rfl))
    refine ⟨one, ?_⟩
    intro ps
    induction ps with
    | nil =>
      intro x st _ _ _ _ _
      rw [toksR, List.append_nil]
      exact .nil
    | cons p r ihr =>
      intro x st hn hg hp hs hx
      rw [List.length_cons] at hx
      rw [nestR] at hn hs
      rw [goodR] at hg
      rw [pcsR] at hp
      cases r with
      | nil =>
        rw [toksR]
        exact one p x st (by omega) hg.1 (by omega) (by omega) (by omega)
      | cons q r =>
        have b := ihr (x ++ [p]) st (by omega) hg.2 (by omega) (by omega) (by rw [List.length_append, List.length_singleton]; omega)
        rw [List.append_assoc] at b
        rw [toksR]
        refine Run.append (one p x st (by omega) hg.1 (by omega) (by omega) (by omega)) (.cons (.inl rfl) (fun z => z.elim) (.cons (.inr rfl) (fun z => z.elim) b)) ?_
        rw [flat_cons]
        exact Stops.cons (.inl rfl)
theorem run_row {ps : List Sh} (h : goodR ps) (hp : pcsR ps ≤ 40) (hn : nestR ps ≤ 8) : Run (toksR ps) [[]] [ps] := by
  have q := (run_toks (nestR ps + 1)).2 ps [] [] (Nat.lt_succ_self _) h hp (by rw [List.length_nil]; omega) (by have := pcsR_len ps; simp only [List.length_nil]; omega)
  rw [List.nil_append] at q
  exact q
theorem chars_ne {t : Tok} : chars t ≠ [] := by
  cases t with
  | sep c => simp [chars]
  | opn => simp [chars]
  | pnt m =>
    obtain ⟨c, r, e, _⟩ := show_head m.toNat
    show show_ m.toNat ≠ []
    rw [e]
    simp
  | cls ps n s => simp [chars]

/-! ### numbers and moments, read back -/
theorem digits_all {l : List Nat} (h : NumText.AllDigits l) : l.all (fun c => decide (48 ≤ c) && decide (c ≤ 57)) = true := by
  rw [List.all_eq_true]
  intro c hc
  have := h c hc
  simp [this.1, this.2]
theorem int_back (n : Nat) (h : (numL n).length ≤ 4300) : intText? (S (numL n)) = some (n : Int) := by
  rw [← num_S]
  exact int_num h
theorem two_val (n : Nat) (h : n < 100) : intText? (S (two n)) = some (n : Int) := by
  have e := int_S (digits_all (two_digits n h)) (by simp [two]) (by rw [two_len]; decide)
  rw [e]
  have v : NumText.digitsVal (two n) = n := by
    unfold NumText.digitsVal two
    simp only [List.foldl_cons, List.foldl_nil]
    omega
  rw [v]
/-- the text is cut at its last separator of one sign -/
theorem rpart_at {p q : List Nat} {c : Nat} (h : c ∉ q) : Txt.rpartition (S (p ++ ([c] ++ q))) (S [c]) = (S p, S [c], S q) := by
  have hy : tl (S [c]) ≠ [] := by simp
  have hit : StrLaws.At (S (p ++ ([c] ++ q))) (S [c]) (S (p ++ ([c] ++ q))).length p.length := (at_iff hy p.length).mpr (by
    show pre [c] ((p ++ ([c] ++ q)).drop p.length) = true
    rw [List.drop_left]
    exact pre_self [c] q)
  have miss : ∀ k, p.length < k → ¬ StrLaws.At (S (p ++ ([c] ++ q))) (S [c]) (S (p ++ ([c] ++ q))).length k := fun k hk ha => by
    have e : pre [c] ((p ++ ([c] ++ q)).drop k) = true := (at_iff hy k).mp ha
    have e2 : (p ++ ([c] ++ q)).drop k = q.drop (k - p.length - 1) := by
      rw [List.drop_append, List.drop_of_length_le (by omega), List.nil_append]
      have : k - p.length = (k - p.length - 1) + 1 := by omega
      rw [this]
      rfl
    rw [e2] at e
    cases ed : q.drop (k - p.length - 1) with
    | nil => rw [ed] at e; cases e
    | cons d r =>
      rw [ed] at e
      have hd : d ∈ q := List.mem_of_mem_drop (by rw [ed]; exact List.mem_cons_self)
      have : d ≠ c := fun z => h (z ▸ hd)
      rw [pre_of_head [] r this] at e
      cases e
  have lens : (S (p ++ ([c] ++ q))).length = (p ++ ([c] ++ q)).length := S_len _
  unfold Txt.rpartition
  rcases StrLaws.last_spec (S (p ++ ([c] ++ q))) (S [c]) with ⟨_, hn⟩ | ⟨i, e, hi, hmax⟩
  · exact absurd hit (hn _)
  · have ei : i = p.length := by
      rcases Nat.lt_trichotomy i p.length with z | z | z
      · exact absurd hit (hmax _ z)
      · exact z
      · exact absurd hi (miss _ z)
    rw [e, ei]
    have a1 : Builtin.Str.strSub (S (p ++ ([c] ++ q))) 0 p.length = S p := ext_tl (by
      rw [tl_strSub]
      show ((p ++ ([c] ++ q)).drop 0).take (p.length - 0) = p
      rw [List.drop_zero, Nat.sub_zero, List.take_left])
    have a2 : Builtin.Str.strSub (S (p ++ ([c] ++ q))) (p.length + (S [c]).length) (S (p ++ ([c] ++ q))).length = S q := ext_tl (by
      rw [tl_strSub_end]
      show (p ++ ([c] ++ q)).drop (p.length + (S [c]).length) = q
      rw [S_len, List.drop_append]
      simp)
    show (Builtin.Str.strSub (S (p ++ ([c] ++ q))) 0 p.length, S [c], Builtin.Str.strSub (S (p ++ ([c] ++ q))) (p.length + (S [c]).length) (S (p ++ ([c] ++ q))).length) = _
    rw [a1, a2]
theorem rpart_none {q : List Nat} {c : Nat} (h : c ∉ q) : Txt.rpartition (S q) (S [c]) = (Str.empty, Str.empty, S q) := by
  have hy : tl (S [c]) ≠ [] := by simp
  unfold Txt.rpartition
  rcases StrLaws.last_spec (S q) (S [c]) with ⟨e, _⟩ | ⟨i, e, hi, _⟩
  · rw [e]
  · exfalso
    have e : pre [c] (q.drop i) = true := (at_iff hy i).mp hi
    cases ed : q.drop i with
    | nil => rw [ed] at e; cases e
    | cons d r =>
      rw [ed] at e
      have hd : d ∈ q := List.mem_of_mem_drop (by rw [ed]; exact List.mem_cons_self)
      have : d ≠ c := fun z => h (z ▸ hd)
      rw [pre_of_head [] r this] at e
      cases e
theorem part_at {p q : List Nat} {c : Nat} (h : c ∉ p) : Txt.partition (S (p ++ ([c] ++ q))) (S [c]) = (S p, S [c], S q) :=
  partition_some (by simp) (par_head q h)
/-- the words behind a closing bracket -/
theorem tail_split (n s : Int) : Txt.split (S (tail_ n s)) (S [32]) = [S [], S (120 :: numL n.toNat), S (43 :: numL s.toNat)] := by
  rw [split_S (by simp) (by decide)]
  have e : tail_ n s = joinL [32] [[], 120 :: numL n.toNat, 43 :: numL s.toNat] := by
    show [32, 120] ++ (numL n.toNat ++ ([32, 43] ++ numL s.toNat)) = [] ++ ([32] ++ ((120 :: numL n.toNat) ++ ([32] ++ (43 :: numL s.toNat))))
    simp
  rw [e, SX.spl_join (by simp)]
  · rfl
  · intro p hp
    have hf : ∀ k, (32 : Nat) ∉ numL k := fun k => numL_free (.inl (by decide))
    rcases List.mem_cons.mp hp with e | hp
    · rw [e]; simp
    · rcases List.mem_cons.mp hp with e | hp
      · rw [e]
        intro z
        rcases List.mem_cons.mp z with z | z
        · cases z
        · exact hf _ z
      · rw [List.mem_singleton.mp hp]
        intro z
        rcases List.mem_cons.mp z with z | z
        · cases z
        · exact hf _ z
theorem zfill_two (n : Nat) (h : n < 60) : Txt.zfill (S (numL n)) 2 = S (two n) := by
  have key : ∀ k : Fin 60, Txt.zfill (S (numL k.val)) 2 = S (two k.val) := by decide +kernel
  exact key ⟨n, h⟩
end K24

set_option Elab.async false
set_option linter.all false
set_option maxRecDepth 100000
set_option maxHeartbeats 2000000
/-! K3: rules that the layer lacks: one of two readings, str and repr of own instances, repr of a list of numbers, zip of a list and a tuple, rpartition. -/
namespace K24
open PySem PySem.Spec PyProof.Rows L2

section
variable {X : Cx}
theorem pe_either {e : Expr} {t1 t2 : TE} (h1 : PE X e t1) (h2 : PE X e t2) : PE X e (fun a b c => t1 a b c ∨ t2 a b c) :=
  ⟨fun pins s a b c I h => h.elim (h1.run pins s a b c I) (h2.run pins s a b c I)⟩
theorem pe_weak {e : Expr} {t1 t2 : TE} (h1 : PE X e t1) (h : ∀ a b c, t2 a b c → t1 a b c) : PE X e t2 :=
  ⟨fun pins s a b c I q => h1.run pins s a b c I (h a b c q)⟩

/-! ### a def run somewhere below the body -/
theorem run_below {A : Around} {k : Nat} {f : Addr} {fd : FuncData} {ps : List Str} {sp : Sp} {pins : List (Addr × Obj)} {σ : L2.St} {H : Hp} {s : Shared} {Q : VK} {us : List Value} {vs : List V}
    (F : FnOk X.prog X.w X.K X.mg X.base L2.CX0 k f fd ps sp) (hr : Room k A) (hfr : A.frames = X.A.frames) (hb : Binds X.K fd ps []) (I : Inv X pins σ H s) (r : Vals vs us) (h : sp vs H Q L2.E0) :
    wpAny (model X.prog X.w) A (call (.ref f) us) (EP X pins σ Q) X.xe s := by
  have e1 := I.env0
  have e0 : Env0 X.prog X.w X.K X.mg X.base A X.stack s H := ⟨hfr.trans e1.frames, e1.mod, e1.bs, e1.bsz, e1.funs, e1.frf, e1.hok, e1.bare⟩
  have hl : (us ++ []).length = ps.length := by
    rw [List.append_nil, ← r.length]
    exact F.len _ _ _ _ h
  have bt := hb s us I.kIn hl
  rw [List.append_nil] at bt
  refine wpAny_call (codeAny_mono (F.run A X.stack s H ⟨us, []⟩ us vs Q L2.E0 hr e0 bt r h) fun r2 s2 hq => ?_)
  cases r2 with
  | error e => exact False.elim hq
  | ok fl =>
    cases fl with
    | ret u => exact I.after hq
    | next => exact False.elim hq
    | brk => exact False.elim hq
    | cont => exact False.elim hq
/-- what a __str__ or a __repr__ promises: a text -/
abbrev Gives (sp : Sp) (a : Addr) (H : Hp) (Q : VK) : Prop := sp [.ref a] H (fun v H1 => (∃ y, v = .str y) ∧ Q v H1) L2.E0
theorem back_of {pins : List (Addr × Obj)} {σ : L2.St} {Q : VK} {u : Value} {s : Shared} (h : EP X pins σ (fun v H1 => (∃ y, v = .str y) ∧ Q v H1) u s) : PySem.W.StrBack (EP X pins σ Q) u s := by
  obtain ⟨v, H1, I1, r, ⟨y, rfl⟩, q⟩ := h
  obtain ⟨t, rfl⟩ := r
  exact ⟨.str y, H1, I1, ⟨t, rfl⟩, q⟩
/-- str(o), o an instance of the class at C with its own __str__ -/
theorem call_strOwn {k : Nat} {C f : Addr} {fd : FuncData} {ps : List Str} {sp : Sp} (F : FnOk X.prog X.w X.K X.mg X.base L2.CX0 k f fd ps sp) (hr : Room (k + 1) X.A)
    (hs : PySem.W.findIn X.K (.ref C) "__str__" = some (some (.ref f))) (hf : PySem.W.isFn X.K (.ref f) = true) (hb : Binds X.K fd ps []) :
    CallR X (.type "str") (fun xs H Q => ∃ a dx fs, xs = [.ref a] ∧ H a = some (.ins C dx fs) ∧ Gives sp a H Q) := by
  intro pins s σ H xs us Q I r h
  obtain ⟨a, dx, fs, rfl, ha, h⟩ := h
  obtain ⟨mA, J, _⟩ := ins_get I.hok ha
  obtain ⟨od, J, _⟩ := J.look
  have eu := r.ref1
  subst eu
  have ru : Room k X.A.in1.in1 := ⟨hr.hd, by have := hr.dp; show X.A.depth + 3 * k + 5 < _; omega, by have := hr.un; show X.A.units + 1 + 1 + 16 * k + 200 < _; omega⟩
  exact PySem.W.kso_call ru.units0 I.kIn J hs hf (wpAny_mono (run_below F ru rfl hb I r h) (fun _ _ z => back_of z) fun _ _ z => z)
theorem call_reprOwn {k : Nat} {C f : Addr} {fd : FuncData} {ps : List Str} {sp : Sp} (F : FnOk X.prog X.w X.K X.mg X.base L2.CX0 k f fd ps sp) (hr : Room (k + 1) X.A)
    (hs : PySem.W.findIn X.K (.ref C) "__repr__" = some (some (.ref f))) (hf : PySem.W.isFn X.K (.ref f) = true) (hb : Binds X.K fd ps []) :
    CallR X (.builtin "repr") (fun xs H Q => ∃ a dx fs, xs = [.ref a] ∧ H a = some (.ins C dx fs) ∧ Gives sp a H Q) := by
  intro pins s σ H xs us Q I r h
  obtain ⟨a, dx, fs, rfl, ha, h⟩ := h
  obtain ⟨mA, J, _⟩ := ins_get I.hok ha
  obtain ⟨od, J, _⟩ := J.look
  obtain ⟨m, hF⟩ := I.fr
  have eu := r.ref1
  subst eu
  have ru : Room k X.A.in1 := hr.in1
  exact PySem.W.repr_K ru.units0 hF I.ok.mod.kin J hs hf (wpAny_mono (run_below F ru rfl hb I r h) (fun _ _ z => back_of z) fun _ _ z => z)
/-- repr of a text -/
theorem call_reprStr : CallR X (.builtin "repr") (fun xs H Q => ∃ y : Str, xs = [.str y] ∧ (reprText y).length ≤ sizeLine ∧ Q (.str (reprText y)) H) := by
  intro pins s σ H xs us Q I r h
  obtain ⟨y, rfl, hz, q⟩ := h
  obtain ⟨u, rfl, t, rfl⟩ := vals1 r
  exact PySem.P.repr_of_str ⟨.str _, H, I.tok _, ⟨_, rfl⟩, q⟩ hz

/-! ### repr of a list of numbers -/
theorem dpAll_ints {K : PySem.W.Frag} {H : Hp} : ∀ ns : List Int, DpAll K H (ns.map V.int) (ns.map PyData.int)
  | [] => .nil
  | n :: r => .cons (.int n) (dpAll_ints r)
def shownInts (ns : List Int) : Str := (PyData.list (ns.map PyData.int)).shown
theorem call_reprInts {k : Nat} (hr : Room k X.A) (hg : X.A.guards = some []) : CallR X (.builtin "repr") (fun xs H Q => ∃ (a : Addr) (ns : List Int), xs = [.ref a] ∧ SqL X.K H a (ns.map V.int) ∧
    (PyData.list (ns.map PyData.int)).showable = true ∧ (shownInts ns).length ≤ sizeLine ∧ Q (.str (shownInts ns)) H) := by
  intro pins s σ H xs us Q I r h
  obtain ⟨a, ns, rfl, hq, hs, hz, q⟩ := h
  have eu := r.ref1
  subst eu
  obtain ⟨as, rd⟩ := Dp.reads I _ _ _ (.lst hq (dpAll_ints ns)) (show RelV (.ref a) (.ref a) from rfl)
  have hd : (PyData.list (ns.map PyData.int)).depth ≤ 1 := by
    have z : ∀ l : List Int, PyData.depthAll (l.map PyData.int) = 0 := by
      intro l
      induction l with
      | nil => simp [PyData.depthAll]
      | cons x l ih => simp [PyData.depthAll, PyData.depth, ih]
    simp [PyData.depth, z]
  have hsm : (PyData.list (ns.map PyData.int)).hasDict = true → sysModules ∉ as := by
    have z : ∀ l : List Int, PyData.hasDictAll (l.map PyData.int) = false := by
      intro l
      induction l with
      | nil => simp [PyData.hasDictAll]
      | cons x l ih => simp [PyData.hasDictAll, PyData.hasDict, ih]
    intro e
    simp [PyData.hasDict, z] at e
  exact repr_of_reads' rd hs hsm hg (by have := hr.units; omega) (fun _ _ e => e) (fun h' u tk hk => ⟨.str (shownInts ns), H, I.kept hk, ⟨u, rfl⟩, q⟩) hz

/-! ### rpartition -/
theorem mt_rpart : MtR X "str.rpartition" (fun x xs H Q => ∃ a b, x = .str a ∧ xs = [.str b] ∧ (b.length == 0) = false ∧ a.length ≤ sizeLine ∧
    ∀ p, H p = none → Q (.ref p) (upd H p (.tup [.str (Txt.rpartition a b).1, .str (Txt.rpartition a b).2.1, .str (Txt.rpartition a b).2.2]))) := by
  intro pins s σ H x xs v us Q I rx rs h
  obtain ⟨a, b, rfl, rfl, hb, hz, h⟩ := h
  obtain ⟨t, rfl⟩ := rx
  obtain ⟨u, rfl, t2, rfl⟩ := rs.one
  refine call_meets PySem.F.slot_str_rpartition (typeIs_str _ _ _) PySem.F.entry_str_rpartition (PySem.F.args_str_rpartition_2 _ _) (meets_str_rpartition a b t t2 hb hz) ?_
  rw [show Txt.rpartition a b = (match Builtin.Str.lastOccurrence a b 0 a.length with
    | some i => (Builtin.Str.strSub a 0 i, b, Builtin.Str.strSub a (i + b.length) a.length)
    | none => (Str.empty, Str.empty, a)) from rfl] at h
  cases hl : Builtin.Str.lastOccurrence a b 0 a.length with
  | none => rw [hl] at h; exact laid_parts I h
  | some i => rw [hl] at h; exact laid_parts I h
end

/-! ### zip of a list and a tuple -/
def ItzM (K : PySem.W.Frag) (a b : Addr) : It where
  go := fun i H => ∃ (xs ys : List V) (x y : V), SqL K H a xs ∧ SqT K H b ys ∧ xs[i]? = some x ∧ ys[i]? = some y
  yld := fun i H v H2 => ∃ T x y, v = .ref T ∧ H T = none ∧ H2 = upd H T (.tup [x, y]) ∧ (∀ xs, SqL K H a xs → xs[i]? = some x) ∧ ∀ ys, SqT K H b ys → ys[i]? = some y
  stop := fun i H => ∃ xs ys : List V, SqL K H a xs ∧ SqT K H b ys ∧ i ≤ xs.length ∧ i ≤ ys.length ∧ (xs.length = i ∨ ys.length = i)
/-- the cells of such a zip, made at the heap's end n -/
theorem zm_sep (n a b : Nat) (la : a < n) (lb : b < n) : ZipSep2 (n + 4) (n + 2) (n + 3) n (n + 1) [n, a] [n + 1, b] := by
  have D := PySem.W.ktu_apart n a b la lb
  have no : ∀ {x y z : Addr}, x ≠ y → x ≠ z → x ∉ [y, z] := fun h1 h2 m => by
    rcases List.mem_cons.mp m with e | m
    · exact h1 e
    · exact h2 (List.mem_singleton.mp m)
  exact ⟨D.TIz, D.TOz, D.TITO, D.TIi1, List.mem_cons_self, no D.i1z.symm D.l1z.symm, no D.TOi1 D.l1TO.symm, D.TIi2, List.mem_cons_self, no D.i2z.symm D.l2z.symm, no D.TOi2 D.l2TO.symm, no D.i12 D.l2i1.symm, no D.i12.symm D.l1i2.symm⟩
theorem lt_cells (n c z : Nat) (h : n + 4 < z) (hc : c = n + 4 ∨ c = n + 2 ∨ c = n + 3 ∨ c = n ∨ c = n + 1) : c < z := by omega
theorem fits_n (n i z : Nat) (h : n = i) (e : n = z) : i ≤ z := by omega
def zcells (n : Addr) : List Addr := [n + 4, n + 2, n + 3, n, n + 1]
theorem zcell {n c : Addr} (h : c ∈ zcells n) : c = n + 4 ∨ c = n + 2 ∨ c = n + 3 ∨ c = n ∨ c = n + 1 := by
  simpa [zcells] using h
theorem turn_mixed {P : Program} {w : World} {K : PySem.W.Frag} {elts : List Expr} {kk : Nat} {tpos : Pos} {n a b : Addr} (la : a < n) (lb : b < n) :
    Turn P w K (.Tuple elts kk tpos) (ItzM K a b) (zcells n) (n + 4)
      (fun i h => n + 4 < h.objs.size ∧ IsZip h (n + 4) (n + 2) (n + 3) .none ∧ IsTupOf2 h (n + 2) (.ref n) (.ref (n + 1)) ∧ (∃ x y, IsTupOf2 h (n + 3) x y) ∧ h.IsListIter n a i ∧ h.IsTupleIter (n + 1) b i) where
  mem := by simp [zcells]
  obj := fun i h st c hc => by
    obtain ⟨_, hz, hTI, ⟨x, y, hTO⟩, ⟨o1, e1, _, d1⟩, ⟨o2, e2, _, d2⟩⟩ := st
    rcases zcell hc with q | q | q | q | q <;> subst q
    · exact ⟨_, hz, fun v q => nomatch q⟩
    · exact ⟨_, hTI, fun v q => nomatch q⟩
    · exact ⟨_, hTO, fun v q => nomatch q⟩
    · exact ⟨o1, e1, fun v q => by rw [d1] at q; cases q⟩
    · exact ⟨o2, e2, fun v q => by rw [d2] at q; cases q⟩
  keep := fun i h h2 st k => by
    obtain ⟨hl, hz, hTI, ⟨x, y, hTO⟩, h1, hh⟩ := st
    have m : ∀ c, c = n + 4 ∨ c = n + 2 ∨ c = n + 3 ∨ c = n ∨ c = n + 1 → c ∈ zcells n := fun c h => by simpa [zcells] using h
    have z4 := k (n + 4) (m _ (.inl rfl)) _ hz
    exact ⟨Heap.lt_size z4, z4, k (n + 2) (m _ (.inr (.inl rfl))) _ hTI, ⟨x, y, k (n + 3) (m _ (.inr (.inr (.inl rfl)))) _ hTO⟩,
      h1.at fun o q => k n (m _ (.inr (.inr (.inr (.inl rfl))))) o q, hh.at fun o q => k (n + 1) (m _ (.inr (.inr (.inr (.inr rfl))))) o q⟩
  item := by
    intro X hP hw hK hc i pins s σ H E I hf st hg
    subst hP hw hK
    obtain ⟨hlt, hz, hTI, ⟨x0, y0, hTO⟩, h1, h2⟩ := st
    obtain ⟨xs, ys, x, y, hqx, hqy, hx, hy⟩ := hg
    obtain ⟨its, rv, p, _⟩ := I.list hqx
    obtain ⟨its2, rv2, p2, _⟩ := I.tuple hqy
    obtain ⟨u, hu, ru⟩ := rv.get hx
    obtain ⟨u2, hu2, ru2⟩ := rv2.get hy
    have hh : X.A.in1.handled = none := I.ok.hd hc
    have D := PySem.W.ktu_apart n a b la lb
    have Z := zm_sep n a b la lb
    have D1 := Draws.list (prog := X.prog) (w := X.w) hh n a D.l1i1 its.toArray
    have D2 := Draws.tuple (prog := X.prog) (w := X.w) hh (n + 1) b D.l2i2 its2.toArray
    have i1 : i < its.toArray.size := by
      have := (List.getElem?_eq_some_iff.mp hu).1
      simpa using this
    have i2 : i < its2.toArray.size := by
      have := (List.getElem?_eq_some_iff.mp hu2).1
      simpa using this
    refine wpAny_pyNext_zipD2_item Z D1 D2 hz hTI hTO ⟨h1, p.isList⟩ ⟨h2, p2⟩ i1 i2 fun w1 w2 g tk y1 y2 gz gO s1 s2 gT gs gk => ?_
    have ew1 : w1 = u := by
      have e : its.toArray[i]? = some w1 := y1
      rw [List.getElem?_toArray, hu] at e
      exact (Option.some.inj e).symm
    have ew2 : w2 = u2 := by
      have e : its2.toArray[i]? = some w2 := y2
      rw [List.getElem?_toArray, hu2] at e
      exact (Option.some.inj e).symm
    subst ew1
    subst ew2
    refine ⟨_, rfl, wpAny_letOwnedTupleGo_zip (s := { s with heap := g, toks := tk }) gz fun g2 gz2 sb => ?_⟩
    have out : ∀ c o, c ∉ zcells n → s.heap.get? c = some o → g2.get? c = some o := fun c o hcn e => by
      have q : ∀ d, d = n + 4 ∨ d = n + 2 ∨ d = n + 3 ∨ d = n ∨ d = n + 1 → c ≠ d := fun d hd z => hcn (by rw [z]; simpa [zcells] using hd)
      exact (sb.2 c (q _ (.inl rfl))).trans (gk c o (q _ (.inl rfl)) (q _ (.inr (.inr (.inl rfl)))) (q _ (.inr (.inr (.inr (.inl rfl))))) (q _ (.inr (.inr (.inr (.inr rfl))))) e)
    have hT2 : g2.get? s.heap.objs.size = some { cls := .type "tuple", data := .seq #[w1, w2] } := (sb.2 _ (Nat.ne_of_gt hlt)).trans gT
    have new : ObjOk X.prog X.w (upd H s.heap.objs.size (.tup [x, y])) g2 s.heap.objs.size (.tup [x, y]) :=
      ⟨by show 2 ≤ sizeLine; decide, [w1, w2], .cons ru (.cons ru2 .nil), _, hT2, rfl, _, rfl⟩
    have I1 := I.turnedNew (t' := tk) (ch := zcells n) out hf (Nat.le_refl _) new
    refine ⟨.ref s.heap.objs.size, _, I1, rfl, ⟨_, x, y, rfl, I.hok.fresh (Nat.le_refl _), rfl, fun l hl => by rw [I.list_inj hl hqx]; exact hx, fun l hl => by rw [I.tuple_inj hl hqy]; exact hy⟩,
      ⟨Heap.lt_size gz2, gz2, ?_, ⟨w1, w2, ?_⟩, ?_, ?_⟩, fun c hcm => ?_⟩
    · exact (sb.2 _ D.TIz).trans (gk _ _ D.TIz D.TITO D.TIi1 D.TIi2 hTI)
    · exact (sb.2 _ D.TOz).trans gO
    · exact s1.1.at fun o q => (sb.2 _ D.i1z).trans q
    · exact s2.1.at fun o q => (sb.2 _ D.i2z).trans q
    · have hlt2 : c < s.heap.objs.size := lt_cells n c _ hlt (zcell hcm)
      rw [upd_ne (Nat.ne_of_lt hlt2)]
      exact (hf c hcm).1
  done := by
    intro X hP hw hK hc i pins s σ H E I hf st hg
    subst hP hw hK
    obtain ⟨hlt, hz, hTI, ⟨x0, y0, hTO⟩, h1, h2⟩ := st
    obtain ⟨xs, ys, hqx, hqy, l1, l2, hend⟩ := hg
    obtain ⟨its, rv, p, _⟩ := I.list hqx
    obtain ⟨its2, rv2, p2, _⟩ := I.tuple hqy
    have e1 := rv.length
    have e2 := rv2.length
    have hh : X.A.in1.handled = none := I.ok.hd hc
    have D := PySem.W.ktu_apart n a b la lb
    have Z := zm_sep n a b la lb
    have D1 := Draws.list (prog := X.prog) (w := X.w) hh n a D.l1i1 its.toArray
    have D2 := Draws.tuple (prog := X.prog) (w := X.w) hh (n + 1) b D.l2i2 its2.toArray
    refine wpAny_pyNext_zipD2_end Z D1 D2 hz hTI hTO ⟨h1, p.isList⟩ ⟨h2, p2⟩ (by rw [List.size_toArray]; omega) (by rw [List.size_toArray]; omega) (by rw [List.size_toArray, List.size_toArray]; omega) fun g tk gk => ⟨rfl, ?_⟩
    refine I.turnedL (t' := tk) (ch := zcells n) (fun c o hcn e => ?_) hf
    have q : ∀ d, d = n + 4 ∨ d = n + 2 ∨ d = n + 3 ∨ d = n ∨ d = n + 1 → c ≠ d := fun d hd z => hcn (by rw [z]; simpa [zcells] using hd)
    exact gk c o (q _ (.inl rfl)) (q _ (.inr (.inr (.inl rfl)))) (q _ (.inr (.inr (.inr (.inl rfl))))) (q _ (.inr (.inr (.inr (.inr rfl))))) e
  self := fun A i s Q E st h => wpAny_pyIter_zip st.2.1 h
def iZipM (K : PySem.W.Frag) (ta : TA) : TI := fun σ H R => ta σ H fun vs H1 => ∃ a b xs ys, vs = [.ref a, .ref b] ∧ SqL K H1 a xs ∧ SqT K H1 b ys ∧ R (ItzM K a b) H1
theorem pi_zipM {X : Cx} {e e2 : Expr} {ta : TA} {p pos tpos : Pos} {elts : List Expr} {kk : Nat} (hg : Gl X "zip") (hm : X.mg "zip" = none) (ha : PA X [e, e2] ta)
    (hs : starEach [e, e2] X.env = (false, eval e X.env) :: starEach [e2] X.env := by rfl) (hpl : (backTo pos (starEach [e2] X.env)).any (·.1) = false := by rfl) :
    PI X (.Tuple elts kk tpos) (.Call (.Name "zip" p) [e, e2] [] pos) (iZipM X.K ta) := by
  constructor
  intro pins s σ H R I h
  refine Call_ (ld_blt I hg hm PyProof.Rows.boot_zip (PyProof.Rows.callWith_type1 (thn (ha.run pos pins s σ H _ I h) fun us s1 ⟨vs, H1, I1, r1, a, b, xs, ys, ex, hqx, hqy, q⟩ => ?_) hs hpl))
  subst ex
  obtain ⟨u1, u2, rfl, e1, e2⟩ := r1.two
  cases e1
  cases e2
  obtain ⟨its, rv, p1, _⟩ := I1.list hqx
  obtain ⟨its2, rv2, p2, _⟩ := I1.tuple hqy
  have la : a < s1.heap.objs.size := p1.lt
  have lb : b < s1.heap.objs.size := p2.lt
  refine zip_begins2 (begins_list a its.toArray) (begins_tuple b its2.toArray) p1.isList p2 fun g hz hTI hTO g1 g2 gs gk => wpAny_pyIter_zip hz ?_
  refine ⟨s1.heap.objs.size + 4, zcells s1.heap.objs.size, _, _, H1, rfl, I1.kept (t' := s1.toks) gk, turn_mixed la lb, ⟨Heap.lt_size hz, hz, hTI, ⟨_, _, hTO⟩, ⟨_, g1, rfl, rfl⟩, ⟨_, g2, rfl, rfl⟩⟩, fun c hcm => ?_, q⟩
  have hle : s1.heap.objs.size ≤ c := by
    rcases zcell hcm with z | z | z | z | z <;> rw [z] <;> first | exact Nat.le_add_right _ _ | exact Nat.le_refl _
  exact I1.fpOk hle (I1.hok.fresh hle)
/-- the walk over a list and a tuple of one length -/
theorem walk_mixed {K : PySem.W.Frag} {a b : Addr} {xs ys : List V} (hl : xs.length = ys.length) :
    Walk (ItzM K a b) xs.length (fun H => SqL K H a xs ∧ SqT K H b ys) (YPair (fun i => xs[i]?) (fun i => ys[i]?)) := by
  refine ⟨fun i H hi g => ?_, fun H g => ⟨xs, ys, g.1, g.2, Nat.le_refl _, by omega, .inl rfl⟩, fun i H v H2 hi g y => ?_⟩
  · exact ⟨xs, ys, xs[i], ys[i]'(by omega), g.1, g.2, List.getElem?_eq_getElem hi, List.getElem?_eq_getElem (by omega)⟩
  · obtain ⟨T, x, y, e1, e2, e3, f1, f2⟩ := y
    exact ⟨T, x, y, e1, e2, e3, f1 xs g.1, f2 ys g.2⟩
/-- the walk over two tuples, the second the shorter one -/
theorem walk_zipT {K : PySem.W.Frag} {a b : Addr} {xs ys : List V} (hl : ys.length ≤ xs.length) :
    Walk (RZ.ItzT K a b) ys.length (fun H => SqT K H a xs ∧ SqT K H b ys) (YPair (fun i => xs[i]?) (fun i => ys[i]?)) := by
  refine ⟨fun i H hi g => ?_, fun H g => ⟨xs, ys, g.1, g.2, .inr (Nat.le_refl _)⟩, fun i H v H2 hi g y => ?_⟩
  · exact ⟨xs, ys, xs[i]'(by omega), ys[i], g.1, g.2, List.getElem?_eq_getElem (by omega), List.getElem?_eq_getElem hi⟩
  · obtain ⟨T, x, y, e1, e2, e3, f1, f2⟩ := y
    exact ⟨T, x, y, e1, e2, e3, f1 xs g.1, f2 ys g.2⟩
end K24

set_option Elab.async false
set_option linter.all false
set_option maxRecDepth 100000
set_option maxHeartbeats 2000000
/-! K4: the text by places, what the top leaves, the trees in the heap. -/
namespace K24
open PySem PySem.Spec PyProof.Rows L2

def topS (i : Nat) : Stmt := PySem.Challenge.pw_shortgoings_k24_whole_written_and_read.main.body.getD i (.Pass ⟨0, 0, 0, 0⟩)

/-! ### defs of the module, methods, classes -/
section
variable (K : PySem.W.Frag) (mg : Str → Option Value)
/-- the def st stands at f, whatever its defaults -/
def BodyAt (x qual : Str) (st : Stmt) (f : Addr) (fd : FuncData) : Prop := ∃ (oc : Value) (od : Option Addr) (dV kV doc pm : Value) (an : Option Addr) (cdv ct : Value) (osl : Array (Option Value)),
  fd = PySem.W.fnOf x qual (defArgs st) (defBody st) (defScope st) dV kV doc pm an cdv ct ∧ K.lookup f = some ⟨oc, od, .func fd, osl⟩ ∧ PySem.W.codeIn K cdv qual = true
/-- the module's name x is the def st -/
def DefAt (x : Str) (st : Stmt) (ps : List Str) : Prop := ∃ (f : Addr) (fd : FuncData), BodyAt K x x st f fd ∧ mg x = some (.ref f) ∧ PySem.W.keepIn K (.ref f) = true ∧ Binds K fd ps []
/-- the class at C has st as its method m -/
def MetAt (C : Addr) (m qual : Str) (st : Stmt) (ps : List Str) : Prop := ∃ (f : Addr) (fd : FuncData), BodyAt K m qual st f fd ∧ Meth K C m f ∧ Binds K fd ps []
/-- .. and is made by its __init__ -/
def IniAt (C : Addr) (qual : Str) (st : Stmt) (ps : List Str) : Prop := ∃ (f : Addr) (fd : FuncData), BodyAt K "__init__" qual st f fd ∧ Mk K C f ∧ Binds K fd ps []
def IntAt (x : Str) (i : Int) : Prop := ∃ u, mg x = some u ∧ RelV (.int i) u
def StrAt (x : Str) (z : Str) : Prop := ∃ u, mg x = some u ∧ RelV (.str z) u
/-- what isinstance asks of an own class -/
structure IsC (C : Addr) : Prop where
  ha : PySem.W.findIn K (.ref C) "__class__" = some (some (.builtin "object.__class__"))
  hm : PySem.W.mroIn K C (.type "object") = some true
end

section
variable (P : Program) (w : World) (K : PySem.W.Frag) (mg : Str → Option Value) (base : Heap)
/-- the module's name x is a def that keeps sp by k levels -/
def Fn (k : Nat) (x : Str) (sp : Sp) : Prop := ∃ (f : Addr) (fd : FuncData) (ps : List Str), FnOk P w K mg base CX0 k f fd ps sp ∧ mg x = some (.ref f) ∧ PySem.W.keepIn K (.ref f) = true ∧ Binds K fd ps []
def Mt (k : Nat) (C : Addr) (m : Str) (sp : Sp) : Prop := ∃ (f : Addr) (fd : FuncData) (ps : List Str), Meth K C m f ∧ FnOk P w K mg base CX0 k f fd ps sp ∧ Binds K fd ps []
def Ma (k : Nat) (C : Addr) (sp : Sp) : Prop := ∃ (f : Addr) (fd : FuncData) (ps : List Str), Mk K C f ∧ FnOk P w K mg base CX0 k f fd ps sp ∧ Binds K fd ps []
end
section
variable {P : Program} {w : World} {K : PySem.W.Frag} {mg : Str → Option Value} {base : Heap} {j k : Nat} {x m : Str} {sp sp2 : Sp} {C : Addr}
theorem Fn.mono (h : Fn P w K mg base j x sp) (hk : j ≤ k) : Fn P w K mg base k x sp := by
  obtain ⟨f, fd, ps, F, r⟩ := h
  exact ⟨f, fd, ps, F.mono hk, r⟩
theorem Mt.mono (h : Mt P w K mg base j C m sp) (hk : j ≤ k) : Mt P w K mg base k C m sp := by
  obtain ⟨f, fd, ps, M, F, b⟩ := h
  exact ⟨f, fd, ps, M, F.mono hk, b⟩
theorem body_ok {x qual : Str} {st : Stmt} {f : Addr} {fd : FuncData} {N ps : List Str} (B : BodyAt K x qual st f fd) (S : FnScope N ps (defScope st)) (len : ∀ vs H Q E, sp vs H Q E → vs.length = ps.length)
    (walk : ∀ (cdv : Value) (A : Around) (outer : List Env) (s : Shared) (H : Hp) (vs : List V) (Q : VK) (E : XK), Room k (A.deeper (envOfC qual (defScope st) s.heap.objs.size f cdv)) → sp vs H Q E →
      ∃ t, PSs (cxOf CX0 P w K mg base N qual (defScope st) f cdv A outer s H E).nox (defBody st) t ∧ t { nx := fun _ H1 => Q .non H1, rt := Q } (start N vs) H) : FnOk P w K mg base CX0 (k + 1) f fd ps sp := by
  obtain ⟨oc, od, dV, kV, doc, pm, an, cdv, ct, osl, rfl, lk, hcd⟩ := B
  refine fn_of lk hcd S len fun A outer s H vs Q E hr h => ?_
  obtain ⟨t, h1, h2⟩ := walk cdv A outer s H vs Q E hr h
  exact ⟨t, h1.nox, h2⟩
/-- the walk of a def of the module -/
theorem fn_by {st : Stmt} {N ps : List Str} (D : DefAt K mg x st ps) (S : FnScope N ps (defScope st)) (len : ∀ vs H Q E, sp vs H Q E → vs.length = ps.length)
    (walk : ∀ (f : Addr) (cdv : Value) (A : Around) (outer : List Env) (s : Shared) (H : Hp) (vs : List V) (Q : VK) (E : XK), Room k (A.deeper (envOfC x (defScope st) s.heap.objs.size f cdv)) → sp vs H Q E →
      ∃ t, PSs (cxOf CX0 P w K mg base N x (defScope st) f cdv A outer s H E).nox (defBody st) t ∧ t { nx := fun _ H1 => Q .non H1, rt := Q } (start N vs) H) : Fn P w K mg base (k + 1) x sp := by
  obtain ⟨f, fd, F, hm, kp, b⟩ := D
  exact ⟨f, fd, ps, body_ok F S len (walk f), hm, kp, b⟩
theorem mt_by {qual : Str} {st : Stmt} {N ps : List Str} (D : MetAt K C m qual st ps) (S : FnScope N ps (defScope st)) (len : ∀ vs H Q E, sp vs H Q E → vs.length = ps.length)
    (walk : ∀ (f : Addr) (cdv : Value) (A : Around) (outer : List Env) (s : Shared) (H : Hp) (vs : List V) (Q : VK) (E : XK), Room k (A.deeper (envOfC qual (defScope st) s.heap.objs.size f cdv)) → sp vs H Q E →
      ∃ t, PSs (cxOf CX0 P w K mg base N qual (defScope st) f cdv A outer s H E).nox (defBody st) t ∧ t { nx := fun _ H1 => Q .non H1, rt := Q } (start N vs) H) : Mt P w K mg base (k + 1) C m sp := by
  obtain ⟨f, fd, F, hm, b⟩ := D
  exact ⟨f, fd, ps, hm, body_ok F S len (walk f), b⟩
theorem ma_by {qual : Str} {st : Stmt} {N ps : List Str} (D : IniAt K C qual st ps) (S : FnScope N ps (defScope st)) (len : ∀ vs H Q E, sp vs H Q E → vs.length = ps.length)
    (walk : ∀ (f : Addr) (cdv : Value) (A : Around) (outer : List Env) (s : Shared) (H : Hp) (vs : List V) (Q : VK) (E : XK), Room k (A.deeper (envOfC qual (defScope st) s.heap.objs.size f cdv)) → sp vs H Q E →
      ∃ t, PSs (cxOf CX0 P w K mg base N qual (defScope st) f cdv A outer s H E).nox (defBody st) t ∧ t { nx := fun _ H1 => Q .non H1, rt := Q } (start N vs) H) : Ma P w K mg base (k + 1) C sp := by
  obtain ⟨f, fd, F, hm, b⟩ := D
  exact ⟨f, fd, ps, hm, body_ok F S len (walk f), b⟩
/-- nothing asks for it -/
theorem fn_none {st : Stmt} {ps : List Str} (D : DefAt K mg x st ps) (no : ∀ vs H Q E, ¬ sp vs H Q E) : Fn P w K mg base k x sp := by
  obtain ⟨f, fd, F, hm, kp, b⟩ := D
  exact ⟨f, fd, ps, ⟨fun vs H Q E h => absurd h (no vs H Q E), fun A outer s H args us vs Q E _ _ _ _ h => absurd h (no vs H Q E)⟩, hm, kp, b⟩
theorem mt_none {qual : Str} {st : Stmt} {ps : List Str} (D : MetAt K C m qual st ps) (no : ∀ vs H Q E, ¬ sp vs H Q E) : Mt P w K mg base k C m sp := by
  obtain ⟨f, fd, F, hm, b⟩ := D
  exact ⟨f, fd, ps, hm, ⟨fun vs H Q E h => absurd h (no vs H Q E), fun A outer s H args us vs Q E _ _ _ _ h => absurd h (no vs H Q E)⟩, b⟩
theorem Fn.imp (h : Fn P w K mg base k x sp) (i : ∀ vs H Q E, sp2 vs H Q E → sp vs H Q E) : Fn P w K mg base k x sp2 := by
  obtain ⟨f, fd, ps, F, r⟩ := h
  exact ⟨f, fd, ps, F.imp i, r⟩
theorem Mt.imp (h : Mt P w K mg base k C m sp) (i : ∀ vs H Q E, sp2 vs H Q E → sp vs H Q E) : Mt P w K mg base k C m sp2 := by
  obtain ⟨f, fd, ps, M, F, b⟩ := h
  exact ⟨f, fd, ps, M, F.imp i, b⟩
end
section
variable {X : Cx} {j k : Nat} {x m : Str} {sp : Sp} {C : Addr} {p pos apos : Pos} {e o : Expr} {es : List Expr} {ta : TE} {t : TA}
theorem pe_fn (c : Fn X.prog X.w X.K X.mg X.base k x sp) (hr : Room j X.A) (hk : k ≤ j) (hg : Gl X x) (ha : PA X (e :: es) t)
    (hdb : (x == ("__debug__" : Str)) = false := by decide) (he : starEach (e :: es) X.env = (false, eval e X.env) :: starEach es X.env := by rfl) (hpl : (backTo pos (starEach es X.env)).any (·.1) = false := by rfl) :
    PE X (.Call (.Name x p) (e :: es) [] pos) (tCall sp [] E0 t) := by
  obtain ⟨f, fd, ps, F, hm, kp, b⟩ := c
  exact pe_call F (hr.mono hk) hg hm kp b .nil pass0 ha hdb he hpl
theorem pe_ma (c : Ma X.prog X.w X.K X.mg X.base k C sp) (hc : X.mg x = some (.ref C)) (hr : Room j X.A) (hk : k + 1 ≤ j) (hg : Gl X x) (ha : PA X (e :: es) t)
    (hdb : (x == ("__debug__" : Str)) = false := by decide) (he : starEach (e :: es) X.env = (false, eval e X.env) :: starEach es X.env := by rfl) (hpl : (backTo pos (starEach es X.env)).any (·.1) = false := by rfl) :
    PE X (.Call (.Name x p) (e :: es) [] pos) (tMake C sp [] E0 t) := by
  obtain ⟨f, fd, ps, M, F, b⟩ := c
  exact pe_make M F (hr.mono hk) hg hc b .nil pass0 ha hdb he hpl
theorem pe_mt0 {pl : Sem Bool} (c : Mt X.prog X.w X.K X.mg X.base k C m sp) (cl : Cls X.K C) (hr : Room j X.A) (hk : k ≤ j) (he : PE X o ta)
    (ht : eval (.Call (.Attribute o m apos) [] [] pos) X.env = (do
      let ov ← eval o X.env
      standAt apos.atName
      let (f, first) ← holding [ov] (getMethod ov m pl)
      callWith pos f first (backTo pos (starEach [] X.env)) (backToKw pos (keywordEach [] X.env))) := by rfl) :
    PE X (.Call (.Attribute o m apos) [] [] pos) (tMeth C m sp [] E0 ta tNil) := by
  obtain ⟨f, fd, ps, hm, F, b⟩ := c
  exact pe_meth0 (pl := pl) he cl hm F (hr.mono hk) b .nil pass0 ht
end

/-! ### heaps that grow -/
theorem same_upd {H : Hp} {p : Addr} (h : H p = none) (o : HO) : Same H (upd H p o) := fun b u q => by rw [upd_ne (ne_of_none q h)]; exact q
theorem same_up {H H1 : Hp} {p : Addr} (g : Same H H1) (h : H1 p = none) (o : HO) : Same H (upd H1 p o) := g.trans (same_upd h o)
/-- an object that is not of the base is written -/
theorem same_put {H H1 : Hp} {p : Addr} (g : Same H H1) (h : H p = none) (o : HO) : Same H (upd H1 p o) := fun b u q => by rw [upd_ne (ne_of_none q h)]; exact g b u q
theorem same_seqT {K : PySem.W.Frag} {H H1 : Hp} {a : Addr} {xs : List V} (e : Same H H1) (h : SqT K H a xs) : SqT K H1 a xs := by
  rcases h with (h | ⟨o, h⟩) | h
  · exact .inl (.inl (e _ _ h))
  · exact .inl (.inr ⟨o, e _ _ h⟩)
  · exact .inr h
/-- all but the lists stand as they stood -/
def Imm (H H1 : Hp) : Prop := ∀ b o, H b = some o → (∀ xs, o ≠ .lst xs) → H1 b = some o
theorem same_imm {H H1 : Hp} (g : Same H H1) : Imm H H1 := fun b o e _ => g b o e
theorem Imm.trans {H H1 H2 : Hp} (a : Imm H H1) (b : Imm H1 H2) : Imm H H2 := fun c o e n => b c o (a c o e n) n
theorem Imm.refl (H : Hp) : Imm H H := fun _ _ e _ => e

/-! ### the trees in the heap -/
mutual
/-- the law's tuples -/
def TS (H : Hp) : Sh → V → Prop
  | .pt m, v => ∃ a, v = .ref a ∧ H a = some (.tup [.str "at", .int m])
  | .ov ps n s, v => ∃ a b vs, v = .ref a ∧ H a = some (.tup [.str "over", .ref b, .int n, .int s]) ∧ H b = some (.tup vs) ∧ TSs H ps vs
def TSs (H : Hp) : List Sh → List V → Prop
  | [], vs => vs = []
  | p :: r, vs => ∃ v w, vs = v :: w ∧ TS H p v ∧ TSs H r w
end
mutual
/-- the instances of At and Over -/
def OS (cA cO : Addr) (H : Hp) : Sh → V → Prop
  | .pt m, v => ∃ a dx, v = .ref a ∧ H a = some (.ins cA dx [("moment", .int m)])
  | .ov ps n s, v => ∃ a dx k vs, v = .ref a ∧ H a = some (.ins cO dx [("kept", .ref k), ("many", .int n), ("step", .int s)]) ∧ H k = some (.tup vs) ∧ OSs cA cO H ps vs
def OSs (cA cO : Addr) (H : Hp) : List Sh → List V → Prop
  | [], vs => vs = []
  | p :: r, vs => ∃ v w, vs = v :: w ∧ OS cA cO H p v ∧ OSs cA cO H r w
end
section
variable {H H1 : Hp} {cA cO : Addr}
theorem ts_mono (g : Imm H H1) : ∀ n : Nat, (∀ t v, nest t < n → TS H t v → TS H1 t v) ∧ (∀ ps vs, nestR ps < n → TSs H ps vs → TSs H1 ps vs) := by
  intro n
  induction n with
  | zero => exact ⟨fun t v h => absurd h (Nat.not_lt_zero _), fun ps vs h => absurd h (Nat.not_lt_zero _)⟩
  | succ n ih =>
    have one : ∀ t v, nest t < n + 1 → TS H t v → TS H1 t v := by
      intro t v ht h
      cases t with
      | pt m =>
        rw [TS] at h ⊢
        obtain ⟨a, e, q⟩ := h
        exact ⟨a, e, g _ _ q (fun _ z => nomatch z)⟩
      | ov ps k s =>
        rw [nest] at ht
        rw [TS] at h ⊢
        obtain ⟨a, b, vs, e, q, qb, r⟩ := h
        exact ⟨a, b, vs, e, g _ _ q (fun _ z => nomatch z), g _ _ qb (fun _ z => nomatch z), ih.2 ps vs (by omega) r⟩
    refine ⟨one, ?_⟩
    intro ps
    induction ps with
    | nil => intro vs _ h; rw [TSs] at h ⊢; exact h
    | cons p r ihr =>
      intro vs hn h
      rw [nestR] at hn
      rw [TSs] at h ⊢
      obtain ⟨v, w, e, h1, h2⟩ := h
      exact ⟨v, w, e, one p v (by omega) h1, ihr w (by omega) h2⟩
theorem TS.mono {t : Sh} {v : V} (h : TS H t v) (g : Imm H H1) : TS H1 t v := (ts_mono g (nest t + 1)).1 t v (Nat.lt_succ_self _) h
theorem TSs.mono {ps : List Sh} {vs : List V} (h : TSs H ps vs) (g : Imm H H1) : TSs H1 ps vs := (ts_mono g (nestR ps + 1)).2 ps vs (Nat.lt_succ_self _) h
theorem os_mono (g : Imm H H1) : ∀ n : Nat, (∀ t v, nest t < n → OS cA cO H t v → OS cA cO H1 t v) ∧ (∀ ps vs, nestR ps < n → OSs cA cO H ps vs → OSs cA cO H1 ps vs) := by
  intro n
  induction n with
  | zero => exact ⟨fun t v h => absurd h (Nat.not_lt_zero _), fun ps vs h => absurd h (Nat.not_lt_zero _)⟩
  | succ n ih =>
    have one : ∀ t v, nest t < n + 1 → OS cA cO H t v → OS cA cO H1 t v := by
      intro t v ht h
      cases t with
      | pt m =>
        rw [OS] at h ⊢
        obtain ⟨a, dx, e, q⟩ := h
        exact ⟨a, dx, e, g _ _ q (fun _ z => nomatch z)⟩
      | ov ps k s =>
        rw [nest] at ht
        rw [OS] at h ⊢
        obtain ⟨a, dx, b, vs, e, q, qb, r⟩ := h
        exact ⟨a, dx, b, vs, e, g _ _ q (fun _ z => nomatch z), g _ _ qb (fun _ z => nomatch z), ih.2 ps vs (by omega) r⟩
    refine ⟨one, ?_⟩
    intro ps
    induction ps with
    | nil => intro vs _ h; rw [OSs] at h ⊢; exact h
    | cons p r ihr =>
      intro vs hn h
      rw [nestR] at hn
      rw [OSs] at h ⊢
      obtain ⟨v, w, e, h1, h2⟩ := h
      exact ⟨v, w, e, one p v (by omega) h1, ihr w (by omega) h2⟩
theorem OS.mono {t : Sh} {v : V} (h : OS cA cO H t v) (g : Imm H H1) : OS cA cO H1 t v := (os_mono g (nest t + 1)).1 t v (Nat.lt_succ_self _) h
theorem OSs.mono {ps : List Sh} {vs : List V} (h : OSs cA cO H ps vs) (g : Imm H H1) : OSs cA cO H1 ps vs := (os_mono g (nestR ps + 1)).2 ps vs (Nat.lt_succ_self _) h
theorem TSs.len : ∀ {ps : List Sh} {vs : List V}, TSs H ps vs → vs.length = ps.length
  | [], vs, h => by
    rw [TSs] at h
    subst h
    rfl
  | p :: r, vs, h => by
    rw [TSs] at h
    obtain ⟨v, w, e, _, h2⟩ := h
    rw [e, List.length_cons, List.length_cons, TSs.len h2]
theorem OSs.len : ∀ {ps : List Sh} {vs : List V}, OSs cA cO H ps vs → vs.length = ps.length
  | [], vs, h => by
    rw [OSs] at h
    subst h
    rfl
  | p :: r, vs, h => by
    rw [OSs] at h
    obtain ⟨v, w, e, _, h2⟩ := h
    rw [e, List.length_cons, List.length_cons, OSs.len h2]
theorem TSs.at_ : ∀ {ps : List Sh} {vs : List V} {i : Nat} {v : V}, TSs H ps vs → vs[i]? = some v → ∃ p, ps[i]? = some p ∧ TS H p v
  | [], vs, i, v, h, e => by rw [TSs] at h; rw [h] at e; cases e
  | p :: r, vs, 0, v, h, e => by
    rw [TSs] at h
    obtain ⟨v1, w, ev, h1, h2⟩ := h
    rw [ev] at e
    cases e
    exact ⟨p, rfl, h1⟩
  | p :: r, vs, i + 1, v, h, e => by
    rw [TSs] at h
    obtain ⟨v1, w, ev, h1, h2⟩ := h
    rw [ev] at e
    exact TSs.at_ (i := i) h2 e
theorem OSs.at_ : ∀ {ps : List Sh} {vs : List V} {i : Nat} {v : V}, OSs cA cO H ps vs → vs[i]? = some v → ∃ p, ps[i]? = some p ∧ OS cA cO H p v
  | [], vs, i, v, h, e => by rw [OSs] at h; rw [h] at e; cases e
  | p :: r, vs, 0, v, h, e => by
    rw [OSs] at h
    obtain ⟨v1, w, ev, h1, h2⟩ := h
    rw [ev] at e
    cases e
    exact ⟨p, rfl, h1⟩
  | p :: r, vs, i + 1, v, h, e => by
    rw [OSs] at h
    obtain ⟨v1, w, ev, h1, h2⟩ := h
    rw [ev] at e
    exact OSs.at_ (i := i) h2 e
theorem OSs.snoc : ∀ {ps : List Sh} {vs : List V} {p : Sh} {v : V}, OSs cA cO H ps vs → OS cA cO H p v → OSs cA cO H (ps ++ [p]) (vs ++ [v])
  | [], vs, p, v, h, k => by
    rw [OSs] at h
    rw [h]
    show OSs cA cO H [p] [v]
    rw [OSs]
    exact ⟨v, [], rfl, k, by rw [OSs]⟩
  | q :: r, vs, p, v, h, k => by
    rw [OSs] at h
    obtain ⟨v1, w, ev, h1, h2⟩ := h
    show OSs cA cO H (q :: (r ++ [p])) (vs ++ [v])
    rw [OSs]
    exact ⟨v1, w ++ [v], by rw [ev]; rfl, h1, OSs.snoc h2 k⟩
theorem TSs.snoc : ∀ {ps : List Sh} {vs : List V} {p : Sh} {v : V}, TSs H ps vs → TS H p v → TSs H (ps ++ [p]) (vs ++ [v])
  | [], vs, p, v, h, k => by
    rw [TSs] at h
    rw [h]
    show TSs H [p] [v]
    rw [TSs]
    exact ⟨v, [], rfl, k, by rw [TSs]⟩
  | q :: r, vs, p, v, h, k => by
    rw [TSs] at h
    obtain ⟨v1, w, ev, h1, h2⟩ := h
    show TSs H (q :: (r ++ [p])) (vs ++ [v])
    rw [TSs]
    exact ⟨v1, w ++ [v], by rw [ev]; rfl, h1, TSs.snoc h2 k⟩
theorem OS.ref {t : Sh} {v : V} (h : OS cA cO H t v) : ∃ a dx fs C, v = .ref a ∧ H a = some (.ins C dx fs) ∧ (C = cA ∨ C = cO) := by
  cases t with
  | pt m =>
    rw [OS] at h
    obtain ⟨a, dx, e, q⟩ := h
    exact ⟨a, dx, _, cA, e, q, .inl rfl⟩
  | ov ps n s =>
    rw [OS] at h
    obtain ⟨a, dx, k, vs, e, q, _⟩ := h
    exact ⟨a, dx, _, cO, e, q, .inr rfl⟩
end
theorem getR {ps : List Sh} {i : Nat} {p : Sh} (h : ps[i]? = some p) : p ∈ ps := List.mem_of_getElem? h
end K24

set_option Elab.async false
set_option linter.all false
set_option maxRecDepth 100000
set_option maxHeartbeats 4000000
/-! K5: what is known of the top, and the defs of clock.py. -/
namespace K24
open PySem PySem.Spec PyProof.Rows L2 TL SX

/-- all that the top leaves, as far as it is used -/
structure Top (K : PySem.W.Frag) (mg : Str → Option Value) (cA cO cS cP : Addr) : Prop where
  bLen : mg "len" = none
  bIsi : mg "isinstance" = none
  bInt : mg "int" = none
  bBool : mg "bool" = none
  bStr : mg "str" = none
  bList : mg "list" = none
  bTuple : mg "tuple" = none
  bAll : mg "all" = none
  bSum : mg "sum" = none
  bMax : mg "max" = none
  bMin : mg "min" = none
  bZip : mg "zip" = none
  bRange : mg "range" = none
  bRepr : mg "repr" = none
  bDivmod : mg "divmod" = none
  iHOUR : IntAt mg "HOUR" 60
  iDAY : IntAt mg "DAY" 1440
  iHOURS : IntAt mg "HOURS" 24
  sFIGc : StrAt mg "FIGURES_clock" "0123456789"
  sCOLON : StrAt mg "COLON" ":"
  sBLANK : StrAt mg "BLANK" " "
  iMOST : IntAt mg "MOST_MOMENTS" 1440
  iNEST : IntAt mg "MOST_NESTED" 8
  sNOP : StrAt mg "NO_PARTS" "-"
  sFIGs : StrAt mg "FIGURES_spreads" "0123456789"
  dWhole : DefAt K mg "is_whole" (topS 11) ["thing"]
  dMoment : DefAt K mg "is_moment" (topS 12) ["thing"]
  dWant : DefAt K mg "want_moment" (topS 13) ["thing"]
  dBelow : DefAt K mg "want_below" (topS 14) ["thing", "many"]
  dMomentAt : DefAt K mg "moment_at" (topS 15) ["day", "hour", "minute"]
  dClock : DefAt K mg "clock_of" (topS 16) ["moment"]
  dShow : DefAt K mg "show_moment" (topS 17) ["moment"]
  dFigs : DefAt K mg "are_figures" (topS 18) ["word"]
  dNumber : DefAt K mg "number_of" (topS 19) ["word"]
  dDay : DefAt K mg "day_of" (topS 20) ["word"]
  dRead : DefAt K mg "read_moment" (topS 21) ["text"]
  dIsNum : DefAt K mg "is_number" (topS 26) ["thing", "least"]
  dRising : DefAt K mg "all_rising" (topS 28) ["parts"]
  dShortsIn : DefAt K mg "shorts_in" (topS 29) ["parts"]
  dRowMoms : DefAt K mg "row_moments" (topS 30) ["parts"]
  dRowMany : DefAt K mg "row_many" (topS 31) ["parts"]
  dRowPcs : DefAt K mg "row_pieces" (topS 32) ["parts"]
  dRowText : DefAt K mg "row_text" (topS 33) ["parts"]
  dNumIn : DefAt K mg "number_in" (topS 39) ["word"]
  dAtIn : DefAt K mg "at_in" (topS 40) ["text"]
  dItemEnd : DefAt K mg "item_end" (topS 41) ["text", "at"]
  dOverIn : DefAt K mg "over_in" (topS 42) ["parts", "tail"]
  dReadOn : DefAt K mg "read_on" (topS 43) ["text", "at", "rows"]
  dReadSp : DefAt K mg "read_spread" (topS 44) ["text"]
  dPot : DefAt K mg "_law_pot" (topS 46) ["_law_script", "_law_k"]
  dDraw : DefAt K mg "_law_draw" (topS 47) ["_law_pot_here", "_law_many"]
  dLMoms : DefAt K mg "_law_moments" (topS 48) ["_law_short_here"]
  dLRowMoms : DefAt K mg "_law_row_moments" (topS 49) ["_law_row_here"]
  dWide : DefAt K mg "_law_wide" (topS 50) ["_law_pot_here"]
  dGap : DefAt K mg "_law_gap" (topS 51) ["_law_pot_here"]
  dShort : DefAt K mg "_law_short" (topS 52) ["_law_pot_here", "_law_at", "_law_room", "_law_deep", "_law_left"]
  dRow : DefAt K mg "_law_row" (topS 53) ["_law_pot_here", "_law_at", "_law_room", "_law_deep", "_law_left"]
  dSpread : DefAt K mg "_law_spread" (topS 54) ["_law_pot_here"]
  dPieces : DefAt K mg "_law_pieces" (topS 55) ["_law_row_here"]
  dTime : DefAt K mg "_law_time" (topS 56) ["_law_moment"]
  dWord : DefAt K mg "_law_word" (topS 57) ["_law_short_here"]
  dText : DefAt K mg "_law_text" (topS 58) ["_law_row_here"]
  dMade : DefAt K mg "_law_made" (topS 59) ["_law_short_here"]
  dWritten : DefAt K mg "_law_written" (topS 60) ["_law_one", "_law_short_here"]
  dIs : DefAt K mg "_law_is" (topS 61) ["_law_spread_here", "_law_row_here", "_law_text_here"]
  dRight : DefAt K mg "_law_right" (topS 62) ["_law_pot_here"]
  dLaw : DefAt K mg "law" (topS 63) ["_law_script"]
  gA : mg "At" = some (.ref cA)
  gO : mg "Over" = some (.ref cO)
  gS : mg "Short" = some (.ref cS)
  gP : mg "Spread" = some (.ref cP)
  clA : Cls K cA
  clO : Cls K cO
  clP : Cls K cP
  ne : cA ≠ cO
  icg : PySem.W.specialIn K (.builtin "object.__class__") "__get__" = some (some (.builtin "getset_descriptor.__get__"))
  ict : PySem.W.takesIn K (.builtin "object.__class__") = some true
  icA : IsC K cA
  icO : IsC K cO
  icP : IsC K cP
  kAS : PySem.W.kitOne K (.ref cA) (.ref cS) = some true
  kOS : PySem.W.kitOne K (.ref cO) (.ref cS) = some true
  kPP : PySem.W.kitOne K (.ref cP) (.ref cP) = some true
  nMoment : NoAttr K cA "moment"
  nKept : NoAttr K cO "kept"
  nMany : NoAttr K cO "many"
  nStep : NoAttr K cO "step"
  nKeptP : NoAttr K cP "kept"
  nHeld : NoAttr K cP "held"
  aIni : IniAt K cA "At.__init__" (inClass (topS 34) 0) ["self", "moment"]
  aMoms : MetAt K cA "moments" "At.moments" (inClass (topS 34) 1) ["self"]
  aPcs : MetAt K cA "pieces" "At.pieces" (inClass (topS 34) 2) ["self"]
  aBeg : MetAt K cA "begins" "At.begins" (inClass (topS 34) 3) ["self"]
  aEnd : MetAt K cA "ends" "At.ends" (inClass (topS 34) 4) ["self"]
  aMany : MetAt K cA "means_many" "At.means_many" (inClass (topS 34) 5) ["self"]
  aNest : MetAt K cA "nested" "At.nested" (inClass (topS 34) 6) ["self"]
  aStr : MetAt K cA "__str__" "At.__str__" (inClass (topS 34) 7) ["self"]
  oIni : IniAt K cO "Over.__init__" (inClass (topS 35) 0) ["self", "parts", "many", "step"]
  oParts : MetAt K cO "parts" "Over.parts" (inClass (topS 35) 1) ["self"]
  oMoms : MetAt K cO "moments" "Over.moments" (inClass (topS 35) 2) ["self"]
  oPcs : MetAt K cO "pieces" "Over.pieces" (inClass (topS 35) 3) ["self"]
  oBeg : MetAt K cO "begins" "Over.begins" (inClass (topS 35) 4) ["self"]
  oEnd : MetAt K cO "ends" "Over.ends" (inClass (topS 35) 5) ["self"]
  oMany : MetAt K cO "means_many" "Over.means_many" (inClass (topS 35) 6) ["self"]
  oNest : MetAt K cO "nested" "Over.nested" (inClass (topS 35) 7) ["self"]
  oStr : MetAt K cO "__str__" "Over.__str__" (inClass (topS 35) 8) ["self"]
  pIni : IniAt K cP "Spread.__init__" (inClass (topS 38) 0) ["self", "parts"]
  pParts : MetAt K cP "parts" "Spread.parts" (inClass (topS 38) 1) ["self"]
  pMoms : MetAt K cP "moments" "Spread.moments" (inClass (topS 38) 2) ["self"]
  pPcs : MetAt K cP "pieces" "Spread.pieces" (inClass (topS 38) 3) ["self"]
  pStr : MetAt K cP "__str__" "Spread.__str__" (inClass (topS 38) 6) ["self"]
  pRepr : MetAt K cP "__repr__" "Spread.__repr__" (inClass (topS 38) 7) ["self"]

section
variable {P : Program} {w : World} {K : PySem.W.Frag} {mg : Str → Option Value} {base : Heap} {cA cO cS cP : Addr}

/-! ### constants -/
section
variable {X : Cx} {x : Str} {pos : Pos}
theorem pe_ci {i : Int} (h : IntAt X.mg x i) (hg : Gl X x) (hd : (x == ("__debug__" : Str)) = false := by decide) : PE X (.Name x pos) (tC (.int i)) := by
  obtain ⟨u, hm, r⟩ := h
  exact pe_glob hg hm r hd
theorem pe_cs {z : Str} (h : StrAt X.mg x z) (hg : Gl X x) (hd : (x == ("__debug__" : Str)) = false := by decide) : PE X (.Name x pos) (tC (.str z)) := by
  obtain ⟨u, hm, r⟩ := h
  exact pe_glob hg hm r hd
end

/-! ### isinstance(thing, int) and (not isinstance(thing, bool)) -/
def spWhole : Sp := fun vs H Q _ => ∃ i : Int, vs = [.int i] ∧ Q (.bl true) H
theorem sc11 : FnScope ["thing"] ["thing"] (defScope (topS 11)) := ⟨rfl, rfl, rfl, by decide +kernel, rfl, by decide +kernel, by decide +kernel⟩
theorem f_whole (T : Top K mg cA cO cS cP) : Fn P w K mg base 1 "is_whole" spWhole := by
  refine fn_by T.dWhole sc11 (fun vs H Q E h => ?_) (fun f cdv A outer s H vs Q E hr h => ?_)
  · obtain ⟨i, rfl, _⟩ := h
    rfl
  obtain ⟨i, rfl, q⟩ := h
  refine ⟨_, pss_one (ps_ret (pe_and (pe_callB call_isi rfl T.bIsi boot_isinstance (pa_cons (pv 0) (pa_cons (pe_bltn (v := .ty "int") rfl T.bInt boot_int rfl) pa_nil)))
    (pe_one (pe_not (pe_callB call_isi rfl T.bIsi boot_isinstance (pa_cons (pv 0) (pa_cons (pe_bltn (v := .ty "bool") rfl T.bBool boot_bool rfl) pa_nil))))))), ?_⟩
  refine ⟨_, rfl, _, _, _, _, true, rfl, .ty _, .base (.int i), kit_ty (by decide +kernel), true, rfl, iteT ?_⟩
  refine ⟨_, rfl, _, _, _, _, false, rfl, .ty _, .base (.int i), kit_ty (by decide +kernel), false, rfl, ?_⟩
  exact q
def spMoment : Sp := fun vs H Q _ => ∃ i : Int, vs = [.int i] ∧ 0 ≤ i ∧ Q (.bl true) H
theorem sc12 : FnScope ["thing"] ["thing"] (defScope (topS 12)) := ⟨rfl, rfl, rfl, by decide +kernel, rfl, by decide +kernel, by decide +kernel⟩
theorem f_moment (T : Top K mg cA cO cS cP) : Fn P w K mg base 2 "is_moment" spMoment := by
  refine fn_by T.dMoment sc12 (fun vs H Q E h => ?_) (fun f cdv A outer s H vs Q E hr h => ?_)
  · obtain ⟨i, rfl, _⟩ := h
    rfl
  obtain ⟨i, rfl, h0, q⟩ := h
  refine ⟨_, pss_one (ps_ret (pe_and (pe_fn (f_whole T) hr (by decide) rfl (pa_cons (pv 0) pa_nil)) (pe_one (pe_cmpR op_ge (pv 0) pe_int (nomark _))))), ?_⟩
  refine ⟨_, rfl, i, rfl, true, rfl, iteT ?_⟩
  refine ⟨_, rfl, _, _, rfl, rfl, ?_⟩
  have e : decide (i ≥ 0) = true := decide_eq_true h0
  show Q (.bl (decide (i ≥ 0))) H
  rw [e]
  exact q
def spWant : Sp := fun vs H Q _ => ∃ i : Int, vs = [.int i] ∧ 0 ≤ i ∧ Q .non H
theorem sc13 : FnScope ["thing"] ["thing"] (defScope (topS 13)) := ⟨rfl, rfl, rfl, by decide +kernel, rfl, by decide +kernel, by decide +kernel⟩
theorem f_want (T : Top K mg cA cO cS cP) : Fn P w K mg base 3 "want_moment" spWant := by
  refine fn_by T.dWant sc13 (fun vs H Q E h => ?_) (fun f cdv A outer s H vs Q E hr h => ?_)
  · obtain ⟨i, rfl, _⟩ := h
    rfl
  obtain ⟨i, rfl, h0, q⟩ := h
  refine ⟨_, pss_one (ps_if (pt_not (pt_val (pe_fn (f_moment T) hr (by decide) rfl (pa_cons (pv 0) pa_nil)))) (pss_one ps_never) pss_nil), ?_⟩
  exact ⟨_, rfl, i, rfl, h0, true, rfl, iteF q⟩
def spBelow : Sp := fun vs H Q _ => ∃ i n : Int, vs = [.int i, .int n] ∧ 0 ≤ i ∧ i < n ∧ Q .non H
theorem sc14 : FnScope ["thing", "many"] ["thing", "many"] (defScope (topS 14)) := ⟨rfl, rfl, rfl, by decide +kernel, rfl, by decide +kernel, by decide +kernel⟩
theorem f_below (T : Top K mg cA cO cS cP) : Fn P w K mg base 4 "want_below" spBelow := by
  refine fn_by T.dBelow sc14 (fun vs H Q E h => ?_) (fun f cdv A outer s H vs Q E hr h => ?_)
  · obtain ⟨i, n, rfl, _⟩ := h
    rfl
  obtain ⟨i, n, rfl, h0, h1, q⟩ := h
  refine ⟨_, pss_cons (ps_expr (pe_fn (f_want T) hr (by decide) rfl (pa_cons (pv 0) pa_nil))) (pss_one (ps_if (pt_cmpR op_ge (pv 0) (pv 1) (nomark _)) (pss_one ps_never) pss_nil)), ?_⟩
  refine ⟨_, rfl, i, rfl, h0, ?_⟩
  refine ⟨_, rfl, _, rfl, _, _, rfl, rfl, _, rfl, ?_⟩
  have e : decide (i ≥ n) = false := decide_eq_false (by omega)
  show if decide (i ≥ n) = true then _ else _
  rw [e]
  exact iteF q
def spMomentAt : Sp := fun vs H Q _ => ∃ d h m : Int, vs = [.int d, .int h, .int m] ∧ 0 ≤ d ∧ 0 ≤ h ∧ h < 24 ∧ 0 ≤ m ∧ m < 60 ∧ Q (.int (d * 1440 + h * 60 + m)) H
theorem sc15 : FnScope ["day", "hour", "minute"] ["day", "hour", "minute"] (defScope (topS 15)) := ⟨rfl, rfl, rfl, by decide +kernel, rfl, by decide +kernel, by decide +kernel⟩
theorem f_momentAt (T : Top K mg cA cO cS cP) : Fn P w K mg base 5 "moment_at" spMomentAt := by
  refine fn_by T.dMomentAt sc15 (fun vs H Q E h => ?_) (fun f cdv A outer s H vs Q E hr h => ?_)
  · obtain ⟨d, hh, m, rfl, _⟩ := h
    rfl
  obtain ⟨d, hh, m, rfl, h0, h1, h2, h3, h4, q⟩ := h
  refine ⟨_, pss_cons (ps_expr (pe_fn (f_want T) hr (by decide) rfl (pa_cons (pv 0) pa_nil)))
    (pss_cons (ps_expr (pe_fn (f_below T) hr (by decide) rfl (pa_cons (pv 1) (pa_cons (pe_ci T.iHOURS rfl) pa_nil))))
    (pss_cons (ps_expr (pe_fn (f_below T) hr (by decide) rfl (pa_cons (pv 2) (pa_cons (pe_ci T.iHOUR rfl) pa_nil))))
    (pss_one (ps_ret (pe_op op_add (pe_op op_add (pe_op op_mul (pv 0) (pe_ci T.iDAY rfl)) (pe_op op_mul (pv 1) (pe_ci T.iHOUR rfl))) (pv 2)))))), ?_⟩
  refine ⟨_, rfl, d, rfl, h0, ?_⟩
  refine ⟨_, rfl, hh, 24, rfl, h1, h2, ?_⟩
  refine ⟨_, rfl, m, 60, rfl, h3, h4, ?_⟩
  refine ⟨_, rfl, _, _, rfl, rfl, .inr (by decide), _, rfl, _, _, rfl, rfl, .inr (by decide), _, _, rfl, rfl, _, rfl, _, _, rfl, rfl, ?_⟩
  exact q
end
end K24

set_option Elab.async false
set_option linter.all false
set_option maxRecDepth 100000
set_option maxHeartbeats 4000000
/-! K6: comprehensions that only grow the heap; the texts of moments, written and read. -/
namespace K24
open PySem PySem.Spec PyProof.Rows L2 TL SX

/-- a comprehension whose list is out, the heap else only growing -/
theorem lc_out {J : It} {n : Nat} {G : Hp → Prop} {Y : Nat → Hp → V → Hp → Prop} (w : Walk J n G Y) {g : TG} {te : TE} {vs : List Nat} {σ : L2.St} {H1 : Hp} {D : Addr} {Qd : Hp → Prop} (out : List V) (hl : out.length = n) (hz : n ≤ sizeLine) (hD : H1 D = none)
    (hG : ∀ H, Same H1 H → G H)
    (hs : ∀ i x H H2 (Nx : VK), i < n → Same H1 H → Y i H x H2 → (∀ y H4, out[i]? = some y → Same H H4 → Nx y H4) → g x (wipe σ vs) H2 fun σ2 H3 => wipe σ2 vs = wipe σ vs ∧ te σ2 H3 Nx)
    (hd : ∀ H, Same H1 H → H D = some (.lst out) → Qd H) :
    ∃ W : Nat → Nat → Hp → Prop, (∃ m, W 0 m (upd H1 D (.lst []))) ∧ ∀ i m H, W i m H →
      (J.stop i H ∧ Qd H) ∨ (J.go i H ∧ ∃ Nx : Hp → Prop, (∀ H2, Nx H2 → ∃ m2, m2 < m ∧ W (i + 1) m2 H2) ∧ ∀ x H2, J.yld i H x H2 → g x (wipe σ vs) H2 fun σ2 H3 => wipe σ2 vs = wipe σ vs ∧ tYes σ2 H3 fun b H3 =>
        if b = true then te σ2 H3 fun y H4 => ∃ acc, H4 D = some (.lst acc) ∧ acc.length < sizeLine ∧ Nx (upd H4 D (.lst (acc ++ [y]))) else Nx H3) := by
  refine lc_it w (fun i H => Same H1 H ∧ H D = some (.lst (out.take i))) ⟨same_upd hD _, ?_⟩ (fun i H _ p => hG H p.1) (fun i x H H2 hi p y => ?_) (fun H p => ?_)
  · rw [List.take_zero]
    exact upd_same
  · refine hs i x H H2 _ hi p.1 y fun z H4 hz4 g4 => ?_
    refine ⟨out.take i, g4 _ _ p.2, ?_, same_put (p.1.trans g4) hD _, ?_⟩
    · rw [List.length_take]
      omega
    · rw [upd_same, List.take_add_one, hz4]
      rfl
  · obtain ⟨g1, g2⟩ := p
    rw [List.take_of_length_le (by omega)] at g2
    exact hd H g1 g2

section
variable {P : Program} {w : World} {K : PySem.W.Frag} {mg : Str → Option Value} {base : Heap} {cA cO cS cP : Addr}

theorem log_ok {i : Int} (h0 : 0 ≤ i) (h : i < BIG) : i.natAbs.log2 < 1920 := by
  have e : i.natAbs = i.toNat := by omega
  rw [e]
  have hb := big_nat h
  by_cases z : i.toNat = 0
  · rw [z]
    decide
  · rw [Nat.log2_lt z]
    exact Nat.lt_trans hb (by decide +kernel)
theorem str_num {i : Int} (h0 : 0 ≤ i) : (Str.ofString (toString i) : Str) = S (numL i.toNat) := by
  have e : i = ((i.toNat : Nat) : Int) := by omega
  rw [e]
  exact num_S i.toNat
theorem S_eq {a b : List Nat} (h : a = b) : S a = S b := by rw [h]
theorem dec_str {a b : List Nat} : decide (V.str (S a) = V.str (S b)) = decide (a = b) := by
  by_cases h : a = b
  · rw [decide_eq_true h, decide_eq_true (by rw [h])]
  · rw [decide_eq_false h, decide_eq_false (fun e => h (S_inj (V.str.inj e)))]
theorem lit (s : String) {l : List Nat} (h : (Str.ofString s).cps.toList = l) : (Str.ofString s : Str) = S l := by
  rw [← h]

/-! ### clock_of, show_moment -/
def spClock : Sp := fun vs H Q _ => ∃ m : Int, vs = [.int m] ∧ 0 ≤ m ∧ ∀ p, H p = none → Q (.ref p) (upd H p (.tup [.int (m / 1440), .int (m % 1440 / 60), .int (m % 60)]))
theorem sc16 : FnScope ["moment"] ["moment"] (defScope (topS 16)) := ⟨rfl, rfl, rfl, by decide +kernel, rfl, by decide +kernel, by decide +kernel⟩
theorem f_clock (T : Top K mg cA cO cS cP) : Fn P w K mg base 4 "clock_of" spClock := by
  refine fn_by T.dClock sc16 (fun vs H Q E h => ?_) (fun f cdv A outer s H vs Q E hr h => ?_)
  · obtain ⟨m, rfl, _⟩ := h
    rfl
  obtain ⟨m, rfl, h0, q⟩ := h
  refine ⟨_, pss_cons (ps_expr (pe_fn (f_want T) hr (by decide) rfl (pa_cons (pv 0) pa_nil)))
    (pss_one (ps_ret (pe_tup (pa_cons (pe_op op_fdiv (pv 0) (pe_ci T.iDAY rfl)) (pa_cons (pe_op op_fdiv (pe_op op_mod (pv 0) (pe_ci T.iDAY rfl)) (pe_ci T.iHOUR rfl)) (pa_cons (pe_op op_mod (pv 0) (pe_ci T.iHOUR rfl)) pa_nil)))))), ?_⟩
  refine ⟨_, rfl, m, rfl, h0, ?_⟩
  refine ⟨_, rfl, _, _, rfl, rfl, ⟨by decide, by decide⟩, ?_⟩
  refine ⟨_, rfl, _, _, rfl, rfl, (by show (0 : Int) < 1440; decide), _, _, rfl, rfl, ⟨by decide, by decide⟩, ?_⟩
  refine ⟨_, rfl, _, _, rfl, rfl, (by show (0 : Int) < 60; decide), (by show 3 ≤ sizeLine; decide), fun p hp => ?_⟩
  exact q p hp
theorem show_eq {m : Int} (h0 : 0 ≤ m) : show_ m.toNat = (if m / 1440 = 0 then [] else numL (m / 1440).toNat ++ [32]) ++ (numL (m % 1440 / 60).toNat ++ ([58] ++ two (m % 60).toNat)) := by
  have e1 : (m / 1440).toNat = m.toNat / 1440 := by omega
  have e2 : (m % 1440 / 60).toNat = m.toNat % 1440 / 60 := by omega
  have e3 : (m % 60).toNat = m.toNat % 60 := by omega
  rw [e1, e2, e3]
  unfold show_
  by_cases z : m.toNat / 1440 = 0
  · rw [if_pos z, if_pos (by omega)]
  · rw [if_neg z, if_neg (by omega)]
def spShow : Sp := fun vs H Q _ => ∃ m : Int, vs = [.int m] ∧ 0 ≤ m ∧ m < BIG ∧ ∀ H1, Same H H1 → Q (.str (S (show_ m.toNat))) H1
theorem sc17 : FnScope ["moment", "day", "hour", "minute", "text"] ["moment"] (defScope (topS 17)) := ⟨rfl, rfl, rfl, by decide +kernel, rfl, by decide +kernel, by decide +kernel⟩
theorem f_show (T : Top K mg cA cO cS cP) : Fn P w K mg base 5 "show_moment" spShow := by
  refine fn_by T.dShow sc17 (fun vs H Q E h => ?_) (fun f cdv A outer s H vs Q E hr h => ?_)
  · obtain ⟨m, rfl, _⟩ := h
    rfl
  obtain ⟨m, rfl, h0, h1, q⟩ := h
  have nd := sc17.nd
  refine ⟨_, pss_cons (ps_asg (pe_fn (f_clock T) hr (by decide) rfl (pa_cons (pv 0) pa_nil)) (pg_tup rfl (pgs_cons (pg_name (i := 1) nd rfl (.inl rfl)) (pgs_cons (pg_name (i := 2) nd rfl (.inl rfl)) (pgs_cons (pg_name (i := 3) nd rfl (.inl rfl)) pgs_nil)))))
    (pss_cons (ps_set (i := 4) nd rfl (.inl rfl) (pe_op op_add_str (pe_op op_add_str (pe_callTy call_str_int rfl T.bStr boot_str (pa_cons (pv 2) pa_nil)) (pe_cs T.sCOLON rfl))
      (pe_bm PySem.F.plainAttrs_str PySem.F.slot_str_zfill PySem.F.type_str_zfill mt_zfill (pe_callTy call_str_int rfl T.bStr boot_str (pa_cons (pv 3) pa_nil)) (pa_cons pe_int pa_nil))))
    (pss_cons (ps_if (pt_cmpR op_eq (pv 1) pe_int (nomark _)) (pss_one (ps_ret (pv 4))) pss_nil)
    (pss_one (ps_ret (pe_op op_add_str (pe_op op_add_str (pe_callTy call_str_int rfl T.bStr boot_str (pa_cons (pv 1) pa_nil)) (pe_cs T.sBLANK rfl)) (pv 4)))))), ?_⟩
  refine ⟨_, rfl, m, rfl, h0, fun p hp => ?_⟩
  refine ⟨p, _, rfl, SqT.of upd_same, rfl, _, _, rfl, _, _, rfl, _, _, rfl, rfl, ?_⟩
  have d0 : 0 ≤ m / 1440 := by omega
  have d1 : m / 1440 < BIG := by omega
  have a0 : 0 ≤ m % 1440 / 60 := by omega
  have a1 : m % 1440 / 60 < 24 := by omega
  have b0 : 0 ≤ m % 60 := by omega
  have b1 : m % 60 < 60 := by omega
  have bigger : (60 : Int) < BIG := by decide +kernel
  have z1 : Txt.zfill (Str.ofString (toString (m % 60))) 2 = S (two (m % 60).toNat) := by
    rw [str_num b0]
    exact zfill_two _ (by omega)
  have l1 : (numL (m % 1440 / 60).toNat).length ≤ 2 := numL_len (by decide) (by omega)
  have l2 : (numL (m / 1440).toNat).length ≤ 90 := num_len d1
  have hc : (":" : Str) = S [58] := lit ":" (by decide +kernel)
  have hb : (" " : Str) = S [32] := lit " " (by decide +kernel)
  -- text = str(hour) + COLON + str(minute).zfill(2)
  refine ⟨_, rfl, _, rfl, log_ok a0 (by omega), _, _, rfl, rfl, ?_, ?_⟩
  · rw [str_num a0, S_len, hc, S_len]
    show _ + 1 ≤ sizeLine
    rw [sizeLine_eq]
    omega
  refine ⟨_, rfl, _, rfl, log_ok b0 (by omega), rfl, _, _, rfl, rfl, rfl, _, _, rfl, rfl, ?_, ?_⟩
  · rw [str_num a0, hc, S_cat, z1, S_len, S_len, List.length_append]
    show _ + 1 + 2 ≤ sizeLine
    rw [sizeLine_eq]
    omega
  have et : (Str.ofString (toString (m % 1440 / 60)) ++ (":" : Str)) ++ Txt.zfill (Str.ofString (toString (m % 60))) 2 = S (numL (m % 1440 / 60).toNat ++ ([58] ++ two (m % 60).toNat)) := by
    rw [str_num a0, hc, z1, S_cat, S_cat, List.append_assoc]
  refine ⟨_, rfl, rfl, _, rfl, ite2 (fun c => ?_) (fun c => ?_)⟩
  · refine ⟨_, rfl, ?_⟩
    have z : m / 1440 = 0 := by
      have := of_decide_eq_true c
      injection this
    have e := show_eq h0
    rw [if_pos z, List.nil_append] at e
    rw [et, ← e]
    exact q _ (same_upd hp _)
  · have z : ¬ m / 1440 = 0 := fun z => c (decide_eq_true (by rw [z]))
    refine ⟨_, rfl, _, rfl, log_ok d0 d1, _, _, rfl, rfl, ?_, _, rfl, _, _, rfl, rfl, ?_, ?_⟩
    · rw [str_num d0, S_len, hb, S_len]
      show _ + 1 ≤ sizeLine
      rw [sizeLine_eq]
      omega
    · rw [et, str_num d0, hb, S_cat, S_len, S_len, List.length_append, List.length_append, List.length_append]
      show _ + 1 + (_ + (1 + 2)) ≤ sizeLine
      rw [sizeLine_eq]
      omega
    · have e := show_eq h0
      rw [if_neg z] at e
      have ef : (Str.ofString (toString (m / 1440)) ++ (" " : Str)) ++ ((Str.ofString (toString (m % 1440 / 60)) ++ (":" : Str)) ++ Txt.zfill (Str.ofString (toString (m % 60))) 2) = S (show_ m.toNat) := by
        rw [et, str_num d0, hb, S_cat, S_cat, e]
      rw [ef]
      exact q _ (same_upd hp _)
end
end K24

set_option Elab.async false
set_option linter.all false
set_option maxRecDepth 100000
set_option maxHeartbeats 4000000
/-! K7: figures, numbers and moments that are read. -/
namespace K24
open PySem PySem.Spec PyProof.Rows L2 TL SX

theorem figs_list : ("0123456789" : Str).cps.toList = [48, 49, 50, 51, 52, 53, 54, 55, 56, 57] := by decide +kernel
theorem fig_in {c : Nat} (h : 48 ≤ c ∧ c ≤ 57) : decide (c ∈ ("0123456789" : Str).cps.toList) = true := by
  rw [figs_list]
  refine decide_eq_true ?_
  simp only [List.mem_cons, List.not_mem_nil, or_false]
  omega
theorem trues (n : Nat) : (List.replicate n true).all id = true := by
  induction n with
  | zero => rfl
  | succ n ih => rw [List.replicate_succ, List.all_cons, ih]; rfl
theorem trues_get {n i : Nat} (h : i < n) : ((List.replicate n true).map V.bl)[i]? = some (.bl true) := by
  rw [List.getElem?_map, List.getElem?_replicate, if_pos h]
  rfl
theorem S_size (l : List Nat) : (S l).cps.size = l.length := by simp
theorem S_get {l : List Nat} {i c : Nat} (h : (S l).cps[i]? = some c) : l[i]? = some c := by simpa using h
theorem numL_nozero : ∀ n : Nat, ∀ c r, numL n = c :: r → r ≠ [] → c ≠ 48 := by
  intro n
  induction n using Nat.strongRecOn with
  | _ n ih =>
    intro c r e hr
    by_cases h : n < 10
    · rw [numL_lt h] at e
      injection e with e1 e2
      exact absurd e2.symm hr
    · rw [numL_step (by omega)] at e
      by_cases h2 : n / 10 < 10
      · rw [numL_lt h2] at e
        injection e with e1 e2
        omega
      · obtain ⟨d, q, eq, hd⟩ := numL_head (n / 10)
        have e3 := ih (n / 10) (by omega) d q eq
        rw [eq] at e
        injection e with e1 e2
        rw [← e1]
        refine e3 fun z => ?_
        have l2 : (numL (n / 10)).length = 1 := by rw [eq, z]; rfl
        rw [numL_step (by omega), List.length_append, List.length_singleton] at l2
        have := List.length_pos_iff.mpr (numL_ne (n / 10 / 10))
        omega

section
variable {P : Program} {w : World} {K : PySem.W.Frag} {mg : Str → Option Value} {base : Heap} {cA cO cS cP : Addr}

/-! ### are_figures -/
def spFigs : Sp := fun vs H Q _ => ∃ l : List Nat, vs = [.str (S l)] ∧ l ≠ [] ∧ NumText.AllDigits l ∧ l.length ≤ 600 ∧ ∀ H1, Same H H1 → Q (.bl true) H1
theorem sc18 : FnScope ["word", "sign"] ["word"] (defScope (topS 18)) := ⟨rfl, rfl, rfl, by decide +kernel, rfl, by decide +kernel, by decide +kernel⟩
theorem f_figs (T : Top K mg cA cO cS cP) : Fn P w K mg base 1 "are_figures" spFigs := by
  refine fn_by T.dFigs sc18 (fun vs H Q E h => ?_) (fun f cdv A outer s H vs Q E hr h => ?_)
  · obtain ⟨l, rfl, _⟩ := h
    rfl
  obtain ⟨l, rfl, hn, hd, hl, q⟩ := h
  have nd := sc18.nd
  refine ⟨_, pss_one (ps_ret (pe_and (pe_cmpR op_ne (pv 0) pe_str (nomark _)) (pe_one (pe_callB (cr_all rfl) rfl T.bAll boot_all (pa_cons
    (pe_lc (own := [("sign", 1)]) (g := gName 1) (tt := tYes) rfl nd (pi_str (pv 0)) (blkOk_by (N := ["word", "sign"]) (sc := defScope (topS 18)) (by decide +kernel)) (fun _ _ _ _ _ => pg_name (i := 1) nd rfl (Or.inl rfl)) (fun _ _ _ _ _ => pts_nil)
      (fun _ _ _ _ _ => pe_cmpR op_in_sign (pv 1) (pe_cs T.sFIGc rfl) rfl)) pa_nil))))), ?_⟩
  refine ⟨_, rfl, rfl, true, ?_, iteT ?_⟩
  · have e : ("" : Str) = S [] := lit "" (by decide +kernel)
    rw [e, dec_str, decide_eq_false hn]
    rfl
  refine ⟨_, rfl, _, rfl, fun D hD => lc_out walk_str ((List.replicate l.length true).map V.bl) (by rw [List.length_map, List.length_replicate, S_size]) (by rw [S_size, sizeLine_eq]; omega) hD (fun _ _ => True.intro) ?_ ?_⟩
  · intro i x H2 H3 Nx hi g y nx
    obtain ⟨rfl, c, hc, rfl⟩ := y
    rw [S_size] at hi
    refine ⟨rfl, _, rfl, c, _, rfl, rfl, ?_⟩
    have hm := hd c (List.mem_of_getElem? (S_get hc))
    rw [fig_in hm]
    exact nx _ _ (trues_get hi) (Same.refl _)
  · intro H2 g2 e2
    refine ⟨D, _, rfl, SqL.of e2, ?_⟩
    rw [trues]
    exact q _ g2

/-! ### number_of, day_of -/
def spNumber : Sp := fun vs H Q _ => ∃ n : Nat, vs = [.str (S (numL n))] ∧ (numL n).length ≤ 600 ∧ ∀ H1, Same H H1 → Q (.int n) H1
theorem sc19 : FnScope ["word"] ["word"] (defScope (topS 19)) := ⟨rfl, rfl, rfl, by decide +kernel, rfl, by decide +kernel, by decide +kernel⟩
theorem f_number (T : Top K mg cA cO cS cP) : Fn P w K mg base 2 "number_of" spNumber := by
  refine fn_by T.dNumber sc19 (fun vs H Q E h => ?_) (fun f cdv A outer s H vs Q E hr h => ?_)
  · obtain ⟨n, rfl, _⟩ := h
    rfl
  obtain ⟨n, rfl, hl, q⟩ := h
  refine ⟨_, pss_cons (ps_if (PW.pt (pw_or (pt_not (pt_val (pe_fn (f_figs T) hr (by decide) rfl (pa_cons (pv 0) pa_nil)))) (pw_or1 (PW.pt (pw_and (pt_cmpR op_gt (pe_callB call_len_str rfl T.bLen PySem.boot_len (pa_cons (pv 0) pa_nil)) pe_int (nomark _))
      (pw_and1 (pt_cmpR op_eq (pe_ix ix_str (pv 0) pe_int (fun _ _ => rfl)) (pe_ix ix_str (pe_cs T.sFIGc rfl) pe_int (fun _ _ => rfl)) (nomark _))))))))
      (pss_one ps_never) pss_nil)
    (pss_one (ps_ret (pe_callTy call_int_str rfl T.bInt boot_int (pa_cons (pv 0) pa_nil)))), ?_⟩
  refine ⟨_, rfl, numL n, rfl, numL_ne n, numL_digits n, hl, fun H1 g1 => ⟨true, rfl, iteF ?_⟩⟩
  refine ⟨_, rfl, _, rfl, (by rw [S_len, sizeLine_eq]; omega), _, _, rfl, rfl, _, rfl, ?_⟩
  have fin : ∃ v, (start ["word"] [V.str (S (numL n))])[0]? = some (some v) ∧ ∃ a m, [v] = [V.str a] ∧ intText? a = some m ∧ a.length ≤ 640 ∧ Q (.int m) H1 :=
    ⟨_, rfl, _, _, rfl, int_back n (by omega), (by rw [S_len]; omega), q _ g1⟩
  obtain ⟨c, r, e, hc⟩ := numL_head n
  refine ite2 (fun hlen => ?_) (fun hlen => iteF fin)
  have hlen2 := of_decide_eq_true hlen
  rw [S_len] at hlen2
  have hr0 : r ≠ [] := fun z => by
    rw [e, z] at hlen2
    simp at hlen2
  refine ⟨_, rfl, _, _, c, rfl, rfl, (by rw [S_len, sizeLine_eq]; omega), ?_, _, _, 48, rfl, rfl, (by decide +kernel), (by decide +kernel), rfl, _, rfl, ?_⟩
  · show atI (numL n) ((0 : Nat) : Int) = some c
    exact atI_nat (by rw [e]; rfl)
  have z : decide (V.str (S [c]) = V.str (S [48])) = false := by
    rw [dec_str]
    refine decide_eq_false fun e2 => ?_
    injection e2 with e3
    exact numL_nozero n c r e hr0 e3
  show if decide (V.str (S [c]) = V.str (S [48])) = true then _ else _
  rw [z]
  exact iteF fin
def spDay : Sp := fun vs H Q _ => ∃ n : Nat, vs = [.str (S (numL n))] ∧ 0 < n ∧ (numL n).length ≤ 600 ∧ ∀ H1, Same H H1 → Q (.int n) H1
theorem sc20 : FnScope ["word", "day"] ["word"] (defScope (topS 20)) := ⟨rfl, rfl, rfl, by decide +kernel, rfl, by decide +kernel, by decide +kernel⟩
theorem f_day (T : Top K mg cA cO cS cP) : Fn P w K mg base 3 "day_of" spDay := by
  refine fn_by T.dDay sc20 (fun vs H Q E h => ?_) (fun f cdv A outer s H vs Q E hr h => ?_)
  · obtain ⟨n, rfl, _⟩ := h
    rfl
  obtain ⟨n, rfl, h0, hl, q⟩ := h
  refine ⟨_, pss_cons (ps_set (i := 1) sc20.nd rfl (.inl rfl) (pe_fn (f_number T) hr (by decide) rfl (pa_cons (pv 0) pa_nil)))
    (pss_cons (ps_if (pt_cmpR op_eq (pv 1) pe_int (nomark _)) (pss_one ps_never) pss_nil) (pss_one (ps_ret (pv 1)))), ?_⟩
  refine ⟨_, rfl, n, rfl, hl, fun H1 g1 => ?_⟩
  refine ⟨_, rfl, rfl, _, rfl, ?_⟩
  have z : decide (V.int (n : Int) = V.int 0) = false := decide_eq_false fun e => by
    injection e with e2
    omega
  show if decide (V.int (n : Int) = V.int 0) = true then _ else _
  rw [z]
  exact iteF ⟨_, rfl, q _ g1⟩

/-! ### read_moment -/
def spRead : Sp := fun vs H Q _ => ∃ m : Int, vs = [.str (S (show_ m.toNat))] ∧ 0 ≤ m ∧ m < BIG ∧ ∀ H1, Same H H1 → Q (.int m) H1
theorem sc21 : FnScope ["text", "head", "blank", "clock", "day", "hour", "colon", "minute"] ["text"] (defScope (topS 21)) := ⟨rfl, rfl, rfl, by decide +kernel, rfl, by decide +kernel, by decide +kernel⟩
theorem f_read (T : Top K mg cA cO cS cP) : Fn P w K mg base 6 "read_moment" spRead := by
  refine fn_by T.dRead sc21 (fun vs H Q E h => ?_) (fun f cdv A outer s H vs Q E hr h => ?_)
  · obtain ⟨m, rfl, _⟩ := h
    rfl
  obtain ⟨m, rfl, h0, h1, q⟩ := h
  have nd := sc21.nd
  refine ⟨_, pss_cons (ps_if (pt_not (pt_val (pe_callB call_isi rfl T.bIsi boot_isinstance (pa_cons (pv 0) (pa_cons (pe_bltn (v := .ty "str") rfl T.bStr boot_str rfl) pa_nil))))) (pss_one ps_never) pss_nil)
    (pss_cons (ps_asg (pe_bm PySem.F.plainAttrs_str PySem.F.slot_str_rpartition PySem.F.type_str_rpartition mt_rpart (pv 0) (pa_cons (pe_cs T.sBLANK rfl) pa_nil)) (pg_tup rfl (pgs_cons (pg_name (i := 1) nd rfl (.inl rfl)) (pgs_cons (pg_name (i := 2) nd rfl (.inl rfl)) (pgs_cons (pg_name (i := 3) nd rfl (.inl rfl)) pgs_nil)))))
    (pss_cons (ps_set (i := 4) nd rfl (.inl rfl) pe_int)
    (pss_cons (ps_if (pt_cmpR op_ne (pv 2) pe_str (nomark _)) (pss_one (ps_set (i := 4) nd rfl (.inl rfl) (pe_fn (f_day T) hr (by decide) rfl (pa_cons (pv 1) pa_nil)))) pss_nil)
    (pss_cons (ps_asg (pe_bm PySem.F.plainAttrs_str PySem.F.slot_str_partition PySem.F.type_str_partition mt_partition (pv 3) (pa_cons (pe_cs T.sCOLON rfl) pa_nil)) (pg_tup rfl (pgs_cons (pg_name (i := 5) nd rfl (.inl rfl)) (pgs_cons (pg_name (i := 6) nd rfl (.inl rfl)) (pgs_cons (pg_name (i := 7) nd rfl (.inl rfl)) pgs_nil)))))
    (pss_cons (ps_if (PW.pt (pw_or (pt_cmpR op_ne (pe_callB call_len_str rfl T.bLen PySem.boot_len (pa_cons (pv 7) pa_nil)) pe_int (nomark _)) (pw_or1 (pt_not (pt_val (pe_fn (f_figs T) hr (by decide) rfl (pa_cons (pv 7) pa_nil))))))) (pss_one ps_never) pss_nil)
    (pss_one (ps_ret (pe_fn (f_momentAt T) hr (by decide) rfl (pa_cons (pv 4) (pa_cons (pe_fn (f_number T) hr (by decide) rfl (pa_cons (pv 5) pa_nil)) (pa_cons (pe_callTy call_int_str rfl T.bInt boot_int (pa_cons (pv 7) pa_nil)) pa_nil))))))))))), ?_⟩
  have hc : (":" : Str) = S [58] := lit ":" (by decide +kernel)
  have hb : (" " : Str) = S [32] := lit " " (by decide +kernel)
  have he : (Str.empty : Str) = S [] := rfl
  have he2 : ("" : Str) = S [] := lit "" (by decide +kernel)
  have hlen := show_len h1
  have d0 : 0 ≤ m / 1440 := by omega
  have d1 : m / 1440 < BIG := by omega
  have a0 : 0 ≤ m % 1440 / 60 := by omega
  have a1 : m % 1440 / 60 < 24 := by omega
  have b0 : 0 ≤ m % 60 := by omega
  have b1 : m % 60 < 60 := by omega
  have l1 : (numL (m % 1440 / 60).toNat).length ≤ 2 := numL_len (by decide) (by omega)
  have l2 : (numL (m / 1440).toNat).length ≤ 90 := num_len d1
  have twod : NumText.AllDigits (two (m % 60).toNat) := two_digits _ (by omega)
  refine ⟨_, rfl, _, _, _, _, true, rfl, .ty _, .base (.str _), kit_ty (by decide +kernel), true, rfl, iteF ?_⟩
  refine ⟨_, rfl, rfl, _, _, rfl, rfl, (by rw [hb]; rfl), (by rw [S_len, sizeLine_eq]; omega), fun p hp => ?_⟩
  rw [hb]
  -- what follows once the clock's part and the day are known
  have rest : ∀ (hd bl : Str) (d : Int) (H1 : Hp), Same H H1 → d = m / 1440 →
      (tSeq (tAsg (tBM K "str" (fun x xs H Q => ∃ a b, x = .str a ∧ xs = [.str b] ∧ (b.length == 0) = false ∧ a.length ≤ sizeLine ∧
        ∀ p, H p = none → Q (.ref p) (upd H p (.tup [.str (Txt.partition a b).1, .str (Txt.partition a b).2.1, .str (Txt.partition a b).2.2]))) (tVar 3) (tCons (tC (.str ":")) tNil)) (gTup K 3 (gCons (gName 5) (gCons (gName 6) (gCons (gName 7) gNil)))))
      (tSeq (tIfS (tOr (tTest (tOp rNe (tCB (fun xs H Q => ∃ z, xs = [.str z] ∧ z.length ≤ sizeLine ∧ Q (.int z.length) H) (tCons (tVar 7) tNil)) (tC (.int 2)))) (tNot (tB (tCall spFigs [] E0 (tCons (tVar 7) tNil))))) tNever tNext)
        (tRet (tCall spMomentAt [] E0 (tCons (tVar 4) (tCons (tCall spNumber [] E0 (tCons (tVar 5) tNil)) (tCons (tCB (fun xs H Q => ∃ a n, xs = [.str a] ∧ intText? a = some n ∧ a.length ≤ 640 ∧ Q (.int n) H) (tCons (tVar 7) tNil)) tNil)))))))
      { nx := fun _ H1 => Q .non H1, rt := Q } [some (.str (S (show_ m.toNat))), some (.str hd), some (.str bl), some (.str (S (numL (m % 1440 / 60).toNat ++ ([58] ++ two (m % 60).toNat)))), some (.int d), none, none, none] H1 := by
    intro hd bl d H1 g1 ed
    refine ⟨_, rfl, rfl, _, _, rfl, rfl, (by rw [hc]; rfl), (by rw [S_len, List.length_append, List.length_append, sizeLine_eq]; show _ + (1 + 2) ≤ _; omega), fun p2 hp2 => ?_⟩
    rw [hc, part_at (numL_free (.inr (by decide)))]
    refine ⟨p2, _, rfl, SqT.of upd_same, rfl, _, _, rfl, _, _, rfl, _, _, rfl, rfl, ?_⟩
    refine ⟨_, rfl, _, rfl, (by rw [S_len, sizeLine_eq]; show 2 ≤ _; omega), rfl, _, rfl, ?_⟩
    have e2 : (!decide (V.int ((S (two (m % 60).toNat)).length : Nat) = V.int 2)) = false := by
      rw [S_len]
      rfl
    show if (!decide (V.int ((S (two (m % 60).toNat)).length : Nat) = V.int 2)) = true then _ else _
    rw [e2]
    refine iteF ⟨_, rfl, two (m % 60).toNat, rfl, (by simp [two]), twod, (by show 2 ≤ 600; decide), fun H2 g2 => ⟨true, rfl, iteF ?_⟩⟩
    refine ⟨_, rfl, _, rfl, (m % 1440 / 60).toNat, rfl, (by omega), fun H3 g3 => ?_⟩
    refine ⟨_, rfl, _, _, rfl, two_val _ (by omega), (by rw [S_len]; show 2 ≤ 640; decide), ?_⟩
    refine ⟨d, _, _, rfl, (by omega), (by omega), (by omega), (by omega), (by omega), ?_⟩
    have em : d * 1440 + ((m % 1440 / 60).toNat : Nat) * 60 + ((m % 60).toNat : Nat) = m := by omega
    rw [em]
    exact q _ ((same_up g1 hp2 _).trans (g2.trans g3))
  have gs : Same H (upd H p (.tup [.str (Txt.rpartition (S (show_ m.toNat)) (S [32])).1, .str (Txt.rpartition (S (show_ m.toNat)) (S [32])).2.1, .str (Txt.rpartition (S (show_ m.toNat)) (S [32])).2.2])) := same_upd hp _
  have fr32 : (32 : Nat) ∉ numL (m % 1440 / 60).toNat ++ ([58] ++ two (m % 60).toNat) := fun z => by
    rcases List.mem_append.mp z with z | z
    · exact numL_free (.inl (by decide)) z
    · rcases List.mem_append.mp z with z | z
      · simp at z
      · have := twod _ z
        omega
  by_cases z : m / 1440 = 0
  · have e := show_eq h0
    rw [if_pos z, List.nil_append] at e
    have ep : Txt.rpartition (S (show_ m.toNat)) (S [32]) = (Str.empty, Str.empty, S (numL (m % 1440 / 60).toNat ++ ([58] ++ two (m % 60).toNat))) := by
      rw [e]
      exact rpart_none fr32
    rw [ep] at gs ⊢
    refine ⟨p, _, rfl, SqT.of upd_same, rfl, _, _, rfl, _, _, rfl, _, _, rfl, rfl, ?_⟩
    refine ⟨_, rfl, rfl, _, rfl, ?_⟩
    have eb : (!decide (V.str Str.empty = V.str "")) = false := by
      rw [he, he2, dec_str]
      rfl
    show if (!decide (V.str Str.empty = V.str "")) = true then _ else _
    rw [eb]
    refine iteF ?_
    exact rest _ _ 0 _ gs (by omega)
  · have e := show_eq h0
    rw [if_neg z, List.append_assoc] at e
    have ep : Txt.rpartition (S (show_ m.toNat)) (S [32]) = (S (numL (m / 1440).toNat), S [32], S (numL (m % 1440 / 60).toNat ++ ([58] ++ two (m % 60).toNat))) := by
      rw [e]
      exact rpart_at fr32
    rw [ep] at gs ⊢
    refine ⟨p, _, rfl, SqT.of upd_same, rfl, _, _, rfl, _, _, rfl, _, _, rfl, rfl, ?_⟩
    refine ⟨_, rfl, rfl, _, rfl, ?_⟩
    have eb : (!decide (V.str (S [32]) = V.str "")) = true := by
      rw [he2, dec_str]
      rfl
    show if (!decide (V.str (S [32]) = V.str "")) = true then _ else _
    rw [eb]
    refine iteT ?_
    refine ⟨_, rfl, (m / 1440).toNat, rfl, (by omega), (by omega), fun H2 g2 => ?_⟩
    exact rest _ _ _ H2 (gs.trans g2) (by omega)

/-! ### is_number, number_in -/
def spIsNum : Sp := fun vs H Q _ => ∃ i n : Int, vs = [.int i, .int n] ∧ n ≤ i ∧ Q (.bl true) H
theorem sc26 : FnScope ["thing", "least"] ["thing", "least"] (defScope (topS 26)) := ⟨rfl, rfl, rfl, by decide +kernel, rfl, by decide +kernel, by decide +kernel⟩
theorem f_isNum (T : Top K mg cA cO cS cP) : Fn P w K mg base 1 "is_number" spIsNum := by
  refine fn_by T.dIsNum sc26 (fun vs H Q E h => ?_) (fun f cdv A outer s H vs Q E hr h => ?_)
  · obtain ⟨i, n, rfl, _⟩ := h
    rfl
  obtain ⟨i, n, rfl, h0, q⟩ := h
  refine ⟨_, pss_one (ps_ret (pe_and (pe_callB call_isi rfl T.bIsi boot_isinstance (pa_cons (pv 0) (pa_cons (pe_bltn (v := .ty "int") rfl T.bInt boot_int rfl) pa_nil)))
    (pe_and (pe_not (pe_callB call_isi rfl T.bIsi boot_isinstance (pa_cons (pv 0) (pa_cons (pe_bltn (v := .ty "bool") rfl T.bBool boot_bool rfl) pa_nil)))) (pe_one (pe_cmpR op_ge (pv 0) (pv 1) (nomark _)))))), ?_⟩
  refine ⟨_, rfl, _, _, _, _, true, rfl, .ty _, .base (.int i), kit_ty (by decide +kernel), true, rfl, iteT ?_⟩
  refine ⟨_, rfl, _, _, _, _, false, rfl, .ty _, .base (.int i), kit_ty (by decide +kernel), false, rfl, true, rfl, iteT ?_⟩
  refine ⟨_, rfl, _, rfl, _, _, rfl, rfl, ?_⟩
  have e : decide (i ≥ n) = true := decide_eq_true h0
  show Q (.bl (decide (i ≥ n))) H
  rw [e]
  exact q
theorem sc39 : FnScope ["word", "sign"] ["word"] (defScope (topS 39)) := ⟨rfl, rfl, rfl, by decide +kernel, rfl, by decide +kernel, by decide +kernel⟩
theorem f_numIn (T : Top K mg cA cO cS cP) : Fn P w K mg base 1 "number_in" spNumber := by
  refine fn_by T.dNumIn sc39 (fun vs H Q E h => ?_) (fun f cdv A outer s H vs Q E hr h => ?_)
  · obtain ⟨n, rfl, _⟩ := h
    rfl
  obtain ⟨n, rfl, hl, q⟩ := h
  have nd := sc39.nd
  refine ⟨_, pss_cons (ps_if (PW.pt (pw_or (pt_cmpR op_eq (pv 0) pe_str (nomark _)) (pw_or1 (pt_not (pt_val (pe_callB (cr_all rfl) rfl T.bAll boot_all (pa_cons
      (pe_lc (own := [("sign", 1)]) (g := gName 1) (tt := tYes) rfl nd (pi_str (pv 0)) (blkOk_by (N := ["word", "sign"]) (sc := defScope (topS 39)) (by decide +kernel)) (fun _ _ _ _ _ => pg_name (i := 1) nd rfl (Or.inl rfl)) (fun _ _ _ _ _ => pts_nil)
        (fun _ _ _ _ _ => pe_cmpR op_in_sign (pv 1) (pe_cs T.sFIGs rfl) rfl)) pa_nil)))))))
      (pss_one ps_never) pss_nil)
    (pss_one (ps_ret (pe_callTy call_int_str rfl T.bInt boot_int (pa_cons (pv 0) pa_nil)))), ?_⟩
  have he2 : ("" : Str) = S [] := lit "" (by decide +kernel)
  refine ⟨_, rfl, rfl, _, rfl, ?_⟩
  have eb : decide (V.str (S (numL n)) = V.str "") = false := by
    rw [he2, dec_str, decide_eq_false (numL_ne n)]
  show if decide (V.str (S (numL n)) = V.str "") = true then _ else _
  rw [eb]
  refine iteF ⟨_, rfl, _, rfl, fun D hD => lc_out walk_str ((List.replicate (numL n).length true).map V.bl) (by rw [List.length_map, List.length_replicate, S_size]) (by rw [S_size, sizeLine_eq]; omega) hD (fun _ _ => True.intro) ?_ ?_⟩
  · intro i x H2 H3 Nx hi g y nx
    obtain ⟨rfl, c, hc, rfl⟩ := y
    rw [S_size] at hi
    refine ⟨rfl, _, rfl, c, _, rfl, rfl, ?_⟩
    have hm := numL_digits n c (List.mem_of_getElem? (S_get hc))
    rw [fig_in hm]
    exact nx _ _ (trues_get hi) (Same.refl _)
  · intro H2 g2 e2
    refine ⟨D, _, rfl, SqL.of e2, ?_⟩
    rw [trues]
    refine ⟨true, rfl, iteF ?_⟩
    exact ⟨_, rfl, _, _, rfl, int_back n (by omega), (by rw [S_len]; omega), q _ g2⟩
end
end K24

set_option Elab.async false
set_option linter.all false
set_option maxRecDepth 100000
set_option maxHeartbeats 4000000
/-! K8: the methods of At and Over, the defs over a row: each by the depth. -/
namespace K24
open PySem PySem.Spec PyProof.Rows L2 TL SX

/-! ### sums and the greatest -/
def Fit (d : Nat) (t : Sh) : Prop := nest t < d ∧ good t ∧ pcs t ≤ 50
def FitR (d : Nat) (ps : List Sh) : Prop := nestR ps < d ∧ goodR ps ∧ pcsR ps ≤ 50
theorem FitR.mem {d : Nat} {ps : List Sh} (h : FitR d ps) {p : Sh} (hp : p ∈ ps) : Fit d p :=
  ⟨Nat.lt_of_le_of_lt (nestR_mem hp) h.1, goodR_mem h.2.1 p hp, Nat.le_trans (pcs_mem hp) h.2.2⟩
theorem Fit.row {d : Nat} {ps : List Sh} {n s : Int} (h : Fit (d + 1) (.ov ps n s)) : FitR d ps := by
  obtain ⟨h1, h2, h3⟩ := h
  rw [nest] at h1
  rw [pcs] at h3
  exact ⟨by omega, (ov_facts h2).2.1, by omega⟩
theorem FitR.len {d : Nat} {ps : List Sh} (h : FitR d ps) : ps.length ≤ 50 := Nat.le_trans (pcsR_len ps) h.2.2
theorem sum_cnt : ∀ ps : List Sh, (ps.map cnt).sum = cntR ps
  | [] => by rw [cntR]; rfl
  | p :: r => by rw [List.map_cons, List.sum_cons, sum_cnt r, cntR]
theorem sum_pcs : ∀ ps : List Sh, (ps.map fun p => (pcs p : Int)).sum = (pcsR ps : Int)
  | [] => by rw [pcsR]; rfl
  | p :: r => by rw [List.map_cons, List.sum_cons, sum_pcs r, pcsR, Int.natCast_add]
theorem nestR_has : ∀ {ps : List Sh}, ps ≠ [] → ∃ p ∈ ps, nest p = nestR ps
  | [p], _ => ⟨p, List.mem_cons_self, by rw [nestR, nestR]; omega⟩
  | p :: q :: r, _ => by
    obtain ⟨x, hx, e⟩ := nestR_has (ps := q :: r) (by simp)
    rw [nestR]
    by_cases h : nest p ≤ nestR (q :: r)
    · exact ⟨x, List.mem_cons_of_mem _ hx, by omega⟩
    · exact ⟨p, List.mem_cons_self, by omega⟩
theorem max_nest {ps : List Sh} (hn : ps ≠ []) {m : Int} (h1 : m ∈ ps.map fun p => (nest p : Int)) (h2 : ∀ y ∈ ps.map (fun p => (nest p : Int)), y ≤ m) : m = (nestR ps : Int) := by
  obtain ⟨p, hp, e⟩ := List.mem_map.mp h1
  obtain ⟨q, hq, eq⟩ := nestR_has hn
  have a := nestR_mem hp
  have b := h2 _ (List.mem_map.mpr ⟨q, hq, rfl⟩)
  omega
theorem cntR_len : ∀ {ps : List Sh}, goodR ps → cntR ps ≤ 1440 * (ps.length : Int)
  | [], _ => by rw [cntR]; simp
  | p :: r, h => by
    rw [goodR] at h
    have a := cnt_le h.1
    have b := cntR_len h.2
    rw [cntR, List.length_cons]
    omega
theorem FitR.moms {d : Nat} {ps : List Sh} (h : FitR d ps) : (momsR ps).length ≤ 72000 := by
  have a := momsR_cnt h.2.1
  have b := cntR_len h.2.1
  have c := h.len
  omega
theorem fst_nonneg {t : Sh} (h : good t) : 0 ≤ fst t := (sh_fact h).2.1
theorem map_get {α β : Type} {f : α → β} {ps : List α} {i : Nat} {p : α} (h : ps[i]? = some p) : (ps.map f)[i]? = some (f p) := by rw [List.getElem?_map, h]; rfl

/-! ### promises -/
def isPt : Sh → Bool
  | .pt _ => true
  | .ov _ _ _ => false
abbrev RSh := Sh → Hp → VK → Prop
abbrev RRow := List Sh → Hp → VK → Prop
/-- a value, the heap only grown -/
def RV (f : Sh → V) : RSh := fun t H Q => ∀ H1, Same H H1 → Q (f t) H1
def RVR (f : List Sh → V) : RRow := fun ps H Q => ∀ H1, Same H H1 → Q (f ps) H1
/-- a new list of numbers -/
def RL (f : Sh → List Int) : RSh := fun t H Q => ∀ l H1, Same H H1 → H l = none → H1 l = some (.lst ((f t).map V.int)) → Q (.ref l) H1
def RLR (f : List Sh → List Int) : RRow := fun ps H Q => ∀ l H1, Same H H1 → H l = none → H1 l = some (.lst ((f ps).map V.int)) → Q (.ref l) H1
section
variable (cA cO : Addr)
def spSh (d : Nat) (b : Bool) (R : RSh) : Sp := fun vs H Q _ => ∃ t a, vs = [.ref a] ∧ OS cA cO H t (.ref a) ∧ Fit d t ∧ isPt t = b ∧ R t H Q
def spRow (d : Nat) (R : RRow) : Sp := fun vs H Q _ => ∃ ps xs k, vs = [.ref k] ∧ H k = some (.tup xs) ∧ OSs cA cO H ps xs ∧ FitR d ps ∧ R ps H Q
/-- the method m of both classes -/
def Dis (P : Program) (w : World) (K : PySem.W.Frag) (mg : Str → Option Value) (base : Heap) (k : Nat) (m : Str) (d : Nat) (R : RSh) : Prop := Mt P w K mg base k cA m (spSh cA cO d true R) ∧ Mt P w K mg base k cO m (spSh cA cO d false R)
def tDis (d : Nat) (R : RSh) (ta : TE) : TE := fun σ H Q => ta σ H fun x H1 => ∃ t, OS cA cO H1 t x ∧ Fit d t ∧ R t H1 Q
end
theorem look1 {m : Str} {v : V} (h : ¬ m = "moment") : List.lookup m [(("moment" : Str), v)] = none := by
  have hb : (m == ("moment" : Str)) = false := beq_eq_false_iff_ne.mpr h
  simp only [List.lookup, hb]
theorem look3 {m : Str} {u v z : V} (h1 : ¬ m = "kept") (h2 : ¬ m = "many") (h3 : ¬ m = "step") : List.lookup m [(("kept" : Str), u), ("many", v), ("step", z)] = none := by
  have b1 : (m == ("kept" : Str)) = false := beq_eq_false_iff_ne.mpr h1
  have b2 : (m == ("many" : Str)) = false := beq_eq_false_iff_ne.mpr h2
  have b3 : (m == ("step" : Str)) = false := beq_eq_false_iff_ne.mpr h3
  simp only [List.lookup, b1, b2, b3]
theorem lookM {v : V} : List.lookup ("moment" : Str) [(("moment" : Str), v)] = some v := by simp [List.lookup]
theorem lookK {u v z : V} : List.lookup ("kept" : Str) [(("kept" : Str), u), ("many", v), ("step", z)] = some u := by simp [List.lookup]
theorem lookN {u v z : V} : List.lookup ("many" : Str) [(("kept" : Str), u), ("many", v), ("step", z)] = some v := by
  have b1 : (("many" : Str) == ("kept" : Str)) = false := by decide +kernel
  simp [List.lookup, b1]
theorem lookS {u v z : V} : List.lookup ("step" : Str) [(("kept" : Str), u), ("many", v), ("step", z)] = some z := by
  have b1 : (("step" : Str) == ("kept" : Str)) = false := by decide +kernel
  have b2 : (("step" : Str) == ("many" : Str)) = false := by decide +kernel
  simp [List.lookup, b1, b2]

section
variable {X : Cx} {cA cO cS cP : Addr} {j k : Nat} {m : Str} {d : Nat} {R : RSh} {o : Expr} {apos pos : Pos} {ta : TE}
theorem pe_dis {pl : Sem Bool} (c : Dis cA cO X.prog X.w X.K X.mg X.base k m d R) (T : Top X.K X.mg cA cO cS cP) (hr : Room j X.A) (hk : k ≤ j) (he : PE X o ta)
    (n0 : ¬ m = "moment" := by decide +kernel) (n1 : ¬ m = "kept" := by decide +kernel) (n2 : ¬ m = "many" := by decide +kernel) (n3 : ¬ m = "step" := by decide +kernel)
    (ht : eval (.Call (.Attribute o m apos) [] [] pos) X.env = (do
      let ov ← eval o X.env
      standAt apos.atName
      let (f, first) ← holding [ov] (getMethod ov m pl)
      callWith pos f first (backTo pos (starEach [] X.env)) (backToKw pos (keywordEach [] X.env))) := by rfl) :
    PE X (.Call (.Attribute o m apos) [] [] pos) (tDis cA cO d R ta) := by
  obtain ⟨⟨f1, fd1, ps1, M1, F1, B1⟩, ⟨f2, fd2, ps2, M2, F2, B2⟩⟩ := c
  constructor
  intro pins s σ H Q I h
  refine PySem.W.methodCall_KW (pl := pl) (thn (he.run pins s σ H _ I h) fun u s1 ⟨x, H1, I1, rx, t, ho, hf, q⟩ => ?_) ht
  cases t with
  | pt i =>
    have ho2 := ho
    rw [OS] at ho2
    obtain ⟨a, dx, rfl, ea⟩ := ho2
    cases (show u = Value.ref a from rx)
    refine getmeth_ok I1 ea T.clA M1 (look1 n0) (PySem.W.callWith_K0 (first := [.ref a]) I1.kIn M1.kp ?_)
    exact run_fn (E := E0) (us := [.ref a]) (vs := [.ref a]) F1 (hr.mono hk) B1 .nil pass0 I1 (.cons rfl .nil) ⟨.pt i, a, rfl, ho, hf, rfl, q⟩
  | ov ps n st =>
    have ho2 := ho
    rw [OS] at ho2
    obtain ⟨a, dx, b, vs, rfl, ea, _⟩ := ho2
    cases (show u = Value.ref a from rx)
    refine getmeth_ok I1 ea T.clO M2 (look3 n1 n2 n3) (PySem.W.callWith_K0 (first := [.ref a]) I1.kIn M2.kp ?_)
    exact run_fn (E := E0) (us := [.ref a]) (vs := [.ref a]) F2 (hr.mono hk) B2 .nil pass0 I1 (.cons rfl .nil) ⟨.ov ps n st, a, rfl, ho, hf, rfl, q⟩
/-- str(short) -/
theorem call_strSh {f : Sh → Str} (c : Dis cA cO X.prog X.w X.K X.mg X.base k "__str__" d (RV fun t => .str (f t))) (hr : Room j X.A) (hk : k + 1 ≤ j) :
    CallR X (.type "str") (fun xs H Q => ∃ t v, xs = [v] ∧ OS cA cO H t v ∧ Fit d t ∧ ∀ H1, Same H H1 → Q (.str (f t)) H1) := by
  obtain ⟨⟨f1, fd1, ps1, M1, F1, B1⟩, ⟨f2, fd2, ps2, M2, F2, B2⟩⟩ := c
  have r1 := call_strOwn (X := X) F1 (hr.mono hk) M1.at_ M1.fn B1
  have r2 := call_strOwn (X := X) F2 (hr.mono hk) M2.at_ M2.fn B2
  intro pins s σ H xs us Q I r h
  obtain ⟨t, v, rfl, ho, hf, q⟩ := h
  refine (r1.or r2) pins s σ H [v] us Q I r ?_
  cases t with
  | pt i =>
    have ho2 := ho
    rw [OS] at ho2
    obtain ⟨a, dx, rfl, ea⟩ := ho2
    exact .inl ⟨a, dx, _, rfl, ea, .pt i, a, rfl, ho, hf, rfl, fun H1 g => ⟨⟨_, rfl⟩, q H1 g⟩⟩
  | ov ps n st =>
    have ho2 := ho
    rw [OS] at ho2
    obtain ⟨a, dx, b, vs, rfl, ea, _⟩ := ho2
    exact .inr ⟨a, dx, _, rfl, ea, .ov ps n st, a, rfl, ho, hf, rfl, fun H1 g => ⟨⟨_, rfl⟩, q H1 g⟩⟩
end

/-- levels: a method at depth d, a def over a row at depth d -/
abbrev LM (d : Nat) : Nat := 3 * d + 8
abbrev LR (d : Nat) : Nat := 3 * d + 10

section
variable {P : Program} {w : World} {K : PySem.W.Frag} {mg : Str → Option Value} {base : Heap} {cA cO cS cP : Addr}

/-! ### the bodies of At -/
theorem scA1 : FnScope ["self"] ["self"] (defScope (inClass (topS 34) 1)) := ⟨rfl, rfl, rfl, by decide +kernel, rfl, by decide +kernel, by decide +kernel⟩
theorem scA2 : FnScope ["self"] ["self"] (defScope (inClass (topS 34) 2)) := ⟨rfl, rfl, rfl, by decide +kernel, rfl, by decide +kernel, by decide +kernel⟩
theorem scA3 : FnScope ["self"] ["self"] (defScope (inClass (topS 34) 3)) := ⟨rfl, rfl, rfl, by decide +kernel, rfl, by decide +kernel, by decide +kernel⟩
theorem scA4 : FnScope ["self"] ["self"] (defScope (inClass (topS 34) 4)) := ⟨rfl, rfl, rfl, by decide +kernel, rfl, by decide +kernel, by decide +kernel⟩
theorem scA5 : FnScope ["self"] ["self"] (defScope (inClass (topS 34) 5)) := ⟨rfl, rfl, rfl, by decide +kernel, rfl, by decide +kernel, by decide +kernel⟩
theorem scA6 : FnScope ["self"] ["self"] (defScope (inClass (topS 34) 6)) := ⟨rfl, rfl, rfl, by decide +kernel, rfl, by decide +kernel, by decide +kernel⟩
theorem scA7 : FnScope ["self"] ["self"] (defScope (inClass (topS 34) 7)) := ⟨rfl, rfl, rfl, by decide +kernel, rfl, by decide +kernel, by decide +kernel⟩
theorem at_open {d : Nat} {R : RSh} {vs : List V} {H : Hp} {Q : VK} {E : XK} (h : spSh cA cO d true R vs H Q E) : ∃ i a dx, vs = [.ref a] ∧ H a = some (.ins cA dx [("moment", .int i)]) ∧ Fit d (.pt i) ∧ R (.pt i) H Q := by
  obtain ⟨t, a, e, ho, hf, hp, q⟩ := h
  cases t with
  | pt i =>
    rw [OS] at ho
    obtain ⟨a2, dx, e2, ea⟩ := ho
    cases e2
    exact ⟨i, a, dx, e, ea, hf, q⟩
  | ov ps n s => cases hp
theorem ov_open {d : Nat} {R : RSh} {vs : List V} {H : Hp} {Q : VK} {E : XK} (h : spSh cA cO d false R vs H Q E) :
    ∃ ps n s a dx k xs, vs = [.ref a] ∧ H a = some (.ins cO dx [("kept", .ref k), ("many", .int n), ("step", .int s)]) ∧ H k = some (.tup xs) ∧ OSs cA cO H ps xs ∧ Fit d (.ov ps n s) ∧ R (.ov ps n s) H Q := by
  obtain ⟨t, a, e, ho, hf, hp, q⟩ := h
  cases t with
  | pt i => cases hp
  | ov ps n s =>
    rw [OS] at ho
    obtain ⟨a2, dx, k, xs, e2, ea, ek, hs⟩ := ho
    cases e2
    exact ⟨ps, n, s, a, dx, k, xs, e, ea, ek, hs, hf, q⟩
theorem sh_len {b : Bool} {d : Nat} {R : RSh} : ∀ vs H Q E, spSh cA cO d b R vs H Q E → vs.length = 1 := fun vs H Q E h => by
  obtain ⟨t, a, rfl, _⟩ := h
  rfl
theorem row_len {d : Nat} {R : RRow} : ∀ vs H Q E, spRow cA cO d R vs H Q E → vs.length = 1 := fun vs H Q E h => by
  obtain ⟨ps, xs, k, rfl, _⟩ := h
  rfl
theorem a_moms (T : Top K mg cA cO cS cP) (d : Nat) : Mt P w K mg base 1 cA "moments" (spSh cA cO d true (RL moms)) := by
  refine mt_by T.aMoms scA1 sh_len (fun f cdv A outer s H vs Q E hr h => ?_)
  obtain ⟨i, a, dx, rfl, ea, hf, q⟩ := at_open h
  refine ⟨_, pss_one (ps_ret (pe_lst (pa_cons (pe_fld (pv 0) rfl) pa_nil))), ?_⟩
  refine ⟨_, rfl, a, cA, dx, _, _, rfl, ea, T.clA, T.nMoment, lookM, (by show 1 ≤ sizeLine; decide), fun l hl => ?_⟩
  refine q l _ (same_upd hl _) hl ?_
  rw [upd_same, moms]
  rfl
theorem a_pcs (T : Top K mg cA cO cS cP) (d : Nat) : Mt P w K mg base 1 cA "pieces" (spSh cA cO d true (RV fun t => .int (pcs t : Nat))) := by
  refine mt_by T.aPcs scA2 sh_len (fun f cdv A outer s H vs Q E hr h => ?_)
  obtain ⟨i, a, dx, rfl, ea, hf, q⟩ := at_open h
  refine ⟨_, pss_one (ps_ret pe_int), ?_⟩
  have e : Q (.int ((pcs (.pt i) : Nat) : Int)) H := q H (Same.refl _)
  rw [pcs] at e
  exact e
theorem a_beg (T : Top K mg cA cO cS cP) (d : Nat) : Mt P w K mg base 1 cA "begins" (spSh cA cO d true (RV fun t => .int (fst t))) := by
  refine mt_by T.aBeg scA3 sh_len (fun f cdv A outer s H vs Q E hr h => ?_)
  obtain ⟨i, a, dx, rfl, ea, hf, q⟩ := at_open h
  refine ⟨_, pss_one (ps_ret (pe_fld (pv 0) rfl)), ?_⟩
  have e : Q (.int (fst (.pt i))) H := q H (Same.refl _)
  rw [fst] at e
  exact ⟨_, rfl, a, cA, dx, _, _, rfl, ea, T.clA, T.nMoment, lookM, e⟩
theorem a_end (T : Top K mg cA cO cS cP) (d : Nat) : Mt P w K mg base 1 cA "ends" (spSh cA cO d true (RV fun t => .int (lst t))) := by
  refine mt_by T.aEnd scA4 sh_len (fun f cdv A outer s H vs Q E hr h => ?_)
  obtain ⟨i, a, dx, rfl, ea, hf, q⟩ := at_open h
  refine ⟨_, pss_one (ps_ret (pe_fld (pv 0) rfl)), ?_⟩
  have e : Q (.int (lst (.pt i))) H := q H (Same.refl _)
  rw [lst] at e
  exact ⟨_, rfl, a, cA, dx, _, _, rfl, ea, T.clA, T.nMoment, lookM, e⟩
theorem a_many (T : Top K mg cA cO cS cP) (d : Nat) : Mt P w K mg base 1 cA "means_many" (spSh cA cO d true (RV fun t => .int (cnt t))) := by
  refine mt_by T.aMany scA5 sh_len (fun f cdv A outer s H vs Q E hr h => ?_)
  obtain ⟨i, a, dx, rfl, ea, hf, q⟩ := at_open h
  refine ⟨_, pss_one (ps_ret pe_int), ?_⟩
  have e : Q (.int (cnt (.pt i))) H := q H (Same.refl _)
  rw [cnt] at e
  exact e
theorem a_nest (T : Top K mg cA cO cS cP) (d : Nat) : Mt P w K mg base 1 cA "nested" (spSh cA cO d true (RV fun t => .int (nest t : Nat))) := by
  refine mt_by T.aNest scA6 sh_len (fun f cdv A outer s H vs Q E hr h => ?_)
  obtain ⟨i, a, dx, rfl, ea, hf, q⟩ := at_open h
  refine ⟨_, pss_one (ps_ret pe_int), ?_⟩
  have e : Q (.int ((nest (.pt i) : Nat) : Int)) H := q H (Same.refl _)
  rw [nest] at e
  exact e
theorem a_str (T : Top K mg cA cO cS cP) (d : Nat) : Mt P w K mg base 6 cA "__str__" (spSh cA cO d true (RV fun t => .str (S (word t)))) := by
  refine mt_by T.aStr scA7 sh_len (fun f cdv A outer s H vs Q E hr h => ?_)
  obtain ⟨i, a, dx, rfl, ea, hf, q⟩ := at_open h
  refine ⟨_, pss_one (ps_ret (pe_joined1 (pe_fmt (pe_fn (f_show T) hr (by decide) rfl (pa_cons (pe_fld (pv 0) rfl) pa_nil))))), ?_⟩
  have g := hf.2.1
  rw [good] at g
  refine ⟨_, rfl, a, cA, dx, _, _, rfl, ea, T.clA, T.nMoment, lookM, i, rfl, g.1, g.2, fun H1 g1 => .inl ⟨_, rfl, ?_, ?_⟩⟩
  · rw [S_len, sizeLine_eq]
    have := show_len g.2
    omega
  · have e : Q (.str (S (word (.pt i)))) H1 := q H1 g1
    rw [word] at e
    exact e

/-! ### the defs over a row -/
theorem sc30 : FnScope ["parts", "found", "one"] ["parts"] (defScope (topS 30)) := ⟨rfl, rfl, rfl, by decide +kernel, rfl, by decide +kernel, by decide +kernel⟩
theorem f_rowMoms (T : Top K mg cA cO cS cP) (d : Nat) (c : Dis cA cO P w K mg base (LM d) "moments" d (RL moms)) : Fn P w K mg base (LR d) "row_moments" (spRow cA cO d (RLR momsR)) := by
  refine Fn.mono (j := LM d + 1) (fn_by T.dRowMoms sc30 row_len (fun f cdv A outer s H vs Q E hr h => ?_)) (by show 3 * d + 8 + 1 ≤ 3 * d + 10; omega)
  obtain ⟨ps, xs, k, rfl, hk, hs, hf, q⟩ := h
  have nd := sc30.nd
  refine ⟨_, pss_cons (ps_set (i := 1) nd rfl (.inl rfl) (pe_lst pa_nil))
    (pss_cons (ps_for PassesOwn.never rfl (pi_tup (pv 0)) (pg_name (i := 2) nd rfl (.inl rfl)) (pss_one (ps_expr (pe_bm PySem.F.plainAttrs_list PySem.F.slot_list_extend PySem.F.type_list_extend mt_extend (pv 1) (pa_cons (pe_dis c T hr (Nat.le_refl _) (pv 2)) pa_nil)))))
    (pss_one (ps_ret (pv 1)))), ?_⟩
  refine ⟨by show 0 ≤ sizeLine; decide, fun r hr0 => ?_⟩
  have hl := hs.len
  have hk2 : upd H r (.lst []) k = some (.tup xs) := by
    rw [upd_ne (ne_of_none hk hr0)]
    exact hk
  refine ⟨_, rfl, k, rfl, ⟨xs, SqT.of hk2⟩, for_tup (xs := xs) (fun i σ H1 => ∃ v, σ = [some (.ref k), some (.ref r), v] ∧ Same H H1 ∧ H1 r = some (.lst ((momsR (ps.take i)).map V.int)))
    ⟨none, rfl, same_upd hr0 _, by rw [upd_same, List.take_zero, momsR]; rfl⟩ (fun i σ H1 _ ⟨_, _, g, _⟩ => SqT.of (g _ _ hk)) ?_ ?_⟩
  · rintro i x σ H1 hx ⟨v, rfl, g, er⟩
    obtain ⟨p, hp, op⟩ := hs.at_ hx
    have op1 := op.mono (same_imm g)
    have fp := hf.mem (getR hp)
    have n1 : H r = none := hr0
    refine ⟨_, rfl, .inl ⟨rfl, _, SqL.of er⟩, _, rfl, p, op1, fp, fun l H2 g2 hl0 el => ?_⟩
    have er2 := g2 _ _ er
    have mm : momsR (ps.take (i + 1)) = momsR (ps.take i) ++ moms p := by
      rw [List.take_add_one, hp]
      have app : ∀ as bs : List Sh, momsR (as ++ bs) = momsR as ++ momsR bs := by
        intro as bs
        induction as with
        | nil => rw [momsR]; rfl
        | cons a as ih => rw [List.cons_append, momsR, momsR, ih, List.append_assoc]
      rw [app]
      show _ ++ momsR [p] = _
      rw [momsR, momsR, List.append_nil]
    have hsz := hf.moms
    have hle : (momsR (ps.take (i + 1))).length ≤ (momsR ps).length := by
      have app : ∀ as bs : List Sh, (momsR (as ++ bs)).length = (momsR as).length + (momsR bs).length := by
        intro as bs
        induction as with
        | nil => rw [momsR]; simp
        | cons a as ih => rw [List.cons_append, momsR, momsR, List.length_append, List.length_append, ih]; omega
      have e := app (ps.take (i + 1)) (ps.drop (i + 1))
      rw [List.take_append_drop] at e
      omega
    refine ⟨r, l, _, _, rfl, rfl, er2, el, ?_, _, rfl, same_put (g.trans g2) n1 _, ?_⟩
    · rw [List.length_map, List.length_map, sizeLine_eq]
      rw [mm, List.length_append] at hle
      omega
    · rw [upd_same, mm, List.map_append]
  · rintro σ H1 ⟨v, rfl, g, er⟩
    rw [List.take_of_length_le (by omega)] at er
    exact ⟨_, rfl, q r H1 g hr0 er⟩
theorem sc31 : FnScope ["parts", "one"] ["parts"] (defScope (topS 31)) := ⟨rfl, rfl, rfl, by decide +kernel, rfl, by decide +kernel, by decide +kernel⟩
theorem f_rowMany (T : Top K mg cA cO cS cP) (d : Nat) (c : Dis cA cO P w K mg base (LM d) "means_many" d (RV fun t => .int (cnt t))) : Fn P w K mg base (LR d) "row_many" (spRow cA cO d (RVR fun ps => .int (cntR ps))) := by
  refine Fn.mono (j := LM d + 1) (fn_by T.dRowMany sc31 row_len (fun f cdv A outer s H vs Q E hr h => ?_)) (by show 3 * d + 8 + 1 ≤ 3 * d + 10; omega)
  obtain ⟨ps, xs, k, rfl, hk, hs, hf, q⟩ := h
  have nd := sc31.nd
  refine ⟨_, pss_one (ps_ret (pe_callB (cr_sum rfl) rfl T.bSum boot_sum (pa_cons
    (pe_lc (own := [("one", 1)]) (g := gName 1) (tt := tYes) rfl nd (pi_tup (pv 0)) (blkOk_by (N := ["parts", "one"]) (sc := defScope (topS 31)) (by decide +kernel)) (fun _ _ _ _ _ => pg_name (i := 1) nd rfl (Or.inl rfl)) (fun _ _ _ _ _ => pts_nil)
      (fun _ _ _ _ _ => pe_dis c T hr (Nat.le_refl _) (pv 1))) pa_nil))), ?_⟩
  have hl := hs.len
  refine ⟨_, rfl, k, rfl, ⟨xs, SqT.of hk⟩, fun D hD => lc_out (walk_tup (xs := xs)) ((ps.map cnt).map V.int) (by rw [List.length_map, List.length_map]; exact hl.symm) (by have := hf.len; rw [sizeLine_eq]; omega) hD (fun H1 g => SqT.of (g _ _ hk)) ?_ ?_⟩
  · intro i x H2 H3 Nx hi g y nx
    obtain ⟨rfl, hx⟩ := y
    obtain ⟨p, hp, op⟩ := hs.at_ hx
    exact ⟨rfl, _, rfl, p, op.mono (same_imm g), hf.mem (getR hp), fun H4 g4 => nx _ _ (map_get (map_get hp)) g4⟩
  · intro H2 g2 e2
    refine ⟨D, ps.map cnt, rfl, SqL.of e2, ?_⟩
    rw [sum_cnt]
    exact q _ g2
theorem sc32 : FnScope ["parts", "one"] ["parts"] (defScope (topS 32)) := ⟨rfl, rfl, rfl, by decide +kernel, rfl, by decide +kernel, by decide +kernel⟩
theorem f_rowPcs (T : Top K mg cA cO cS cP) (d : Nat) (c : Dis cA cO P w K mg base (LM d) "pieces" d (RV fun t => .int (pcs t : Nat))) : Fn P w K mg base (LR d) "row_pieces" (spRow cA cO d (RVR fun ps => .int (pcsR ps : Nat))) := by
  refine Fn.mono (j := LM d + 1) (fn_by T.dRowPcs sc32 row_len (fun f cdv A outer s H vs Q E hr h => ?_)) (by show 3 * d + 8 + 1 ≤ 3 * d + 10; omega)
  obtain ⟨ps, xs, k, rfl, hk, hs, hf, q⟩ := h
  have nd := sc32.nd
  refine ⟨_, pss_one (ps_ret (pe_callB (cr_sum rfl) rfl T.bSum boot_sum (pa_cons
    (pe_lc (own := [("one", 1)]) (g := gName 1) (tt := tYes) rfl nd (pi_tup (pv 0)) (blkOk_by (N := ["parts", "one"]) (sc := defScope (topS 32)) (by decide +kernel)) (fun _ _ _ _ _ => pg_name (i := 1) nd rfl (Or.inl rfl)) (fun _ _ _ _ _ => pts_nil)
      (fun _ _ _ _ _ => pe_dis c T hr (Nat.le_refl _) (pv 1))) pa_nil))), ?_⟩
  have hl := hs.len
  refine ⟨_, rfl, k, rfl, ⟨xs, SqT.of hk⟩, fun D hD => lc_out (walk_tup (xs := xs)) ((ps.map fun p => (pcs p : Int)).map V.int) (by rw [List.length_map, List.length_map]; exact hl.symm) (by have := hf.len; rw [sizeLine_eq]; omega) hD (fun H1 g => SqT.of (g _ _ hk)) ?_ ?_⟩
  · intro i x H2 H3 Nx hi g y nx
    obtain ⟨rfl, hx⟩ := y
    obtain ⟨p, hp, op⟩ := hs.at_ hx
    exact ⟨rfl, _, rfl, p, op.mono (same_imm g), hf.mem (getR hp), fun H4 g4 => nx _ _ (map_get (map_get (f := fun p => (pcs p : Int)) hp)) g4⟩
  · intro H2 g2 e2
    refine ⟨D, ps.map fun p => (pcs p : Int), rfl, SqL.of e2, ?_⟩
    rw [sum_pcs]
    exact q _ g2
theorem sc33 : FnScope ["parts", "one"] ["parts"] (defScope (topS 33)) := ⟨rfl, rfl, rfl, by decide +kernel, rfl, by decide +kernel, by decide +kernel⟩
theorem sum_len : ∀ {ps : List Sh}, goodR ps → (ps.map fun p => (word p).length).sum ≤ 200 * pcsR ps
  | [], _ => by rw [pcsR]; simp
  | p :: r, h => by
    rw [goodR] at h
    have a := word_len h.1
    have b := sum_len h.2
    rw [List.map_cons, List.sum_cons, pcsR]
    omega
theorem f_rowText (T : Top K mg cA cO cS cP) (d : Nat) (c : Dis cA cO P w K mg base (LM d) "__str__" d (RV fun t => .str (S (word t)))) : Fn P w K mg base (LR d) "row_text" (spRow cA cO d (RVR fun ps => .str (S (rowTxt ps)))) := by
  refine fn_by (k := LM d + 1) T.dRowText sc33 row_len (fun f cdv A outer s H vs Q E hr h => ?_)
  obtain ⟨ps, xs, k, rfl, hk, hs, hf, q⟩ := h
  have nd := sc33.nd
  refine ⟨_, pss_cons (ps_if (pt_cmpR op_eq (pe_callB call_len_seq rfl T.bLen PySem.boot_len (pa_cons (pv 0) pa_nil)) pe_int (nomark _)) (pss_one (ps_ret (pe_cs T.sNOP rfl))) pss_nil)
    (pss_one (ps_ret (pe_bm PySem.F.plainAttrs_str PySem.F.slot_str_join PySem.F.type_str_join mt_join pe_str (pa_cons
    (pe_lc (own := [("one", 1)]) (g := gName 1) (tt := tYes) rfl nd (pi_tup (pv 0)) (blkOk_by (N := ["parts", "one"]) (sc := defScope (topS 33)) (by decide +kernel)) (fun _ _ _ _ _ => pg_name (i := 1) nd rfl (Or.inl rfl)) (fun _ _ _ _ _ => pts_nil)
      (fun _ _ _ _ _ => pe_callTy (call_strSh c hr (Nat.le_refl _)) rfl T.bStr boot_str (pa_cons (pv 1) pa_nil))) pa_nil)))), ?_⟩
  have hl := hs.len
  have e0 : ("-" : Str) = S [45] := lit "-" (by decide +kernel)
  have e1 : (", " : Str) = S [44, 32] := lit ", " (by decide +kernel)
  refine ⟨_, rfl, k, xs, rfl, .inr (SqT.of hk), rfl, _, rfl, ?_⟩
  by_cases hp : ps = []
  · have z : decide (V.int ((xs.length : Nat) : Int) = V.int 0) = true := by
      rw [hl, hp]
      rfl
    show if decide (V.int ((xs.length : Nat) : Int) = V.int 0) = true then _ else _
    rw [z]
    refine iteT ?_
    have e := q H (Same.refl _)
    rw [hp] at e
    rw [e0]
    exact e
  · have hlen : 0 < ps.length := List.length_pos_iff.mpr hp
    have z : decide (V.int ((xs.length : Nat) : Int) = V.int 0) = false := decide_eq_false fun e => by
      injection e with e2
      omega
    show if decide (V.int ((xs.length : Nat) : Int) = V.int 0) = true then _ else _
    rw [z]
    refine iteF ⟨rfl, ?_⟩
    refine ⟨_, rfl, k, rfl, ⟨xs, SqT.of hk⟩, fun D hD => lc_out (walk_tup (xs := xs)) ((ps.map fun p => S (word p)).map V.str) (by rw [List.length_map, List.length_map]; exact hl.symm) (by have := hf.len; rw [sizeLine_eq]; omega) hD (fun H1 g => SqT.of (g _ _ hk)) ?_ ?_⟩
    · intro i x H2 H3 Nx hi g y nx
      obtain ⟨rfl, hx⟩ := y
      obtain ⟨p, hp2, op⟩ := hs.at_ hx
      exact ⟨rfl, _, rfl, p, _, rfl, op.mono (same_imm g), hf.mem (getR hp2), fun H4 g4 => nx _ _ (map_get (map_get (f := fun p => S (word p)) hp2)) g4⟩
    · intro H2 g2 e2
      refine ⟨_, D, ps.map fun p => S (word p), rfl, rfl, .inl (SqL.of e2), ?_, ?_⟩
      · have a := sum_len hf.2.1
        have b := hf.2.2
        have c := hf.len
        have es : ((ps.map fun p => S (word p)).map (·.length)) = ps.map fun p => (word p).length := by
          rw [List.map_map]
          exact List.map_congr_left fun p _ => S_len _
        rw [es, e1, S_len, List.length_map]
        show _ + _ * 2 ≤ _
        omega
      · have ej : Txt.join ", " (ps.map fun p => S (word p)) = S (rowTxt ps) := by
          have em : (ps.map fun p => S (word p)) = (ps.map word).map S := by rw [List.map_map]; rfl
          rw [em, e1, join_S, ← textR_join]
          unfold rowTxt
          rw [if_neg hp]
        rw [ej]
        exact q _ g2
end
end K24

set_option Elab.async false
set_option linter.all false
set_option maxRecDepth 100000
set_option maxHeartbeats 4000000
/-! K9: the methods of Over, and all of them at every depth. -/
namespace K24
open PySem PySem.Spec PyProof.Rows L2 TL SX
section
variable {P : Program} {w : World} {K : PySem.W.Frag} {mg : Str → Option Value} {base : Heap} {cA cO cS cP : Addr}

theorem scO1 : FnScope ["self"] ["self"] (defScope (inClass (topS 35) 1)) := ⟨rfl, rfl, rfl, by decide +kernel, rfl, by decide +kernel, by decide +kernel⟩
theorem scO2 : FnScope ["self", "own", "found", "time", "moment"] ["self"] (defScope (inClass (topS 35) 2)) := ⟨rfl, rfl, rfl, by decide +kernel, rfl, by decide +kernel, by decide +kernel⟩
theorem scO3 : FnScope ["self"] ["self"] (defScope (inClass (topS 35) 3)) := ⟨rfl, rfl, rfl, by decide +kernel, rfl, by decide +kernel, by decide +kernel⟩
theorem scO4 : FnScope ["self"] ["self"] (defScope (inClass (topS 35) 4)) := ⟨rfl, rfl, rfl, by decide +kernel, rfl, by decide +kernel, by decide +kernel⟩
theorem scO5 : FnScope ["self"] ["self"] (defScope (inClass (topS 35) 5)) := ⟨rfl, rfl, rfl, by decide +kernel, rfl, by decide +kernel, by decide +kernel⟩
theorem scO6 : FnScope ["self"] ["self"] (defScope (inClass (topS 35) 6)) := ⟨rfl, rfl, rfl, by decide +kernel, rfl, by decide +kernel, by decide +kernel⟩
theorem scO7 : FnScope ["self", "one"] ["self"] (defScope (inClass (topS 35) 7)) := ⟨rfl, rfl, rfl, by decide +kernel, rfl, by decide +kernel, by decide +kernel⟩
theorem scO8 : FnScope ["self"] ["self"] (defScope (inClass (topS 35) 8)) := ⟨rfl, rfl, rfl, by decide +kernel, rfl, by decide +kernel, by decide +kernel⟩

/-- the first and the last of a row -/
theorem row_first {ps : List Sh} (h : ps ≠ []) : ∃ p, ps[0]? = some p ∧ fstR ps = fst p := by
  cases ps with
  | nil => exact absurd rfl h
  | cons p r => exact ⟨p, rfl, by rw [fstR]⟩
theorem row_last {ps : List Sh} (h : ps ≠ []) : ∃ qs p, ps = qs ++ [p] ∧ lstR ps = lst p := by
  have e := (List.dropLast_concat_getLast h).symm
  exact ⟨ps.dropLast, ps.getLast h, e, by conv => lhs; rw [e, lstR_snoc]⟩
theorem snoc_vals {H : Hp} : ∀ {qs : List Sh} {p : Sh} {xs : List V}, OSs cA cO H (qs ++ [p]) xs → ∃ ys v, xs = ys ++ [v] ∧ OSs cA cO H qs ys ∧ OS cA cO H p v
  | [], p, xs, h => by
    have h : OSs cA cO H [p] xs := h
    rw [OSs] at h
    obtain ⟨v, w, e, h1, h2⟩ := h
    rw [OSs] at h2
    refine ⟨[], v, by rw [e, h2]; rfl, by rw [OSs], h1⟩
  | q :: r, p, xs, h => by
    have h : OSs cA cO H (q :: (r ++ [p])) xs := h
    rw [OSs] at h
    obtain ⟨v, w, e, h1, h2⟩ := h
    obtain ⟨ys, u, e2, h3, h4⟩ := snoc_vals (qs := r) h2
    refine ⟨v :: ys, u, by rw [e, e2]; rfl, ?_, h4⟩
    rw [OSs]
    exact ⟨v, ys, rfl, h1, h3⟩

theorem o_pcs (T : Top K mg cA cO cS cP) (d : Nat) (c : Fn P w K mg base (LR d) "row_pieces" (spRow cA cO d (RVR fun ps => .int (pcsR ps : Nat)))) : Mt P w K mg base (LM (d + 1)) cO "pieces" (spSh cA cO (d + 1) false (RV fun t => .int (pcs t : Nat))) := by
  refine mt_by (k := LR d) T.oPcs scO3 sh_len (fun f cdv A outer s H vs Q E hr h => ?_)
  obtain ⟨ps, n, st, a, dx, k, xs, rfl, ea, ek, hs, hf, q⟩ := ov_open h
  refine ⟨_, pss_one (ps_ret (pe_op op_add pe_int (pe_fn c hr (Nat.le_refl _) rfl (pa_cons (pe_fld (pv 0) rfl) pa_nil)))), ?_⟩
  refine ⟨_, rfl, a, cO, dx, _, _, rfl, ea, T.clO, T.nKept, lookK, ps, xs, k, rfl, ek, hs, hf.row, fun H1 g1 => ⟨_, _, rfl, rfl, ?_⟩⟩
  have e : Q (.int ((pcs (.ov ps n st) : Nat) : Int)) H1 := q H1 g1
  rw [pcs] at e
  have e2 : (1 : Int) + ((pcsR ps : Nat) : Int) = ((pcsR ps + 1 : Nat) : Int) := by omega
  show Q (.int ((1 : Int) + ((pcsR ps : Nat) : Int))) H1
  rw [e2]
  exact e
theorem o_many (T : Top K mg cA cO cS cP) (d : Nat) (c : Fn P w K mg base (LR d) "row_many" (spRow cA cO d (RVR fun ps => .int (cntR ps)))) : Mt P w K mg base (LM (d + 1)) cO "means_many" (spSh cA cO (d + 1) false (RV fun t => .int (cnt t))) := by
  refine mt_by (k := LR d) T.oMany scO6 sh_len (fun f cdv A outer s H vs Q E hr h => ?_)
  obtain ⟨ps, n, st, a, dx, k, xs, rfl, ea, ek, hs, hf, q⟩ := ov_open h
  have o := ov_facts hf.2.1
  refine ⟨_, pss_one (ps_ret (pe_op op_mul (pe_fld (pv 0) rfl) (pe_fn c hr (Nat.le_refl _) rfl (pa_cons (pe_fld (pv 0) rfl) pa_nil)))), ?_⟩
  refine ⟨_, rfl, a, cO, dx, _, _, rfl, ea, T.clO, T.nMany, lookN, _, rfl, a, cO, dx, _, _, rfl, ea, T.clO, T.nKept, lookK, ps, xs, k, rfl, ek, hs, hf.row, fun H1 g1 => ⟨_, _, rfl, rfl, .inl ⟨by omega, by omega⟩, ?_⟩⟩
  have e : Q (.int (cnt (.ov ps n st))) H1 := q H1 g1
  rw [cnt] at e
  exact e
theorem o_str (T : Top K mg cA cO cS cP) (d : Nat) (c : Fn P w K mg base (LR d) "row_text" (spRow cA cO d (RVR fun ps => .str (S (rowTxt ps))))) : Mt P w K mg base (LM (d + 1)) cO "__str__" (spSh cA cO (d + 1) false (RV fun t => .str (S (word t)))) := by
  refine mt_by (k := LR d) T.oStr scO8 sh_len (fun f cdv A outer s H vs Q E hr h => ?_)
  obtain ⟨ps, n, st, a, dx, k, xs, rfl, ea, ek, hs, hf, q⟩ := ov_open h
  have o := ov_facts hf.2.1
  refine ⟨_, pss_one (ps_ret (pe_joined (.cons pe_str (.cons (pe_fmt (pe_fn c hr (Nat.le_refl _) rfl (pa_cons (pe_fld (pv 0) rfl) pa_nil))) (.cons pe_str (.cons (pe_fmt (pe_fld (pv 0) rfl)) (.cons pe_str (.cons (pe_fmt (pe_fld (pv 0) rfl)) .nil)))))))), ?_⟩
  have e1 : ("(" : Str) = S [40] := lit "(" (by decide +kernel)
  have e2 : (") x" : Str) = S [41, 32, 120] := lit ") x" (by decide +kernel)
  have e3 : (" +" : Str) = S [32, 43] := lit " +" (by decide +kernel)
  have e0 : (Str.empty : Str) = S [] := rfl
  have r0 : rowTxt ps = textR ps := by
    unfold rowTxt
    rw [if_neg o.1]
  have lt := textR_len o.2.1
  have l50 := hf.row.2.2
  have ln : (numL n.toNat).length ≤ 4 := numL_len (by decide) (by omega)
  have ls : (numL st.toNat).length ≤ 90 := num_len o.2.2.2.2.2.2.1
  have bigger : (1441 : Int) < BIG := by decide +kernel
  refine ⟨_, rfl, ?_, ?_⟩
  · rw [e0, e1, S_cat, S_len, sizeLine_eq]
    decide
  refine ⟨_, rfl, a, cO, dx, _, _, rfl, ea, T.clO, T.nKept, lookK, ps, xs, k, rfl, ek, hs, hf.row, fun H1 g1 => .inl ⟨_, rfl, ?_, _, rfl, ?_, ?_⟩⟩
  · rw [S_len, r0, sizeLine_eq]
    omega
  · rw [e0, e1, S_cat, S_cat, S_len, r0, sizeLine_eq]
    simp only [List.length_append, List.length_cons, List.length_nil]
    omega
  have ea1 := g1 _ _ ea
  refine ⟨_, rfl, ?_, ?_⟩
  · rw [e0, e1, e2, S_cat, S_cat, S_cat, S_len, r0, sizeLine_eq]
    simp only [List.length_append, List.length_cons, List.length_nil]
    omega
  refine ⟨_, rfl, a, cO, dx, _, _, rfl, ea1, T.clO, T.nMany, lookN, .inr ⟨n, rfl, log_ok (by omega) (by omega), _, rfl, ?_, ?_⟩⟩
  · rw [e0, e1, e2, str_num (by omega), S_cat, S_cat, S_cat, S_cat, S_len, r0, sizeLine_eq]
    simp only [List.length_append, List.length_cons, List.length_nil]
    omega
  refine ⟨_, rfl, ?_, ?_⟩
  · rw [e0, e1, e2, e3, str_num (by omega), S_cat, S_cat, S_cat, S_cat, S_cat, S_len, r0, sizeLine_eq]
    simp only [List.length_append, List.length_cons, List.length_nil]
    omega
  refine ⟨_, rfl, a, cO, dx, _, _, rfl, ea1, T.clO, T.nStep, lookS, .inr ⟨st, rfl, log_ok (by omega) (by omega), _, rfl, ?_, ?_⟩⟩
  · rw [e0, e1, e2, e3, str_num (i := n) (by omega), str_num (i := st) (by omega), S_cat, S_cat, S_cat, S_cat, S_cat, S_cat, S_len, r0, sizeLine_eq]
    simp only [List.length_append, List.length_cons, List.length_nil]
    omega
  have e : Q (.str (S (word (.ov ps n st)))) H1 := q H1 g1
  rw [word] at e
  show Q (.str _) H1
  rw [e0, e1, e2, e3, str_num (i := n) (by omega), str_num (i := st) (by omega), S_cat, S_cat, S_cat, S_cat, S_cat, S_cat, r0]
  have ef : (((((([] ++ [40]) ++ textR ps) ++ [41, 32, 120]) ++ numL n.toNat) ++ [32, 43]) ++ numL st.toNat) = [40] ++ (textR ps ++ ([41, 32, 120] ++ (numL n.toNat ++ ([32, 43] ++ numL st.toNat)))) := by
    simp
  rw [ef]
  exact e
theorem o_beg (T : Top K mg cA cO cS cP) (d : Nat) (c : Dis cA cO P w K mg base (LM d) "begins" d (RV fun t => .int (fst t))) : Mt P w K mg base (LM (d + 1)) cO "begins" (spSh cA cO (d + 1) false (RV fun t => .int (fst t))) := by
  refine Mt.mono (j := LM d + 1) (mt_by T.oBeg scO4 sh_len (fun f cdv A outer s H vs Q E hr h => ?_)) (by show 3 * d + 8 + 1 ≤ 3 * (d + 1) + 8; omega)
  obtain ⟨ps, n, st, a, dx, k, xs, rfl, ea, ek, hs, hf, q⟩ := ov_open h
  have o := ov_facts hf.2.1
  refine ⟨_, pss_one (ps_ret (pe_dis c T hr (Nat.le_refl _) (pe_ix ix_tup (pe_fld (pv 0) rfl) pe_int (fun _ _ => rfl)))), ?_⟩
  obtain ⟨p, hp, ef⟩ := row_first o.1
  have hl := hs.len
  have h0 : 0 < xs.length := by
    rw [hl]
    exact List.length_pos_iff.mpr o.1
  have hx : xs[0]? = some xs[0] := List.getElem?_eq_getElem h0
  obtain ⟨p2, hp2, op⟩ := hs.at_ hx
  rw [hp] at hp2
  cases hp2
  refine ⟨_, rfl, a, cO, dx, _, _, rfl, ea, T.clO, T.nKept, lookK, k, xs, 0, xs[0], rfl, rfl, SqT.of ek, atI_nat hx, p, op, hf.row.mem (getR hp), fun H1 g1 => ?_⟩
  have e : Q (.int (fst (.ov ps n st))) H1 := q H1 g1
  rw [fst, ef] at e
  exact e
theorem o_end (T : Top K mg cA cO cS cP) (d : Nat) (c : Dis cA cO P w K mg base (LM d) "ends" d (RV fun t => .int (lst t))) : Mt P w K mg base (LM (d + 1)) cO "ends" (spSh cA cO (d + 1) false (RV fun t => .int (lst t))) := by
  refine Mt.mono (j := LM d + 1) (mt_by T.oEnd scO5 sh_len (fun f cdv A outer s H vs Q E hr h => ?_)) (by show 3 * d + 8 + 1 ≤ 3 * (d + 1) + 8; omega)
  obtain ⟨ps, n, st, a, dx, k, xs, rfl, ea, ek, hs, hf, q⟩ := ov_open h
  have o := ov_facts hf.2.1
  refine ⟨_, pss_one (ps_ret (pe_op op_add (pe_dis c T hr (Nat.le_refl _) (pe_ix ix_tup (pe_fld (pv 0) rfl) (pe_un un_neg pe_int) (fun _ _ => rfl))) (pe_op op_mul (pe_op op_sub (pe_fld (pv 0) rfl) pe_int) (pe_fld (pv 0) rfl)))), ?_⟩
  obtain ⟨qs, p, eps, el⟩ := row_last o.1
  have hs2 := hs
  rw [eps] at hs2
  obtain ⟨ys, v, exs, _, op⟩ := snoc_vals hs2
  have hp : p ∈ ps := by
    rw [eps]
    exact List.mem_append_right _ List.mem_cons_self
  refine ⟨_, rfl, a, cO, dx, _, _, rfl, ea, T.clO, T.nKept, lookK, 1, rfl, k, xs, -1, v, rfl, rfl, SqT.of ek, ?_, p, op, hf.row.mem hp, fun H1 g1 => ?_⟩
  · rw [exs]
    exact atI_last ys v
  have ea1 := g1 _ _ ea
  refine ⟨_, rfl, a, cO, dx, _, _, rfl, ea1, T.clO, T.nMany, lookN, _, _, rfl, rfl, _, rfl, a, cO, dx, _, _, rfl, ea1, T.clO, T.nStep, lookS, _, _, rfl, rfl, .inl ⟨by omega, by omega⟩, _, _, rfl, rfl, ?_⟩
  have e : Q (.int (lst (.ov ps n st))) H1 := q H1 g1
  rw [lst, el] at e
  exact e
theorem o_nest (T : Top K mg cA cO cS cP) (d : Nat) (c : Dis cA cO P w K mg base (LM d) "nested" d (RV fun t => .int (nest t : Nat))) : Mt P w K mg base (LM (d + 1)) cO "nested" (spSh cA cO (d + 1) false (RV fun t => .int (nest t : Nat))) := by
  refine Mt.mono (j := LM d + 1) (mt_by T.oNest scO7 sh_len (fun f cdv A outer s H vs Q E hr h => ?_)) (by show 3 * d + 8 + 1 ≤ 3 * (d + 1) + 8; omega)
  obtain ⟨ps, n, st, a, dx, k, xs, rfl, ea, ek, hs, hf, q⟩ := ov_open h
  have o := ov_facts hf.2.1
  have nd := scO7.nd
  have fr := hf.row
  refine ⟨_, pss_one (ps_ret (pe_op op_add pe_int (pe_callB (cr_max rfl) rfl T.bMax boot_max (pa_cons
    (pe_lc (own := [("one", 1)]) (g := gName 1) (tt := tYes) rfl nd (pi_tup (pe_fld (pv 0) rfl)) (blkOk_by (N := ["self", "one"]) (sc := defScope (inClass (topS 35) 7)) (by decide +kernel)) (fun _ _ _ _ _ => pg_name (i := 1) nd rfl (Or.inl rfl)) (fun _ _ _ _ _ => pts_nil)
      (fun _ _ _ _ _ => pe_dis c T hr (Nat.le_refl _) (pv 1))) pa_nil)))), ?_⟩
  have hl := hs.len
  refine ⟨_, rfl, a, cO, dx, _, _, rfl, ea, T.clO, T.nKept, lookK, k, rfl, ⟨xs, SqT.of ek⟩, fun D hD => lc_out (walk_tup (xs := xs)) ((ps.map fun p => (nest p : Int)).map V.int) (by rw [List.length_map, List.length_map]; exact hl.symm) (by have := fr.len; rw [sizeLine_eq]; omega) hD (fun H1 g => SqT.of (g _ _ ek)) ?_ ?_⟩
  · intro i x H2 H3 Nx hi g y nx
    obtain ⟨rfl, hx⟩ := y
    obtain ⟨p, hp, op⟩ := hs.at_ hx
    exact ⟨rfl, _, rfl, p, op.mono (same_imm g), fr.mem (getR hp), fun H4 g4 => nx _ _ (map_get (map_get (f := fun p => (nest p : Int)) hp)) g4⟩
  · intro H2 g2 e2
    refine ⟨D, ps.map fun p => (nest p : Int), rfl, SqL.of e2, by rw [List.length_map]; exact List.length_pos_iff.mpr o.1, fun m hm hge => ⟨_, _, rfl, rfl, ?_⟩⟩
    rw [max_nest o.1 hm hge]
    have e : Q (.int ((nest (.ov ps n st) : Nat) : Int)) H2 := q H2 g2
    rw [nest] at e
    have e2 : (1 : Int) + ((nestR ps : Nat) : Int) = ((nestR ps + 1 : Nat) : Int) := by omega
    show Q (.int ((1 : Int) + ((nestR ps : Nat) : Int))) H2
    rw [e2]
    exact e
theorem times_le (l : List Int) (s : Int) (i n : Nat) (h : i ≤ n) : (times l s i).length ≤ (times l s n).length := by
  rw [times_length, times_length]
  exact Nat.mul_le_mul_right _ h
theorem o_moms (T : Top K mg cA cO cS cP) (d : Nat) (c : Fn P w K mg base (LR d) "row_moments" (spRow cA cO d (RLR momsR))) : Mt P w K mg base (LM (d + 1)) cO "moments" (spSh cA cO (d + 1) false (RL moms)) := by
  refine mt_by (k := LR d) T.oMoms scO2 sh_len (fun f cdv A outer s H vs Q E hr h => ?_)
  obtain ⟨ps, n, st, a, dx, k, xs, rfl, ea, ek, hs, hf, q⟩ := ov_open h
  have o := ov_facts hf.2.1
  have nd := scO2.nd
  have hcnt := moms_cnt hf.2.1
  rw [moms, cnt] at hcnt
  refine ⟨_, pss_cons (ps_set (i := 1) nd rfl (.inl rfl) (pe_fn c hr (Nat.le_refl _) rfl (pa_cons (pe_fld (pv 0) rfl) pa_nil)))
    (pss_cons (ps_set (i := 2) nd rfl (.inl rfl) (pe_lst pa_nil))
    (pss_cons (ps_for PassesOwn.never rfl (pi_range1 rfl T.bRange (pa_cons (pe_fld (pv 0) rfl) pa_nil)) (pg_name (i := 3) nd rfl (.inr rfl))
      (pss_one (ps_expr (pe_bm PySem.F.plainAttrs_list PySem.F.slot_list_extend PySem.F.type_list_extend mt_extend (pv 2) (pa_cons
        (pe_lc (own := [("moment", 4)]) (g := gName 4) (tt := tYes) rfl nd (pi_list (pv 1)) (blkOk_by (N := ["self", "own", "found", "time", "moment"]) (sc := defScope (inClass (topS 35) 2)) (by decide +kernel)) (fun _ _ _ _ _ => pg_name (i := 4) nd rfl (Or.inl rfl)) (fun _ _ _ _ _ => pts_nil)
          (fun _ _ _ _ _ => pe_op op_add (pv 4) (pe_op op_mul (pv 3) (show PE _ _ (tFld K (tVar 0) "step") from pe_fld (pv 0) rfl)))) pa_nil)))))
    (pss_one (ps_ret (pv 2))))), ?_⟩
  refine ⟨_, rfl, a, cO, dx, _, _, rfl, ea, T.clO, T.nKept, lookK, ps, xs, k, rfl, ek, hs, hf.row, fun l H1 g1 hl0 el => ?_⟩
  refine ⟨by show 0 ≤ sizeLine; decide, fun r hr0 => ?_⟩
  have hr1 : H r = none := by
    cases z : H r with
    | none => rfl
    | some u => rw [g1 _ _ z] at hr0; cases hr0
  have g2 : Same H1 (upd H1 r (.lst [])) := same_upd hr0 _
  refine ⟨_, rfl, a, cO, dx, _, _, rfl, g2 _ _ (g1 _ _ ea), T.clO, T.nMany, lookN, n, rfl, by omega, by omega,
    for_range (lo := 0) (n := n.toNat) (fun i σ H2 => ∃ v, σ = [some (.ref a), some (.ref l), some (.ref r), v, none] ∧ Same H1 H2 ∧ H2 r = some (.lst ((times (momsR ps) st i).map V.int)))
    ⟨none, rfl, g2, by rw [upd_same]; rfl⟩ ?_ ?_⟩
  · rintro i σ H2 hi ⟨v, rfl, g, er⟩
    have el2 := g _ _ el
    have ea2 := g _ _ (g1 _ _ ea)
    refine ⟨_, rfl, .inl ⟨rfl, _, SqL.of er⟩, ?_⟩
    refine ⟨_, rfl, l, rfl, ⟨_, SqL.of el2⟩, fun D hD => lc_out (walk_list (xs := (momsR ps).map V.int)) (((momsR ps).map fun m => m + (i : Int) * st).map V.int) (by simp) (by have := hf.row.moms; rw [List.length_map, sizeLine_eq]; omega) hD (fun H3 g3 => SqL.of (g3 _ _ el2)) ?_ ?_⟩
    · intro j x H3 H4 Nx hj g3 y nx
      obtain ⟨rfl, hx⟩ := y
      rw [List.getElem?_map] at hx
      cases em : (momsR ps)[j]? with
      | none => rw [em] at hx; cases hx
      | some m =>
        rw [em] at hx
        cases hx
        refine ⟨rfl, _, rfl, _, rfl, _, rfl, a, cO, dx, _, _, rfl, g3 _ _ ea2, T.clO, T.nStep, lookS, _, _, rfl, rfl, .inl ⟨by omega, by omega⟩, _, _, rfl, rfl, ?_⟩
        rw [Int.zero_add]
        exact nx _ _ (map_get (map_get (f := fun m => m + (i : Int) * st) em)) (Same.refl _)
    · intro H3 g3 e3
      have er3 := g3 _ _ er
      refine ⟨r, D, _, _, rfl, rfl, er3, e3, ?_, _, rfl, same_put (g.trans g3) hr0 _, ?_⟩
      · have z := times_le (momsR ps) st (i + 1) n.toNat (by omega)
        rw [times, List.length_append] at z
        rw [List.length_map, List.length_map, sizeLine_eq]
        omega
      · rw [upd_same, times, List.map_append]
  · rintro σ H2 ⟨v, rfl, g, er⟩
    refine ⟨_, rfl, q r H2 (g1.trans g) hr1 ?_⟩
    rw [moms]
    exact er
theorem o_parts (T : Top K mg cA cO cS cP) (d : Nat) : Mt P w K mg base 1 cO "parts" (fun vs H Q _ => ∃ ps n s a dx k xs, vs = [.ref a] ∧ H a = some (.ins cO dx [("kept", .ref k), ("many", .int n), ("step", .int s)]) ∧ H k = some (.tup xs) ∧ OSs cA cO H ps xs ∧
    ∀ l, H l = none → Q (.ref l) (upd H l (.lst xs))) := by
  refine mt_by T.oParts scO1 (fun vs H Q E h => ?_) (fun f cdv A outer s H vs Q E hr h => ?_)
  · obtain ⟨ps, n, st, a, dx, k, xs, rfl, _⟩ := h
    rfl
  obtain ⟨ps, n, st, a, dx, k, xs, rfl, ea, ek, hs, q⟩ := h
  refine ⟨_, pss_one (ps_ret (pe_callTy call_list_of rfl T.bList boot_list (pa_cons (pe_fld (pv 0) rfl) pa_nil))), ?_⟩
  exact ⟨_, rfl, a, cO, dx, _, _, rfl, ea, T.clO, T.nKept, lookK, k, xs, rfl, .inr (SqT.of ek), q⟩

/-! ### every depth -/
theorem fit0 {t : Sh} : ¬ Fit 0 t := fun h => absurd h.1 (Nat.not_lt_zero _)
theorem sh0 {b : Bool} {R : RSh} : ∀ vs H Q E, ¬ spSh cA cO 0 b R vs H Q E := fun vs H Q E h => by
  obtain ⟨t, a, _, _, hf, _⟩ := h
  exact fit0 hf
theorem lm {d k : Nat} (h : k ≤ 8) : k ≤ LM d := by
  show k ≤ 3 * d + 8
  omega
theorem lm1 {d k : Nat} (h : k ≤ 11) : k ≤ LM (d + 1) := by
  show k ≤ 3 * (d + 1) + 8
  omega
theorem D_moms (T : Top K mg cA cO cS cP) : ∀ d : Nat, Dis cA cO P w K mg base (LM d) "moments" d (RL moms)
  | 0 => ⟨mt_none T.aMoms sh0, mt_none T.oMoms sh0⟩
  | d + 1 => ⟨(a_moms T (d + 1)).mono (lm (by decide)), o_moms T d (f_rowMoms T d (D_moms T d))⟩
theorem D_pcs (T : Top K mg cA cO cS cP) : ∀ d : Nat, Dis cA cO P w K mg base (LM d) "pieces" d (RV fun t => .int (pcs t : Nat))
  | 0 => ⟨mt_none T.aPcs sh0, mt_none T.oPcs sh0⟩
  | d + 1 => ⟨(a_pcs T (d + 1)).mono (lm (by decide)), o_pcs T d (f_rowPcs T d (D_pcs T d))⟩
theorem D_many (T : Top K mg cA cO cS cP) : ∀ d : Nat, Dis cA cO P w K mg base (LM d) "means_many" d (RV fun t => .int (cnt t))
  | 0 => ⟨mt_none T.aMany sh0, mt_none T.oMany sh0⟩
  | d + 1 => ⟨(a_many T (d + 1)).mono (lm (by decide)), o_many T d (f_rowMany T d (D_many T d))⟩
theorem D_str (T : Top K mg cA cO cS cP) : ∀ d : Nat, Dis cA cO P w K mg base (LM d) "__str__" d (RV fun t => .str (S (word t)))
  | 0 => ⟨mt_none T.aStr sh0, mt_none T.oStr sh0⟩
  | d + 1 => ⟨(a_str T (d + 1)).mono (lm (by decide)), o_str T d (f_rowText T d (D_str T d))⟩
theorem D_beg (T : Top K mg cA cO cS cP) : ∀ d : Nat, Dis cA cO P w K mg base (LM d) "begins" d (RV fun t => .int (fst t))
  | 0 => ⟨mt_none T.aBeg sh0, mt_none T.oBeg sh0⟩
  | d + 1 => ⟨(a_beg T (d + 1)).mono (lm (by decide)), o_beg T d (D_beg T d)⟩
theorem D_end (T : Top K mg cA cO cS cP) : ∀ d : Nat, Dis cA cO P w K mg base (LM d) "ends" d (RV fun t => .int (lst t))
  | 0 => ⟨mt_none T.aEnd sh0, mt_none T.oEnd sh0⟩
  | d + 1 => ⟨(a_end T (d + 1)).mono (lm (by decide)), o_end T d (D_end T d)⟩
theorem D_nest (T : Top K mg cA cO cS cP) : ∀ d : Nat, Dis cA cO P w K mg base (LM d) "nested" d (RV fun t => .int (nest t : Nat))
  | 0 => ⟨mt_none T.aNest sh0, mt_none T.oNest sh0⟩
  | d + 1 => ⟨(a_nest T (d + 1)).mono (lm (by decide)), o_nest T d (D_nest T d)⟩
end
end K24

set_option Elab.async false
set_option linter.all false
set_option maxRecDepth 100000
set_option maxHeartbeats 4000000
/-! K10: At, Over and Spread made; what a Spread tells. -/
namespace K24
open PySem PySem.Spec PyProof.Rows L2 TL SX

/-- the signs of the texts -/
theorem signs : ∀ n : Nat, (∀ t : Sh, nest t < n → ∀ c ∈ word t, c < 128) ∧ (∀ ps : List Sh, nestR ps < n → ∀ c ∈ textR ps, c < 128) := by
  have dg : ∀ m c, c ∈ numL m → c < 128 := fun m c h => by
    have := numL_digits m c h
    omega
  intro n
  induction n with
  | zero => exact ⟨fun t h => absurd h (Nat.not_lt_zero _), fun ps h => absurd h (Nat.not_lt_zero _)⟩
  | succ n ih =>
    have one : ∀ t : Sh, nest t < n + 1 → ∀ c ∈ word t, c < 128 := by
      intro t ht c hc
      cases t with
      | pt m =>
        rw [word] at hc
        have := show_mem hc
        omega
      | ov ps k s =>
        rw [nest] at ht
        rw [word] at hc
        simp only [List.mem_append, List.mem_cons, List.not_mem_nil, or_false] at hc
        rcases hc with h | h | h | h | h | h
        · omega
        · exact ih.2 ps (by omega) c h
        · omega
        · exact dg _ _ h
        · omega
        · exact dg _ _ h
    refine ⟨one, ?_⟩
    intro ps
    induction ps with
    | nil => intro _ c hc; rw [textR] at hc; cases hc
    | cons p r ihr =>
      intro hn c hc
      rw [nestR] at hn
      cases r with
      | nil =>
        rw [textR] at hc
        exact one p (by omega) c hc
      | cons q r =>
        rw [textR] at hc
        simp only [List.mem_append, List.mem_cons, List.not_mem_nil, or_false] at hc
        rcases hc with h | h | h
        · exact one p (by omega) c h
        · omega
        · exact ihr (by omega) c h
theorem rowTxt_signs {ps : List Sh} : ∀ c ∈ rowTxt ps, c < 128 := by
  intro c hc
  unfold rowTxt at hc
  split at hc
  · rw [List.mem_singleton.mp hc]
    decide
  · exact (signs (nestR ps + 1)).2 ps (Nat.lt_succ_self _) c hc
theorem repr_len {ps : List Sh} (h : goodR ps) : (reprText (S (rowTxt ps))).length ≤ 2000 * pcsR ps + 12 := by
  have a := StrLaws.reprText_len (S (rowTxt ps)) (fun c hc => by
    have := rowTxt_signs c hc
    have e : (16 ^ 8 : Nat) = 4294967296 := by decide
    omega)
  have b := rowTxt_len h
  have e := S_len (rowTxt ps)
  omega
theorem rising_at : ∀ {ps : List Sh} {i : Nat} {p q : Sh}, rising ps → ps[i]? = some p → ps[i + 1]? = some q → lst p < fst q
  | x :: y :: r, 0, p, q, h, hp, hq => by
    cases hp
    cases hq
    exact h.1
  | x :: y :: r, i + 1, p, q, h, hp, hq => rising_at (ps := y :: r) (i := i) h.2 hp hq
  | [x], 0, p, q, h, hp, hq => by cases hq
  | [x], i + 1, p, q, h, hp, hq => by cases hp
  | [], i, p, q, h, hp, hq => by cases hp

section
variable {P : Program} {w : World} {K : PySem.W.Frag} {mg : Str → Option Value} {base : Heap} {cA cO cS cP : Addr}

/-! ### all_rising, shorts_in -/
theorem sc28 : FnScope ["parts", "one", "other"] ["parts"] (defScope (topS 28)) := ⟨rfl, rfl, rfl, by decide +kernel, rfl, by decide +kernel, by decide +kernel⟩
def spRising (cA cO : Addr) : Sp := fun vs H Q _ => ∃ ps xs k, vs = [.ref k] ∧ H k = some (.tup xs) ∧ OSs cA cO H ps xs ∧ FitR 9 ps ∧ rising ps ∧ ∀ H1, Same H H1 → Q (.bl true) H1
theorem f_rising (T : Top K mg cA cO cS cP) : Fn P w K mg base 36 "all_rising" (spRising cA cO) := by
  refine fn_by T.dRising sc28 (fun vs H Q E h => ?_) (fun f cdv A outer s H vs Q E hr h => ?_)
  · obtain ⟨ps, xs, k, rfl, _⟩ := h
    rfl
  obtain ⟨ps, xs, k, rfl, hk, hs, hf, hg, q⟩ := h
  have nd := sc28.nd
  have c1 : Dis cA cO P w K mg base 35 "ends" 9 (RV fun t => .int (lst t)) := D_end T 9
  have c2 : Dis cA cO P w K mg base 35 "begins" 9 (RV fun t => .int (fst t)) := D_beg T 9
  refine ⟨_, pss_one (ps_ret (pe_callB (cr_all rfl) rfl T.bAll boot_all (pa_cons
    (pe_lc (own := [("one", 1), ("other", 2)]) (g := gTup K 2 (gCons (gName 1) (gCons (gName 2) gNil))) (tt := tYes) rfl nd
      (RZ.pi_zipA rfl T.bZip (pa_cons (pv 0) (pa_cons (pe_slice sl_tupA (pv 0) (po_some pe_int) po_none) pa_nil)))
      (blkOk_by (N := ["parts", "one", "other"]) (sc := defScope (topS 28)) (by decide +kernel))
      (fun _ _ _ _ _ => pg_tup rfl (pgs_cons (pg_name (i := 1) nd rfl (Or.inl rfl)) (pgs_cons (pg_name (i := 2) nd rfl (Or.inl rfl)) pgs_nil))) (fun _ _ _ _ _ => pts_nil)
      (fun _ _ _ _ _ => pe_cmpR op_lt (pe_dis c1 T hr (Nat.le_refl _) (pv 1)) (pe_dis c2 T hr (Nat.le_refl _) (pv 2)) (nomark _))) pa_nil))), ?_⟩
  have hl := hs.len
  have h50 := hf.len
  -- the walk over the pairs, from any heap that holds both tuples
  have main : ∀ (b : Addr) (ys : List V) (H1 : Hp), Same H H1 → H1 b = some (.tup ys) → ys.length ≤ xs.length → (∀ i y, ys[i]? = some y → xs[i + 1]? = some y) →
      ∀ D, H1 D = none → ∃ W : Nat → Nat → Hp → Prop, (∃ m, W 0 m (upd H1 D (.lst []))) ∧ ∀ i m H, W i m H →
        ((RZ.ItzT K k b).stop i H ∧ (rAll K) [.ref D] H Q) ∨ ((RZ.ItzT K k b).go i H ∧ ∃ Nx : Hp → Prop, (∀ H2, Nx H2 → ∃ m2, m2 < m ∧ W (i + 1) m2 H2) ∧
          ∀ x H2, (RZ.ItzT K k b).yld i H x H2 → gTup K 2 (gCons (gName 1) (gCons (gName 2) gNil)) x (wipe (start ["parts", "one", "other"] [.ref k]) [1, 2]) H2 fun σ2 H3 => wipe σ2 [1, 2] = wipe (start ["parts", "one", "other"] [.ref k]) [1, 2] ∧ tYes σ2 H3 fun b H3 =>
          if b = true then tOp (rI0 fun i j => .bl (decide (i < j))) (tDis cA cO 9 (RV fun t => .int (lst t)) (tVar 1)) (tDis cA cO 9 (RV fun t => .int (fst t)) (tVar 2)) σ2 H3 fun y H4 => ∃ acc, H4 D = some (.lst acc) ∧ acc.length < sizeLine ∧ Nx (upd H4 D (.lst (acc ++ [y]))) else Nx H3) := by
    intro b ys H1 g1 hb hle hsh D hD
    refine lc_out (walk_zipT (xs := xs) (ys := ys) hle) ((List.replicate ys.length true).map V.bl) (by rw [List.length_map, List.length_replicate]) (by rw [sizeLine_eq]; omega) hD (fun H2 g2 => ⟨SqT.of (g2 _ _ (g1 _ _ hk)), SqT.of (g2 _ _ hb)⟩) ?_ ?_
    · intro i x H2 H3 Nx hi g y nx
      obtain ⟨Tp, u, v, rfl, hT, rfl, hu, hv⟩ := y
      have hv2 := hsh i v hv
      obtain ⟨p, hp, op⟩ := hs.at_ hu
      obtain ⟨p2, hp2, op2⟩ := hs.at_ hv2
      have gT : Same H (upd H2 Tp (.tup [u, v])) := same_up (g1.trans g) hT _
      refine ⟨Tp, [u, v], rfl, SqT.of upd_same, rfl, _, _, rfl, _, _, rfl, rfl, rfl, ?_⟩
      refine ⟨_, rfl, p, op.mono (same_imm gT), hf.mem (getR hp), fun H4 g4 => ?_⟩
      refine ⟨_, rfl, p2, op2.mono (same_imm (gT.trans g4)), hf.mem (getR hp2), fun H5 g5 => ⟨_, _, rfl, rfl, ?_⟩⟩
      have hlt : decide (lst p < fst p2) = true := decide_eq_true (rising_at hg hp hp2)
      show Nx (.bl (decide (lst p < fst p2))) H5
      rw [hlt]
      exact nx _ _ (trues_get hi) ((same_upd hT _).trans (g4.trans g5))
    · intro H2 g2 e2
      refine ⟨D, _, rfl, SqL.of e2, ?_⟩
      rw [trues]
      exact q _ (g1.trans g2)
  refine ⟨_, rfl, _, rfl, 1, rfl, k, xs, rfl, SqT.of hk, ?_⟩
  have cut : cutV xs (some 1) none = xs.drop 1 := by
    unfold cutV
    have e1 : HT.sIx xs.length 0 (some 1) = min 1 xs.length := HT.sIx_nat xs.length 0 1
    rw [e1, HT.sIx_none]
    by_cases z : xs = []
    · rw [z]; rfl
    · have : 0 < xs.length := List.length_pos_iff.mpr z
      rw [show min 1 xs.length = 1 by omega]
      exact List.take_of_length_le (by rw [List.length_drop]; omega)
  have e1 : HT.sIx xs.length 0 (some 1) = min 1 xs.length := HT.sIx_nat xs.length 0 1
  have e2 : HT.sIx xs.length xs.length none = xs.length := HT.sIx_none _ _
  refine ⟨fun z => ?_, fun z p hp => ?_⟩
  · -- an empty tuple is its own slice
    have x0 : xs = [] := by
      have := z.1
      rw [e1] at this
      cases xs with
      | nil => rfl
      | cons a r => rw [List.length_cons] at this; omega
    subst x0
    exact ⟨k, k, [], [], rfl, .inr ⟨SqT.of hk, SqT.of hk, main k [] H (Same.refl _) hk (Nat.le_refl _) (fun i y h => by cases h)⟩⟩
  · rw [cut]
    have g1 : Same H (upd H p (.tup (xs.drop 1))) := same_upd hp _
    refine ⟨k, p, xs, xs.drop 1, rfl, .inr ⟨SqT.of (g1 _ _ hk), SqT.of upd_same, main p (xs.drop 1) _ g1 upd_same (by rw [List.length_drop]; omega) (fun i y h => ?_)⟩⟩
    rw [List.getElem?_drop] at h
    rw [show i + 1 = 1 + i by omega]
    exact h

theorem sc29 : FnScope ["parts", "found", "one"] ["parts"] (defScope (topS 29)) := ⟨rfl, rfl, rfl, by decide +kernel, rfl, by decide +kernel, by decide +kernel⟩
def spShortsIn (cA cO : Addr) : Sp := fun vs H Q _ => ∃ ps xs l, vs = [.ref l] ∧ H l = some (.lst xs) ∧ OSs cA cO H ps xs ∧ FitR 9 ps ∧ rising ps ∧ ∀ k H1, Same H H1 → H k = none → H1 k = some (.tup xs) → Q (.ref k) H1
theorem f_shortsIn (T : Top K mg cA cO cS cP) : Fn P w K mg base 37 "shorts_in" (spShortsIn cA cO) := by
  refine fn_by T.dShortsIn sc29 (fun vs H Q E h => ?_) (fun f cdv A outer s H vs Q E hr h => ?_)
  · obtain ⟨ps, xs, l, rfl, _⟩ := h
    rfl
  obtain ⟨ps, xs, l, rfl, hk, hs, hf, hg, q⟩ := h
  have nd := sc29.nd
  refine ⟨_, pss_cons (ps_if (pt_not (pt_val (pe_callB call_isiT rfl T.bIsi boot_isinstance (pa_cons (pv 0) (pa_cons (pe_tup (pa_cons (pe_bltn (v := .ty "list") rfl T.bList boot_list rfl) (pa_cons (pe_bltn (v := .ty "tuple") rfl T.bTuple boot_tuple rfl) pa_nil))) pa_nil))))) (pss_one ps_never) pss_nil)
    (pss_cons (ps_set (i := 1) nd rfl (.inl rfl) (pe_callTy call_tuple_of rfl T.bTuple boot_tuple (pa_cons (pv 0) pa_nil)))
    (pss_cons (ps_if (PW.pt (pw_or (pt_not (pt_val (pe_callB (cr_all rfl) rfl T.bAll boot_all (pa_cons
        (pe_lc (own := [("one", 2)]) (g := gName 2) (tt := tYes) rfl nd (pi_tup (pv 1)) (blkOk_by (N := ["parts", "found", "one"]) (sc := defScope (topS 29)) (by decide +kernel)) (fun _ _ _ _ _ => pg_name (i := 2) nd rfl (Or.inl rfl)) (fun _ _ _ _ _ => pts_nil)
          (fun _ _ _ _ _ => show PE _ _ (tCB (rIsi K) (tCons (tVar 2) (tCons (tC (.ref cS)) tNil))) from pe_callB call_isi rfl T.bIsi boot_isinstance (pa_cons (pv 2) (pa_cons (pe_glob (v := .ref cS) rfl T.gS rfl) pa_nil)))) pa_nil))))
        (pw_or1 (pt_not (pt_val (pe_fn (f_rising T) hr (by decide) rfl (pa_cons (pv 1) pa_nil))))))) (pss_one ps_never) pss_nil)
    (pss_one (ps_ret (pv 1))))), ?_⟩
  have hl := hs.len
  have h50 := hf.len
  refine ⟨_, rfl, (by show 2 ≤ sizeLine; decide), fun tp htp => ?_⟩
  have g1 : Same H (upd H tp (.tup [.ty "list", .ty "tuple"])) := same_upd htp _
  refine ⟨_, tp, _, .type "list", [.type "list", .type "tuple"], true, rfl, upd_same, .cons (.ty _) (.cons (.ty _) .nil), .base (.lst (g1 _ _ hk)), ?_, true, rfl, iteF ?_⟩
  · exact kitAny_cons (b := true) (kit_ty (by decide +kernel)) (fun z => by cases z) (fun _ => rfl)
  refine ⟨_, rfl, l, xs, rfl, .inl ⟨SqL.of (g1 _ _ hk), fun k hk0 => ?_⟩⟩
  have g2 : Same H (upd (upd H tp (.tup [.ty "list", .ty "tuple"])) k (.tup xs)) := same_up g1 hk0 _
  have hk1 : H k = none := by
    cases z : H k with
    | none => rfl
    | some u => rw [g1 _ _ z] at hk0; cases hk0
  generalize hH2 : upd (upd H tp (.tup [.ty "list", .ty "tuple"])) k (.tup xs) = H2 at g2
  have ek : H2 k = some (.tup xs) := by rw [← hH2]; exact upd_same
  refine ⟨_, rfl, k, rfl, ⟨xs, SqT.of ek⟩, fun D hD => lc_out (walk_tup (xs := xs)) ((List.replicate xs.length true).map V.bl) (by rw [List.length_map, List.length_replicate]) (by rw [sizeLine_eq]; omega) hD (fun H3 g3 => SqT.of (g3 _ _ ek)) ?_ ?_⟩
  · intro i x H3 H4 Nx hi g3 y nx
    obtain ⟨rfl, hx⟩ := y
    obtain ⟨p, hp, op⟩ := hs.at_ hx
    have op3 := op.mono (same_imm (g2.trans g3))
    obtain ⟨a, dx, fs, C, rfl, ea, hC⟩ := op3.ref
    refine ⟨rfl, _, rfl, ?_⟩
    rcases hC with rfl | rfl
    · exact ⟨_, _, _, _, true, rfl, .own cS, .base (.ins ea T.clA T.icA.ha T.icg T.ict T.icA.hm), T.kAS, nx _ _ (trues_get hi) (Same.refl _)⟩
    · exact ⟨_, _, _, _, true, rfl, .own cS, .base (.ins ea T.clO T.icO.ha T.icg T.ict T.icO.hm), T.kOS, nx _ _ (trues_get hi) (Same.refl _)⟩
  · intro H3 g3 e3
    refine ⟨D, _, rfl, SqL.of e3, ?_⟩
    rw [trues]
    refine ⟨true, rfl, iteF ?_⟩
    have g23 := g2.trans g3
    refine ⟨_, rfl, ps, xs, k, rfl, g3 _ _ ek, hs.mono (same_imm g23), hf, hg, fun H4 g4 => ⟨true, rfl, iteF ?_⟩⟩
    exact ⟨_, rfl, q k H4 (g23.trans g4) hk1 (g4 _ _ (g3 _ _ ek))⟩

/-! ### At and Over made -/
theorem scA0 : FnScope ["self", "moment"] ["self", "moment"] (defScope (inClass (topS 34) 0)) := ⟨rfl, rfl, rfl, by decide +kernel, rfl, by decide +kernel, by decide +kernel⟩
def spAIni (cA : Addr) : Sp := fun vs H Q _ => ∃ (H0 : Hp) (x dx : Addr) (m : Int), vs = [.ref x, .int m] ∧ Same H0 H ∧ H0 x = none ∧ H x = some (.ins cA dx []) ∧ 0 ≤ m ∧
  ∀ H1, Same H0 H1 → H1 x = some (.ins cA dx [("moment", .int m)]) → Q .non H1
theorem a_ini (T : Top K mg cA cO cS cP) : Ma P w K mg base 2 cA (spAIni cA) := by
  refine ma_by T.aIni scA0 (fun vs H Q E h => ?_) (fun f cdv A outer s H vs Q E hr h => ?_)
  · obtain ⟨H0, x, dx, m, rfl, _⟩ := h
    rfl
  obtain ⟨H0, x, dx, m, rfl, g0, hx0, hx, hm, q⟩ := h
  refine ⟨_, pss_cons (ps_if (pt_not (pt_val (pe_fn (f_isNum T) hr (by decide) rfl (pa_cons (pv 1) (pa_cons pe_int pa_nil))))) (pss_one ps_never) pss_nil)
    (pss_one (ps_fld (pv 0) (pv 1) rfl)), ?_⟩
  refine ⟨_, rfl, m, 0, rfl, hm, true, rfl, iteF ?_⟩
  refine ⟨_, rfl, _, rfl, x, cA, dx, _, rfl, hx, T.clA, T.nMoment, (by show 0 < 1000; decide), ?_⟩
  exact q _ (same_put g0 hx0 _) upd_same
theorem scO0 : FnScope ["self", "parts", "many", "step"] ["self", "parts", "many", "step"] (defScope (inClass (topS 35) 0)) := ⟨rfl, rfl, rfl, by decide +kernel, rfl, by decide +kernel, by decide +kernel⟩
def spOIni (cA cO : Addr) : Sp := fun vs H Q _ => ∃ (H0 : Hp) (x dx l : Addr) (ps : List Sh) (xs : List V) (n st : Int), vs = [.ref x, .ref l, .int n, .int st] ∧ Same H0 H ∧ H0 x = none ∧ H x = some (.ins cO dx []) ∧ H0 l = some (.lst xs) ∧ OSs cA cO H0 ps xs ∧ Fit 9 (.ov ps n st) ∧
  ∀ H1, Same H0 H1 → OS cA cO H1 (.ov ps n st) (.ref x) → Q .non H1
theorem put1 {v u : V} : putF ("many" : Str) u [(("kept" : Str), v)] = ([("kept", v), ("many", u)] : List (Str × V)) := by
  show (if ("kept" : Str) = "many" then ([("kept", u)] : List (Str × V)) else (("kept", v) :: putF "many" u [] : List (Str × V))) = _
  rw [if_neg (by decide +kernel)]
  rfl
theorem put2 {v u z : V} : putF ("step" : Str) z [(("kept" : Str), v), ("many", u)] = ([("kept", v), ("many", u), ("step", z)] : List (Str × V)) := by
  show (if ("kept" : Str) = "step" then ([("kept", z), ("many", u)] : List (Str × V)) else (("kept", v) :: (if ("many" : Str) = "step" then ([("many", z)] : List (Str × V)) else (("many", u) :: putF "step" z [])) : List (Str × V))) = _
  rw [if_neg (by decide +kernel), if_neg (by decide +kernel)]
  rfl
theorem put3 {v u : V} : putF ("held" : Str) u [(("kept" : Str), v)] = ([("kept", v), ("held", u)] : List (Str × V)) := by
  show (if ("kept" : Str) = "held" then ([("kept", u)] : List (Str × V)) else (("kept", v) :: putF "held" u [] : List (Str × V))) = _
  rw [if_neg (by decide +kernel)]
  rfl
theorem lookK1 {u : V} : List.lookup ("kept" : Str) [(("kept" : Str), u)] = some u := by simp [List.lookup]
theorem o_ini (T : Top K mg cA cO cS cP) : Ma P w K mg base 39 cO (spOIni cA cO) := by
  refine ma_by T.oIni scO0 (fun vs H Q E h => ?_) (fun f cdv A outer s H vs Q E hr h => ?_)
  · obtain ⟨H0, x, dx, l, ps, xs, n, st, rfl, _⟩ := h
    rfl
  obtain ⟨H0, x, dx, l, ps, xs, n, st, rfl, g0, hx0, hx, hl0, hs0, hf, q⟩ := h
  have o := ov_facts hf.2.1
  have fr := hf.row
  have fr9 : FitR 9 ps := ⟨by have := fr.1; omega, fr.2⟩
  have c1 : Dis cA cO P w K mg base 35 "ends" 9 (RV fun t => .int (lst t)) := D_end T 9
  have c2 : Dis cA cO P w K mg base 35 "begins" 9 (RV fun t => .int (fst t)) := D_beg T 9
  have c3 : Dis cA cO P w K mg base 35 "means_many" 9 (RV fun t => .int (cnt t)) := D_many T 9
  have c4 : Dis cA cO P w K mg base 35 "nested" 9 (RV fun t => .int (nest t : Nat)) := D_nest T 9
  refine ⟨_, pss_cons (ps_fld (pv 0) (pe_fn (f_shortsIn T) hr (by decide) rfl (pa_cons (pv 1) pa_nil)) rfl)
    (pss_cons (ps_if (PW.pt (pw_or (pt_cmpR op_eq (pe_callB call_len_seq rfl T.bLen PySem.boot_len (pa_cons (pe_fld (pv 0) rfl) pa_nil)) pe_int (nomark _))
      (pw_or (pt_not (pt_val (pe_fn (f_isNum T) hr (by decide) rfl (pa_cons (pv 2) (pa_cons pe_int pa_nil))))) (pw_or1 (pt_not (pt_val (pe_fn (f_isNum T) hr (by decide) rfl (pa_cons (pv 3) (pa_cons pe_int pa_nil)))))))))
      (pss_one ps_never) pss_nil)
    (pss_cons (ps_if (pt_cmpR op_le (pv 3) (pe_op op_sub (pe_dis c1 T hr (by decide) (pe_ix ix_tup (pe_fld (pv 0) rfl) (pe_un un_neg pe_int) (fun _ _ => rfl))) (pe_dis c2 T hr (by decide) (pe_ix ix_tup (pe_fld (pv 0) rfl) pe_int (fun _ _ => rfl)))) (nomark _)) (pss_one ps_never) pss_nil)
    (pss_cons (ps_fld (pv 0) (pv 2) rfl)
    (pss_cons (ps_fld (pv 0) (pv 3) rfl)
    (pss_one (ps_if (PW.pt (pw_or (pt_cmpR op_gt (pe_dis c3 T hr (by decide) (pv 0)) (pe_ci T.iMOST rfl) (nomark _)) (pw_or1 (pt_cmpR op_gt (pe_dis c4 T hr (by decide) (pv 0)) (pe_ci T.iNEST rfl) (nomark _))))) (pss_one ps_never) pss_nil)))))), ?_⟩
  have hlen := hs0.len
  have hpos : 0 < ps.length := List.length_pos_iff.mpr o.1
  refine ⟨_, rfl, ps, xs, l, rfl, g0 _ _ hl0, hs0.mono (same_imm g0), fr9, o.2.2.1, fun k H1 g1 hk0 ek => ?_⟩
  have nkx : k ≠ x := fun z => by rw [z, hx] at hk0; cases hk0
  refine ⟨_, rfl, x, cO, dx, [], rfl, g1 _ _ hx, T.clO, T.nKept, (by show 0 < 1000; decide), ?_⟩
  show _
  have g2 : Same H0 (upd H1 x (.ins cO dx (putF "kept" (.ref k) []))) := same_put (g0.trans g1) hx0 _
  have ex2 : upd H1 x (.ins cO dx (putF "kept" (.ref k) [])) x = some (.ins cO dx [("kept", .ref k)]) := upd_same
  have ek2 : upd H1 x (.ins cO dx (putF "kept" (.ref k) [])) k = some (.tup xs) := (upd_ne nkx).trans ek
  generalize upd H1 x (.ins cO dx (putF "kept" (.ref k) [])) = H2 at g2 ex2 ek2
  refine ⟨_, rfl, x, cO, dx, _, _, rfl, ex2, T.clO, T.nKept, lookK1, k, xs, rfl, .inr (SqT.of ek2), rfl, _, rfl, ?_⟩
  have z1 : decide (V.int ((xs.length : Nat) : Int) = V.int 0) = false := decide_eq_false fun e => by
    injection e with e2
    omega
  show if decide (V.int ((xs.length : Nat) : Int) = V.int 0) = true then _ else _
  rw [z1]
  refine iteF ⟨_, rfl, n, 2, rfl, o.2.2.2.1, true, rfl, iteF ⟨_, rfl, st, 1, rfl, o.2.2.2.2.2.1, true, rfl, iteF ?_⟩⟩
  obtain ⟨qs, pl, eps, el⟩ := row_last o.1
  have hs2 := hs0
  rw [eps] at hs2
  obtain ⟨ys, v, exs, _, opl⟩ := snoc_vals hs2
  have hpl : pl ∈ ps := by
    rw [eps]
    exact List.mem_append_right _ List.mem_cons_self
  obtain ⟨pf, hpf, ef⟩ := row_first o.1
  have hx0' : xs[0]? = some (xs[0]'(by omega)) := List.getElem?_eq_getElem (by omega)
  obtain ⟨pf2, hpf2, opf⟩ := hs0.at_ hx0'
  rw [hpf] at hpf2
  cases hpf2
  refine ⟨_, rfl, _, rfl, x, cO, dx, _, _, rfl, ex2, T.clO, T.nKept, lookK1, 1, rfl, k, xs, -1, v, rfl, rfl, SqT.of ek2, ?_, pl, opl.mono (same_imm g2), fr9.mem hpl, fun H3 g3 => ?_⟩
  · rw [exs]
    exact atI_last ys v
  have ex3 := g3 _ _ ex2
  refine ⟨_, rfl, x, cO, dx, _, _, rfl, ex3, T.clO, T.nKept, lookK1, k, xs, 0, _, rfl, rfl, SqT.of (g3 _ _ ek2), atI_nat hx0', pf, opf.mono (same_imm (g2.trans g3)), fr9.mem (getR hpf), fun H4 g4 => ?_⟩
  refine ⟨_, _, rfl, rfl, _, _, rfl, rfl, _, rfl, ?_⟩
  have z2 : decide (st ≤ lst pl - fst pf) = false := decide_eq_false (by
    have := o.2.2.2.2.2.2.2.1
    rw [el, ef] at this
    omega)
  show if decide (st ≤ lst pl - fst pf) = true then _ else _
  rw [z2]
  refine iteF ?_
  have ex4 := g4 _ _ ex3
  refine ⟨_, rfl, _, rfl, x, cO, dx, _, rfl, ex4, T.clO, T.nMany, (by show 1 < 1000; decide), ?_⟩
  refine ⟨_, rfl, _, rfl, x, cO, dx, _, rfl, upd_same, T.clO, T.nStep, (by rw [put1]; show 2 < 1000; decide), ?_⟩
  have g5 : Same H0 (upd (upd H4 x (.ins cO dx (putF "many" (.int n) [("kept", .ref k)]))) x (.ins cO dx (putF "step" (.int st) (putF "many" (.int n) [("kept", .ref k)])))) := same_put (same_put (g2.trans (g3.trans g4)) hx0 _) hx0 _
  have ex5 : upd (upd H4 x (.ins cO dx (putF "many" (.int n) [("kept", .ref k)]))) x (.ins cO dx (putF "step" (.int st) (putF "many" (.int n) [("kept", .ref k)]))) x = some (.ins cO dx [("kept", .ref k), ("many", .int n), ("step", .int st)]) := by
    rw [upd_same, put1, put2]
  have ek5 : upd (upd H4 x (.ins cO dx (putF "many" (.int n) [("kept", .ref k)]))) x (.ins cO dx (putF "step" (.int st) (putF "many" (.int n) [("kept", .ref k)]))) k = some (.tup xs) := by
    rw [upd_ne nkx, upd_ne nkx]
    exact g4 _ _ (g3 _ _ ek2)
  generalize upd (upd H4 x (.ins cO dx (putF "many" (.int n) [("kept", .ref k)]))) x (.ins cO dx (putF "step" (.int st) (putF "many" (.int n) [("kept", .ref k)]))) = H5 at g5 ex5 ek5
  have os5 : OS cA cO H5 (.ov ps n st) (.ref x) := by
    rw [OS]
    exact ⟨x, dx, k, xs, rfl, ex5, ek5, hs0.mono (same_imm g5)⟩
  refine ⟨_, rfl, .ov ps n st, os5, hf, fun H6 g6 => ⟨_, _, rfl, rfl, _, rfl, ?_⟩⟩
  have z3 : decide ((1440 : Int) < cnt (.ov ps n st)) = false := decide_eq_false (by
    have := cnt_le hf.2.1
    omega)
  show if decide ((1440 : Int) < cnt (.ov ps n st)) = true then _ else _
  rw [z3]
  refine iteF ⟨_, rfl, .ov ps n st, os5.mono (same_imm g6), hf, fun H7 g7 => ⟨_, _, rfl, rfl, _, rfl, ?_⟩⟩
  have z4 : decide ((8 : Int) < ((nest (.ov ps n st) : Nat) : Int)) = false := decide_eq_false (by
    have := hf.1
    omega)
  show if decide ((8 : Int) < ((nest (.ov ps n st) : Nat) : Int)) = true then _ else _
  rw [z4]
  refine iteF ?_
  exact q _ (g5.trans (g6.trans g7)) (os5.mono (same_imm (g6.trans g7)))
end
end K24

set_option Elab.async false
set_option linter.all false
set_option maxRecDepth 100000
set_option maxHeartbeats 4000000
/-! K11: Spread made, and what it tells. -/
namespace K24
open PySem PySem.Spec PyProof.Rows L2 TL SX

/-- a row that a spread may have -/
structure OkR (ps : List Sh) : Prop where
  good : goodR ps
  ris : rising ps
  cnt : cntR ps ≤ 1440
  nest : nestR ps ≤ 8
  pcs : pcsR ps ≤ 40
theorem OkR.fit {ps : List Sh} (h : OkR ps) : FitR 9 ps := ⟨Nat.lt_succ_of_le h.nest, h.good, Nat.le_trans h.pcs (by decide)⟩
/-- a Spread of the row ps -/
def SP (cA cO cP : Addr) (H : Hp) (ps : List Sh) (a : Addr) : Prop := ∃ dx k l xs, H a = some (.ins cP dx [("kept", .ref k), ("held", .ref l)]) ∧ H k = some (.tup xs) ∧ OSs cA cO H ps xs ∧ H l = some (.lst ((momsR ps).map V.int))
theorem SP.mono {cA cO cP : Addr} {H H1 : Hp} {ps : List Sh} {a : Addr} (h : SP cA cO cP H ps a) (g : Same H H1) : SP cA cO cP H1 ps a := by
  obtain ⟨dx, k, l, xs, h1, h2, h3, h4⟩ := h
  exact ⟨dx, k, l, xs, g _ _ h1, g _ _ h2, h3.mono (same_imm g), g _ _ h4⟩
theorem lookP1 {u v : V} : List.lookup ("kept" : Str) [(("kept" : Str), u), ("held", v)] = some u := by simp [List.lookup]
theorem lookP2 {u v : V} : List.lookup ("held" : Str) [(("kept" : Str), u), ("held", v)] = some v := by
  have b1 : (("held" : Str) == ("kept" : Str)) = false := by decide +kernel
  simp [List.lookup, b1]
theorem lookP {m : Str} {u v : V} (h1 : ¬ m = "kept") (h2 : ¬ m = "held") : List.lookup m [(("kept" : Str), u), ("held", v)] = none := by
  have b1 : (m == ("kept" : Str)) = false := beq_eq_false_iff_ne.mpr h1
  have b2 : (m == ("held" : Str)) = false := beq_eq_false_iff_ne.mpr h2
  simp only [List.lookup, b1, b2]
theorem empty_app (x : Str) : Str.empty ++ x = x := ext_tl (by rw [tl_append]; rfl)
/-- the repr of a spread -/
def reprSp (ps : List Sh) : Str := (("Spread(" : Str) ++ reprText (S (rowTxt ps))) ++ (")" : Str)

section
variable {P : Program} {w : World} {K : PySem.W.Frag} {mg : Str → Option Value} {base : Heap} {cA cO cS cP : Addr}

theorem scP0 : FnScope ["self", "parts"] ["self", "parts"] (defScope (inClass (topS 38) 0)) := ⟨rfl, rfl, rfl, by decide +kernel, rfl, by decide +kernel, by decide +kernel⟩
theorem scP1 : FnScope ["self"] ["self"] (defScope (inClass (topS 38) 1)) := ⟨rfl, rfl, rfl, by decide +kernel, rfl, by decide +kernel, by decide +kernel⟩
theorem scP2 : FnScope ["self"] ["self"] (defScope (inClass (topS 38) 2)) := ⟨rfl, rfl, rfl, by decide +kernel, rfl, by decide +kernel, by decide +kernel⟩
theorem scP3 : FnScope ["self"] ["self"] (defScope (inClass (topS 38) 3)) := ⟨rfl, rfl, rfl, by decide +kernel, rfl, by decide +kernel, by decide +kernel⟩
theorem scP6 : FnScope ["self"] ["self"] (defScope (inClass (topS 38) 6)) := ⟨rfl, rfl, rfl, by decide +kernel, rfl, by decide +kernel, by decide +kernel⟩
theorem scP7 : FnScope ["self"] ["self"] (defScope (inClass (topS 38) 7)) := ⟨rfl, rfl, rfl, by decide +kernel, rfl, by decide +kernel, by decide +kernel⟩

theorem r_moms (T : Top K mg cA cO cS cP) : Fn P w K mg base 37 "row_moments" (spRow cA cO 9 (RLR momsR)) := f_rowMoms T 9 (D_moms T 9)
theorem r_many (T : Top K mg cA cO cS cP) : Fn P w K mg base 37 "row_many" (spRow cA cO 9 (RVR fun ps => .int (cntR ps))) := f_rowMany T 9 (D_many T 9)
theorem r_pcs (T : Top K mg cA cO cS cP) : Fn P w K mg base 37 "row_pieces" (spRow cA cO 9 (RVR fun ps => .int (pcsR ps : Nat))) := f_rowPcs T 9 (D_pcs T 9)
theorem r_text (T : Top K mg cA cO cS cP) : Fn P w K mg base 37 "row_text" (spRow cA cO 9 (RVR fun ps => .str (S (rowTxt ps)))) := f_rowText T 9 (D_str T 9)

def spPIni (cA cO cP : Addr) : Sp := fun vs H Q _ => ∃ (H0 : Hp) (x dx l : Addr) (ps : List Sh) (xs : List V), vs = [.ref x, .ref l] ∧ Same H0 H ∧ H0 x = none ∧ H x = some (.ins cP dx []) ∧ H0 l = some (.lst xs) ∧ OSs cA cO H0 ps xs ∧ OkR ps ∧
  ∀ H1, Same H0 H1 → SP cA cO cP H1 ps x → Q .non H1
theorem p_ini (T : Top K mg cA cO cS cP) : Ma P w K mg base 38 cP (spPIni cA cO cP) := by
  refine ma_by T.pIni scP0 (fun vs H Q E h => ?_) (fun f cdv A outer s H vs Q E hr h => ?_)
  · obtain ⟨H0, x, dx, l, ps, xs, rfl, _⟩ := h
    rfl
  obtain ⟨H0, x, dx, l, ps, xs, rfl, g0, hx0, hx, hl0, hs0, hf, q⟩ := h
  refine ⟨_, pss_cons (ps_fld (pv 0) (pe_fn (f_shortsIn T) hr (by decide) rfl (pa_cons (pv 1) pa_nil)) rfl)
    (pss_cons (ps_if (pt_cmpR op_gt (pe_fn (r_many T) hr (by decide) rfl (pa_cons (pe_fld (pv 0) rfl) pa_nil)) (pe_ci T.iMOST rfl) (nomark _)) (pss_one ps_never) pss_nil)
    (pss_one (ps_fld (pv 0) (pe_fn (r_moms T) hr (by decide) rfl (pa_cons (pe_fld (pv 0) rfl) pa_nil)) rfl))), ?_⟩
  refine ⟨_, rfl, ps, xs, l, rfl, g0 _ _ hl0, hs0.mono (same_imm g0), hf.fit, hf.ris, fun k H1 g1 hk0 ek => ?_⟩
  have nkx : k ≠ x := fun z => by rw [z, hx] at hk0; cases hk0
  refine ⟨_, rfl, x, cP, dx, [], rfl, g1 _ _ hx, T.clP, T.nKeptP, (by show 0 < 1000; decide), ?_⟩
  have g2 : Same H0 (upd H1 x (.ins cP dx (putF "kept" (.ref k) []))) := same_put (g0.trans g1) hx0 _
  have ex2 : upd H1 x (.ins cP dx (putF "kept" (.ref k) [])) x = some (.ins cP dx [("kept", .ref k)]) := upd_same
  have ek2 : upd H1 x (.ins cP dx (putF "kept" (.ref k) [])) k = some (.tup xs) := (upd_ne nkx).trans ek
  generalize upd H1 x (.ins cP dx (putF "kept" (.ref k) [])) = H2 at g2 ex2 ek2
  refine ⟨_, rfl, x, cP, dx, _, _, rfl, ex2, T.clP, T.nKeptP, lookK1, ps, xs, k, rfl, ek2, hs0.mono (same_imm g2), hf.fit, fun H3 g3 => ⟨_, _, rfl, rfl, _, rfl, ?_⟩⟩
  have z3 : decide ((1440 : Int) < cntR ps) = false := decide_eq_false (by
    have := hf.cnt
    omega)
  show if decide ((1440 : Int) < cntR ps) = true then _ else _
  rw [z3]
  refine iteF ?_
  have ex3 := g3 _ _ ex2
  refine ⟨_, rfl, x, cP, dx, _, _, rfl, ex3, T.clP, T.nKeptP, lookK1, ps, xs, k, rfl, g3 _ _ ek2, hs0.mono (same_imm (g2.trans g3)), hf.fit, fun l2 H4 g4 hl2 el2 => ?_⟩
  have nlx : l2 ≠ x := fun z => by rw [z, ex3] at hl2; cases hl2
  refine ⟨_, rfl, x, cP, dx, _, rfl, g4 _ _ ex3, T.clP, T.nHeld, (by show 1 < 1000; decide), ?_⟩
  have g5 : Same H0 (upd H4 x (.ins cP dx (putF "held" (.ref l2) [("kept", .ref k)]))) := same_put (g2.trans (g3.trans g4)) hx0 _
  refine q _ g5 ⟨dx, k, l2, xs, by rw [upd_same, put3], ?_, hs0.mono (same_imm g5), (upd_ne nlx).trans el2⟩
  rw [upd_ne nkx]
  exact g4 _ _ (g3 _ _ ek2)
/-- parts(), moments() -/
def spPParts (cP : Addr) : Sp := fun vs H Q _ => ∃ a dx k l xs, vs = [.ref a] ∧ H a = some (.ins cP dx [("kept", .ref k), ("held", .ref l)]) ∧ H k = some (.tup xs) ∧ ∀ p, H p = none → Q (.ref p) (upd H p (.lst xs))
def spPMoms (cP : Addr) : Sp := fun vs H Q _ => ∃ a dx k l ys, vs = [.ref a] ∧ H a = some (.ins cP dx [("kept", .ref k), ("held", .ref l)]) ∧ H l = some (.lst ys) ∧ ∀ p, H p = none → Q (.ref p) (upd H p (.lst ys))
theorem p_parts (T : Top K mg cA cO cS cP) : Mt P w K mg base 1 cP "parts" (spPParts cP) := by
  refine mt_by T.pParts scP1 (fun vs H Q E h => ?_) (fun f cdv A outer s H vs Q E hr h => ?_)
  · obtain ⟨a, dx, k, l, xs, rfl, _⟩ := h
    rfl
  obtain ⟨a, dx, k, l, xs, rfl, ea, ek, q⟩ := h
  refine ⟨_, pss_one (ps_ret (pe_callTy call_list_of rfl T.bList boot_list (pa_cons (pe_fld (pv 0) rfl) pa_nil))), ?_⟩
  exact ⟨_, rfl, a, cP, dx, _, _, rfl, ea, T.clP, T.nKeptP, lookP1, k, xs, rfl, .inr (SqT.of ek), q⟩
theorem p_moms (T : Top K mg cA cO cS cP) : Mt P w K mg base 1 cP "moments" (spPMoms cP) := by
  refine mt_by T.pMoms scP2 (fun vs H Q E h => ?_) (fun f cdv A outer s H vs Q E hr h => ?_)
  · obtain ⟨a, dx, k, l, ys, rfl, _⟩ := h
    rfl
  obtain ⟨a, dx, k, l, ys, rfl, ea, el, q⟩ := h
  refine ⟨_, pss_one (ps_ret (pe_callTy call_list_of rfl T.bList boot_list (pa_cons (pe_fld (pv 0) rfl) pa_nil))), ?_⟩
  exact ⟨_, rfl, a, cP, dx, _, _, rfl, ea, T.clP, T.nHeld, lookP2, l, ys, rfl, .inl (SqL.of el), q⟩
/-- pieces(), str, repr: a value -/
def spPV (cA cO cP : Addr) (f : List Sh → V) : Sp := fun vs H Q _ => ∃ a ps, vs = [.ref a] ∧ SP cA cO cP H ps a ∧ OkR ps ∧ ∀ H1, Same H H1 → Q (f ps) H1
theorem pv_len {f : List Sh → V} : ∀ vs H Q E, spPV cA cO cP f vs H Q E → vs.length = 1 := fun vs H Q E h => by
  obtain ⟨a, ps, rfl, _⟩ := h
  rfl
theorem p_pcs (T : Top K mg cA cO cS cP) : Mt P w K mg base 38 cP "pieces" (spPV cA cO cP fun ps => .int (pcsR ps : Nat)) := by
  refine mt_by T.pPcs scP3 pv_len (fun f cdv A outer s H vs Q E hr h => ?_)
  obtain ⟨a, ps, rfl, ⟨dx, k, l, xs, ea, ek, hs, el⟩, hf, q⟩ := h
  refine ⟨_, pss_one (ps_ret (pe_fn (r_pcs T) hr (by decide) rfl (pa_cons (pe_fld (pv 0) rfl) pa_nil))), ?_⟩
  exact ⟨_, rfl, a, cP, dx, _, _, rfl, ea, T.clP, T.nKeptP, lookP1, ps, xs, k, rfl, ek, hs, hf.fit, q⟩
theorem p_str (T : Top K mg cA cO cS cP) : Mt P w K mg base 38 cP "__str__" (spPV cA cO cP fun ps => .str (S (rowTxt ps))) := by
  refine mt_by T.pStr scP6 pv_len (fun f cdv A outer s H vs Q E hr h => ?_)
  obtain ⟨a, ps, rfl, ⟨dx, k, l, xs, ea, ek, hs, el⟩, hf, q⟩ := h
  refine ⟨_, pss_one (ps_ret (pe_joined1 (pe_fmt (pe_fn (r_text T) hr (by decide) rfl (pa_cons (pe_fld (pv 0) rfl) pa_nil))))), ?_⟩
  refine ⟨_, rfl, a, cP, dx, _, _, rfl, ea, T.clP, T.nKeptP, lookP1, ps, xs, k, rfl, ek, hs, hf.fit, fun H1 g1 => .inl ⟨_, rfl, ?_, q H1 g1⟩⟩
  have := rowTxt_len hf.good
  have := hf.pcs
  rw [S_len, sizeLine_eq]
  omega
theorem p_repr (T : Top K mg cA cO cS cP) : Mt P w K mg base 38 cP "__repr__" (spPV cA cO cP fun ps => .str (reprSp ps)) := by
  refine mt_by T.pRepr scP7 pv_len (fun f cdv A outer s H vs Q E hr h => ?_)
  obtain ⟨a, ps, rfl, ⟨dx, k, l, xs, ea, ek, hs, el⟩, hf, q⟩ := h
  refine ⟨_, pss_one (ps_ret (pe_joined (.cons pe_str (.cons (pe_fmtR (pe_fn (r_text T) hr (by decide) rfl (pa_cons (pe_fld (pv 0) rfl) pa_nil))) (.cons pe_str .nil))))), ?_⟩
  have l1 := repr_len hf.good
  have l2 := hf.pcs
  have s1 : ("Spread(" : Str).length = 7 := by decide +kernel
  have s2 : (")" : Str).length = 1 := by decide +kernel
  refine ⟨_, rfl, ?_, ?_⟩
  · rw [empty_app, s1, sizeLine_eq]
    decide
  refine ⟨_, rfl, a, cP, dx, _, _, rfl, ea, T.clP, T.nKeptP, lookP1, ps, xs, k, rfl, ek, hs, hf.fit, fun H1 g1 => .inl ⟨_, rfl, ?_, _, rfl, ?_, ?_⟩⟩
  · rw [sizeLine_eq]
    omega
  · rw [empty_app, strLen_append, s1, sizeLine_eq]
    omega
  refine ⟨_, rfl, ?_, ?_⟩
  · rw [empty_app, strLen_append, strLen_append, s1, s2, sizeLine_eq]
    omega
  show Q (.str _) H1
  rw [empty_app]
  exact q H1 g1
end
end K24

set_option Elab.async false
set_option linter.all false
set_option maxRecDepth 100000
set_option maxHeartbeats 4000000
/-! K12: the reading of a spread's text. -/
namespace K24
open PySem PySem.Spec PyProof.Rows L2 TL SX

/-! ### slices -/
theorem cut_mid {a b c : List Nat} {i j : Int} (hi : i = (a.length : Int)) (hj : j = ((a.length + b.length : Nat) : Int)) : cutS (S (a ++ (b ++ c))) (some i) (some j) = S b := by
  subst hi
  subst hj
  refine ext_tl ?_
  show ((a ++ (b ++ c)).drop (HT.sIx (S (a ++ (b ++ c))).length 0 (some (a.length : Int)))).take (HT.sIx (S (a ++ (b ++ c))).length (S (a ++ (b ++ c))).length (some ((a.length + b.length : Nat) : Int)) - HT.sIx (S (a ++ (b ++ c))).length 0 (some (a.length : Int))) = b
  rw [HT.sIx_nat, HT.sIx_nat, S_len]
  have e : (a ++ (b ++ c)).length = a.length + (b.length + c.length) := by simp
  rw [e]
  have e1 : min a.length (a.length + (b.length + c.length)) = a.length := by omega
  have e2 : min (a.length + b.length) (a.length + (b.length + c.length)) - a.length = b.length := by omega
  rw [e1, e2, List.drop_left, List.take_left]
theorem cut_one {c : Nat} {l : List Nat} : cutS (S (c :: l)) none (some 1) = S [c] := by
  refine ext_tl ?_
  show ((c :: l).drop (HT.sIx (S (c :: l)).length 0 none)).take (HT.sIx (S (c :: l)).length (S (c :: l)).length (some ((1 : Nat) : Int)) - HT.sIx (S (c :: l)).length 0 none) = [c]
  rw [HT.sIx_nat, HT.sIx_none, S_len, List.length_cons]
  have e1 : min 1 (l.length + 1) - 0 = 1 := by omega
  rw [e1]
  rfl
theorem cut_rest {c : Nat} {l : List Nat} : cutS (S (c :: l)) (some 1) none = S l := by
  refine ext_tl ?_
  show ((c :: l).drop (HT.sIx (S (c :: l)).length 0 (some ((1 : Nat) : Int)))).take (HT.sIx (S (c :: l)).length (S (c :: l)).length none - HT.sIx (S (c :: l)).length 0 (some ((1 : Nat) : Int))) = l
  rw [HT.sIx_nat, HT.sIx_none, S_len, List.length_cons]
  have e1 : min 1 (l.length + 1) = 1 := by omega
  rw [e1]
  exact List.take_of_length_le (by simp)
theorem at_place {a : List Nat} {c : Nat} {r : List Nat} : atI (S (a ++ (c :: r))).cps.toList (a.length : Int) = some c := by
  show atI (a ++ (c :: r)) ((a.length : Nat) : Int) = some c
  exact atI_nat (by simp)
theorem stops_list : (",()" : Str).cps.toList = [44, 40, 41] := by decide +kernel
theorem seps_list : (", " : Str).cps.toList = [44, 32] := by decide +kernel
theorem in_stops {c : Nat} (h : stop c) : decide (c ∈ (",()" : Str).cps.toList) = true := by
  rw [stops_list]
  refine decide_eq_true ?_
  simp only [List.mem_cons, List.not_mem_nil, or_false]
  exact h
theorem out_stops {c : Nat} (h : ¬ stop c) : decide (c ∈ (",()" : Str).cps.toList) = false := by
  rw [stops_list]
  refine decide_eq_false fun z => h ?_
  simp only [List.mem_cons, List.not_mem_nil, or_false] at z
  exact z
theorem in_seps {c : Nat} (h : c = 44 ∨ c = 32) : decide (c ∈ (", " : Str).cps.toList) = true := by
  rw [seps_list]
  refine decide_eq_true ?_
  simp only [List.mem_cons, List.not_mem_nil, or_false]
  exact h
theorem out_seps {c : Nat} (h : ¬ (c = 44 ∨ c = 32)) : decide (c ∈ (", " : Str).cps.toList) = false := by
  rw [seps_list]
  refine decide_eq_false fun z => h ?_
  simp only [List.mem_cons, List.not_mem_nil, or_false] at z
  exact z
theorem show_nostop {m x : Nat} (h : x ∈ show_ m) : ¬ stop x := fun z => by
  have := show_mem h
  unfold stop at z
  omega
theorem tail_nostop {n s : Int} {x : Nat} (h : x ∈ tail_ n s) : ¬ stop x := fun z => by
  have d : ∀ k, x ∈ numL k → False := fun k hk => by
    have := numL_digits k x hk
    unfold stop at z
    omega
  unfold tail_ at h
  unfold stop at z
  simp only [List.mem_append, List.mem_cons, List.not_mem_nil, or_false] at h
  rcases h with h | h | h | h
  · omega
  · exact d _ h
  · omega
  · exact d _ h
theorem tail_len {ps : List Sh} {n s : Int} (h : good (.ov ps n s)) : (tail_ n s).length ≤ 100 := by
  have o := ov_facts h
  have ln : (numL n.toNat).length ≤ 4 := numL_len (by decide) (by omega)
  have ls : (numL s.toNat).length ≤ 90 := num_len o.2.2.2.2.2.2.1
  unfold tail_
  simp only [List.length_append, List.length_cons, List.length_nil]
  omega

/-! ### the open rows in the heap -/
/-- bs: the rows' lists, the innermost first -/
def Rw (cA cO : Addr) (H0 H : Hp) : List Addr → List (List Sh) → Prop
  | [], [] => True
  | b :: bs, ps :: st => H0 b = none ∧ b ∉ bs ∧ (∃ xs, H b = some (.lst xs) ∧ OSs cA cO H ps xs) ∧ Rw cA cO H0 H bs st
  | _, _ => False
theorem Rw.mono {cA cO : Addr} {H0 H H1 : Hp} (i : Imm H H1) : ∀ {bs : List Addr} {st : List (List Sh)}, (∀ b ∈ bs, ∀ o, H b = some o → H1 b = some o) → Rw cA cO H0 H bs st → Rw cA cO H0 H1 bs st
  | [], [], _, _ => True.intro
  | b :: bs, ps :: st, k, ⟨h1, h2, ⟨xs, h3, h4⟩, h5⟩ => ⟨h1, h2, ⟨xs, k b List.mem_cons_self _ h3, h4.mono i⟩, Rw.mono i (fun c hc => k c (List.mem_cons_of_mem _ hc)) h5⟩
  | [], _ :: _, _, h => h.elim
  | _ :: _, [], _, h => h.elim
theorem Rw.some_ {cA cO : Addr} {H0 H : Hp} : ∀ {bs : List Addr} {st : List (List Sh)}, Rw cA cO H0 H bs st → ∀ b ∈ bs, ∃ xs, H b = some (.lst xs)
  | b :: bs, ps :: st, ⟨_, _, ⟨xs, h3, _⟩, h5⟩, c, hc => by
    rcases List.mem_cons.mp hc with e | e
    · rw [e]; exact ⟨xs, h3⟩
    · exact Rw.some_ h5 c e
theorem Rw.len {cA cO : Addr} {H0 H : Hp} : ∀ {bs : List Addr} {st : List (List Sh)}, Rw cA cO H0 H bs st → bs.length = st.length
  | [], [], _ => rfl
  | b :: bs, ps :: st, ⟨_, _, _, h5⟩ => by rw [List.length_cons, List.length_cons, Rw.len h5]
  | [], _ :: _, h => h.elim
  | _ :: _, [], h => h.elim
/-- the parser's state: the list of rows at r -/
structure PSt (cA cO : Addr) (H0 H : Hp) (r : Addr) (bs : List Addr) (st : List (List Sh)) : Prop where
  same : Same H0 H
  new : H0 r = none
  out : r ∉ bs
  rows : H r = some (.lst ((bs.map V.ref).reverse))
  rw : Rw cA cO H0 H bs st
theorem imm_put {H H1 : Hp} {b : Addr} (i : Imm H H1) (hb : ∃ ys, H b = some (.lst ys)) (o : HO) : Imm H (upd H1 b o) := fun c u e n => by
  have hc : c ≠ b := fun z => by
    obtain ⟨ys, hy⟩ := hb
    rw [z, hy] at e
    cases e
    exact n ys rfl
  rw [upd_ne hc]
  exact i c u e n
theorem rev_last (b : Addr) (bs : List Addr) : ((b :: bs).map V.ref).reverse = (bs.map V.ref).reverse ++ [.ref b] := by simp
theorem atI_end (xs : List V) (v : V) : atI (xs ++ [v]) (-1) = some v := atI_last xs v

section
variable {P : Program} {w : World} {K : PySem.W.Frag} {mg : Str → Option Value} {base : Heap} {cA cO cS cP : Addr}

/-! ### at_in, over_in, item_end -/
theorem sc40 : FnScope ["text", "moment", "e"] ["text"] (defScope (topS 40)) := ⟨rfl, rfl, rfl, by decide +kernel, rfl, by decide +kernel, by decide +kernel⟩
def spAtIn (cA cO : Addr) : Sp := fun vs H Q _ => ∃ m : Int, vs = [.str (S (show_ m.toNat))] ∧ 0 ≤ m ∧ m < BIG ∧ ∀ v H1, Same H H1 → OS cA cO H1 (.pt m) v → Q v H1
theorem f_atIn (T : Top K mg cA cO cS cP) : Fn P w K mg base 7 "at_in" (spAtIn cA cO) := by
  refine fn_by T.dAtIn sc40 (fun vs H Q E h => ?_) (fun f cdv A outer s H vs Q E hr h => ?_)
  · obtain ⟨m, rfl, _⟩ := h
    rfl
  obtain ⟨m, rfl, h0, h1, q⟩ := h
  have nd := sc40.nd
  refine ⟨_, pss_cons (ps_try_thru0 (pss_one (ps_set (i := 1) nd rfl (.inl rfl) (pe_fn (f_read T) hr (by decide) rfl (pa_cons (pv 0) pa_nil)))))
    (pss_one (ps_ret (pe_ma (a_ini T) T.gA hr (by decide) rfl (pa_cons (pv 1) pa_nil)))), ?_⟩
  refine ⟨_, rfl, m, rfl, h0, h1, fun H1 g1 => ?_⟩
  refine ⟨_, rfl, fun x dx hx hdx ne => ?_⟩
  refine ⟨H1, x, dx, m, rfl, ?_, hx, upd_same, h0, fun H2 g2 e2 => ⟨rfl, ?_⟩⟩
  · exact same_put (same_upd hdx _) hx _
  · refine q _ H2 (g1.trans g2) ?_
    rw [OS]
    exact ⟨x, dx, rfl, e2⟩
theorem sc42 : FnScope ["parts", "tail", "words"] ["parts", "tail"] (defScope (topS 42)) := ⟨rfl, rfl, rfl, by decide +kernel, rfl, by decide +kernel, by decide +kernel⟩
def spOverIn (cA cO : Addr) : Sp := fun vs H Q _ => ∃ (l : Addr) (ps : List Sh) (xs : List V) (n s : Int), vs = [.ref l, .str (S (tail_ n s))] ∧ H l = some (.lst xs) ∧ OSs cA cO H ps xs ∧ Fit 9 (.ov ps n s) ∧ ∀ v H1, Same H H1 → OS cA cO H1 (.ov ps n s) v → Q v H1
theorem f_overIn (T : Top K mg cA cO cS cP) : Fn P w K mg base 41 "over_in" (spOverIn cA cO) := by
  refine fn_by T.dOverIn sc42 (fun vs H Q E h => ?_) (fun f cdv A outer s H vs Q E hr h => ?_)
  · obtain ⟨l, ps, xs, n, st, rfl, _⟩ := h
    rfl
  obtain ⟨l, ps, xs, n, st, rfl, hl, hs, hf, q⟩ := h
  have nd := sc42.nd
  have o := ov_facts hf.2.1
  refine ⟨_, pss_cons (ps_set (i := 2) nd rfl (.inl rfl) (pe_bm PySem.F.plainAttrs_str PySem.F.slot_str_split PySem.F.type_str_split mt_split (pv 1) (pa_cons pe_str pa_nil)))
    (pss_cons (ps_if (PW.pt (pw_or (pt_cmpR op_ne (pe_callB call_len_seq rfl T.bLen PySem.boot_len (pa_cons (pv 2) pa_nil)) pe_int (nomark _))
      (pw_or (pt_cmpR op_ne (pe_ix ix_list (pv 2) pe_int (fun _ _ => rfl)) pe_str (nomark _))
      (pw_or (pt_cmpR op_ne (pe_slice sl_str (pe_ix ix_list (pv 2) pe_int (fun _ _ => rfl)) po_none (po_some pe_int)) pe_str (nomark _))
      (pw_or1 (pt_cmpR op_ne (pe_slice sl_str (pe_ix ix_list (pv 2) pe_int (fun _ _ => rfl)) po_none (po_some pe_int)) pe_str (nomark _))))))) (pss_one ps_never) pss_nil)
    (pss_one (ps_ret (pe_ma (o_ini T) T.gO hr (by decide) rfl (pa_cons (pv 0)
      (pa_cons (pe_fn (f_numIn T) hr (by decide) rfl (pa_cons (pe_slice sl_str (pe_ix ix_list (pv 2) pe_int (fun _ _ => rfl)) (po_some pe_int) po_none) pa_nil))
      (pa_cons (pe_fn (f_numIn T) hr (by decide) rfl (pa_cons (pe_slice sl_str (pe_ix ix_list (pv 2) pe_int (fun _ _ => rfl)) (po_some pe_int) po_none) pa_nil)) pa_nil))))))), ?_⟩
  have e32 : (" " : Str) = S [32] := lit " " (by decide +kernel)
  have e0 : ("" : Str) = S [] := lit "" (by decide +kernel)
  have ex : ("x" : Str) = S [120] := lit "x" (by decide +kernel)
  have ep : ("+" : Str) = S [43] := lit "+" (by decide +kernel)
  have tl100 := tail_len hf.2.1
  have ln : (numL n.toNat).length ≤ 4 := numL_len (by decide) (by omega)
  have ls : (numL st.toNat).length ≤ 90 := num_len o.2.2.2.2.2.2.1
  refine ⟨_, rfl, rfl, _, _, rfl, rfl, (by rw [e32]; rfl), (by rw [S_len, sizeLine_eq]; omega), fun p hp => ?_⟩
  rw [e32, tail_split]
  have g1 : Same H (upd H p (.lst (([S [], S (120 :: numL n.toNat), S (43 :: numL st.toNat)] : List Str).map V.str))) := same_upd hp _
  have ew : upd H p (.lst (([S [], S (120 :: numL n.toNat), S (43 :: numL st.toNat)] : List Str).map V.str)) p = some (.lst [.str (S []), .str (S (120 :: numL n.toNat)), .str (S (43 :: numL st.toNat))]) := upd_same
  generalize upd H p (.lst (([S [], S (120 :: numL n.toNat), S (43 :: numL st.toNat)] : List Str).map V.str)) = H1 at g1 ew
  have w0 : SqL K H1 p [.str (S []), .str (S (120 :: numL n.toNat)), .str (S (43 :: numL st.toNat))] := SqL.of ew
  have i0 : atI [V.str (S []), .str (S (120 :: numL n.toNat)), .str (S (43 :: numL st.toNat))] 0 = some (.str (S [])) := atI_nat (j := 0) rfl
  have i1 : atI [V.str (S []), .str (S (120 :: numL n.toNat)), .str (S (43 :: numL st.toNat))] 1 = some (.str (S (120 :: numL n.toNat))) := atI_nat (j := 1) rfl
  have i2 : atI [V.str (S []), .str (S (120 :: numL n.toNat)), .str (S (43 :: numL st.toNat))] 2 = some (.str (S (43 :: numL st.toNat))) := atI_nat (j := 2) rfl
  have z1 : (S (120 :: numL n.toNat)).length ≤ sizeLine := by
    rw [S_len, List.length_cons, sizeLine_eq]
    omega
  have z2 : (S (43 :: numL st.toNat)).length ≤ sizeLine := by
    rw [S_len, List.length_cons, sizeLine_eq]
    omega
  refine ⟨_, rfl, p, _, rfl, .inl w0, rfl, _, rfl, iteF ?_⟩
  refine ⟨_, rfl, p, _, 0, _, rfl, rfl, w0, i0, rfl, _, rfl, ?_⟩
  rw [e0]
  refine iteNS rfl ?_
  refine ⟨_, rfl, p, _, 1, _, rfl, rfl, w0, i1, 1, rfl, _, rfl, z1, rfl, _, rfl, ?_⟩
  rw [cut_one, ex]
  refine iteNS rfl ?_
  refine ⟨_, rfl, p, _, 2, _, rfl, rfl, w0, i2, 1, rfl, _, rfl, z2, rfl, _, rfl, ?_⟩
  rw [cut_one, ep]
  refine iteNS rfl ?_
  refine ⟨_, rfl, _, rfl, p, _, 1, _, rfl, rfl, w0, i1, 1, rfl, _, rfl, z1, n.toNat, congrArg (fun z => [V.str z]) cut_rest, by omega, fun H2 g2 => ?_⟩
  have w2 : SqL K H2 p [.str (S []), .str (S (120 :: numL n.toNat)), .str (S (43 :: numL st.toNat))] := SqL.of (g2 _ _ ew)
  refine ⟨_, rfl, p, _, 2, _, rfl, rfl, w2, i2, 1, rfl, _, rfl, z2, st.toNat, congrArg (fun z => [V.str z]) cut_rest, by omega, fun H3 g3 => ?_⟩
  have en : ((n.toNat : Nat) : Int) = n := by omega
  have es : ((st.toNat : Nat) : Int) = st := by omega
  rw [en, es]
  intro x dx hx hdx ne
  have g13 := g1.trans (g2.trans g3)
  refine ⟨H3, x, dx, l, ps, xs, n, st, rfl, same_put (same_upd hdx _) hx _, hx, upd_same, g13 _ _ hl, hs.mono (same_imm g13), hf, fun H4 g4 o4 => ⟨rfl, q _ H4 (g13.trans g4) o4⟩⟩
theorem sc41 : FnScope ["text", "at", "end"] ["text", "at"] (defScope (topS 41)) := ⟨rfl, rfl, rfl, by decide +kernel, rfl, by decide +kernel, by decide +kernel⟩
def spItemEnd : Sp := fun vs H Q _ => ∃ (a b c : List Nat) (i : Int), vs = [.str (S (a ++ (b ++ c))), .int i] ∧ i = (a.length : Int) ∧ (∀ x ∈ b, ¬ stop x) ∧ Stops c ∧ (a ++ (b ++ c)).length ≤ 20000 ∧ Q (.int ((a.length + b.length : Nat) : Int)) H
theorem f_itemEnd (T : Top K mg cA cO cS cP) : Fn P w K mg base 1 "item_end" spItemEnd := by
  refine fn_by T.dItemEnd sc41 (fun vs H Q E h => ?_) (fun f cdv A outer s H vs Q E hr h => ?_)
  · obtain ⟨a, b, c, i, rfl, _⟩ := h
    rfl
  obtain ⟨a, b, c, i, rfl, rfl, hb, hc, hl, q⟩ := h
  have nd := sc41.nd
  refine ⟨_, pss_cons (ps_set (i := 2) nd rfl (.inl rfl) (pv 1))
    (pss_cons (ps_while PassesOwn.never (PW.pt (pw_and (pt_cmpR op_lt (pv 2) (pe_callB call_len_str rfl T.bLen PySem.boot_len (pa_cons (pv 0) pa_nil)) (nomark _)) (pw_and1 (pt_cmpR op_notIn_sign (pe_ix ix_str (pv 0) (pv 2) (fun _ _ => rfl)) pe_str rfl))))
      (pss_one (ps_aug (i := 2) nd rfl (.inl rfl) pe_int ip_add)))
    (pss_one (ps_ret (pv 2)))), ?_⟩
  refine ⟨_, rfl, ?_⟩
  have lenS : (S (a ++ (b ++ c))).length ≤ sizeLine := by
    rw [S_len, sizeLine_eq]
    omega
  refine ⟨fun m σ H1 => H1 = H ∧ ∃ b1 b2, b = b1 ++ b2 ∧ m = b2.length ∧ σ = [some (.str (S (a ++ (b ++ c)))), some (.int (a.length : Int)), some (.int ((a.length + b1.length : Nat) : Int))], ⟨b.length, rfl, [], b, rfl, rfl, rfl⟩, ?_⟩
  rintro m σ H1 ⟨rfl, b1, b2, eb, rfl, rfl⟩
  have el : (S (a ++ (b ++ c))).length = a.length + (b.length + c.length) := by
    rw [S_len]
    simp
  have ebl : b.length = b1.length + b2.length := by rw [eb, List.length_append]
  refine ⟨_, rfl, _, rfl, _, rfl, lenS, _, _, rfl, rfl, _, rfl, ?_⟩
  by_cases hm : b2 = []
  · -- nothing of the item is left
    have hq : Q (.int ((a.length + b1.length : Nat) : Int)) H1 := by
      rw [hm, List.length_nil, Nat.add_zero] at ebl
      rw [← ebl]
      exact q
    rcases hc with rfl | ⟨d, r, rfl, hd⟩
    · have z : decide ((((a.length + b1.length : Nat) : Int)) < (((S (a ++ (b ++ []))).length : Nat) : Int)) = false := decide_eq_false (by
        rw [el]
        rw [hm] at ebl
        simp only [List.length_nil] at ebl ⊢
        omega)
      show if decide ((((a.length + b1.length : Nat) : Int)) < (((S (a ++ (b ++ []))).length : Nat) : Int)) = true then _ else _
      rw [z]
      exact iteF ⟨_, rfl, hq⟩
    · have z : decide ((((a.length + b1.length : Nat) : Int)) < (((S (a ++ (b ++ (d :: r)))).length : Nat) : Int)) = true := decide_eq_true (by
        rw [el]
        simp only [List.length_cons]
        omega)
      show if decide ((((a.length + b1.length : Nat) : Int)) < (((S (a ++ (b ++ (d :: r)))).length : Nat) : Int)) = true then _ else _
      rw [z]
      refine iteT ⟨_, rfl, _, rfl, _, _, d, rfl, rfl, lenS, ?_, d, _, rfl, rfl, _, rfl, ?_⟩
      · have e1 : a ++ (b ++ (d :: r)) = (a ++ b1) ++ (d :: r) := by
          rw [eb, hm]
          simp
        rw [e1]
        have e2 : ((a.length + b1.length : Nat) : Int) = (((a ++ b1).length : Nat) : Int) := by rw [List.length_append]
        rw [e2]
        exact at_place
      · show if (!decide (d ∈ (",()" : Str).cps.toList)) = true then _ else _
        rw [in_stops hd]
        exact iteF ⟨_, rfl, hq⟩
  · obtain ⟨d, b3, rfl⟩ : ∃ d b3, b2 = d :: b3 := by
      cases b2 with
      | nil => exact absurd rfl hm
      | cons d b3 => exact ⟨d, b3, rfl⟩
    have hd : ¬ stop d := hb d (by rw [eb]; exact List.mem_append_right _ List.mem_cons_self)
    have z : decide ((((a.length + b1.length : Nat) : Int)) < (((S (a ++ (b ++ c))).length : Nat) : Int)) = true := decide_eq_true (by
      rw [el]
      rw [List.length_cons] at ebl
      omega)
    show if decide ((((a.length + b1.length : Nat) : Int)) < (((S (a ++ (b ++ c))).length : Nat) : Int)) = true then _ else _
    rw [z]
    refine iteT ⟨_, rfl, _, rfl, _, _, d, rfl, rfl, lenS, ?_, d, _, rfl, rfl, _, rfl, ?_⟩
    · have e1 : a ++ (b ++ c) = (a ++ b1) ++ (d :: (b3 ++ c)) := by
        rw [eb]
        simp
      rw [e1]
      have e2 : ((a.length + b1.length : Nat) : Int) = (((a ++ b1).length : Nat) : Int) := by rw [List.length_append]
      rw [e2]
      exact at_place
    · show if (!decide (d ∈ (",()" : Str).cps.toList)) = true then _ else _
      rw [out_stops hd]
      refine iteT ⟨fun σ H2 => H2 = H1 ∧ σ = [some (.str (S (a ++ (b ++ c)))), some (.int (a.length : Int)), some (.int ((a.length + (b1 ++ [d]).length : Nat) : Int))], fun σ H2 ⟨e1, e2⟩ => ⟨b3.length, by rw [List.length_cons]; exact Nat.lt_succ_self _, e1, b1 ++ [d], b3, by rw [eb]; simp, rfl, e2⟩, ?_⟩
      refine ⟨_, rfl, _, _, rfl, rfl, rfl, ?_⟩
      have e3 : ((a.length + b1.length : Nat) : Int) + 1 = ((a.length + (b1 ++ [d]).length : Nat) : Int) := by
        rw [List.length_append, List.length_singleton]
        omega
      show [some (V.str (S (a ++ (b ++ c)))), some (V.int (a.length : Int)), some (V.int (((a.length + b1.length : Nat) : Int) + 1))] = _
      rw [e3]
end
end K24

set_option Elab.async false
set_option linter.all false
set_option maxRecDepth 100000
set_option maxHeartbeats 4000000
/-! K13: read_on, read_spread. -/
namespace K24
open PySem PySem.Spec PyProof.Rows L2 TL SX

theorem one_eq {c d : Nat} : (V.str (⟨#[c]⟩ : Str) = V.str (S [d])) ↔ c = d := by
  constructor
  · intro h
    injection h with h
    have := congrArg tl h
    have e : [c] = [d] := this
    injection e
  · intro h
    rw [h]
theorem none_back {H H1 : Hp} (g : Same H H1) {p : Addr} (h : H1 p = none) : H p = none := by
  cases e : H p with
  | none => rfl
  | some o => rw [g _ _ e] at h; cases h
theorem last_get (xs : List V) (v : V) : (xs ++ [v])[(xs ++ [v]).length - 1]? = some v := by
  rw [List.length_append, List.length_singleton, Nat.add_sub_cancel, List.getElem?_append_right (Nat.le_refl _), Nat.sub_self]
  rfl

section
variable {P : Program} {w : World} {K : PySem.W.Frag} {mg : Str → Option Value} {base : Heap} {cA cO cS cP : Addr}

/-- a new row is opened -/
theorem pst_open {H0 H : Hp} {r p : Addr} {bs : List Addr} {st : List (List Sh)} (h : PSt cA cO H0 H r bs st) (hp : H p = none) :
    PSt cA cO H0 (upd (upd H p (.lst [])) r (.lst ((bs.map V.ref).reverse ++ [.ref p]))) r (p :: bs) ([] :: st) := by
  have npr : p ≠ r := fun z => by rw [z, h.rows] at hp; cases hp
  have npb : p ∉ bs := fun z => by
    obtain ⟨xs, e⟩ := h.rw.some_ p z
    rw [e] at hp
    cases hp
  have i2 : Imm H (upd (upd H p (.lst [])) r (.lst ((bs.map V.ref).reverse ++ [.ref p]))) := imm_put (same_imm (same_upd hp _)) ⟨_, h.rows⟩ _
  refine ⟨same_put (same_up h.same hp _) h.new _, h.new, ?_, by rw [upd_same, rev_last], none_back h.same hp, npb, ⟨[], by rw [upd_ne npr, upd_same], by rw [OSs]⟩, h.rw.mono i2 fun b hb o e => ?_⟩
  · intro z
    rcases List.mem_cons.mp z with e | e
    · exact npr e.symm
    · exact h.out e
  · have n1 : b ≠ r := fun z => h.out (z ▸ hb)
    have n2 : b ≠ p := fun z => npb (z ▸ hb)
    rw [upd_ne n1, upd_ne n2]
    exact e
/-- a short is put into the innermost row -/
theorem pst_put {H0 H H1 : Hp} {r b : Addr} {bs : List Addr} {st : List (List Sh)} {x : List Sh} {t : Sh} {v : V} (h : PSt cA cO H0 H r (b :: bs) (x :: st)) (g : Same H H1) (o : OS cA cO H1 t v) :
    ∃ xs, H1 b = some (.lst xs) ∧ xs.length = x.length ∧ PSt cA cO H0 (upd H1 b (.lst (xs ++ [v]))) r (b :: bs) ((x ++ [t]) :: st) := by
  obtain ⟨h1, h2, ⟨xs, h3, h4⟩, h5⟩ := h.rw
  have eb := g _ _ h3
  have i1 : Imm H1 (upd H1 b (.lst (xs ++ [v]))) := imm_put (Imm.refl _) ⟨_, eb⟩ _
  have nrb : r ≠ b := fun z => h.out (z ▸ List.mem_cons_self)
  refine ⟨xs, eb, h4.len, same_put (h.same.trans g) h1 _, h.new, h.out, by rw [upd_ne nrb]; exact g _ _ h.rows, h1, h2, ⟨_, upd_same, OSs.snoc ((h4.mono (same_imm g)).mono i1) (o.mono i1)⟩, h5.mono ((same_imm g).trans i1) fun c hc u e => ?_⟩
  have n1 : c ≠ b := fun z => h2 (z ▸ hc)
  rw [upd_ne n1]
  exact g _ _ e
/-- the innermost row is closed -/
theorem pst_pop {H0 H : Hp} {r b : Addr} {bs : List Addr} {st : List (List Sh)} {x : List Sh} (h : PSt cA cO H0 H r (b :: bs) (x :: st)) :
    PSt cA cO H0 (upd H r (.lst ((bs.map V.ref).reverse))) r bs st ∧ ∃ xs, (upd H r (.lst ((bs.map V.ref).reverse))) b = some (.lst xs) ∧ OSs cA cO (upd H r (.lst ((bs.map V.ref).reverse))) x xs := by
  obtain ⟨h1, h2, ⟨xs, h3, h4⟩, h5⟩ := h.rw
  have i1 : Imm H (upd H r (.lst ((bs.map V.ref).reverse))) := imm_put (Imm.refl _) ⟨_, h.rows⟩ _
  have nb : ∀ c ∈ b :: bs, c ≠ r := fun c hc z => h.out (z ▸ hc)
  refine ⟨⟨same_put h.same h.new _, h.new, fun z => h.out (List.mem_cons_of_mem _ z), upd_same, h5.mono i1 fun c hc u e => ?_⟩, xs, ?_, h4.mono i1⟩
  · rw [upd_ne (nb c (List.mem_cons_of_mem _ hc))]
    exact e
  · rw [upd_ne (nb b List.mem_cons_self)]
    exact h3
theorem sc43 : FnScope ["text", "at", "rows", "end", "parts"] ["text", "at", "rows"] (defScope (topS 43)) := ⟨rfl, rfl, rfl, by decide +kernel, rfl, by decide +kernel, by decide +kernel⟩
def spReadOn (cA cO : Addr) : Sp := fun vs H Q _ => ∃ (H0 : Hp) (r : Addr) (bs : List Addr) (st : List (List Sh)) (t : Tok) (ts : List Tok) (a : List Nat), vs = [.str (S (a ++ (chars t ++ flat ts))), .int (a.length : Int), .ref r] ∧ PSt cA cO H0 H r bs st ∧ Legal t st ∧ (isItem t → Stops (flat ts)) ∧ (a ++ (chars t ++ flat ts)).length ≤ 20000 ∧
  ∀ H1 bs1, PSt cA cO H0 H1 r bs1 (stp t st) → Q (.int ((a.length + (chars t).length : Nat) : Int)) H1
theorem f_readOn (T : Top K mg cA cO cS cP) : Fn P w K mg base 42 "read_on" (spReadOn cA cO) := by
  refine fn_by T.dReadOn sc43 (fun vs H Q E h => ?_) (fun f cdv A outer s H vs Q E hr h => ?_)
  · obtain ⟨H0, r, bs, st, t, ts, a, rfl, _⟩ := h
    rfl
  obtain ⟨H0, r, bs, st, t, ts, a, rfl, hp, hl, hst, hlen, q⟩ := h
  have nd := sc43.nd
  refine ⟨_, pss_cons (ps_if (pt_cmpR op_in_sign (pe_ix ix_str (pv 0) (pv 1) (fun _ _ => rfl)) pe_str rfl) (pss_one (ps_ret (pe_op op_add (pv 1) pe_int))) pss_nil)
    (pss_cons (ps_if (pt_cmpR op_eq (pe_ix ix_str (pv 0) (pv 1) (fun _ _ => rfl)) pe_str (nomark _))
      (pss_cons (ps_if (pt_cmpR op_gt (pe_callB call_len_seq rfl T.bLen PySem.boot_len (pa_cons (pv 2) pa_nil)) (pe_ci T.iNEST rfl) (nomark _)) (pss_one ps_never) pss_nil)
      (pss_cons (ps_expr (pe_bm PySem.F.plainAttrs_list PySem.F.slot_list_append PySem.F.type_list_append mt_append (pv 2) (pa_cons (pe_lst pa_nil) pa_nil)))
      (pss_one (ps_ret (pe_op op_add (pv 1) pe_int))))) pss_nil)
    (pss_cons (ps_set (i := 3) nd rfl (.inl rfl) (pe_fn (f_itemEnd T) hr (by decide) rfl (pa_cons (pv 0) (pa_cons (pe_op op_add (pv 1) pe_int) pa_nil))))
    (pss_cons (ps_if (pt_cmpR op_eq (pe_ix ix_str (pv 0) (pv 1) (fun _ _ => rfl)) pe_str (nomark _))
      (pss_cons (ps_if (pt_cmpR op_eq (pe_callB call_len_seq rfl T.bLen PySem.boot_len (pa_cons (pv 2) pa_nil)) pe_int (nomark _)) (pss_one ps_never) pss_nil)
      (pss_cons (ps_set (i := 4) nd rfl (.inl rfl) (pe_bm0 PySem.F.plainAttrs_list PySem.F.slot_list_pop PySem.F.type_list_pop mt_pop (pv 2)))
      (pss_one (ps_expr (pe_bm PySem.F.plainAttrs_list PySem.F.slot_list_append PySem.F.type_list_append mt_append (pe_ix ix_list (pv 2) (pe_un un_neg pe_int) (fun _ _ => rfl))
        (pa_cons (pe_fn (f_overIn T) hr (by decide) rfl (pa_cons (pv 4) (pa_cons (pe_slice sl_str (pv 0) (po_some (pe_op op_add (pv 1) pe_int)) (po_some (pv 3))) pa_nil))) pa_nil))))))
      (pss_one (ps_expr (pe_bm PySem.F.plainAttrs_list PySem.F.slot_list_append PySem.F.type_list_append mt_append (pe_ix ix_list (pv 2) (pe_un un_neg pe_int) (fun _ _ => rfl))
        (pa_cons (pe_fn (f_atIn T) hr (by decide) rfl (pa_cons (pe_slice sl_str (pv 0) (po_some (pv 1)) (po_some (pv 3))) pa_nil)) pa_nil)))))
    (pss_one (ps_ret (pv 3)))))), ?_⟩
  have lenS : (S (a ++ (chars t ++ flat ts))).length ≤ sizeLine := by
    rw [S_len, sizeLine_eq]
    omega
  have eL : ("(" : Str) = S [40] := lit "(" (by decide +kernel)
  have eR : (")" : Str) = S [41] := lit ")" (by decide +kernel)
  obtain ⟨c, m, hc⟩ : ∃ c m, chars t = c :: m := by
    cases e : chars t with
    | nil => exact absurd e chars_ne
    | cons c m => exact ⟨c, m, rfl⟩
  have hat : atI (S (a ++ (chars t ++ flat ts))).cps.toList (a.length : Int) = some c := by
    rw [hc]
    exact at_place
  refine ⟨_, rfl, _, rfl, _, _, c, rfl, rfl, lenS, hat, c, _, rfl, rfl, _, rfl, ?_⟩
  show if decide (c ∈ (", " : Str).cps.toList) = true then _ else _
  have fin1 : ∀ {H1 : Hp} {bs1 : List Addr}, (chars t).length = 1 → PSt cA cO H0 H1 r bs1 (stp t st) → Q (.int ((a.length : Int) + 1)) H1 := fun h1 h2 => by
    have := q _ _ h2
    rw [h1] at this
    exact this
  by_cases hsep : c = 44 ∨ c = 32
  · rw [in_seps hsep]
    refine iteT ?_
    cases t with
    | sep d => exact ⟨_, rfl, _, _, rfl, rfl, fin1 rfl hp⟩
    | opn =>
      cases hc
      omega
    | pnt i =>
      obtain ⟨c2, r2, e2, h1, h2⟩ := show_head i.toNat
      have : c2 = c := by
        have e3 : show_ i.toNat = c :: m := hc
        rw [e2] at e3
        injection e3
      omega
    | cls ps n s2 =>
      cases hc
      omega
  rw [out_seps hsep]
  refine iteF ?_
  refine ⟨_, rfl, _, rfl, _, _, c, rfl, rfl, lenS, hat, rfl, _, rfl, ?_⟩
  rw [eL]
  show if decide (V.str ⟨#[c]⟩ = V.str (S [40])) = true then _ else _
  cases t with
  | sep d =>
    exfalso
    cases hc
    exact hsep hl
  | opn =>
    cases hc
    rw [decide_eq_true (one_eq.mpr rfl)]
    refine iteT ⟨_, rfl, r, _, rfl, .inl (SqL.of hp.rows), ?_⟩
    have z : decide ((8 : Int) < (((bs.map V.ref).reverse.length : Nat) : Int)) = false := decide_eq_false (by
      have := hp.rw.len
      have h8 : st.length ≤ 8 := hl
      rw [List.length_reverse, List.length_map]
      omega)
    refine ⟨_, _, rfl, rfl, _, rfl, ?_⟩
    show if decide ((8 : Int) < (((bs.map V.ref).reverse.length : Nat) : Int)) = true then _ else _
    rw [z]
    refine iteF ⟨_, rfl, .inl ⟨rfl, _, SqL.of hp.rows⟩, ?_⟩
    refine ⟨by show 0 ≤ sizeLine; decide, fun p hp2 => ?_⟩
    have npr : r ≠ p := fun z => by rw [← z, hp.rows] at hp2; cases hp2
    refine ⟨r, _, _, rfl, rfl, (by rw [upd_ne npr]; exact hp.rows), ?_, _, rfl, _, _, rfl, rfl, fin1 rfl (pst_open hp hp2)⟩
    rw [List.length_reverse, List.length_map, hp.rw.len, sizeLine_eq]
    have h8 : st.length ≤ 8 := hl
    omega
  | pnt i =>
    obtain ⟨⟨x, r2, rfl, hx⟩, h0, h1⟩ := hl
    have hcd : 48 ≤ c ∧ c ≤ 57 := by
      obtain ⟨c2, r2, e2, h1, h2⟩ := show_head i.toNat
      have e3 : show_ i.toNat = c :: m := hc
      rw [e2] at e3
      injection e3 with e4
      omega
    rw [decide_eq_false (fun z => by have := one_eq.mp z; omega)]
    refine iteF ?_
    obtain ⟨b, bs, rfl⟩ : ∃ b bs', bs = b :: bs' := by
      cases bs with
      | nil => exact absurd hp.rw.len (by simp)
      | cons b bs => exact ⟨b, bs, rfl⟩
    have emid : a ++ (chars (.pnt i) ++ flat ts) = (a ++ [c]) ++ (m ++ flat ts) := by
      rw [hc]
      simp
    have hm : ∀ y ∈ m, ¬ stop y := fun y hy => show_nostop (m := i.toNat) (by
      have e3 : show_ i.toNat = c :: m := hc
      rw [e3]
      exact List.mem_cons_of_mem _ hy)
    have ecl : (chars (.pnt i)).length = m.length + 1 := by rw [hc]; rfl
    refine ⟨_, rfl, _, rfl, _, _, rfl, rfl, a ++ [c], m, flat ts, (a.length : Int) + 1, (by rw [← emid]; rfl), by rw [List.length_append]; rfl, hm, hst True.intro, by rw [← emid]; exact hlen, ?_⟩
    have eend : (((a ++ [c]).length + m.length : Nat) : Int) = ((a.length + (chars (.pnt i)).length : Nat) : Int) := by
      rw [ecl, List.length_append, List.length_singleton]
      omega
    rw [eend]
    refine ⟨_, rfl, _, rfl, _, _, c, rfl, rfl, lenS, hat, rfl, _, rfl, ?_⟩
    rw [eR]
    show if decide (V.str ⟨#[c]⟩ = V.str (S [41])) = true then _ else _
    rw [decide_eq_false (fun z => by have := one_eq.mp z; omega)]
    refine iteF ?_
    refine ⟨_, rfl, _, rfl, r, _, -1, _, rfl, rfl, SqL.of hp.rows, (by rw [rev_last]; exact atI_end _ _), ?_⟩
    obtain ⟨_, _, ⟨xs, hb, _⟩, _⟩ := hp.rw
    refine ⟨.inl ⟨rfl, _, SqL.of hb⟩, ?_⟩
    refine ⟨_, rfl, _, rfl, _, rfl, _, rfl, _, rfl, _, rfl, lenS, i, ?_, h0, h1, fun v H1 g1 o1 => ?_⟩
    · exact congrArg (fun z => [V.str z]) (cut_mid (b := show_ i.toNat) (c := flat ts) rfl rfl)
    obtain ⟨ys, hys, hyl, hp2⟩ := pst_put hp g1 o1
    refine ⟨b, ys, v, rfl, rfl, hys, by rw [hyl, sizeLine_eq]; omega, _, rfl, q _ _ hp2⟩
  | cls ps n s2 =>
    obtain ⟨⟨y, r2, rfl, hy⟩, hg, hn, hps⟩ := hl
    have hc1 : c = 41 := by
      have e3 : 41 :: tail_ n s2 = c :: m := hc
      injection e3 with e4
      exact e4.symm
    have hm1 : m = tail_ n s2 := by
      have e3 : 41 :: tail_ n s2 = c :: m := hc
      injection e3 with e4 e5
      exact e5.symm
    subst hc1
    subst hm1
    rw [decide_eq_false (fun z => by have := one_eq.mp z; omega)]
    refine iteF ?_
    obtain ⟨b, b2, bs, rfl⟩ : ∃ b b2 bs', bs = b :: b2 :: bs' := by
      have e := hp.rw.len
      match bs, e with
      | [], e => exact absurd e (by simp)
      | [_], e => exact absurd e (by simp)
      | b :: b2 :: bs, _ => exact ⟨b, b2, bs, rfl⟩
    have emid : a ++ (chars (.cls ps n s2) ++ flat ts) = (a ++ [41]) ++ (tail_ n s2 ++ flat ts) := by
      rw [hc]
      simp
    have ecl : (chars (.cls ps n s2)).length = (tail_ n s2).length + 1 := rfl
    refine ⟨_, rfl, _, rfl, _, _, rfl, rfl, a ++ [41], tail_ n s2, flat ts, (a.length : Int) + 1, (by rw [← emid]; rfl), by rw [List.length_append]; rfl, fun y hy => tail_nostop hy, hst True.intro, by rw [← emid]; exact hlen, ?_⟩
    have eend : (((a ++ [41]).length + (tail_ n s2).length : Nat) : Int) = ((a.length + (chars (.cls ps n s2)).length : Nat) : Int) := by
      rw [ecl, List.length_append, List.length_singleton]
      omega
    rw [eend]
    refine ⟨_, rfl, _, rfl, _, _, 41, rfl, rfl, lenS, hat, rfl, _, rfl, ?_⟩
    rw [eR]
    show if decide (V.str ⟨#[41]⟩ = V.str (S [41])) = true then _ else _
    rw [decide_eq_true (one_eq.mpr rfl)]
    refine iteT ⟨_, rfl, r, _, rfl, .inl (SqL.of hp.rows), rfl, _, rfl, ?_⟩
    have z : decide (V.int ((((b :: b2 :: bs).map V.ref).reverse.length : Nat) : Int) = V.int 1) = false := decide_eq_false fun e => by
      injection e with e2
      rw [List.length_reverse, List.length_map, List.length_cons, List.length_cons] at e2
      omega
    show if decide (V.int ((((b :: b2 :: bs).map V.ref).reverse.length : Nat) : Int) = V.int 1) = true then _ else _
    rw [z]
    refine iteF ⟨_, rfl, .inl ⟨rfl, _, SqL.of hp.rows⟩, r, _, .ref b, rfl, rfl, hp.rows, (by rw [rev_last]; exact last_get _ _), ?_⟩
    have edr : (((b :: b2 :: bs).map V.ref).reverse).dropLast = ((b2 :: bs).map V.ref).reverse := by rw [rev_last, List.dropLast_concat]
    rw [edr]
    obtain ⟨hp1, xs, hxb, hxs⟩ := pst_pop hp
    generalize upd H r (.lst (((b2 :: bs).map V.ref).reverse)) = H1 at hp1 hxb hxs
    refine ⟨_, rfl, _, rfl, r, _, -1, _, rfl, rfl, SqL.of hp1.rows, (by rw [rev_last]; exact atI_end _ _), ?_⟩
    obtain ⟨_, _, ⟨ys0, hb2, _⟩, _⟩ := hp1.rw
    refine ⟨.inl ⟨rfl, _, SqL.of hb2⟩, ?_⟩
    have o := ov_facts hg
    refine ⟨_, rfl, _, rfl, _, rfl, _, _, rfl, rfl, _, rfl, _, rfl, _, rfl, _, rfl, lenS, b, ps, xs, n, s2, ?_, hxb, hxs, ⟨?_, hg, ?_⟩, fun v H2 g2 o2 => ?_⟩
    · refine congrArg (fun z => [V.ref b, V.str z]) ?_
      have e1 : ((a.length : Int) + 1) = (((a ++ [41]).length : Nat) : Int) := by rw [List.length_append]; rfl
      have e2 : ((a.length + (chars (.cls ps n s2)).length : Nat) : Int) = (((a ++ [41]).length + (tail_ n s2).length : Nat) : Int) := eend.symm
      rw [emid]
      exact cut_mid e1 e2
    · rw [nest]
      omega
    · rw [pcs]
      omega
    obtain ⟨ys, hys, hyl, hp2⟩ := pst_put hp1 g2 o2
    refine ⟨b2, ys, v, rfl, rfl, hys, by rw [hyl, sizeLine_eq]; omega, _, rfl, q _ _ hp2⟩
/-- str(spread), repr(spread) -/
theorem call_strP {X : Cx} {j : Nat} (T : Top X.K X.mg cA cO cS cP) (hr : Room j X.A) (hk : 39 ≤ j) :
    CallR X (.type "str") (fun xs H Q => ∃ a ps, xs = [.ref a] ∧ SP cA cO cP H ps a ∧ OkR ps ∧ ∀ H1, Same H H1 → Q (.str (S (rowTxt ps))) H1) := by
  obtain ⟨f1, fd1, ps1, M1, F1, B1⟩ := p_str (P := X.prog) (w := X.w) (base := X.base) T
  have r1 := call_strOwn (X := X) F1 (hr.mono hk) M1.at_ M1.fn B1
  intro pins s σ H xs us Q I r h
  obtain ⟨a, ps, rfl, hp, hf, q⟩ := h
  have hp2 := hp
  obtain ⟨dx, k, l, xs, ea, _⟩ := hp2
  exact r1 pins s σ H [.ref a] us Q I r ⟨a, dx, _, rfl, ea, a, ps, rfl, hp, hf, fun H1 g => ⟨⟨_, rfl⟩, q H1 g⟩⟩
theorem call_reprP {X : Cx} {j : Nat} (T : Top X.K X.mg cA cO cS cP) (hr : Room j X.A) (hk : 39 ≤ j) :
    CallR X (.builtin "repr") (fun xs H Q => ∃ a ps, xs = [.ref a] ∧ SP cA cO cP H ps a ∧ OkR ps ∧ ∀ H1, Same H H1 → Q (.str (reprSp ps)) H1) := by
  obtain ⟨f1, fd1, ps1, M1, F1, B1⟩ := p_repr (P := X.prog) (w := X.w) (base := X.base) T
  have r1 := call_reprOwn (X := X) F1 (hr.mono hk) M1.at_ M1.fn B1
  intro pins s σ H xs us Q I r h
  obtain ⟨a, ps, rfl, hp, hf, q⟩ := h
  have hp2 := hp
  obtain ⟨dx, k, l, xs, ea, _⟩ := hp2
  exact r1 pins s σ H [.ref a] us Q I r ⟨a, dx, _, rfl, ea, a, ps, rfl, hp, hf, fun H1 g => ⟨⟨_, rfl⟩, q H1 g⟩⟩
theorem word_head : ∀ t : Sh, ∃ c r, word t = c :: r ∧ c ≠ 45
  | .pt m => by
    obtain ⟨c, r, e, h1, h2⟩ := show_head m.toNat
    exact ⟨c, r, by rw [word]; exact e, by omega⟩
  | .ov ps n s => ⟨40, _, by rw [word]; rfl, by decide⟩
theorem text_head : ∀ {ps : List Sh}, ps ≠ [] → ∃ c r, textR ps = c :: r ∧ c ≠ 45
  | [p], _ => by
    obtain ⟨c, r, e, h⟩ := word_head p
    exact ⟨c, r, by rw [textR]; exact e, h⟩
  | p :: q :: r, _ => by
    obtain ⟨c, m, e, h⟩ := word_head p
    exact ⟨c, _, by rw [textR, e]; rfl, h⟩
theorem sc44 : FnScope ["text", "rows", "at", "found"] ["text"] (defScope (topS 44)) := ⟨rfl, rfl, rfl, by decide +kernel, rfl, by decide +kernel, by decide +kernel⟩
def spReadSp (cA cO cP : Addr) : Sp := fun vs H Q _ => ∃ ps, vs = [.str (S (rowTxt ps))] ∧ OkR ps ∧ ∀ a H1, Same H H1 → SP cA cO cP H1 ps a → Q (.ref a) H1
theorem f_readSp (T : Top K mg cA cO cS cP) : Fn P w K mg base 44 "read_spread" (spReadSp cA cO cP) := by
  refine fn_by T.dReadSp sc44 (fun vs H Q E h => ?_) (fun f cdv A outer s H vs Q E hr h => ?_)
  · obtain ⟨ps, rfl, _⟩ := h
    rfl
  obtain ⟨ps, rfl, hf, q⟩ := h
  have nd := sc44.nd
  refine ⟨_, pss_cons (ps_if (pt_not (pt_val (pe_callB call_isi rfl T.bIsi boot_isinstance (pa_cons (pv 0) (pa_cons (pe_bltn (v := .ty "str") rfl T.bStr boot_str rfl) pa_nil))))) (pss_one ps_never) pss_nil)
    (pss_cons (ps_if (pt_cmpR op_eq (pv 0) (pe_cs T.sNOP rfl) (nomark _)) (pss_one (ps_ret (pe_ma (p_ini T) T.gP hr (by decide) rfl (pa_cons (pe_lst pa_nil) pa_nil)))) pss_nil)
    (pss_cons (ps_set (i := 1) nd rfl (.inl rfl) (pe_lst (pa_cons (pe_lst pa_nil) pa_nil)))
    (pss_cons (ps_set (i := 2) nd rfl (.inl rfl) pe_int)
    (pss_cons (ps_while PassesOwn.never (pt_cmpR op_lt (pv 2) (pe_callB call_len_str rfl T.bLen PySem.boot_len (pa_cons (pv 0) pa_nil)) (nomark _))
      (pss_one (ps_set (i := 2) nd rfl (.inl rfl) (pe_fn (f_readOn T) hr (by decide) rfl (pa_cons (pv 0) (pa_cons (pv 2) (pa_cons (pv 1) pa_nil)))))))
    (pss_cons (ps_if (pt_cmpR op_gt (pe_callB call_len_seq rfl T.bLen PySem.boot_len (pa_cons (pv 1) pa_nil)) pe_int (nomark _)) (pss_one ps_never) pss_nil)
    (pss_cons (ps_set (i := 3) nd rfl (.inl rfl) (pe_ma (p_ini T) T.gP hr (by decide) rfl (pa_cons (pe_ix ix_list (pv 1) pe_int (fun _ _ => rfl)) pa_nil)))
    (pss_cons (ps_if (pt_cmpR op_ne (pe_callTy (call_strP T hr (by decide)) rfl T.bStr boot_str (pa_cons (pv 3) pa_nil)) (pv 0) (nomark _)) (pss_one ps_never) pss_nil)
    (pss_one (ps_ret (pv 3)))))))))), ?_⟩
  have e0 : ("-" : Str) = S [45] := lit "-" (by decide +kernel)
  refine ⟨_, rfl, _, _, _, _, true, rfl, .ty _, .base (.str _), kit_ty (by decide +kernel), true, rfl, iteF ?_⟩
  refine ⟨_, rfl, rfl, _, rfl, ?_⟩
  rw [e0]
  by_cases hps : ps = []
  · subst hps
    have z : decide (V.str (S (rowTxt [])) = V.str (S [45])) = true := decide_eq_true rfl
    show if decide (V.str (S (rowTxt [])) = V.str (S [45])) = true then _ else _
    rw [z]
    refine iteT ⟨by show 0 ≤ sizeLine; decide, fun p hp x dx hx hdx ne => ?_⟩
    exact ⟨_, x, dx, p, [], [], rfl, same_put (same_upd hdx _) hx _, hx, upd_same, upd_same, by rw [OSs], hf, fun H4 g4 o4 => ⟨rfl, q _ H4 ((same_upd hp _).trans g4) o4⟩⟩
  · have et : rowTxt ps = textR ps := by
      unfold rowTxt
      rw [if_neg hps]
    have z : decide (V.str (S (rowTxt ps)) = V.str (S [45])) = false := decide_eq_false fun e => by
      injection e with e
      have e1 : rowTxt ps = [45] := congrArg tl e
      obtain ⟨c, r, e2, h⟩ := text_head hps
      rw [et, e2] at e1
      injection e1 with e3
      exact h e3
    show if decide (V.str (S (rowTxt ps)) = V.str (S [45])) = true then _ else _
    rw [z]
    rw [et]
    refine iteF ⟨by show 0 ≤ sizeLine; decide, fun b hb => ⟨by show 1 ≤ sizeLine; decide, fun r hr0 => ?_⟩⟩
    have tl200 := rowTxt_len hf.good
    have hpc := hf.pcs
    rw [et] at tl200
    have lenS : (S (textR ps)).length ≤ sizeLine := by
      rw [S_len, sizeLine_eq]
      omega
    have nrb : r ≠ b := fun z => by rw [z, upd_same] at hr0; cases hr0
    have hrH : H r = none := by rw [upd_ne nrb] at hr0; exact hr0
    have p0 : PSt cA cO H (upd (upd H b (.lst [])) r (.lst [.ref b])) r [b] [[]] := by
      refine ⟨same_up (same_upd hb _) hr0 _, hrH, ?_, upd_same, hb, by simp, ⟨[], by rw [upd_ne (Ne.symm nrb), upd_same], by rw [OSs]⟩, True.intro⟩
      intro z
      exact nrb (List.mem_singleton.mp z)
    show ∃ W, _
    generalize upd (upd H b (.lst [])) r (.lst [.ref b]) = Hr at p0
    refine ⟨fun m σ H1 => ∃ ds ts bs st, toksR ps = ds ++ ts ∧ m = ts.length ∧ σ = [some (.str (S (textR ps))), some (.ref r), some (.int ((flat ds).length : Nat)), none] ∧ PSt cA cO H H1 r bs st ∧ Run ts st [ps],
      ⟨_, [], toksR ps, [b], [[]], rfl, rfl, rfl, p0, run_row hf.good hf.pcs hf.nest⟩, ?_⟩
    rintro m σ H1 ⟨ds, ts, bs, st, ed, rfl, rfl, hp, hrun⟩
    have ef : textR ps = flat ds ++ flat ts := by rw [← flat_row, ed, flat_append]
    have el : (S (textR ps)).length = (flat ds).length + (flat ts).length := by rw [S_len, ef, List.length_append]
    refine ⟨_, rfl, _, rfl, _, rfl, lenS, _, _, rfl, rfl, _, rfl, ?_⟩
    cases hrun with
    | nil =>
      have z : decide ((((flat ds).length : Nat) : Int) < (((S (textR ps)).length : Nat) : Int)) = false := decide_eq_false (by
        rw [el, flat_nil, List.length_nil]
        omega)
      show if decide ((((flat ds).length : Nat) : Int) < (((S (textR ps)).length : Nat) : Int)) = true then _ else _
      rw [z]
      refine iteF ?_
      obtain ⟨b2, rfl⟩ : ∃ b2, bs = [b2] := by
        have e := hp.rw.len
        match bs, e with
        | [], e => exact absurd e (by simp)
        | [b2], _ => exact ⟨b2, rfl⟩
        | _ :: _ :: _, e => exact absurd e (by simp)
      obtain ⟨_, _, ⟨xs, hxb, hxs⟩, _⟩ := hp.rw
      refine ⟨_, rfl, r, _, rfl, .inl (SqL.of hp.rows), _, _, rfl, rfl, _, rfl, iteF ?_⟩
      refine ⟨_, rfl, r, _, 0, _, rfl, rfl, SqL.of hp.rows, atI_nat (j := 0) rfl, fun x dx hx hdx ne => ?_⟩
      refine ⟨H1, x, dx, b2, ps, xs, rfl, same_put (same_upd hdx _) hx _, hx, upd_same, hxb, hxs, hf, fun H4 g4 o4 => ⟨rfl, ?_⟩⟩
      refine ⟨_, rfl, x, ps, rfl, o4, hf, fun H5 g5 => ⟨_, rfl, rfl, _, rfl, ?_⟩⟩
      have z2 : (!decide (V.str (S (rowTxt ps)) = V.str (S (textR ps)))) = false := by
        rw [et, decide_eq_true rfl]
        rfl
      show if (!decide (V.str (S (rowTxt ps)) = V.str (S (textR ps)))) = true then _ else _
      rw [z2]
      exact iteF ⟨_, rfl, q x H5 (hp.same.trans (g4.trans g5)) (o4.mono g5)⟩
    | @cons t ts st st2 l e hrun =>
      have hpos : 0 < (flat (t :: ts)).length := by
        rw [flat_cons, List.length_append]
        have := List.length_pos_iff.mpr (chars_ne (t := t))
        omega
      have z : decide ((((flat ds).length : Nat) : Int) < (((S (textR ps)).length : Nat) : Int)) = true := decide_eq_true (by
        rw [el]
        omega)
      show if decide ((((flat ds).length : Nat) : Int) < (((S (textR ps)).length : Nat) : Int)) = true then _ else _
      rw [z]
      have ef2 : textR ps = flat ds ++ (chars t ++ flat ts) := by rw [ef, flat_cons]
      refine iteT ⟨fun σ H2 => ∃ bs1, σ = [some (.str (S (textR ps))), some (.ref r), some (.int ((flat (ds ++ [t])).length : Nat)), none] ∧ PSt cA cO H H2 r bs1 (stp t st), fun σ H2 ⟨bs1, e1, e2⟩ => ⟨ts.length, by rw [List.length_cons]; exact Nat.lt_succ_self _, ds ++ [t], ts, bs1, stp t st, by rw [ed]; simp, rfl, e1, e2, hrun⟩, ?_⟩
      refine ⟨_, rfl, _, rfl, _, rfl, H, r, bs, st, t, ts, flat ds, by rw [← ef2]; rfl, hp, l, e, by rw [← ef2]; omega, fun H2 bs1 hp2 => ⟨bs1, ?_, hp2⟩⟩
      have e3 : (flat (ds ++ [t])).length = (flat ds).length + (chars t).length := by
        rw [flat_append, flat_cons, flat_nil, List.append_nil, List.length_append]
      rw [e3]
      rfl
end
end K24

set_option Elab.async false
set_option linter.all false
set_option maxRecDepth 100000
set_option maxHeartbeats 4000000
/-! K14: the law's readers of its own tuples. -/
namespace K24
open PySem PySem.Spec PyProof.Rows L2 TL SX

theorem momsR_app : ∀ as bs : List Sh, momsR (as ++ bs) = momsR as ++ momsR bs
  | [], bs => by rw [momsR]; rfl
  | a :: as, bs => by rw [List.cons_append, momsR, momsR, momsR_app as bs, List.append_assoc]
theorem pcsR_app : ∀ as bs : List Sh, pcsR (as ++ bs) = pcsR as + pcsR bs
  | [], bs => by rw [pcsR, List.nil_append]; omega
  | a :: as, bs => by rw [List.cons_append, pcsR, pcsR, pcsR_app as bs]; omega
theorem momsR_next {ps : List Sh} {i : Nat} {p : Sh} (h : ps[i]? = some p) : momsR (ps.take (i + 1)) = momsR (ps.take i) ++ moms p := by
  rw [List.take_add_one, h, momsR_app]
  show _ ++ momsR [p] = _
  rw [momsR, momsR, List.append_nil]
theorem pcsR_next {ps : List Sh} {i : Nat} {p : Sh} (h : ps[i]? = some p) : pcsR (ps.take (i + 1)) = pcsR (ps.take i) + pcs p := by
  rw [List.take_add_one, h, pcsR_app]
  show _ + pcsR [p] = _
  rw [pcsR, pcsR, Nat.add_zero]
theorem momsR_take {ps : List Sh} (i : Nat) : (momsR (ps.take i)).length ≤ (momsR ps).length := by
  have e := momsR_app (ps.take i) (ps.drop i)
  rw [List.take_append_drop] at e
  rw [e, List.length_append]
  omega

/-! ### the promises -/
def spL (d : Nat) (R : RSh) : Sp := fun vs H Q _ => ∃ t v, vs = [v] ∧ TS H t v ∧ Fit d t ∧ R t H Q
def spLR (d : Nat) (R : RRow) : Sp := fun vs H Q _ => ∃ ps xs k, vs = [.ref k] ∧ H k = some (.tup xs) ∧ TSs H ps xs ∧ FitR d ps ∧ R ps H Q
theorem l_len {d : Nat} {R : RSh} : ∀ vs H Q E, spL d R vs H Q E → vs.length = 1 := fun vs H Q E h => by
  obtain ⟨t, v, rfl, _⟩ := h
  rfl
theorem lr_len {d : Nat} {R : RRow} : ∀ vs H Q E, spLR d R vs H Q E → vs.length = 1 := fun vs H Q E h => by
  obtain ⟨ps, xs, k, rfl, _⟩ := h
  rfl
theorem l_zero {R : RSh} : ∀ vs H Q E, ¬ spL 0 R vs H Q E := fun vs H Q E h => by
  obtain ⟨t, v, _, _, hf, _⟩ := h
  exact fit0 hf
theorem lr_zero {R : RRow} : ∀ vs H Q E, ¬ spLR 0 R vs H Q E := fun vs H Q E h => by
  obtain ⟨ps, xs, k, _, _, _, hf, _⟩ := h
  exact absurd hf.1 (Nat.not_lt_zero _)
theorem fold_at : ("at" : Str) = S [97, 116] := lit "at" (by decide +kernel)
theorem fold_ov : ("over" : Str) = S [111, 118, 101, 114] := lit "over" (by decide +kernel)
theorem is_at1 : decide (V.str ("at" : Str) = V.str ("at" : Str)) = true := decide_eq_true rfl
theorem is_at2 : decide (V.str ("over" : Str) = V.str ("at" : Str)) = false := by
  rw [fold_at, fold_ov]
  exact decide_eq_false fun e => by injection e with e; exact absurd (congrArg tl e) (by decide)
theorem is_ov1 : decide (V.str ("over" : Str) = V.str ("over" : Str)) = true := decide_eq_true rfl
theorem is_ov2 : decide (V.str ("at" : Str) = V.str ("over" : Str)) = false := by
  rw [fold_at, fold_ov]
  exact decide_eq_false fun e => by injection e with e; exact absurd (congrArg tl e) (by decide)

section
variable {P : Program} {w : World} {K : PySem.W.Frag} {mg : Str → Option Value} {base : Heap} {cA cO cS cP : Addr}

/-! ### the moments -/
theorem sc48 : FnScope ["_law_short_here", "_law_own", "_law_found", "_law_time_here", "_law_moment"] ["_law_short_here"] (defScope (topS 48)) := ⟨rfl, rfl, rfl, by decide +kernel, rfl, by decide +kernel, by decide +kernel⟩
theorem f_lMoms (T : Top K mg cA cO cS cP) (d k : Nat) (c : Fn P w K mg base k "_law_row_moments" (spLR d (RLR momsR))) : Fn P w K mg base (k + 1) "_law_moments" (spL (d + 1) (RL moms)) := by
  refine fn_by T.dLMoms sc48 l_len (fun f cdv A outer s H vs Q E hr h => ?_)
  obtain ⟨t, v, rfl, ht, hf, q⟩ := h
  have nd := sc48.nd
  refine ⟨_, pss_cons (ps_if (pt_cmpR op_eq (pe_ix ix_tup (pv 0) pe_int (fun _ _ => rfl)) pe_str (nomark _)) (pss_one (ps_ret (pe_lst (pa_cons (pe_ix ix_tup (pv 0) pe_int (fun _ _ => rfl)) pa_nil)))) pss_nil)
    (pss_cons (ps_set (i := 1) nd rfl (.inl rfl) (pe_fn c hr (Nat.le_refl _) rfl (pa_cons (pe_ix ix_tup (pv 0) pe_int (fun _ _ => rfl)) pa_nil)))
    (pss_cons (ps_set (i := 2) nd rfl (.inl rfl) (pe_lst pa_nil))
    (pss_cons (ps_for PassesOwn.never rfl (pi_range1 rfl T.bRange (pa_cons (pe_ix ix_tup (pv 0) pe_int (fun _ _ => rfl)) pa_nil)) (pg_name (i := 3) nd rfl (.inr rfl))
      (pss_one (ps_expr (pe_bm PySem.F.plainAttrs_list PySem.F.slot_list_extend PySem.F.type_list_extend mt_extend (pv 2) (pa_cons
        (pe_lc (own := [("_law_moment", 4)]) (g := gName 4) (tt := tYes) rfl nd (pi_list (pv 1)) (blkOk_by (N := ["_law_short_here", "_law_own", "_law_found", "_law_time_here", "_law_moment"]) (sc := defScope (topS 48)) (by decide +kernel)) (fun _ _ _ _ _ => pg_name (i := 4) nd rfl (Or.inl rfl)) (fun _ _ _ _ _ => pts_nil)
          (fun _ _ _ _ _ => pe_op op_add (pv 4) (pe_op op_mul (pv 3) (show PE _ _ (tOp (rIxT K) (tVar 0) (tC (.int 3))) from pe_ix ix_tup (pv 0) pe_int (fun _ _ => rfl))))) pa_nil)))))
    (pss_one (ps_ret (pv 2)))))), ?_⟩
  cases t with
  | pt m =>
    rw [TS] at ht
    obtain ⟨a, rfl, ea⟩ := ht
    refine ⟨_, rfl, a, _, 0, _, rfl, rfl, SqT.of ea, atI_nat (j := 0) rfl, rfl, _, rfl, ?_⟩
    show if decide (V.str ("at" : Str) = V.str ("at" : Str)) = true then _ else _
    rw [is_at1]
    refine iteT ⟨_, rfl, a, _, 1, _, rfl, rfl, SqT.of ea, atI_nat (j := 1) rfl, by show 1 ≤ sizeLine; decide, fun l hl => ?_⟩
    refine q l _ (same_upd hl _) hl ?_
    rw [upd_same, moms]
    rfl
  | ov ps n st =>
    rw [TS] at ht
    obtain ⟨a, b, ws, rfl, ea, eb, hs⟩ := ht
    have o := ov_facts hf.2.1
    have hcnt := moms_cnt hf.2.1
    rw [moms, cnt] at hcnt
    have i2 : atI [V.str "over", .ref b, .int n, .int st] 2 = some (.int n) := atI_nat (j := 2) rfl
    have i3 : atI [V.str "over", .ref b, .int n, .int st] 3 = some (.int st) := atI_nat (j := 3) rfl
    refine ⟨_, rfl, a, _, 0, _, rfl, rfl, SqT.of ea, atI_nat (j := 0) rfl, rfl, _, rfl, ?_⟩
    show if decide (V.str ("over" : Str) = V.str ("at" : Str)) = true then _ else _
    rw [is_at2]
    refine iteF ⟨_, rfl, a, _, 1, _, rfl, rfl, SqT.of ea, atI_nat (j := 1) rfl, ps, ws, b, rfl, eb, hs, hf.row, fun l H1 g1 hl0 el => ?_⟩
    refine ⟨by show 0 ≤ sizeLine; decide, fun r hr0 => ?_⟩
    have hr1 : H r = none := none_back g1 hr0
    have g2 : Same H1 (upd H1 r (.lst [])) := same_upd hr0 _
    refine ⟨_, rfl, a, _, 2, _, rfl, rfl, SqT.of (g2 _ _ (g1 _ _ ea)), i2, n, rfl, by omega, by omega,
      for_range (lo := 0) (n := n.toNat) (fun i σ H2 => ∃ v, σ = [some (.ref a), some (.ref l), some (.ref r), v, none] ∧ Same H1 H2 ∧ H2 r = some (.lst ((times (momsR ps) st i).map V.int)))
      ⟨none, rfl, g2, by rw [upd_same]; rfl⟩ ?_ ?_⟩
    · rintro i σ H2 hi ⟨v, rfl, g, er⟩
      have el2 := g _ _ el
      have ea2 := g _ _ (g1 _ _ ea)
      refine ⟨_, rfl, .inl ⟨rfl, _, SqL.of er⟩, ?_⟩
      refine ⟨_, rfl, l, rfl, ⟨_, SqL.of el2⟩, fun D hD => lc_out (walk_list (xs := (momsR ps).map V.int)) (((momsR ps).map fun m => m + (i : Int) * st).map V.int) (by simp) (by have := hf.row.moms; rw [List.length_map, sizeLine_eq]; omega) hD (fun H3 g3 => SqL.of (g3 _ _ el2)) ?_ ?_⟩
      · intro j x H3 H4 Nx hj g3 y nx
        obtain ⟨rfl, hx⟩ := y
        rw [List.getElem?_map] at hx
        cases em : (momsR ps)[j]? with
        | none => rw [em] at hx; cases hx
        | some m =>
          rw [em] at hx
          cases hx
          refine ⟨rfl, _, rfl, _, rfl, _, rfl, a, _, 3, _, rfl, rfl, SqT.of (g3 _ _ ea2), i3, _, _, rfl, rfl, .inl ⟨by omega, by omega⟩, _, _, rfl, rfl, ?_⟩
          rw [Int.zero_add]
          exact nx _ _ (map_get (map_get (f := fun m => m + (i : Int) * st) em)) (Same.refl _)
      · intro H3 g3 e3
        have er3 := g3 _ _ er
        refine ⟨r, D, _, _, rfl, rfl, er3, e3, ?_, _, rfl, same_put (g.trans g3) hr0 _, ?_⟩
        · have z := times_le (momsR ps) st (i + 1) n.toNat (by omega)
          rw [times, List.length_append] at z
          rw [List.length_map, List.length_map, sizeLine_eq]
          omega
        · rw [upd_same, times, List.map_append]
    · rintro σ H2 ⟨v, rfl, g, er⟩
      refine ⟨_, rfl, q r H2 (g1.trans g) hr1 ?_⟩
      rw [moms]
      exact er
theorem sc49 : FnScope ["_law_row_here", "_law_found", "_law_short_here"] ["_law_row_here"] (defScope (topS 49)) := ⟨rfl, rfl, rfl, by decide +kernel, rfl, by decide +kernel, by decide +kernel⟩
theorem f_lRowMoms (T : Top K mg cA cO cS cP) (d k : Nat) (c : Fn P w K mg base k "_law_moments" (spL d (RL moms))) : Fn P w K mg base (k + 1) "_law_row_moments" (spLR d (RLR momsR)) := by
  refine fn_by T.dLRowMoms sc49 lr_len (fun f cdv A outer s H vs Q E hr h => ?_)
  obtain ⟨ps, xs, b, rfl, hk, hs, hf, q⟩ := h
  have nd := sc49.nd
  refine ⟨_, pss_cons (ps_set (i := 1) nd rfl (.inl rfl) (pe_lst pa_nil))
    (pss_cons (ps_for PassesOwn.never rfl (pi_tup (pv 0)) (pg_name (i := 2) nd rfl (.inl rfl)) (pss_one (ps_expr (pe_bm PySem.F.plainAttrs_list PySem.F.slot_list_extend PySem.F.type_list_extend mt_extend (pv 1) (pa_cons (pe_fn c hr (Nat.le_refl _) rfl (pa_cons (pv 2) pa_nil)) pa_nil)))))
    (pss_one (ps_ret (pv 1)))), ?_⟩
  refine ⟨by show 0 ≤ sizeLine; decide, fun r hr0 => ?_⟩
  have hl := hs.len
  have hk2 : upd H r (.lst []) b = some (.tup xs) := by
    rw [upd_ne (ne_of_none hk hr0)]
    exact hk
  refine ⟨_, rfl, b, rfl, ⟨xs, SqT.of hk2⟩, for_tup (xs := xs) (fun i σ H1 => ∃ v, σ = [some (.ref b), some (.ref r), v] ∧ Same H H1 ∧ H1 r = some (.lst ((momsR (ps.take i)).map V.int)))
    ⟨none, rfl, same_upd hr0 _, by rw [upd_same, List.take_zero, momsR]; rfl⟩ (fun i σ H1 _ ⟨_, _, g, _⟩ => SqT.of (g _ _ hk)) ?_ ?_⟩
  · rintro i x σ H1 hx ⟨v, rfl, g, er⟩
    obtain ⟨p, hp, op⟩ := hs.at_ hx
    refine ⟨_, rfl, .inl ⟨rfl, _, SqL.of er⟩, _, rfl, p, _, rfl, op.mono (same_imm g), hf.mem (getR hp), fun l H2 g2 hl0 el => ?_⟩
    have er2 := g2 _ _ er
    have hle := momsR_take (ps := ps) (i + 1)
    rw [momsR_next hp, List.length_append] at hle
    have hsz := hf.moms
    refine ⟨r, l, _, _, rfl, rfl, er2, el, ?_, _, rfl, same_put (g.trans g2) hr0 _, ?_⟩
    · rw [List.length_map, List.length_map, sizeLine_eq]
      omega
    · rw [upd_same, momsR_next hp, List.map_append]
  · rintro σ H1 ⟨v, rfl, g, er⟩
    rw [List.take_of_length_le (by omega)] at er
    exact ⟨_, rfl, q r H1 g hr0 er⟩
theorem L_moms (T : Top K mg cA cO cS cP) : ∀ d : Nat, Fn P w K mg base (2 * d) "_law_moments" (spL d (RL moms))
  | 0 => fn_none T.dLMoms l_zero
  | d + 1 => f_lMoms T d (2 * d + 1) (f_lRowMoms T d (2 * d) (L_moms T d))
theorem L_rowMoms (T : Top K mg cA cO cS cP) (d : Nat) : Fn P w K mg base (2 * d + 1) "_law_row_moments" (spLR d (RLR momsR)) := f_lRowMoms T d (2 * d) (L_moms T d)

/-! ### the pieces -/
theorem sc55 : FnScope ["_law_row_here", "_law_found", "_law_short_here"] ["_law_row_here"] (defScope (topS 55)) := ⟨rfl, rfl, rfl, by decide +kernel, rfl, by decide +kernel, by decide +kernel⟩
theorem f_lPcs (T : Top K mg cA cO cS cP) (d k : Nat) (c : Fn P w K mg base k "_law_pieces" (spLR d (RVR fun ps => .int (pcsR ps : Nat)))) : Fn P w K mg base (k + 1) "_law_pieces" (spLR (d + 1) (RVR fun ps => .int (pcsR ps : Nat))) := by
  refine fn_by T.dPieces sc55 lr_len (fun f cdv A outer s H vs Q E hr h => ?_)
  obtain ⟨ps, xs, b, rfl, hk, hs, hf, q⟩ := h
  have nd := sc55.nd
  refine ⟨_, pss_cons (ps_set (i := 1) nd rfl (.inl rfl) pe_int)
    (pss_cons (ps_for PassesOwn.never rfl (pi_tup (pv 0)) (pg_name (i := 2) nd rfl (.inl rfl))
      (pss_cons (ps_set (i := 1) nd rfl (.inl rfl) (pe_op op_add (pv 1) pe_int))
      (pss_one (ps_if (pt_cmpR op_eq (pe_ix ix_tup (pv 2) pe_int (fun _ _ => rfl)) pe_str (nomark _))
        (pss_one (ps_set (i := 1) nd rfl (.inl rfl) (pe_op op_add (pv 1) (pe_fn c hr (Nat.le_refl _) rfl (pa_cons (pe_ix ix_tup (pv 2) pe_int (fun _ _ => rfl)) pa_nil))))) pss_nil))))
    (pss_one (ps_ret (pv 1)))), ?_⟩
  have hl := hs.len
  refine ⟨_, rfl, b, rfl, ⟨xs, SqT.of hk⟩, for_tup (xs := xs) (fun i σ H1 => ∃ v, σ = [some (.ref b), some (.int ((pcsR (ps.take i) : Nat) : Int)), v] ∧ Same H H1)
    ⟨none, by rw [List.take_zero, pcsR]; rfl, Same.refl _⟩ (fun i σ H1 _ ⟨_, _, g⟩ => SqT.of (g _ _ hk)) ?_ ?_⟩
  · rintro i x σ H1 hx ⟨v, rfl, g⟩
    obtain ⟨p, hp, op⟩ := hs.at_ hx
    have op1 := op.mono (same_imm g)
    refine ⟨_, rfl, _, _, rfl, rfl, ?_⟩
    rw [pcsR_next hp]
    cases p with
    | pt m =>
      rw [TS] at op1
      obtain ⟨a, rfl, ea⟩ := op1
      refine ⟨_, rfl, a, _, 0, _, rfl, rfl, SqT.of ea, atI_nat (j := 0) rfl, rfl, _, rfl, ?_⟩
      show if decide (V.str ("at" : Str) = V.str ("over" : Str)) = true then _ else _
      rw [is_ov2]
      refine iteF ⟨some (.ref a), ?_, g⟩
      rw [pcs]
      rfl
    | ov qs n st =>
      rw [TS] at op1
      obtain ⟨a, b2, ws, rfl, ea, eb, hs2⟩ := op1
      have fp := hf.mem (getR hp)
      refine ⟨_, rfl, a, _, 0, _, rfl, rfl, SqT.of ea, atI_nat (j := 0) rfl, rfl, _, rfl, ?_⟩
      show if decide (V.str ("over" : Str) = V.str ("over" : Str)) = true then _ else _
      rw [is_ov1]
      refine iteT ⟨_, rfl, _, rfl, a, _, 1, _, rfl, rfl, SqT.of ea, atI_nat (j := 1) rfl, qs, ws, b2, rfl, eb, hs2, fp.row, fun H2 g2 => ⟨_, _, rfl, rfl, some (.ref a), ?_, g.trans g2⟩⟩
      have e : (((pcsR (ps.take i) : Nat) : Int) + 1) + ((pcsR qs : Nat) : Int) = ((pcsR (ps.take i) + pcs (.ov qs n st) : Nat) : Int) := by
        rw [pcs]
        omega
      rw [← e]
      rfl
  · rintro σ H1 ⟨v, rfl, g⟩
    rw [List.take_of_length_le (by omega)]
    exact ⟨_, rfl, q H1 g⟩
theorem L_pcs (T : Top K mg cA cO cS cP) : ∀ d : Nat, Fn P w K mg base d "_law_pieces" (spLR d (RVR fun ps => .int (pcsR ps : Nat)))
  | 0 => fn_none T.dPieces lr_zero
  | d + 1 => f_lPcs T d d (L_pcs T d)

/-! ### the words -/
def spLTime : Sp := fun vs H Q _ => ∃ m : Int, vs = [.int m] ∧ 0 ≤ m ∧ m < BIG ∧ ∀ H1, Same H H1 → Q (.str (S (show_ m.toNat))) H1
theorem sc56 : FnScope ["_law_moment", "_law_day", "_law_rest", "_law_hour", "_law_minute", "_law_text_here"] ["_law_moment"] (defScope (topS 56)) := ⟨rfl, rfl, rfl, by decide +kernel, rfl, by decide +kernel, by decide +kernel⟩
theorem f_lTime (T : Top K mg cA cO cS cP) : Fn P w K mg base 1 "_law_time" spLTime := by
  refine fn_by T.dTime sc56 (fun vs H Q E h => ?_) (fun f cdv A outer s H vs Q E hr h => ?_)
  · obtain ⟨m, rfl, _⟩ := h
    rfl
  obtain ⟨m, rfl, h0, h1, q⟩ := h
  have nd := sc56.nd
  refine ⟨_, pss_cons (ps_asg (pe_callB call_divmod rfl T.bDivmod boot_divmod (pa_cons (pv 0) (pa_cons pe_int pa_nil))) (pg_tup rfl (pgs_cons (pg_name (i := 1) nd rfl (.inl rfl)) (pgs_cons (pg_name (i := 2) nd rfl (.inl rfl)) pgs_nil))))
    (pss_cons (ps_asg (pe_callB call_divmod rfl T.bDivmod boot_divmod (pa_cons (pv 2) (pa_cons pe_int pa_nil))) (pg_tup rfl (pgs_cons (pg_name (i := 3) nd rfl (.inl rfl)) (pgs_cons (pg_name (i := 4) nd rfl (.inl rfl)) pgs_nil))))
    (pss_cons (ps_set (i := 5) nd rfl (.inl rfl) (pe_op op_add_str (pe_op op_add_str (pe_callTy call_str_int rfl T.bStr boot_str (pa_cons (pv 3) pa_nil)) pe_str)
      (pe_bm PySem.F.plainAttrs_str PySem.F.slot_str_zfill PySem.F.type_str_zfill mt_zfill (pe_callTy call_str_int rfl T.bStr boot_str (pa_cons (pv 4) pa_nil)) (pa_cons pe_int pa_nil))))
    (pss_cons (ps_if (pt_cmpR op_gt (pv 1) pe_int (nomark _)) (pss_one (ps_set (i := 5) nd rfl (.inl rfl) (pe_op op_add_str (pe_op op_add_str (pe_callTy call_str_int rfl T.bStr boot_str (pa_cons (pv 1) pa_nil)) pe_str) (pv 5)))) pss_nil)
    (pss_one (ps_ret (pv 5)))))), ?_⟩
  refine ⟨_, rfl, _, _, rfl, ⟨by decide, by decide⟩, fun p hp => ?_⟩
  refine ⟨p, _, rfl, SqT.of upd_same, rfl, _, _, rfl, _, _, rfl, rfl, ?_⟩
  refine ⟨_, rfl, _, _, rfl, ⟨by decide, by decide⟩, fun p2 hp2 => ?_⟩
  refine ⟨p2, _, rfl, SqT.of upd_same, rfl, _, _, rfl, _, _, rfl, rfl, ?_⟩
  have g2 := same_up (same_upd hp _) hp2 (.tup [.int (m % 1440 / 60), .int (m % 60)])
  have d0 : 0 ≤ m / 1440 := by omega
  have d1 : m / 1440 < BIG := by omega
  have a0 : 0 ≤ m % 1440 / 60 := by omega
  have a1 : m % 1440 / 60 < 24 := by omega
  have em : m % 1440 % 60 = m % 60 := by omega
  have b0 : 0 ≤ m % 60 := by omega
  have b1 : m % 60 < 60 := by omega
  have bigger : (60 : Int) < BIG := by decide +kernel
  have z1 : Txt.zfill (Str.ofString (toString (m % 60))) 2 = S (two (m % 60).toNat) := by
    rw [str_num b0]
    exact zfill_two _ (by omega)
  have l1 : (numL (m % 1440 / 60).toNat).length ≤ 2 := numL_len (by decide) (by omega)
  have l2 : (numL (m / 1440).toNat).length ≤ 90 := num_len d1
  have hc : (":" : Str) = S [58] := lit ":" (by decide +kernel)
  have hb : (" " : Str) = S [32] := lit " " (by decide +kernel)
  refine ⟨_, rfl, _, rfl, log_ok a0 (by omega), _, _, rfl, rfl, ?_, ?_⟩
  · rw [str_num a0, S_len, hc, S_len]
    show _ + 1 ≤ sizeLine
    rw [sizeLine_eq]
    omega
  refine ⟨_, rfl, _, rfl, ?_⟩
  rw [em]
  refine ⟨log_ok b0 (by omega), rfl, _, _, rfl, rfl, rfl, _, _, rfl, rfl, ?_, ?_⟩
  · rw [str_num a0, hc, S_cat, z1, S_len, S_len, List.length_append]
    show _ + 1 + 2 ≤ sizeLine
    rw [sizeLine_eq]
    omega
  have et : (Str.ofString (toString (m % 1440 / 60)) ++ (":" : Str)) ++ Txt.zfill (Str.ofString (toString (m % 60))) 2 = S (numL (m % 1440 / 60).toNat ++ ([58] ++ two (m % 60).toNat)) := by
    rw [str_num a0, hc, z1, S_cat, S_cat, List.append_assoc]
  have e := show_eq h0
  refine ⟨_, rfl, _, _, rfl, rfl, _, rfl, ite2 (fun c => ?_) (fun c => ?_)⟩
  · have z : ¬ m / 1440 = 0 := fun z => by
      have z2 : m / 1440 > 0 := of_decide_eq_true c
      omega
    refine ⟨_, rfl, _, rfl, log_ok d0 d1, _, _, rfl, rfl, ?_, _, rfl, _, _, rfl, rfl, ?_, ?_⟩
    · rw [str_num d0, S_len, hb, S_len]
      show _ + 1 ≤ sizeLine
      rw [sizeLine_eq]
      omega
    · rw [et, str_num d0, hb, S_cat, S_len, S_len, List.length_append, List.length_append, List.length_append]
      show _ + 1 + (_ + (1 + 2)) ≤ sizeLine
      rw [sizeLine_eq]
      omega
    · rw [if_neg z] at e
      have ef : (Str.ofString (toString (m / 1440)) ++ (" " : Str)) ++ ((Str.ofString (toString (m % 1440 / 60)) ++ (":" : Str)) ++ Txt.zfill (Str.ofString (toString (m % 60))) 2) = S (show_ m.toNat) := by
        rw [et, str_num d0, hb, S_cat, S_cat, e]
      refine ⟨_, rfl, ?_⟩
      show Q (.str ((Str.ofString (toString (m / 1440)) ++ (" " : Str)) ++ ((Str.ofString (toString (m % 1440 / 60)) ++ (":" : Str)) ++ Txt.zfill (Str.ofString (toString (m % 60))) 2))) _
      rw [ef]
      exact q _ g2
  · have z : m / 1440 = 0 := by
      have z2 : ¬ m / 1440 > 0 := fun z => c (decide_eq_true z)
      omega
    rw [if_pos z, List.nil_append] at e
    refine ⟨_, rfl, ?_⟩
    show Q (.str ((Str.ofString (toString (m % 1440 / 60)) ++ (":" : Str)) ++ Txt.zfill (Str.ofString (toString (m % 60))) 2)) _
    rw [et, ← e]
    exact q _ g2
theorem sc57 : FnScope ["_law_short_here"] ["_law_short_here"] (defScope (topS 57)) := ⟨rfl, rfl, rfl, by decide +kernel, rfl, by decide +kernel, by decide +kernel⟩
theorem f_lWord (T : Top K mg cA cO cS cP) (d k : Nat) (hk : 1 ≤ k) (c : Fn P w K mg base k "_law_text" (spLR d (RVR fun ps => .str (S (rowTxt ps))))) : Fn P w K mg base (k + 1) "_law_word" (spL (d + 1) (RV fun t => .str (S (word t)))) := by
  refine fn_by T.dWord sc57 l_len (fun f cdv A outer s H vs Q E hr h => ?_)
  obtain ⟨t, v, rfl, ht, hf, q⟩ := h
  have nd := sc57.nd
  refine ⟨_, pss_cons (ps_if (pt_cmpR op_eq (pe_ix ix_tup (pv 0) pe_int (fun _ _ => rfl)) pe_str (nomark _)) (pss_one (ps_ret (pe_fn (f_lTime T) hr hk rfl (pa_cons (pe_ix ix_tup (pv 0) pe_int (fun _ _ => rfl)) pa_nil)))) pss_nil)
    (pss_one (ps_ret (pe_op op_add_str (pe_op op_add_str (pe_op op_add_str (pe_op op_add_str (pe_op op_add_str pe_str
      (pe_fn c hr (Nat.le_refl _) rfl (pa_cons (pe_ix ix_tup (pv 0) pe_int (fun _ _ => rfl)) pa_nil))) pe_str)
      (pe_callTy call_str_int rfl T.bStr boot_str (pa_cons (pe_ix ix_tup (pv 0) pe_int (fun _ _ => rfl)) pa_nil))) pe_str)
      (pe_callTy call_str_int rfl T.bStr boot_str (pa_cons (pe_ix ix_tup (pv 0) pe_int (fun _ _ => rfl)) pa_nil))))), ?_⟩
  cases t with
  | pt m =>
    rw [TS] at ht
    obtain ⟨a, rfl, ea⟩ := ht
    have g := hf.2.1
    rw [good] at g
    refine ⟨_, rfl, a, _, 0, _, rfl, rfl, SqT.of ea, atI_nat (j := 0) rfl, rfl, _, rfl, ?_⟩
    show if decide (V.str ("at" : Str) = V.str ("at" : Str)) = true then _ else _
    rw [is_at1]
    refine iteT ⟨_, rfl, a, _, 1, _, rfl, rfl, SqT.of ea, atI_nat (j := 1) rfl, m, rfl, g.1, g.2, fun H1 g1 => ?_⟩
    have e : Q (.str (S (word (.pt m)))) H1 := q H1 g1
    rw [word] at e
    exact e
  | ov ps n st =>
    rw [TS] at ht
    obtain ⟨a, b, ws, rfl, ea, eb, hs⟩ := ht
    have o := ov_facts hf.2.1
    refine ⟨_, rfl, a, _, 0, _, rfl, rfl, SqT.of ea, atI_nat (j := 0) rfl, rfl, _, rfl, ?_⟩
    show if decide (V.str ("over" : Str) = V.str ("at" : Str)) = true then _ else _
    rw [is_at2]
    have e1 : ("(" : Str) = S [40] := lit "(" (by decide +kernel)
    have e2 : (") x" : Str) = S [41, 32, 120] := lit ") x" (by decide +kernel)
    have e3 : (" +" : Str) = S [32, 43] := lit " +" (by decide +kernel)
    have r0 : rowTxt ps = textR ps := by
      unfold rowTxt
      rw [if_neg o.1]
    have lt := textR_len o.2.1
    have l50 := hf.row.2.2
    have ln : (numL n.toNat).length ≤ 4 := numL_len (by decide) (by omega)
    have ls : (numL st.toNat).length ≤ 90 := num_len o.2.2.2.2.2.2.1
    have bigger : (1441 : Int) < BIG := by decide +kernel
    have i2 : atI [V.str "over", .ref b, .int n, .int st] 2 = some (.int n) := atI_nat (j := 2) rfl
    have i3 : atI [V.str "over", .ref b, .int n, .int st] 3 = some (.int st) := atI_nat (j := 3) rfl
    refine iteF ⟨_, rfl, a, _, 1, _, rfl, rfl, SqT.of ea, atI_nat (j := 1) rfl, ps, ws, b, rfl, eb, hs, hf.row, fun H1 g1 => ⟨_, _, rfl, rfl, ?_, ?_⟩⟩
    · rw [e1, S_len, S_len, r0, sizeLine_eq]
      simp only [List.length_cons, List.length_nil]
      omega
    refine ⟨_, _, rfl, rfl, ?_, ?_⟩
    · rw [e1, e2, S_cat, S_len, S_len, r0, sizeLine_eq]
      simp only [List.length_append, List.length_cons, List.length_nil]
      omega
    have ea1 := g1 _ _ ea
    refine ⟨_, rfl, a, _, 2, _, rfl, rfl, SqT.of ea1, i2, n, rfl, log_ok (by omega) (by omega), _, _, rfl, rfl, ?_, ?_⟩
    · rw [e1, e2, str_num (by omega), S_cat, S_cat, S_len, S_len, r0, sizeLine_eq]
      simp only [List.length_append, List.length_cons, List.length_nil]
      omega
    refine ⟨_, _, rfl, rfl, ?_, ?_⟩
    · rw [e1, e2, e3, str_num (by omega), S_cat, S_cat, S_cat, S_len, S_len, r0, sizeLine_eq]
      simp only [List.length_append, List.length_cons, List.length_nil]
      omega
    refine ⟨_, rfl, a, _, 3, _, rfl, rfl, SqT.of ea1, i3, st, rfl, log_ok (by omega) (by omega), _, _, rfl, rfl, ?_, ?_⟩
    · rw [e1, e2, e3, str_num (i := n) (by omega), str_num (i := st) (by omega), S_cat, S_cat, S_cat, S_cat, S_len, S_len, r0, sizeLine_eq]
      simp only [List.length_append, List.length_cons, List.length_nil]
      omega
    have e : Q (.str (S (word (.ov ps n st)))) H1 := q H1 g1
    rw [word] at e
    show Q (.str _) H1
    rw [e1, e2, e3, str_num (i := n) (by omega), str_num (i := st) (by omega), S_cat, S_cat, S_cat, S_cat, S_cat, r0]
    have ef : ((((([40] ++ textR ps) ++ [41, 32, 120]) ++ numL n.toNat) ++ [32, 43]) ++ numL st.toNat) = [40] ++ (textR ps ++ ([41, 32, 120] ++ (numL n.toNat ++ ([32, 43] ++ numL st.toNat)))) := by
      simp
    rw [ef]
    exact e
theorem sc58 : FnScope ["_law_row_here", "_law_short_here"] ["_law_row_here"] (defScope (topS 58)) := ⟨rfl, rfl, rfl, by decide +kernel, rfl, by decide +kernel, by decide +kernel⟩
theorem f_lText (T : Top K mg cA cO cS cP) (d k : Nat) (c : Fn P w K mg base k "_law_word" (spL d (RV fun t => .str (S (word t))))) : Fn P w K mg base (k + 1) "_law_text" (spLR d (RVR fun ps => .str (S (rowTxt ps)))) := by
  refine fn_by T.dText sc58 lr_len (fun f cdv A outer s H vs Q E hr h => ?_)
  obtain ⟨ps, xs, b, rfl, hk, hs, hf, q⟩ := h
  have nd := sc58.nd
  refine ⟨_, pss_cons (ps_if (pt_cmpR op_eq (pe_callB call_len_seq rfl T.bLen PySem.boot_len (pa_cons (pv 0) pa_nil)) pe_int (nomark _)) (pss_one (ps_ret pe_str)) pss_nil)
    (pss_one (ps_ret (pe_bm PySem.F.plainAttrs_str PySem.F.slot_str_join PySem.F.type_str_join mt_join pe_str (pa_cons
    (pe_lc (own := [("_law_short_here", 1)]) (g := gName 1) (tt := tYes) rfl nd (pi_tup (pv 0)) (blkOk_by (N := ["_law_row_here", "_law_short_here"]) (sc := defScope (topS 58)) (by decide +kernel)) (fun _ _ _ _ _ => pg_name (i := 1) nd rfl (Or.inl rfl)) (fun _ _ _ _ _ => pts_nil)
      (fun _ _ _ _ _ => pe_fn c hr (Nat.le_refl _) rfl (pa_cons (pv 1) pa_nil))) pa_nil)))), ?_⟩
  have hl := hs.len
  have e0 : ("-" : Str) = S [45] := lit "-" (by decide +kernel)
  have e1 : (", " : Str) = S [44, 32] := lit ", " (by decide +kernel)
  refine ⟨_, rfl, b, xs, rfl, .inr (SqT.of hk), rfl, _, rfl, ?_⟩
  by_cases hp : ps = []
  · have z : decide (V.int ((xs.length : Nat) : Int) = V.int 0) = true := by
      rw [hl, hp]
      rfl
    show if decide (V.int ((xs.length : Nat) : Int) = V.int 0) = true then _ else _
    rw [z]
    refine iteT ?_
    have e := q H (Same.refl _)
    rw [hp] at e
    rw [e0]
    exact e
  · have hlen : 0 < ps.length := List.length_pos_iff.mpr hp
    have z : decide (V.int ((xs.length : Nat) : Int) = V.int 0) = false := decide_eq_false fun e => by
      injection e with e2
      omega
    show if decide (V.int ((xs.length : Nat) : Int) = V.int 0) = true then _ else _
    rw [z]
    refine iteF ⟨rfl, ?_⟩
    refine ⟨_, rfl, b, rfl, ⟨xs, SqT.of hk⟩, fun D hD => lc_out (walk_tup (xs := xs)) ((ps.map fun p => S (word p)).map V.str) (by rw [List.length_map, List.length_map]; exact hl.symm) (by have := hf.len; rw [sizeLine_eq]; omega) hD (fun H1 g => SqT.of (g _ _ hk)) ?_ ?_⟩
    · intro i x H2 H3 Nx hi g y nx
      obtain ⟨rfl, hx⟩ := y
      obtain ⟨p, hp2, op⟩ := hs.at_ hx
      exact ⟨rfl, _, rfl, p, _, rfl, op.mono (same_imm g), hf.mem (getR hp2), fun H4 g4 => nx _ _ (map_get (map_get (f := fun p => S (word p)) hp2)) g4⟩
    · intro H2 g2 e2
      refine ⟨_, D, ps.map fun p => S (word p), rfl, rfl, .inl (SqL.of e2), ?_, ?_⟩
      · have a := sum_len hf.2.1
        have b := hf.2.2
        have c := hf.len
        have es : ((ps.map fun p => S (word p)).map (·.length)) = ps.map fun p => (word p).length := by
          rw [List.map_map]
          exact List.map_congr_left fun p _ => S_len _
        rw [es, e1, S_len, List.length_map]
        show _ + _ * 2 ≤ _
        omega
      · have ej : Txt.join ", " (ps.map fun p => S (word p)) = S (rowTxt ps) := by
          have em : (ps.map fun p => S (word p)) = (ps.map word).map S := by rw [List.map_map]; rfl
          rw [em, e1, join_S, ← textR_join]
          unfold rowTxt
          rw [if_neg hp]
        rw [ej]
        exact q _ g2
theorem L_word (T : Top K mg cA cO cS cP) : ∀ d : Nat, Fn P w K mg base (2 * d) "_law_word" (spL d (RV fun t => .str (S (word t))))
  | 0 => fn_none T.dWord l_zero
  | d + 1 => f_lWord T d (2 * d + 1) (by omega) (f_lText T d (2 * d) (L_word T d))
theorem L_text (T : Top K mg cA cO cS cP) (d : Nat) : Fn P w K mg base (2 * d + 1) "_law_text" (spLR d (RVR fun ps => .str (S (rowTxt ps)))) := f_lText T d (2 * d) (L_word T d)

/-! ### the shorts made -/
def RM (cA cO : Addr) : RSh := fun t H Q => ∀ v H1, Same H H1 → OS cA cO H1 t v → Q v H1
theorem lc_made {J : It} {G : Hp → Prop} {Y : Nat → Hp → V → Hp → Prop} {ps : List Sh} (w : Walk J ps.length G Y) {g : TG} {te : TE} {vs : List Nat} {σ : L2.St} {H1 : Hp} {D : Addr} {Qd : Hp → Prop} (hz : ps.length ≤ sizeLine) (hD : H1 D = none)
    (hG : ∀ H, Same H1 H → G H)
    (hs : ∀ i x H H2 (p : Sh) (Nx : VK), ps[i]? = some p → Same H1 H → Y i H x H2 → (∀ y H4, Same H H4 → OS cA cO H4 p y → Nx y H4) → g x (wipe σ vs) H2 fun σ2 H3 => wipe σ2 vs = wipe σ vs ∧ te σ2 H3 Nx)
    (hd : ∀ H xs, Same H1 H → H D = some (.lst xs) → OSs cA cO H ps xs → Qd H) :
    ∃ W : Nat → Nat → Hp → Prop, (∃ m, W 0 m (upd H1 D (.lst []))) ∧ ∀ i m H, W i m H →
      (J.stop i H ∧ Qd H) ∨ (J.go i H ∧ ∃ Nx : Hp → Prop, (∀ H2, Nx H2 → ∃ m2, m2 < m ∧ W (i + 1) m2 H2) ∧ ∀ x H2, J.yld i H x H2 → g x (wipe σ vs) H2 fun σ2 H3 => wipe σ2 vs = wipe σ vs ∧ tYes σ2 H3 fun b H3 =>
        if b = true then te σ2 H3 fun y H4 => ∃ acc, H4 D = some (.lst acc) ∧ acc.length < sizeLine ∧ Nx (upd H4 D (.lst (acc ++ [y]))) else Nx H3) := by
  refine lc_it w (fun i H => Same H1 H ∧ ∃ acc, H D = some (.lst acc) ∧ OSs cA cO H (ps.take i) acc) ⟨same_upd hD _, [], upd_same, by rw [List.take_zero, OSs]⟩ (fun i H _ p => hG H p.1) (fun i x H H2 hi p y => ?_) (fun H p => ?_)
  · obtain ⟨g1, acc, e1, o1⟩ := p
    have hp : ps[i]? = some ps[i] := List.getElem?_eq_getElem hi
    refine hs i x H H2 ps[i] _ hp g1 y fun z H4 g4 o4 => ?_
    have i4 : Imm H4 (upd H4 D (.lst (acc ++ [z]))) := imm_put (Imm.refl _) ⟨acc, g4 _ _ e1⟩ _
    refine ⟨acc, g4 _ _ e1, ?_, same_put (g1.trans g4) hD _, _, upd_same, ?_⟩
    · rw [o1.len, List.length_take]
      omega
    · rw [List.take_add_one, hp]
      exact OSs.snoc ((o1.mono (same_imm g4)).mono i4) (o4.mono i4)
  · obtain ⟨g1, acc, e1, o1⟩ := p
    rw [List.take_length] at o1
    exact hd H acc g1 e1 o1
theorem sc59 : FnScope ["_law_short_here", "_law_part"] ["_law_short_here"] (defScope (topS 59)) := ⟨rfl, rfl, rfl, by decide +kernel, rfl, by decide +kernel, by decide +kernel⟩
theorem f_lMade (T : Top K mg cA cO cS cP) (d k : Nat) (hd9 : d ≤ 8) (hk : 40 ≤ k) (c : Fn P w K mg base k "_law_made" (spL d (RM cA cO))) : Fn P w K mg base (k + 1) "_law_made" (spL (d + 1) (RM cA cO)) := by
  refine fn_by T.dMade sc59 l_len (fun f cdv A outer s H vs Q E hr h => ?_)
  obtain ⟨t, v, rfl, ht, hf, q⟩ := h
  have nd := sc59.nd
  refine ⟨_, pss_cons (ps_if (pt_cmpR op_eq (pe_ix ix_tup (pv 0) pe_int (fun _ _ => rfl)) pe_str (nomark _)) (pss_one (ps_ret (pe_ma (a_ini T) T.gA hr (by omega) rfl (pa_cons (pe_ix ix_tup (pv 0) pe_int (fun _ _ => rfl)) pa_nil)))) pss_nil)
    (pss_one (ps_ret (pe_ma (o_ini T) T.gO hr hk rfl (pa_cons
      (pe_lc (own := [("_law_part", 1)]) (g := gName 1) (tt := tYes) rfl nd (pi_tup (pe_ix ix_tup (pv 0) pe_int (fun _ _ => rfl))) (blkOk_by (N := ["_law_short_here", "_law_part"]) (sc := defScope (topS 59)) (by decide +kernel)) (fun _ _ _ _ _ => pg_name (i := 1) nd rfl (Or.inl rfl)) (fun _ _ _ _ _ => pts_nil)
        (fun _ _ _ _ _ => pe_fn c hr (Nat.le_refl _) rfl (pa_cons (pv 1) pa_nil)))
      (pa_cons (pe_ix ix_tup (pv 0) pe_int (fun _ _ => rfl)) (pa_cons (pe_ix ix_tup (pv 0) pe_int (fun _ _ => rfl)) pa_nil)))))), ?_⟩
  cases t with
  | pt m =>
    rw [TS] at ht
    obtain ⟨a, rfl, ea⟩ := ht
    have g := hf.2.1
    rw [good] at g
    refine ⟨_, rfl, a, _, 0, _, rfl, rfl, SqT.of ea, atI_nat (j := 0) rfl, rfl, _, rfl, ?_⟩
    show if decide (V.str ("at" : Str) = V.str ("at" : Str)) = true then _ else _
    rw [is_at1]
    refine iteT ⟨_, rfl, a, _, 1, _, rfl, rfl, SqT.of ea, atI_nat (j := 1) rfl, fun x dx hx hdx ne => ?_⟩
    refine ⟨H, x, dx, m, rfl, same_put (same_upd hdx _) hx _, hx, upd_same, g.1, fun H2 g2 e2 => ⟨rfl, q _ H2 g2 ?_⟩⟩
    rw [OS]
    exact ⟨x, dx, rfl, e2⟩
  | ov ps n st =>
    rw [TS] at ht
    obtain ⟨a, b, ws, rfl, ea, eb, hs⟩ := ht
    have hl := hs.len
    have fr := hf.row
    have i2 : atI [V.str "over", .ref b, .int n, .int st] 2 = some (.int n) := atI_nat (j := 2) rfl
    have i3 : atI [V.str "over", .ref b, .int n, .int st] 3 = some (.int st) := atI_nat (j := 3) rfl
    refine ⟨_, rfl, a, _, 0, _, rfl, rfl, SqT.of ea, atI_nat (j := 0) rfl, rfl, _, rfl, ?_⟩
    show if decide (V.str ("over" : Str) = V.str ("at" : Str)) = true then _ else _
    rw [is_at2]
    refine iteF ⟨_, rfl, a, _, 1, _, rfl, rfl, SqT.of ea, atI_nat (j := 1) rfl, b, rfl, ⟨ws, SqT.of eb⟩, fun D hD => ?_⟩
    have wk := walk_tup (K := K) (a := b) (xs := ws)
    rw [hl] at wk
    refine lc_made (cA := cA) (cO := cO) (ps := ps) wk (by have := fr.len; rw [sizeLine_eq]; omega) hD (fun H1 g => SqT.of (g _ _ eb)) ?_ ?_
    · intro i x H2 H3 p Nx hp g y nx
      obtain ⟨rfl, hx⟩ := y
      obtain ⟨p2, hp2, op⟩ := hs.at_ hx
      rw [hp] at hp2
      cases hp2
      exact ⟨rfl, _, rfl, p, _, rfl, op.mono (same_imm g), fr.mem (getR hp), fun z H4 g4 o4 => nx _ _ g4 o4⟩
    · intro H2 xs g2 e2 o2
      refine ⟨_, rfl, a, _, 2, _, rfl, rfl, SqT.of (g2 _ _ ea), i2, _, rfl, a, _, 3, _, rfl, rfl, SqT.of (g2 _ _ ea), i3, fun x dx hx hdx ne => ?_⟩
      have f9 : Fit 9 (.ov ps n st) := ⟨Nat.lt_of_lt_of_le hf.1 (by omega), hf.2⟩
      exact ⟨H2, x, dx, D, ps, xs, n, st, rfl, same_put (same_upd hdx _) hx _, hx, upd_same, e2, o2, f9, fun H4 g4 o4 => ⟨rfl, q _ H4 (g2.trans g4) o4⟩⟩
theorem L_made (T : Top K mg cA cO cS cP) : ∀ d : Nat, d ≤ 9 → Fn P w K mg base (40 + d) "_law_made" (spL d (RM cA cO))
  | 0, _ => fn_none T.dMade l_zero
  | d + 1, h => f_lMade T d (40 + d) (by omega) (by omega) (L_made T d (by omega))
end
end K24

set_option Elab.async false
set_option linter.all false
set_option maxRecDepth 100000
set_option maxHeartbeats 4000000
/-! K15: what the law draws. -/
namespace K24
open PySem PySem.Spec PyProof.Rows L2 TL SX

/-! ### heaps in which some lists are rewritten -/
def Keep (bad : List Addr) (H H2 : Hp) : Prop := ∀ b u, b ∉ bad → H b = some u → H2 b = some u
theorem Keep.of {bad : List Addr} {H H2 : Hp} (g : Same H H2) : Keep bad H H2 := fun b u _ e => g b u e
theorem Keep.trans {bad : List Addr} {H H1 H2 : Hp} (a : Keep bad H H1) (b : Keep bad H1 H2) : Keep bad H H2 := fun c u n e => b c u n (a c u n e)
theorem Keep.wide {bad more : List Addr} {H H2 : Hp} (a : Keep bad H H2) (s : ∀ x ∈ bad, x ∈ more) : Keep more H H2 := fun c u n e => a c u (fun z => n (s c z)) e
theorem Keep.imm {bad : List Addr} {H H2 : Hp} (a : Keep bad H H2) (s : ∀ x ∈ bad, ∃ ys, H x = some (.lst ys)) : Imm H H2 := fun c u e n => a c u (fun z => by
  obtain ⟨ys, hy⟩ := s c z
  rw [hy] at e
  cases e
  exact n ys rfl) e
theorem keep_put {bad : List Addr} {H : Hp} {p : Addr} {o : HO} (h : p ∈ bad) : Keep bad H (upd H p o) := fun c u n e => by
  have : c ≠ p := fun z => n (z ▸ h)
  rw [upd_ne this]
  exact e
theorem keep_new {bad : List Addr} {H0 H : Hp} {p : Addr} {o : HO} (k : Keep bad H0 H) (h : H0 p = none) : Keep bad H0 (upd H p o) := fun c u n e => by
  have : c ≠ p := fun z => by rw [z, h] at e; cases e
  rw [upd_ne this]
  exact k c u n e
/-- the pot: its two cells -/
def Pot (H : Hp) (p : Addr) : Prop := ∃ a b : Int, H p = some (.lst [.int a, .int b]) ∧ 0 ≤ a ∧ 0 ≤ b
theorem Pot.keep {bad : List Addr} {H H2 : Hp} {p : Addr} (h : Pot H p) (k : Keep bad H H2) (n : p ∉ bad) : Pot H2 p := by
  obtain ⟨a, b, e, h1, h2⟩ := h
  exact ⟨a, b, k _ _ n e, h1, h2⟩
theorem Pot.same {H H2 : Hp} {p : Addr} (h : Pot H p) (k : Same H H2) : Pot H2 p := by
  obtain ⟨a, b, e, h1, h2⟩ := h
  exact ⟨a, b, k _ _ e, h1, h2⟩
theorem Pot.lst {H : Hp} {p : Addr} (h : Pot H p) : ∃ ys, H p = some (.lst ys) := by
  obtain ⟨a, b, e, _⟩ := h
  exact ⟨_, e⟩
theorem Pot.ne {H : Hp} {p l : Addr} {i : Int} (h : Pot H p) (e : H l = some (.lst [.int i])) : p ≠ l := fun z => by
  obtain ⟨a, b, e2, _⟩ := h
  rw [z, e] at e2
  injection e2 with e2
  injection e2 with e2
  injection e2 with _ e2
  cases e2

section
variable {P : Program} {w : World} {K : PySem.W.Frag} {mg : Str → Option Value} {base : Heap} {cA cO cS cP : Addr}

/-! ### the pot, a draw -/
def spPot : Sp := fun vs H Q _ => ∃ (c : Addr) (ns : List Int) (k : Nat), vs = [.ref c, .int (k : Int)] ∧ SqL K H c (ns.map V.int) ∧ ∀ p H2, Same H H2 → H p = none → Pot H2 p → Q (.ref p) H2
theorem sc46 : FnScope ["_law_script", "_law_k", "_law_cell"] ["_law_script", "_law_k"] (defScope (topS 46)) := ⟨rfl, rfl, rfl, by decide +kernel, rfl, by decide +kernel, by decide +kernel⟩
theorem f_pot (T : Top K mg cA cO cS cP) : Fn P w K mg base 1 "_law_pot" (spPot (K := K)) := by
  refine fn_by T.dPot sc46 (fun vs H Q E h => ?_) (fun f cdv A outer s H vs Q E hr h => ?_)
  · obtain ⟨c, ns, k, rfl, _⟩ := h
    rfl
  obtain ⟨c, ns, k, rfl, hc, q⟩ := h
  have nd := sc46.nd
  refine ⟨_, pss_cons (ps_set (i := 2) nd rfl (.inl rfl) pe_int)
    (pss_cons (ps_if (pt_cmpR op_lt (pv 1) (pe_callB call_len_seq rfl T.bLen PySem.boot_len (pa_cons (pv 0) pa_nil)) (nomark _)) (pss_one (ps_set (i := 2) nd rfl (.inl rfl) (pe_ix ix_list (pv 0) (pv 1) (fun _ _ => rfl)))) pss_nil)
    (pss_one (ps_ret (pe_lst (pa_cons (pe_callB (call_max2 rfl) rfl T.bMax boot_max (pa_cons pe_int (pa_cons (pe_op op_sub (pv 2) (pe_op op_pow pe_int pe_int)) pa_nil)))
      (pa_cons (pe_op op_add (pe_op op_add (pe_op op_mod (pv 2) pe_int) (pe_op op_mul pe_int (pv 1))) pe_int) pa_nil)))))), ?_⟩
  have fin : ∀ i : Int, ∀ l, H l = none → Q (.ref l) (upd H l (.lst [.int (if i - 10 ^ 18 > 0 then i - 10 ^ 18 else 0), .int (i % 2147483629 + 7919 * (k : Int) + 1)])) := by
    intro i l hl
    refine q l _ (same_upd hl _) hl ⟨_, _, upd_same, ?_, ?_⟩
    · split <;> omega
    · have : 0 ≤ i % 2147483629 := Int.emod_nonneg _ (by decide)
      omega
  refine ⟨_, rfl, _, rfl, c, _, rfl, .inl hc, _, _, rfl, rfl, _, rfl, ite2 (fun t => ?_) (fun t => ?_)⟩
  · have hk : k < ns.length := by
      have z : (k : Int) < (((ns.map V.int).length : Nat) : Int) := of_decide_eq_true t
      rw [List.length_map] at z
      omega
    refine ⟨_, rfl, _, rfl, c, _, _, .int ns[k], rfl, rfl, hc, atI_nat (by rw [List.getElem?_map, List.getElem?_eq_getElem hk]; rfl), ?_⟩
    refine ⟨_, rfl, _, _, rfl, rfl, ⟨by decide, by decide, by decide⟩, _, _, rfl, rfl, _, _, rfl, ?_⟩
    refine ⟨_, rfl, _, _, rfl, rfl, (by show (0 : Int) < 2147483629; decide), _, rfl, _, _, rfl, rfl, .inl ⟨by decide, by decide⟩, _, _, rfl, rfl, _, _, rfl, rfl, by show 2 ≤ sizeLine; decide, fun l hl => ?_⟩
    exact fin ns[k] l hl
  · refine ⟨_, rfl, _, _, rfl, rfl, ⟨by decide, by decide, by decide⟩, _, _, rfl, rfl, _, _, rfl, ?_⟩
    refine ⟨_, rfl, _, _, rfl, rfl, (by show (0 : Int) < 2147483629; decide), _, rfl, _, _, rfl, rfl, .inl ⟨by decide, by decide⟩, _, _, rfl, rfl, _, _, rfl, rfl, by show 2 ≤ sizeLine; decide, fun l hl => ?_⟩
    exact fin 0 l hl
def spDraw : Sp := fun vs H Q _ => ∃ (p : Addr) (n : Int), vs = [.ref p, .int n] ∧ Pot H p ∧ 1 ≤ n ∧ n ≤ 1000000000 ∧ ∀ d H2, 0 ≤ d → d < n → Keep [p] H H2 → Pot H2 p → Q (.int d) H2
theorem sc47 : FnScope ["_law_pot_here", "_law_many", "_law_digit"] ["_law_pot_here", "_law_many"] (defScope (topS 47)) := ⟨rfl, rfl, rfl, by decide +kernel, rfl, by decide +kernel, by decide +kernel⟩
theorem f_draw (T : Top K mg cA cO cS cP) : Fn P w K mg base 1 "_law_draw" spDraw := by
  refine fn_by T.dDraw sc47 (fun vs H Q E h => ?_) (fun f cdv A outer s H vs Q E hr h => ?_)
  · obtain ⟨p, n, rfl, _⟩ := h
    rfl
  obtain ⟨p, n, rfl, ⟨a, b, ep, ha, hb⟩, h1, h2, q⟩ := h
  have nd := sc47.nd
  refine ⟨_, pss_cons (ps_if (pt_cmpR op_gt (pe_ix ix_list (pv 0) pe_int (fun _ _ => rfl)) pe_int (nomark _))
      (pss_cons (ps_asg (pe_callB call_divmod rfl T.bDivmod boot_divmod (pa_cons (pe_ix ix_list (pv 0) pe_int (fun _ _ => rfl)) (pa_cons (pv 1) pa_nil))) (pg_tup rfl (pgs_cons (pg_sub (pv 0) pe_int set_list) (pgs_cons (pg_name (i := 2) nd rfl (.inl rfl)) pgs_nil))))
      (pss_one (ps_ret (pv 2)))) pss_nil)
    (pss_cons (ps_asg (pe_op op_mod (pe_op op_add (pe_op op_mul (pe_ix ix_list (pv 0) pe_int (fun _ _ => rfl)) pe_int) pe_int) pe_int) (pg_sub (pv 0) pe_int set_list))
    (pss_one (ps_ret (pe_op op_mod (pe_op op_fdiv (pe_op op_mod (pe_op op_mul (pe_ix ix_list (pv 0) pe_int (fun _ _ => rfl)) (pe_ix ix_list (pv 0) pe_int (fun _ _ => rfl))) pe_int) pe_int) (pv 1))))), ?_⟩
  have i0 : atI [V.int a, .int b] 0 = some (.int a) := atI_nat (j := 0) rfl
  have i1 : atI [V.int a, .int b] 1 = some (.int b) := atI_nat (j := 1) rfl
  refine ⟨_, rfl, p, _, 0, _, rfl, rfl, SqL.of ep, i0, _, _, rfl, rfl, _, rfl, ite2 (fun t => ?_) (fun t => ?_)⟩
  · refine ⟨_, rfl, p, _, 0, _, rfl, rfl, SqL.of ep, i0, _, rfl, _, _, rfl, ⟨by omega, by omega⟩, fun r hr0 => ?_⟩
    have hpr : p ≠ r := fun z => by rw [z, hr0] at ep; cases ep
    have e2 : upd H r (.tup [.int (a / n), .int (a % n)]) p = some (.lst [.int a, .int b]) := by rw [upd_ne hpr]; exact ep
    refine ⟨r, _, rfl, SqT.of upd_same, rfl, _, _, rfl, ?_⟩
    refine ⟨_, rfl, p, _, 0, 0, rfl, rfl, e2, rfl, _, _, rfl, rfl, ?_⟩
    refine ⟨_, rfl, ?_⟩
    refine q _ _ (Int.emod_nonneg _ (by omega)) (Int.emod_lt_of_pos _ (by omega)) ?_ ⟨a / n, b, upd_same, Int.ediv_nonneg ha (by omega), hb⟩
    exact (Keep.of (same_upd hr0 _)).trans (keep_put List.mem_cons_self)
  · refine ⟨_, rfl, p, _, 1, _, rfl, rfl, SqL.of ep, i1, _, _, rfl, rfl, .inr ⟨by decide, by decide⟩, _, _, rfl, rfl, _, _, rfl, rfl, (by show (0 : Int) < 2147483629; decide), ?_⟩
    have c0 : 0 ≤ (b * 48271 + 8191) % 2147483629 := Int.emod_nonneg _ (by decide)
    have c1 : (b * 48271 + 8191) % 2147483629 < 2147483629 := Int.emod_lt_of_pos _ (by decide)
    refine ⟨_, rfl, p, _, 1, 1, rfl, rfl, ep, rfl, ?_⟩
    have e2 : upd H p (.lst [.int a, .int ((b * 48271 + 8191) % 2147483629)]) p = some (.lst [.int a, .int ((b * 48271 + 8191) % 2147483629)]) := upd_same
    have k2 : Keep [p] H (upd H p (.lst [.int a, .int ((b * 48271 + 8191) % 2147483629)])) := keep_put List.mem_cons_self
    have j1 : atI [V.int a, .int ((b * 48271 + 8191) % 2147483629)] 1 = some (.int ((b * 48271 + 8191) % 2147483629)) := atI_nat (j := 1) rfl
    refine ⟨_, rfl, p, _, 1, _, rfl, rfl, SqL.of e2, j1, _, rfl, p, _, 1, _, rfl, rfl, SqL.of e2, j1, _, _, rfl, rfl, .inl ⟨by omega, by omega⟩, _, _, rfl, rfl, (by show (0 : Int) < 2147483587; decide), _, _, rfl, rfl, ⟨by decide, by decide⟩, _, rfl, _, _, rfl, rfl, (by show (0 : Int) < n; omega), ?_⟩
    exact q _ _ (Int.emod_nonneg _ (by omega)) (Int.emod_lt_of_pos _ (by omega)) k2 ⟨a, _, e2, ha, c0⟩
abbrev GAP : Int := 10 ^ 50
def spGap : Sp := fun vs H Q _ => ∃ p, vs = [.ref p] ∧ Pot H p ∧ ∀ g H2, 0 ≤ g → g < GAP → Keep [p] H H2 → Pot H2 p → Q (.int g) H2
theorem sc50 : FnScope ["_law_pot_here", "_law_found", "_law_k"] ["_law_pot_here"] (defScope (topS 50)) := ⟨rfl, rfl, rfl, by decide +kernel, rfl, by decide +kernel, by decide +kernel⟩
theorem f_wide (T : Top K mg cA cO cS cP) : Fn P w K mg base 2 "_law_wide" spGap := by
  refine fn_by T.dWide sc50 (fun vs H Q E h => ?_) (fun f cdv A outer s H vs Q E hr h => ?_)
  · obtain ⟨p, rfl, _⟩ := h
    rfl
  obtain ⟨p, rfl, hp, q⟩ := h
  have nd := sc50.nd
  refine ⟨_, pss_cons (ps_set (i := 1) nd rfl (.inl rfl) pe_int)
    (pss_cons (ps_for PassesOwn.never rfl (pi_range1 rfl T.bRange (pa_cons pe_int pa_nil)) (pg_name (i := 2) nd rfl (.inl rfl))
      (pss_one (ps_set (i := 1) nd rfl (.inl rfl) (pe_op op_add (pe_op op_mul (pv 1) (pe_op op_pow pe_int pe_int)) (pe_fn (f_draw T) hr (by decide) rfl (pa_cons (pv 0) (pa_cons (pe_op op_pow pe_int pe_int) pa_nil)))))))
    (pss_one (ps_ret (pe_op op_mod (pv 1) (pe_op op_pow pe_int pe_int))))), ?_⟩
  refine ⟨6, rfl, by decide, by decide, for_range (lo := 0) (n := 6) (fun i σ H1 => ∃ (z : Int) (v : Option V), σ = [some (.ref p), some (.int z), v] ∧ Keep [p] H H1 ∧ Pot H1 p) ⟨0, none, rfl, Keep.of (Same.refl _), hp⟩ ?_ ?_⟩
  · rintro i σ H1 hi ⟨z, v, rfl, k1, hp1⟩
    refine ⟨_, rfl, _, _, rfl, rfl, ⟨by decide, by decide, by decide⟩, _, _, rfl, rfl, .inr ⟨by decide, by decide⟩, ?_⟩
    refine ⟨_, rfl, _, _, rfl, rfl, ⟨by decide, by decide, by decide⟩, p, _, rfl, hp1, by decide, by decide, fun d H2 _ _ k2 hp2 => ?_⟩
    exact ⟨_, _, rfl, rfl, _, _, rfl, k1.trans k2, hp2⟩
  · rintro σ H1 ⟨z, v, rfl, k1, hp1⟩
    refine ⟨_, rfl, _, _, rfl, rfl, ⟨by decide, by decide, by decide⟩, _, _, rfl, rfl, (by show (0 : Int) < 10 ^ 50; decide), ?_⟩
    exact q _ _ (Int.emod_nonneg _ (by decide)) (Int.emod_lt_of_pos _ (by decide)) k1 hp1
theorem sc51 : FnScope ["_law_pot_here", "_law_way"] ["_law_pot_here"] (defScope (topS 51)) := ⟨rfl, rfl, rfl, by decide +kernel, rfl, by decide +kernel, by decide +kernel⟩
theorem f_gap (T : Top K mg cA cO cS cP) : Fn P w K mg base 3 "_law_gap" spGap := by
  refine fn_by T.dGap sc51 (fun vs H Q E h => ?_) (fun f cdv A outer s H vs Q E hr h => ?_)
  · obtain ⟨p, rfl, _⟩ := h
    rfl
  obtain ⟨p, rfl, hp, q⟩ := h
  have nd := sc51.nd
  refine ⟨_, pss_cons (ps_set (i := 1) nd rfl (.inl rfl) (pe_fn (f_draw T) hr (by decide) rfl (pa_cons (pv 0) (pa_cons pe_int pa_nil))))
    (pss_cons (ps_if (pt_cmpR op_lt (pv 1) pe_int (nomark _)) (pss_one (ps_ret pe_int)) pss_nil)
    (pss_cons (ps_if (pt_cmpR op_lt (pv 1) pe_int (nomark _)) (pss_one (ps_ret (pe_fn (f_draw T) hr (by decide) rfl (pa_cons (pv 0) (pa_cons pe_int pa_nil))))) pss_nil)
    (pss_cons (ps_if (pt_cmpR op_eq (pv 1) pe_int (nomark _)) (pss_one (ps_ret (pe_op op_mul pe_int (pe_fn (f_draw T) hr (by decide) rfl (pa_cons (pv 0) (pa_cons pe_int pa_nil)))))) pss_nil)
    (pss_cons (ps_if (pt_cmpR op_eq (pv 1) pe_int (nomark _)) (pss_one (ps_ret (pe_fn (f_draw T) hr (by decide) rfl (pa_cons (pv 0) (pa_cons pe_int pa_nil))))) pss_nil)
    (pss_cons (ps_if (pt_cmpR op_eq (pv 1) pe_int (nomark _)) (pss_one (ps_ret (pe_op op_mul pe_int (pe_fn (f_draw T) hr (by decide) rfl (pa_cons (pv 0) (pa_cons pe_int pa_nil)))))) pss_nil)
    (pss_one (ps_ret (pe_fn (f_wide T) hr (by decide) rfl (pa_cons (pv 0) pa_nil))))))))), ?_⟩
  have big : (1000000 : Int) < GAP := by decide
  refine ⟨_, rfl, p, 9, rfl, hp, by decide, by decide, fun way H1 w0 w1 k1 hp1 => ?_⟩
  refine ⟨_, rfl, _, _, rfl, rfl, _, rfl, ite2 (fun t => ?_) (fun t => ?_)⟩
  · exact q 0 _ (by decide) (by decide) k1 hp1
  refine ⟨_, rfl, _, _, rfl, rfl, _, rfl, ite2 (fun t => ?_) (fun t => ?_)⟩
  · exact ⟨_, rfl, p, 6, rfl, hp1, by decide, by decide, fun d H2 d0 d1 k2 hp2 => q d _ d0 (by omega) (k1.trans k2) hp2⟩
  refine ⟨_, rfl, rfl, _, rfl, ite2 (fun t => ?_) (fun t => ?_)⟩
  · exact ⟨_, rfl, p, 24, rfl, hp1, by decide, by decide, fun d H2 d0 d1 k2 hp2 => ⟨_, _, rfl, rfl, .inl ⟨by decide, by decide⟩, q _ _ (by omega) (by omega) (k1.trans k2) hp2⟩⟩
  refine ⟨_, rfl, rfl, _, rfl, ite2 (fun t => ?_) (fun t => ?_)⟩
  · exact ⟨_, rfl, p, 1440, rfl, hp1, by decide, by decide, fun d H2 d0 d1 k2 hp2 => q d _ d0 (by omega) (k1.trans k2) hp2⟩
  refine ⟨_, rfl, rfl, _, rfl, ite2 (fun t => ?_) (fun t => ?_)⟩
  · exact ⟨_, rfl, p, 100, rfl, hp1, by decide, by decide, fun d H2 d0 d1 k2 hp2 => ⟨_, _, rfl, rfl, .inl ⟨by decide, by decide⟩, q _ _ (by omega) (by omega) (k1.trans k2) hp2⟩⟩
  exact ⟨_, rfl, p, rfl, hp1, fun d H2 d0 d1 k2 hp2 => q d _ d0 d1 (k1.trans k2) hp2⟩
end
end K24

set_option Elab.async false
set_option linter.all false
set_option maxRecDepth 100000
set_option maxHeartbeats 4000000
/-! K16: a row drawn, a short drawn. -/
namespace K24
open PySem PySem.Spec PyProof.Rows L2 TL SX

/-! ### how far a drawn row reaches -/
def U : Nat → Int
  | 0 => GAP
  | d + 1 => 10000 * U d
theorem U_gap : ∀ d, GAP ≤ U d
  | 0 => Int.le_refl _
  | d + 1 => by
    have := U_gap d
    have g : (0 : Int) < GAP := by decide
    rw [U]
    omega
theorem U_top : ∀ {d}, d ≤ 8 → 5 * U d + GAP ≤ BIG := by
  intro d h
  have : ∀ e : Fin 9, 5 * U e.val + GAP ≤ BIG := by decide +kernel
  exact this ⟨d, by omega⟩
theorem cntR_app : ∀ as bs : List Sh, cntR (as ++ bs) = cntR as + cntR bs
  | [], bs => by rw [cntR, List.nil_append, Int.zero_add]
  | a :: as, bs => by rw [List.cons_append, cntR, cntR, cntR_app as bs, Int.add_assoc]
theorem nestR_app : ∀ as bs : List Sh, nestR (as ++ bs) = max (nestR as) (nestR bs)
  | [], bs => by rw [nestR, List.nil_append, Nat.zero_max]
  | a :: as, bs => by rw [List.cons_append, nestR, nestR, nestR_app as bs, Nat.max_assoc]
/-- what a drawn short keeps -/
structure ShOk (m room L : Int) (d : Nat) (t : Sh) : Prop where
  good : good t
  fst : fst t = m
  lst : lst t ≤ m + U d
  cnt : cnt t ≤ room
  nest : nest t ≤ d
  pcs : (pcs t : Int) ≤ L
structure RoOk (m room L : Int) (d : Nat) (ps : List Sh) : Prop where
  ne : ps ≠ []
  good : goodR ps
  ris : rising ps
  fst : fstR ps = m
  lst : lstR ps ≤ m + 5 * U d
  cnt : cntR ps ≤ room
  nest : nestR ps ≤ d
  pcs : (pcsR ps : Int) ≤ L
theorem ShOk.point {m room L : Int} {d : Nat} (h0 : 0 ≤ m) (hr : 1 ≤ room) (hL : 1 ≤ L) (hb : m + U d ≤ BIG) : ShOk m room L d (.pt m) := by
  have := U_gap d
  have g : (0 : Int) < GAP := by decide
  refine ⟨?_, ?_, ?_, ?_, ?_, ?_⟩
  · rw [K24.good]
    omega
  · rw [K24.fst]
  · rw [K24.lst]
    omega
  · rw [K24.cnt]
    exact hr
  · rw [K24.nest]
    exact Nat.zero_le _
  · rw [K24.pcs]
    exact hL
theorem ShOk.over {m room L n g : Int} {d : Nat} {ps : List Sh} (r : RoOk m (room / 2) (L - 1) d ps) (hm : 0 ≤ m) (hr : room ≤ 1440) (hn : 2 ≤ n) (hnc : n ≤ room / cntR ps) (g0 : 0 ≤ g) (g1 : g < GAP) (hb : m + U (d + 1) ≤ BIG) :
    ShOk m room L (d + 1) (.ov ps n (lstR ps - fstR ps + 1 + g)) := by
  have f := row_fact r.good r.ris r.ne
  have hu := U_gap d
  have gg : (0 : Int) < GAP := by decide
  have len : 1 ≤ ps.length := by
    have := List.length_pos_iff.mpr r.ne
    omega
  have c1 : 1 ≤ cntR ps := by omega
  have nc : n * cntR ps ≤ room := by
    have a := Int.mul_le_mul_of_nonneg_right hnc (show 0 ≤ cntR ps by omega)
    have b := Int.ediv_mul_le room (show cntR ps ≠ 0 by omega)
    omega
  have n1 : n ≤ 1440 := by
    have a := Int.mul_le_mul_of_nonneg_left c1 (show 0 ≤ n by omega)
    omega
  have hl := r.lst
  have hf := r.fst
  rw [U] at hb
  have sp : (n - 1) * (lstR ps - fstR ps + 1 + g) ≤ 1439 * (lstR ps - fstR ps + 1 + g) := Int.mul_le_mul_of_nonneg_right (by omega) (by omega)
  refine ⟨?_, ?_, ?_, ?_, ?_, ?_⟩
  · rw [K24.good]
    exact ⟨r.ne, r.good, r.ris, hn, by omega, by omega, by omega, by omega, by omega⟩
  · rw [K24.fst]
    exact hf
  · rw [K24.lst, U]
    omega
  · rw [K24.cnt]
    exact nc
  · rw [K24.nest]
    have := r.nest
    omega
  · rw [K24.pcs]
    have := r.pcs
    omega
/-- the row's loop -/
structure RI (m q L : Int) (d i : Nat) (ps : List Sh) (here : Int) : Prop where
  good : goodR ps
  ris : rising ps
  z : i = 0 → ps = [] ∧ here = m
  nz : 0 < i → ps ≠ []
  e : ps ≠ [] → fstR ps = m ∧ lstR ps < here ∧ lstR ps ≤ m + 5 * U d
  h0 : m ≤ here
  h1 : here ≤ m + (i : Int) * (2 * U d)
  c : cntR ps ≤ (i : Int) * q
  n : nestR ps ≤ d
  p : (pcsR ps : Int) ≤ L
  len : ps.length ≤ i
theorem RI.start {m q L : Int} {d : Nat} (hL : 0 ≤ L) : RI m q L d 0 [] m :=
  ⟨True.intro, True.intro, fun _ => ⟨rfl, rfl⟩, fun h => absurd h (by omega), fun h => absurd rfl h, Int.le_refl _, by omega, by rw [cntR]; omega, by rw [nestR]; omega, by rw [pcsR]; omega, Nat.le_refl _⟩
theorem step_mul (i : Nat) (w : Int) : ((i + 1 : Nat) : Int) * w = (i : Int) * w + w := by
  rw [Int.natCast_add, Int.add_mul]
  show _ + 1 * w = _
  rw [Int.one_mul]
theorem RI.skip {m q L : Int} {d i : Nat} {ps : List Sh} {here : Int} (h : RI m q L d i ps here) (hi : 0 < i) (hq : 0 ≤ q) : RI m q L d (i + 1) ps here := by
  have hu := U_gap d
  have gg : (0 : Int) < GAP := by decide
  refine ⟨h.good, h.ris, fun z => absurd z (by omega), fun _ => h.nz hi, h.e, h.h0, ?_, ?_, h.n, h.p, by have := h.len; omega⟩
  · rw [step_mul]
    have := h.h1
    omega
  · rw [step_mul]
    have := h.c
    omega
theorem fstR_snoc {ps : List Sh} {t : Sh} (h : ps ≠ []) : fstR (ps ++ [t]) = fstR ps := by
  cases ps with
  | nil => exact absurd rfl h
  | cons p r => rw [List.cons_append, fstR, fstR]
theorem RI.add {m q L g : Int} {d i : Nat} {ps : List Sh} {here : Int} {t : Sh} (h : RI m q L d i ps here) (hi : i ≤ 2) (s : ShOk here q (L - (pcsR ps : Int)) d t) (g0 : 0 ≤ g) (g1 : g < GAP) : RI m q L d (i + 1) (ps ++ [t]) (K24.lst t + 1 + g) := by
  have hu := U_gap d
  have gg : (0 : Int) < GAP := by decide
  have f := sh_fact s.good
  have sf := s.fst
  have sl := s.lst
  have h1 := h.h1
  have h2 : (i : Int) * (2 * U d) ≤ 2 * (2 * U d) := Int.mul_le_mul_of_nonneg_right (by omega) (by omega)
  have h0 := h.h0
  refine ⟨?_, ?_, fun z => absurd z (by omega), fun _ => by simp, fun _ => ⟨?_, ?_, ?_⟩, by omega, ?_, ?_, ?_, ?_, ?_⟩
  · refine goodR_append h.good ?_
    rw [goodR, goodR]
    exact ⟨s.good, True.intro⟩
  · refine rising_snoc h.ris fun n => ?_
    have := h.e n
    omega
  · by_cases n : ps = []
    · rw [n]
      show fstR [t] = m
      rw [fstR]
      have : i = 0 := by
        rcases Nat.eq_zero_or_pos i with z | z
        · exact z
        · exact absurd n (h.nz z)
      have := (h.z this).2
      omega
    · rw [fstR_snoc n]
      exact (h.e n).1
  · rw [lstR_snoc]
    omega
  · rw [lstR_snoc]
    omega
  · rw [step_mul]
    omega
  · rw [step_mul, cntR_app]
    have a := h.c
    have b := s.cnt
    have e : cntR [t] = K24.cnt t := by rw [cntR, cntR, Int.add_zero]
    omega
  · rw [nestR_app]
    have a := h.n
    have b := s.nest
    have e : nestR [t] = K24.nest t := by rw [nestR, nestR, Nat.max_zero]
    omega
  · rw [pcsR_app]
    have b := s.pcs
    have e : pcsR [t] = K24.pcs t := by rw [pcsR, pcsR, Nat.add_zero]
    omega
  · rw [List.length_append, List.length_singleton]
    have := h.len
    omega
theorem RI.done {m room L : Int} {d i : Nat} {ps : List Sh} {here : Int} (h : RI m (room / (i : Int)) L d i ps here) (hi : 0 < i) : RoOk m room L d ps := by
  have e := h.e (h.nz hi)
  have a := h.c
  have b := Int.ediv_mul_le room (show (i : Int) ≠ 0 by omega)
  rw [Int.mul_comm] at b
  exact ⟨h.nz hi, h.good, h.ris, e.1, e.2.2, by omega, h.n, h.p⟩

theorem atI_back {xs : List V} {v : V} (h : xs[xs.length - 1]? = some v) : atI xs (-1) = some v := by
  have hne : xs ≠ [] := fun z => by rw [z] at h; cases h
  have e := (List.dropLast_concat_getLast hne).symm
  have hv : xs.getLast hne = v := by
    rw [List.getLast_eq_getElem]
    have hl : xs.length - 1 < xs.length := by
      have := List.length_pos_iff.mpr hne
      omega
    rw [List.getElem?_eq_getElem hl] at h
    injection h
  rw [e, hv]
  exact atI_last _ v
theorem map_last {ns : List Int} {i : Int} (h : ns[ns.length - 1]? = some i) : (ns.map V.int)[(ns.map V.int).length - 1]? = some (.int i) := by
  rw [List.length_map, List.getElem?_map, h]
  rfl

section
variable {P : Program} {w : World} {K : PySem.W.Frag} {mg : Str → Option Value} {base : Heap} {cA cO cS cP : Addr}

def spShD (D : Nat) : Sp := fun vs H Q _ => ∃ (p l : Addr) (m room L : Int) (d : Nat), vs = [.ref p, .int m, .int room, .int (d : Int), .ref l] ∧ Pot H p ∧ H l = some (.lst [.int L]) ∧ 0 ≤ m ∧ 1 ≤ room ∧ room ≤ 1440 ∧ d < D ∧ 1 ≤ L ∧ L ≤ 40 ∧ m + U d ≤ BIG ∧
  ∀ t v H2, Keep [p, l] H H2 → Pot H2 p → H2 l = some (.lst [.int (L - (pcs t : Int))]) → TS H2 t v → ShOk m room L d t → Q v H2
def spRoD (D : Nat) : Sp := fun vs H Q _ => ∃ (p l : Addr) (m room L : Int) (d : Nat), vs = [.ref p, .int m, .int room, .int (d : Int), .ref l] ∧ Pot H p ∧ H l = some (.lst [.int L]) ∧ 0 ≤ m ∧ 1 ≤ room ∧ room ≤ 1440 ∧ d < D ∧ 1 ≤ L ∧ L ≤ 40 ∧ m + 5 * U d ≤ BIG ∧
  ∀ ps k xs H2, Keep [p, l] H H2 → Pot H2 p → H2 l = some (.lst [.int (L - (pcsR ps : Int))]) → H2 k = some (.tup xs) → TSs H2 ps xs → RoOk m room L d ps → Q (.ref k) H2
theorem sc52 : FnScope ["_law_pot_here", "_law_at", "_law_room", "_law_deep", "_law_left", "_law_row_here", "_law_moments_here", "_law_most", "_law_many"] ["_law_pot_here", "_law_at", "_law_room", "_law_deep", "_law_left"] (defScope (topS 52)) := ⟨rfl, rfl, rfl, by decide +kernel, rfl, by decide +kernel, by decide +kernel⟩
theorem f_lShort (T : Top K mg cA cO cS cP) (D k : Nat) (hD : D ≤ 8) (hk : 19 ≤ k) (c : Fn P w K mg base k "_law_row" (spRoD D)) : Fn P w K mg base (k + 1) "_law_short" (spShD (D + 1)) := by
  refine fn_by T.dShort sc52 (fun vs H Q E h => ?_) (fun f cdv A outer s H vs Q E hr h => ?_)
  · obtain ⟨p, l, m, room, L, d, rfl, _⟩ := h
    rfl
  obtain ⟨p, l, m, room, L, d, rfl, hp, hl, m0, r1, r2_, hd, L1, L2, hb, q⟩ := h
  have nd := sc52.nd
  refine ⟨_, pss_cons (ps_asg (pe_op op_sub (pe_ix ix_list (pv 4) pe_int (fun _ _ => rfl)) pe_int) (pg_sub (pv 4) pe_int set_list))
    (pss_cons (ps_if (PW.pt (pw_or (pt_cmpR op_eq (pe_fn (f_draw T) hr (by omega) rfl (pa_cons (pv 0) (pa_cons pe_int pa_nil))) pe_int (nomark _)) (pw_or (pt_cmpR op_lt (pv 2) pe_int (nomark _)) (pw_or (pt_cmpR op_eq (pv 3) pe_int (nomark _)) (pw_or1 (pt_cmpR op_lt (pe_ix ix_list (pv 4) pe_int (fun _ _ => rfl)) pe_int (nomark _)))))))
      (pss_one (ps_ret (pe_tup (pa_cons pe_str (pa_cons (pv 1) pa_nil))))) pss_nil)
    (pss_cons (ps_set (i := 5) nd rfl (.inl rfl) (pe_fn c hr (Nat.le_refl _) rfl (pa_cons (pv 0) (pa_cons (pv 1) (pa_cons (pe_op op_fdiv (pv 2) pe_int) (pa_cons (pe_op op_sub (pv 3) pe_int) (pa_cons (pv 4) pa_nil)))))))
    (pss_cons (ps_set (i := 6) nd rfl (.inl rfl) (pe_fn (L_rowMoms T 9) hr hk rfl (pa_cons (pv 5) pa_nil)))
    (pss_cons (ps_set (i := 7) nd rfl (.inl rfl) (pe_ix ix_list (pe_lst (pa_cons pe_int (pa_cons pe_int (pa_cons pe_int (pa_cons (pv 2) pa_nil))))) (pe_fn (f_draw T) hr (by omega) rfl (pa_cons (pv 0) (pa_cons pe_int pa_nil))) (fun _ _ => rfl)))
    (pss_cons (ps_set (i := 8) nd rfl (.inl rfl) (pe_op op_add pe_int (pe_fn (f_draw T) hr (by omega) rfl (pa_cons (pv 0) (pa_cons (pe_callB (call_min2 rfl) rfl T.bMin boot_min (pa_cons (pv 7) (pa_cons (pe_op op_sub (pe_op op_fdiv (pv 2) (pe_callB call_len_seq rfl T.bLen PySem.boot_len (pa_cons (pv 6) pa_nil))) pe_int) pa_nil))) pa_nil)))))
    (pss_one (ps_ret (pe_tup (pa_cons pe_str (pa_cons (pv 5) (pa_cons (pv 8) (pa_cons (pe_op op_add (pe_op op_add (pe_op op_sub (pe_ix ix_list (pv 6) (pe_un un_neg pe_int) (fun _ _ => rfl)) (pe_ix ix_list (pv 6) pe_int (fun _ _ => rfl))) pe_int) (pe_fn (f_gap T) hr (by omega) rfl (pa_cons (pv 0) pa_nil))) pa_nil)))))))))))), ?_⟩
  have npl := hp.ne hl
  refine ⟨_, rfl, l, _, 0, _, rfl, rfl, SqL.of hl, atI_nat (j := 0) rfl, _, _, rfl, rfl, ?_⟩
  refine ⟨_, rfl, l, _, 0, 0, rfl, rfl, hl, rfl, ?_⟩
  have hl1 : upd H l (.lst [.int (L - 1)]) l = some (.lst [.int (L - 1)]) := upd_same
  have k1 : Keep [p, l] H (upd H l (.lst [.int (L - 1)])) := keep_put (by simp)
  have hp1 : Pot (upd H l (.lst [.int (L - 1)])) p := by
    obtain ⟨a, b, e, h1, h2⟩ := hp
    exact ⟨a, b, by rw [upd_ne npl]; exact e, h1, h2⟩
  refine ⟨_, rfl, p, 3, rfl, hp1, by decide, by decide, fun dr H1 d0 d1 k2 hp2 => ?_⟩
  have hl2 : H1 l = some (.lst [.int (L - 1)]) := k2 _ _ (by simp; exact fun z => npl z.symm) hl1
  have kk : Keep [p, l] H H1 := k1.trans (k2.wide (by simp))
  have nlp : l ∉ [p] := by
    simp
    exact fun z => npl z.symm
  have point : ∀ r, H1 r = none → Q (.ref r) (upd H1 r (.tup [.str "at", .int m])) := fun r hr0 => by
    have g : Same H1 (upd H1 r (.tup [.str "at", .int m])) := same_upd hr0 _
    refine q (.pt m) (.ref r) _ (kk.trans (Keep.of g)) (hp2.same g) ?_ ?_ (ShOk.point m0 r1 L1 hb)
    · rw [pcs]
      exact g _ _ hl2
    · rw [TS]
      exact ⟨r, rfl, upd_same⟩
  refine ⟨rfl, _, rfl, ite2 (fun t1 => ⟨_, rfl, by show 2 ≤ sizeLine; decide, point⟩) (fun t1 => ?_)⟩
  refine ⟨_, rfl, _, _, rfl, rfl, _, rfl, ite2 (fun t2 => ⟨_, rfl, by show 2 ≤ sizeLine; decide, point⟩) (fun t2 => ?_)⟩
  refine ⟨_, rfl, rfl, _, rfl, ite2 (fun t3 => ⟨_, rfl, by show 2 ≤ sizeLine; decide, point⟩) (fun t3 => ?_)⟩
  refine ⟨_, rfl, l, _, 0, _, rfl, rfl, SqL.of hl2, atI_nat (j := 0) rfl, _, _, rfl, rfl, _, rfl, ite2 (fun t4 => ⟨_, rfl, by show 2 ≤ sizeLine; decide, point⟩) (fun t4 => ?_)⟩
  have rm2 : 2 ≤ room := by
    have z : ¬ room < 2 := fun z => t2 (decide_eq_true z)
    omega
  have d1 : d ≠ 0 := fun z => t3 (decide_eq_true (by rw [z]; rfl))
  have L3 : 2 ≤ L := by
    have z : ¬ L - 1 < 1 := fun z => t4 (decide_eq_true z)
    omega
  clear t1 t2 t3 t4
  obtain ⟨d, rfl⟩ : ∃ e, d = e + 1 := ⟨d - 1, by omega⟩
  have ed : (((d + 1 : Nat) : Int)) - 1 = (d : Int) := by omega
  have hu := U_gap d
  have gg : (0 : Int) < GAP := by decide
  have hb2 : m + 5 * U d ≤ BIG := by
    rw [U] at hb
    omega
  refine ⟨_, rfl, _, rfl, _, rfl, _, _, rfl, rfl, ⟨by decide, by decide⟩, _, rfl, _, _, rfl, rfl, _, rfl, p, l, m, room / 2, L - 1, d, ?_, hp2, hl2, m0, by omega, by omega, by omega, by omega, by omega, hb2, fun ps kr xs H2 k3 hp3 hl3 hkr hts ro => ?_⟩
  · show [V.ref p, .int m, .int (room / 2), .int ((((d + 1 : Nat) : Int)) - 1), .ref l] = _
    rw [ed]
  have fit9 : FitR 9 ps := ⟨by have := ro.nest; omega, ro.good, by have := ro.pcs; omega⟩
  refine ⟨_, rfl, ps, xs, kr, rfl, hkr, hts, fit9, fun el H3 g3 hel e3 => ?_⟩
  have hp4 := hp3.same g3
  have hl4 := g3 _ _ hl3
  have f := row_fact ro.good ro.ris ro.ne
  have rc := ro.cnt
  have len1 : 1 ≤ ps.length := by
    have := List.length_pos_iff.mpr ro.ne
    omega
  have c1 : 1 ≤ cntR ps := by omega
  have elen : ((((momsR ps).map V.int).length : Nat) : Int) = cntR ps := by
    rw [List.length_map]
    exact momsR_cnt ro.good
  have ends := momsR_ends ro.good ro.ne
  -- most
  refine ⟨_, rfl, by show 4 ≤ sizeLine; decide, fun r2 hr2 => ?_⟩
  have g4 : Same H3 (upd H3 r2 (.lst [.int 2, .int 2, .int 2, .int room])) := same_upd hr2 _
  refine ⟨_, rfl, p, 4, rfl, hp4.same g4, by decide, by decide, fun w4 H4 w0 w1 k5 hp5 => ?_⟩
  have hr4 : H4 r2 = some (.lst [.int 2, .int 2, .int 2, .int room]) := k5 _ _ (by
    simp
    intro z
    obtain ⟨a, b, e, _⟩ := hp4
    rw [← z, hr2] at e
    cases e) upd_same
  obtain ⟨most, em, mo1, mo2⟩ : ∃ most : Int, atI [V.int 2, .int 2, .int 2, .int room] w4 = some (.int most) ∧ 2 ≤ most ∧ most ≤ 1440 := by
    rcases (show w4 = 0 ∨ w4 = 1 ∨ w4 = 2 ∨ w4 = 3 by omega) with rfl | rfl | rfl | rfl
    · exact ⟨2, atI_nat (j := 0) rfl, by decide, by decide⟩
    · exact ⟨2, atI_nat (j := 1) rfl, by decide, by decide⟩
    · exact ⟨2, atI_nat (j := 2) rfl, by decide, by decide⟩
    · exact ⟨room, atI_nat (j := 3) rfl, rm2, r2_⟩
  have k5w : Keep [p, l] H3 H4 := (Keep.of g4).trans (k5.wide (by simp))
  have e5 : H4 el = some (.lst ((momsR ps).map V.int)) := k5 _ _ (by
    simp
    intro z
    obtain ⟨a, b, e, _⟩ := hp3
    rw [← z, hel] at e
    cases e) (g4 _ _ e3)
  have hl5 : H4 l = some (.lst [.int (L - 1 - (pcsR ps : Int))]) := k5 _ _ nlp (g4 _ _ hl4)
  refine ⟨r2, _, w4, _, rfl, rfl, SqL.of hr4, em, ?_⟩
  -- many
  have q2 : 2 ≤ room / cntR ps := Int.le_ediv_of_mul_le (by omega) (by omega)
  have q3 : room / cntR ps ≤ 1440 := by
    have := Int.ediv_le_self (b := cntR ps) (show 0 ≤ room by omega)
    omega
  refine ⟨_, rfl, _, rfl, _, rfl, _, rfl, el, _, rfl, .inl (SqL.of e5), _, _, rfl, rfl, ?_⟩
  rw [elen]
  refine ⟨⟨by omega, by omega⟩, _, _, rfl, rfl, _, _, rfl, p, _, rfl, hp5, ?_, ?_, fun d5 H5 d50 d51 k6 hp6 => ?_⟩
  · show 1 ≤ if room / cntR ps - 1 < most then room / cntR ps - 1 else most
    split <;> omega
  · show (if room / cntR ps - 1 < most then room / cntR ps - 1 else most) ≤ _
    split <;> omega
  have d52 : d5 < room / cntR ps - 1 := by
    have z : d5 < if room / cntR ps - 1 < most then room / cntR ps - 1 else most := d51
    split at z <;> omega
  have e6 : H5 el = some (.lst ((momsR ps).map V.int)) := k6 _ _ (by
    simp
    intro z
    obtain ⟨a, b, e, _⟩ := hp3
    rw [← z, hel] at e
    cases e) e5
  have hl6 := k6 _ _ nlp hl5
  refine ⟨_, _, rfl, rfl, ?_⟩
  -- the tuple
  refine ⟨_, rfl, _, rfl, _, rfl, _, rfl, el, _, -1, _, rfl, rfl, SqL.of e6, atI_back (map_last ends.2), _, rfl, el, _, 0, _, rfl, rfl, SqL.of e6, atI_nat (j := 0) (by rw [List.getElem?_map, ends.1]; rfl), _, _, rfl, rfl, _, _, rfl, rfl, _, rfl, p, rfl, hp6, fun g H6 g0 g1 k7 hp7 => ?_⟩
  refine ⟨_, _, rfl, rfl, by show 4 ≤ sizeLine; decide, fun r hr0 => ?_⟩
  have hl7 := k7 _ _ nlp hl6
  have g8 : Same H6 (upd H6 r (.tup [.str "over", .ref kr, .int (2 + d5), .int (lstR ps - fstR ps + 1 + g)])) := same_upd hr0 _
  have im : Imm H2 (upd H6 r (.tup [.str "over", .ref kr, .int (2 + d5), .int (lstR ps - fstR ps + 1 + g)])) := by
    refine (same_imm (g3.trans g4)).trans ?_
    refine Imm.trans (k5.imm fun x hx => ?_) (Imm.trans (k6.imm fun x hx => ?_) (Imm.trans (k7.imm fun x hx => ?_) (same_imm g8)))
    · rw [List.mem_singleton.mp hx]
      exact (hp4.same g4).lst
    · rw [List.mem_singleton.mp hx]
      exact hp5.lst
    · rw [List.mem_singleton.mp hx]
      exact hp6.lst
  refine q (.ov ps (2 + d5) (lstR ps - fstR ps + 1 + g)) (.ref r) _ ?_ (hp7.same g8) ?_ ?_ (ShOk.over ro m0 r2_ (by omega) (by omega) g0 g1 hb)
  · exact (kk.trans (k3.trans ((Keep.of g3).trans k5w))).trans ((k6.wide (by simp)).trans ((k7.wide (by simp)).trans (Keep.of g8)))
  · have e : L - ((pcs (.ov ps (2 + d5) (lstR ps - fstR ps + 1 + g)) : Nat) : Int) = L - 1 - (pcsR ps : Int) := by
      rw [pcs]
      omega
    rw [e]
    exact g8 _ _ hl7
  · rw [TS]
    exact ⟨r, kr, xs, rfl, upd_same, im _ _ hkr (fun _ z => nomatch z), hts.mono im⟩
theorem sc53 : FnScope ["_law_pot_here", "_law_at", "_law_room", "_law_deep", "_law_left", "_law_found", "_law_here", "_law_many", "_law_k", "_law_short_here"] ["_law_pot_here", "_law_at", "_law_room", "_law_deep", "_law_left"] (defScope (topS 53)) := ⟨rfl, rfl, rfl, by decide +kernel, rfl, by decide +kernel, by decide +kernel⟩
theorem f_lRow (T : Top K mg cA cO cS cP) (D k : Nat) (hD : D ≤ 9) (hk : 19 ≤ k) (c : Fn P w K mg base k "_law_short" (spShD D)) : Fn P w K mg base (k + 1) "_law_row" (spRoD D) := by
  refine fn_by T.dRow sc53 (fun vs H Q E h => ?_) (fun f cdv A outer s H vs Q E hr h => ?_)
  · obtain ⟨p, l, m, room, L, d, rfl, _⟩ := h
    rfl
  obtain ⟨p, l, m, room, L, d, rfl, hp, hl, m0, r1, r2_, hd, L1, L2, hb, q⟩ := h
  have nd := sc53.nd
  refine ⟨_, pss_cons (ps_set (i := 5) nd rfl (.inl rfl) (pe_lst pa_nil))
    (pss_cons (ps_set (i := 6) nd rfl (.inl rfl) (pv 1))
    (pss_cons (ps_set (i := 7) nd rfl (.inl rfl) (pe_op op_add pe_int (pe_fn (f_draw T) hr (by omega) rfl (pa_cons (pv 0) (pa_cons (pe_callB (call_min2 rfl) rfl T.bMin boot_min (pa_cons pe_int (pa_cons (pv 2) pa_nil))) pa_nil)))))
    (pss_cons (ps_for PassesOwn.never rfl (pi_range1 rfl T.bRange (pa_cons (pv 7) pa_nil)) (pg_name (i := 8) nd rfl (.inl rfl))
      (pss_one (ps_if (PW.pt (pw_or (pt_cmpR op_eq (pv 8) pe_int (nomark _)) (pw_or1 (pt_cmpR op_gt (pe_ix ix_list (pv 4) pe_int (fun _ _ => rfl)) pe_int (nomark _)))))
        (pss_cons (ps_set (i := 9) nd rfl (.inl rfl) (pe_fn c hr (Nat.le_refl _) rfl (pa_cons (pv 0) (pa_cons (pv 6) (pa_cons (pe_op op_fdiv (pv 2) (pv 7)) (pa_cons (pv 3) (pa_cons (pv 4) pa_nil)))))))
        (pss_cons (ps_expr (pe_bm PySem.F.plainAttrs_list PySem.F.slot_list_append PySem.F.type_list_append mt_append (pv 5) (pa_cons (pv 9) pa_nil)))
        (pss_one (ps_set (i := 6) nd rfl (.inl rfl) (pe_op op_add (pe_op op_add (pe_ix ix_list (pe_fn (L_moms T 9) hr (by omega) rfl (pa_cons (pv 9) pa_nil)) (pe_un un_neg pe_int) (fun _ _ => rfl)) pe_int) (pe_fn (f_gap T) hr (by omega) rfl (pa_cons (pv 0) pa_nil))))))) pss_nil)))
    (pss_one (ps_ret (pe_callTy call_tuple_of rfl T.bTuple boot_tuple (pa_cons (pv 5) pa_nil))))))), ?_⟩
  have npl := hp.ne hl
  have hu := U_gap d
  have gg : (0 : Int) < GAP := by decide
  refine ⟨by show 0 ≤ sizeLine; decide, fun r hr0 => ?_⟩
  have nrp : r ≠ p := fun z => by
    obtain ⟨ys, e⟩ := hp.lst
    rw [z, e] at hr0
    cases hr0
  have nrl : r ≠ l := fun z => by
    rw [z, hl] at hr0
    cases hr0
  have g0 : Same H (upd H r (.lst [])) := same_upd hr0 _
  refine ⟨_, rfl, ?_⟩
  refine ⟨_, rfl, _, rfl, _, _, rfl, p, _, rfl, hp.same g0, ?_, ?_, fun dr H1 d0 d1 k1 hp1 => ?_⟩
  · show 1 ≤ if room < 3 then room else 3
    split <;> omega
  · show (if room < 3 then room else 3) ≤ _
    split <;> omega
  have d2 : dr < 3 ∧ dr < room := by
    have z : dr < if room < 3 then room else 3 := d1
    split at z <;> omega
  obtain ⟨many, rfl⟩ : ∃ n : Nat, dr = (n : Int) := ⟨dr.toNat, by omega⟩
  have em : ((many + 1 : Nat) : Int) = 1 + (many : Int) := by omega
  have en : (1 + (many : Int)).toNat = many + 1 := by omega
  have nlp : l ∉ [p] := by
    simp
    exact fun z => npl z.symm
  have nrp2 : r ∉ [p] := by simpa using nrp
  have nrpl : r ∉ [p, l] := by simpa using ⟨nrp, nrl⟩
  have q0 : 0 ≤ room / (1 + (many : Int)) := Int.ediv_nonneg (by omega) (by omega)
  have q1 : 1 ≤ room / (1 + (many : Int)) := Int.le_ediv_of_mul_le (by omega) (by omega)
  have q2 : room / (1 + (many : Int)) ≤ 1440 := by
    have := Int.ediv_le_self (b := 1 + (many : Int)) (show 0 ≤ room by omega)
    omega
  have hl1 : H1 l = some (.lst [.int L]) := k1 _ _ nlp (g0 _ _ hl)
  have hr1 : H1 r = some (.lst []) := k1 _ _ nrp2 upd_same
  have kk1 : Keep [p, l] H H1 := (Keep.of g0).trans (k1.wide (by simp))
  refine ⟨_, _, rfl, rfl, ?_⟩
  refine ⟨_, rfl, _, rfl, by omega, by omega,
    for_range (lo := 0) (n := (1 + (many : Int)).toNat) (fun i σ H2 => ∃ ps xs here L5 vk vs, σ = [some (.ref p), some (.int m), some (.int room), some (.int (d : Int)), some (.ref l), some (.ref r), some (.int here), some (.int (1 + (many : Int))), vk, vs] ∧
      H2 r = some (.lst xs) ∧ TSs H2 ps xs ∧ Keep [p, l] H H2 ∧ Pot H2 p ∧ H2 l = some (.lst [.int L5]) ∧ L5 = L - (pcsR ps : Int) ∧ RI m (room / (1 + (many : Int))) L d i ps here)
    ⟨[], [], m, L, none, none, rfl, hr1, by rw [TSs], kk1, hp1, hl1, by rw [pcsR]; omega, RI.start (by omega)⟩ ?_ ?_⟩
  · rintro i σ H2 hi ⟨ps, xs, here, L5, vk, vs, rfl, er, hts, k2, hp2, hl2, eL, ri⟩
    have hi2 : i ≤ 2 := by omega
    have hz : decide (V.int (0 + (i : Int)) = V.int 0) = true → i = 0 := fun t1 => by
      have z : V.int (0 + (i : Int)) = V.int 0 := of_decide_eq_true t1
      injection z with z
      omega
    have hz2 : ¬ decide (V.int (0 + (i : Int)) = V.int 0) = true → 0 < i := fun t1 => by
      rcases Nat.eq_zero_or_pos i with z | z
      · refine absurd (decide_eq_true ?_) t1
        rw [z]
        rfl
      · exact z
    refine (fun (hT : (i = 0 ∨ 0 < L5) → _) => (⟨_, rfl, rfl, _, rfl, ite2 (fun t1 => hT (.inl (hz t1))) (fun t1 => ⟨_, rfl, l, _, 0, _, rfl, rfl, SqL.of hl2, atI_nat (j := 0) rfl, _, _, rfl, rfl, _, rfl, ite2 (fun t2 => hT (.inr (of_decide_eq_true t2))) (fun t2 =>
      ⟨ps, xs, here, L5, _, vs, rfl, er, hts, k2, hp2, hl2, eL, ri.skip (hz2 t1) q0⟩)⟩)⟩ : _)) ?_
    intro hgo
    have hL5 : 1 ≤ L5 := by
      rcases hgo with z | z
      · have := (ri.z z).1
        rw [this, pcsR] at eL
        omega
      · omega
    have h1 := ri.h1
    have h0 := ri.h0
    have hm2 : (i : Int) * (2 * U d) ≤ 2 * (2 * U d) := Int.mul_le_mul_of_nonneg_right (by omega) (by omega)
    refine ⟨_, rfl, _, rfl, _, rfl, _, rfl, _, _, rfl, rfl, ⟨by omega, by omega⟩, _, rfl, _, rfl, p, l, here, room / (1 + (many : Int)), L5, d, rfl, hp2, hl2, by omega, q1, q2, hd, hL5, by omega, by omega, fun t v H3 k3 hp3 hl3 ht3 ok => ?_⟩
    have er3 := k3 _ _ nrpl er
    have im3 : Imm H2 H3 := k3.imm fun x hx => by
      rcases List.mem_cons.mp hx with e | hx
      · rw [e]
        exact hp2.lst
      · rw [List.mem_singleton.mp hx]
        exact ⟨_, hl2⟩
    have ok2 := ok
    rw [eL] at ok2
    have xl : xs.length ≤ 3 := by
      rw [hts.len]
      have := ri.len
      omega
    refine ⟨_, rfl, .inl ⟨rfl, _, SqL.of er3⟩, _, rfl, r, xs, v, rfl, rfl, er3, by rw [sizeLine_eq]; omega, ?_⟩
    have im4 : Imm H3 (upd H3 r (.lst (xs ++ [v]))) := imm_put (Imm.refl _) ⟨_, er3⟩ _
    have er4 : upd H3 r (.lst (xs ++ [v])) r = some (.lst (xs ++ [v])) := upd_same
    have hts4 : TSs (upd H3 r (.lst (xs ++ [v]))) (ps ++ [t]) (xs ++ [v]) := TSs.snoc ((hts.mono im3).mono im4) (ht3.mono im4)
    have ht4 := ht3.mono im4
    have hp4 : Pot (upd H3 r (.lst (xs ++ [v]))) p := by
      obtain ⟨a, b, e, z1, z2⟩ := hp3
      exact ⟨a, b, by rw [upd_ne (Ne.symm nrp)]; exact e, z1, z2⟩
    have hl4 : upd H3 r (.lst (xs ++ [v])) l = some (.lst [.int (L5 - (pcs t : Int))]) := by
      rw [upd_ne (Ne.symm nrl)]
      exact hl3
    have k4 : Keep [p, l] H (upd H3 r (.lst (xs ++ [v]))) := keep_new (k2.trans k3) hr0
    have fit : Fit 9 t := ⟨by have := ok.nest; omega, ok.good, by have := ok.pcs; omega⟩
    refine ⟨_, rfl, t, v, rfl, ht4, fit, fun ml H5 g5 hml e5 => ?_⟩
    have ends := moms_ends ok.good
    refine ⟨_, rfl, ml, _, -1, _, rfl, rfl, SqL.of e5, atI_back (map_last ends.2), _, _, rfl, rfl, _, rfl, p, rfl, hp4.same g5, fun g H6 gp0 gp1 k6 hp6 => ?_⟩
    have im6 : Imm (upd H3 r (.lst (xs ++ [v]))) H6 := (same_imm g5).trans (k6.imm fun x hx => by
      rw [List.mem_singleton.mp hx]
      exact (hp4.same g5).lst)
    refine ⟨_, _, rfl, rfl, ps ++ [t], xs ++ [v], K24.lst t + 1 + g, L5 - (pcs t : Int), _, _, rfl, k6 _ _ nrp2 (g5 _ _ er4), hts4.mono im6, k4.trans ((Keep.of g5).trans (k6.wide (by simp))), hp6, k6 _ _ nlp (g5 _ _ hl4), ?_, ri.add hi2 ok2 gp0 gp1⟩
    rw [pcsR_app]
    have e : pcsR [t] = K24.pcs t := by rw [pcsR, pcsR, Nat.add_zero]
    omega
  · rintro σ H2 ⟨ps, xs, here, L5, vk, vs, rfl, er, hts, k2, hp2, hl2, eL, ri⟩
    rw [en, ← em] at ri
    refine ⟨_, rfl, r, _, rfl, .inl ⟨SqL.of er, fun kr hkr => ?_⟩⟩
    have g3 : Same H2 (upd H2 kr (.tup xs)) := same_upd hkr _
    refine q ps kr xs _ (k2.trans (Keep.of g3)) (hp2.same g3) ?_ upd_same (hts.mono (same_imm g3)) ?_
    · rw [← eL]
      exact g3 _ _ hl2
    · exact ri.done (by omega)
theorem X_short (T : Top K mg cA cO cS cP) : ∀ D : Nat, D ≤ 9 → Fn P w K mg base (20 + 2 * D) "_law_short" (spShD D)
  | 0, _ => fn_none T.dShort fun vs H Q E h => by
    obtain ⟨p, l, m, room, L, d, _, _, _, _, _, _, hd, _⟩ := h
    omega
  | D + 1, h => f_lShort T D (20 + 2 * D + 1) (by omega) (by omega) (f_lRow T D (20 + 2 * D) (by omega) (by omega) (X_short T D (by omega)))
theorem X_row (T : Top K mg cA cO cS cP) : Fn P w K mg base 39 "_law_row" (spRoD 9) := f_lRow T 9 38 (by decide) (by decide) (X_short T 9 (by decide))
def spSpread : Sp := fun vs H Q _ => ∃ p, vs = [.ref p] ∧ Pot H p ∧ ∀ ps k xs H2, Keep [p] H H2 → H2 k = some (.tup xs) → TSs H2 ps xs → OkR ps → Q (.ref k) H2
theorem sc54 : FnScope ["_law_pot_here", "_law_room", "_law_deep"] ["_law_pot_here"] (defScope (topS 54)) := ⟨rfl, rfl, rfl, by decide +kernel, rfl, by decide +kernel, by decide +kernel⟩
theorem f_lSpread (T : Top K mg cA cO cS cP) : Fn P w K mg base 40 "_law_spread" spSpread := by
  refine fn_by T.dSpread sc54 (fun vs H Q E h => ?_) (fun f cdv A outer s H vs Q E hr h => ?_)
  · obtain ⟨p, rfl, _⟩ := h
    rfl
  obtain ⟨p, rfl, hp, q⟩ := h
  have nd := sc54.nd
  refine ⟨_, pss_cons (ps_if (pt_cmpR op_eq (pe_fn (f_draw T) hr (by decide) rfl (pa_cons (pv 0) (pa_cons pe_int pa_nil))) pe_int (nomark _)) (pss_one (ps_ret (pe_tup pa_nil))) pss_nil)
    (pss_cons (ps_set (i := 1) nd rfl (.inl rfl) (pe_ix ix_list (pe_lst (pa_cons pe_int (pa_cons pe_int (pa_cons pe_int (pa_cons pe_int pa_nil))))) (pe_fn (f_draw T) hr (by decide) rfl (pa_cons (pv 0) (pa_cons pe_int pa_nil))) (fun _ _ => rfl)))
    (pss_cons (ps_if (pt_cmpR op_eq (pe_fn (f_draw T) hr (by decide) rfl (pa_cons (pv 0) (pa_cons pe_int pa_nil))) pe_int (nomark _)) (pss_one (ps_set (i := 1) nd rfl (.inl rfl) pe_int)) pss_nil)
    (pss_cons (ps_set (i := 2) nd rfl (.inl rfl) (pe_ix ix_list (pe_lst (pa_cons pe_int (pa_cons pe_int (pa_cons pe_int (pa_cons pe_int pa_nil))))) (pe_fn (f_draw T) hr (by decide) rfl (pa_cons (pv 0) (pa_cons pe_int pa_nil))) (fun _ _ => rfl)))
    (pss_one (ps_ret (pe_fn (X_row T) hr (by decide) rfl (pa_cons (pv 0) (pa_cons (pe_fn (f_gap T) hr (by decide) rfl (pa_cons (pv 0) pa_nil)) (pa_cons (pv 1) (pa_cons (pv 2) (pa_cons (pe_lst (pa_cons pe_int pa_nil)) pa_nil)))))))))) ), ?_⟩
  have nofresh : ∀ {H1 : Hp} {r : Addr}, Pot H1 p → H1 r = none → r ∉ [p] := fun {H1 r} h e => by
    simp
    intro z
    obtain ⟨ys, e2⟩ := h.lst
    rw [← z, e] at e2
    cases e2
  refine ⟨_, rfl, p, 12, rfl, hp, by decide, by decide, fun dr H1 _ _ k1 hp1 => ?_⟩
  refine ⟨rfl, _, rfl, ite2 (fun t => ?_) (fun t => ?_)⟩
  · refine ⟨by show 0 ≤ sizeLine; decide, fun k hk => ?_⟩
    refine q [] k [] _ (k1.trans (Keep.of (same_upd hk _))) upd_same (by rw [TSs]) ⟨True.intro, True.intro, by rw [cntR]; decide, by rw [nestR]; decide, by rw [pcsR]; decide⟩
  refine ⟨by show 4 ≤ sizeLine; decide, fun r2 hr2 => ?_⟩
  have g2 : Same H1 (upd H1 r2 (.lst [.int 6, .int 12, .int 24, .int 60])) := same_upd hr2 _
  refine ⟨_, rfl, p, 4, rfl, hp1.same g2, by decide, by decide, fun w4 H2 w0 w1 k2 hp2 => ?_⟩
  have er2 := k2 _ _ (nofresh hp1 hr2) upd_same
  obtain ⟨room, em, mo1, mo2⟩ : ∃ room : Int, atI [V.int 6, .int 12, .int 24, .int 60] w4 = some (.int room) ∧ 1 ≤ room ∧ room ≤ 1440 := by
    rcases (show w4 = 0 ∨ w4 = 1 ∨ w4 = 2 ∨ w4 = 3 by omega) with rfl | rfl | rfl | rfl
    · exact ⟨6, atI_nat (j := 0) rfl, by decide, by decide⟩
    · exact ⟨12, atI_nat (j := 1) rfl, by decide, by decide⟩
    · exact ⟨24, atI_nat (j := 2) rfl, by decide, by decide⟩
    · exact ⟨60, atI_nat (j := 3) rfl, by decide, by decide⟩
  have k12 : Keep [p] H H2 := k1.trans ((Keep.of g2).trans k2)
  refine ⟨r2, _, w4, _, rfl, rfl, SqL.of er2, em, ?_⟩
  refine ⟨_, rfl, p, 16, rfl, hp2, by decide, by decide, fun d3 H3 _ _ k3 hp3 => ?_⟩
  refine ⟨rfl, _, rfl, ?_⟩
  refine ite2 (fun _ => ?_) (fun _ => ?_)
  all_goals
    refine ⟨by show 4 ≤ sizeLine; decide, fun r5 hr5 => ?_⟩
    have g5 : Same H3 (upd H3 r5 (.lst [.int 1, .int 2, .int 3, .int 8])) := same_upd hr5 _
    refine ⟨_, rfl, p, 4, rfl, hp3.same g5, by decide, by decide, fun w5 H5 u0 u1 k5 hp5 => ?_⟩
    have er5 := k5 _ _ (nofresh hp3 hr5) upd_same
    obtain ⟨deep, ed, de⟩ : ∃ deep : Nat, atI [V.int 1, .int 2, .int 3, .int 8] w5 = some (.int (deep : Int)) ∧ deep ≤ 8 := by
      rcases (show w5 = 0 ∨ w5 = 1 ∨ w5 = 2 ∨ w5 = 3 by omega) with rfl | rfl | rfl | rfl
      · exact ⟨1, atI_nat (j := 0) rfl, by decide⟩
      · exact ⟨2, atI_nat (j := 1) rfl, by decide⟩
      · exact ⟨3, atI_nat (j := 2) rfl, by decide⟩
      · exact ⟨8, atI_nat (j := 3) rfl, by decide⟩
    have k15 : Keep [p] H H5 := k12.trans (k3.trans ((Keep.of g5).trans k5))
    refine ⟨r5, _, w5, _, rfl, rfl, SqL.of er5, ed, ?_⟩
    refine ⟨_, rfl, _, rfl, p, rfl, hp5, fun g H6 gp0 gp1 k6 hp6 => ?_⟩
    refine ⟨_, rfl, _, rfl, by show 1 ≤ sizeLine; decide, fun l hl0 => ?_⟩
    have ut := U_top de
    refine ⟨p, l, g, _, 40, deep, rfl, hp6.same (same_upd hl0 _), upd_same, gp0, (by first | exact mo1 | decide), (by first | exact mo2 | decide), by omega, by decide, by decide, by omega, fun ps k xs H7 k7 hp7 hl7 hk7 hts ro => ?_⟩
    refine q ps k xs H7 (fun b u nb eb => ?_) hk7 hts ⟨ro.good, ro.ris, by have := ro.cnt; omega, by have := ro.nest; omega, by have := ro.pcs; omega⟩
    have e6 := (k15.trans k6) b u nb eb
    have nbl : b ≠ l := ne_of_none e6 hl0
    refine k7 b u ?_ (by rw [upd_ne nbl]; exact e6)
    intro z
    rcases List.mem_cons.mp z with z | z
    · exact nb (by rw [z]; exact List.mem_cons_self)
    · exact nbl (List.mem_singleton.mp z)
end
end K24

set_option Elab.async false
set_option linter.all false
set_option maxRecDepth 100000
set_option maxHeartbeats 4000000
/-! K17: each short is written as put together. -/
namespace K24
open PySem PySem.Spec PyProof.Rows L2 TL SX

section
variable {P : Program} {w : World} {K : PySem.W.Frag} {mg : Str → Option Value} {base : Heap} {cA cO cS cP : Addr}

def spWrit (cA cO : Addr) (d : Nat) : Sp := fun vs H Q _ => ∃ t v u, vs = [v, u] ∧ OS cA cO H t v ∧ TS H t u ∧ Fit d t ∧ ∀ H1, Same H H1 → Q (.bl true) H1
theorem str_same {x : Str} : (!decide (V.str x = V.str x)) = false := by
  rw [decide_eq_true rfl]
  rfl
theorem sc60 : FnScope ["_law_one", "_law_short_here", "_law_part", "_law_inner"] ["_law_one", "_law_short_here"] (defScope (topS 60)) := ⟨rfl, rfl, rfl, by decide +kernel, rfl, by decide +kernel, by decide +kernel⟩
theorem f_lWrit (T : Top K mg cA cO cS cP) (d k : Nat) (hd8 : d ≤ 8) (hk : 36 ≤ k) (c : Fn P w K mg base k "_law_written" (spWrit cA cO d)) : Fn P w K mg base (k + 1) "_law_written" (spWrit cA cO (d + 1)) := by
  refine fn_by T.dWritten sc60 (fun vs H Q E h => ?_) (fun f cdv A outer s H vs Q E hr h => ?_)
  · obtain ⟨t, v, u, rfl, _⟩ := h
    rfl
  obtain ⟨t, v, u, rfl, ho, ht, hf, q⟩ := h
  have nd := sc60.nd
  have cs : Dis cA cO P w K mg base 35 "__str__" 9 (RV fun t => .str (S (word t))) := D_str T 9
  have f9 : Fit 9 t := ⟨Nat.lt_of_lt_of_le hf.1 (by omega), hf.2⟩
  refine ⟨_, pss_cons (ps_if (pt_cmpR op_ne (pe_callTy (call_strSh cs hr (by omega)) rfl T.bStr boot_str (pa_cons (pv 0) pa_nil)) (pe_fn (L_word T 9) hr (by omega) rfl (pa_cons (pv 1) pa_nil)) (nomark _)) (pss_one (ps_ret pe_bl)) pss_nil)
    (pss_cons (ps_if (pt_cmpR op_eq (pe_ix ix_tup (pv 1) pe_int (fun _ _ => rfl)) pe_str (nomark _)) (pss_one (ps_ret pe_bl)) pss_nil)
    (pss_one (ps_ret (pe_callB (cr_all rfl) rfl T.bAll boot_all (pa_cons
      (pe_lc (own := [("_law_part", 2), ("_law_inner", 3)]) (g := gTup K 2 (gCons (gName 2) (gCons (gName 3) gNil))) (tt := tYes) rfl nd
        (pi_zipM rfl T.bZip (pa_cons (pe_mt0 (o_parts T 9) T.clO hr (by omega) (pv 0)) (pa_cons (pe_ix ix_tup (pv 1) pe_int (fun _ _ => rfl)) pa_nil)))
        (blkOk_by (N := ["_law_one", "_law_short_here", "_law_part", "_law_inner"]) (sc := defScope (topS 60)) (by decide +kernel))
        (fun _ _ _ _ _ => pg_tup rfl (pgs_cons (pg_name (i := 2) nd rfl (Or.inl rfl)) (pgs_cons (pg_name (i := 3) nd rfl (Or.inl rfl)) pgs_nil))) (fun _ _ _ _ _ => pts_nil)
        (fun _ _ _ _ _ => pe_fn c hr (Nat.le_refl _) rfl (pa_cons (pv 2) (pa_cons (pv 3) pa_nil)))) pa_nil))))), ?_⟩
  refine ⟨_, rfl, t, v, rfl, ho, f9, fun H1 g1 => ?_⟩
  refine ⟨_, rfl, t, u, rfl, ht.mono (same_imm g1), f9, fun H2 g2 => ?_⟩
  have g12 := g1.trans g2
  refine ⟨rfl, _, rfl, ?_⟩
  show if (!decide (V.str (S (word t)) = V.str (S (word t)))) = true then _ else _
  rw [str_same]
  refine iteF ?_
  cases t with
  | pt m =>
    rw [TS] at ht
    obtain ⟨a, rfl, ea⟩ := ht
    refine ⟨_, rfl, a, _, 0, _, rfl, rfl, SqT.of (g12 _ _ ea), atI_nat (j := 0) rfl, rfl, _, rfl, ?_⟩
    show if decide (V.str ("at" : Str) = V.str ("at" : Str)) = true then _ else _
    rw [is_at1]
    exact iteT (q H2 g12)
  | ov ps n st =>
    rw [TS] at ht
    rw [OS] at ho
    obtain ⟨a, b, ws, rfl, ea, eb, hs⟩ := ht
    obtain ⟨oa, dx, ok, os, rfl, eo, eok, hos⟩ := ho
    refine ⟨_, rfl, a, _, 0, _, rfl, rfl, SqT.of (g12 _ _ ea), atI_nat (j := 0) rfl, rfl, _, rfl, ?_⟩
    show if decide (V.str ("over" : Str) = V.str ("at" : Str)) = true then _ else _
    rw [is_at2]
    refine iteF ?_
    have fr := hf.row
    have hl1 := hos.len
    have hl2 := hs.len
    have hos2 := hos.mono (same_imm g12)
    refine ⟨_, rfl, oa, dx, _, rfl, g12 _ _ eo, (look3 (by decide +kernel) (by decide +kernel) (by decide +kernel)), ps, n, st, oa, dx, ok, os, rfl, g12 _ _ eo, g12 _ _ eok, hos2, fun pl hpl => ?_⟩
    have g3 : Same H2 (upd H2 pl (.lst os)) := same_upd hpl _
    have g13 := g12.trans g3
    have ep : upd H2 pl (.lst os) pl = some (.lst os) := upd_same
    generalize upd H2 pl (.lst os) = H3 at g3 g13 ep
    refine ⟨_, rfl, a, _, 1, _, rfl, rfl, SqT.of (g13 _ _ ea), atI_nat (j := 1) rfl, pl, b, os, ws, rfl, SqL.of ep, SqT.of (g13 _ _ eb), fun D hD => ?_⟩
    refine lc_out (walk_mixed (xs := os) (ys := ws) (by omega)) ((List.replicate os.length true).map V.bl) (by rw [List.length_map, List.length_replicate]) (by have := fr.len; rw [sizeLine_eq]; omega) hD (fun H4 g4 => ⟨SqL.of (g4 _ _ ep), SqT.of (g4 _ _ (g13 _ _ eb))⟩) ?_ ?_
    · intro i x H4 H5 Nx hi g y nx
      obtain ⟨Tp, x1, x2, rfl, hT, rfl, hu, hv⟩ := y
      obtain ⟨p1, hp1, op⟩ := hos.at_ hu
      obtain ⟨p2, hp2, tp⟩ := hs.at_ hv
      rw [hp1] at hp2
      cases hp2
      have gT : Same H (upd H4 Tp (.tup [x1, x2])) := same_up (g13.trans g) hT _
      refine ⟨Tp, [x1, x2], rfl, SqT.of upd_same, rfl, _, _, rfl, _, _, rfl, rfl, rfl, ?_⟩
      refine ⟨_, rfl, _, rfl, p1, x1, x2, rfl, op.mono (same_imm gT), tp.mono (same_imm gT), fr.mem (getR hp1), fun H6 g6 => ?_⟩
      exact nx _ _ (trues_get hi) ((same_upd hT _).trans g6)
    · intro H4 g4 e4
      refine ⟨D, _, rfl, SqL.of e4, ?_⟩
      rw [trues]
      exact q _ (g13.trans g4)
theorem L_writ (T : Top K mg cA cO cS cP) : ∀ d : Nat, d ≤ 9 → Fn P w K mg base (36 + d) "_law_written" (spWrit cA cO d)
  | 0, _ => fn_none T.dWritten fun vs H Q E h => by
    obtain ⟨t, v, u, _, _, _, hf, _⟩ := h
    exact fit0 hf
  | d + 1, h => f_lWrit T d (36 + d) (by omega) (by omega) (L_writ T d (by omega))
end
end K24

set_option Elab.async false
set_option linter.all false
set_option maxRecDepth 100000
set_option maxHeartbeats 4000000
/-! K18: defs run where no repr is under way; the law's own defs. -/
namespace K24
open PySem PySem.Spec PyProof.Rows L2 TL SX

/-! ### the repr of the moments -/
theorem from_len : ∀ (ts : List Str) (k : Nat) (acc : Str) (b : Nat), (∀ t ∈ ts, t.length ≤ b) → (textFrom k acc ts).length ≤ acc.length + ts.length * (b + 2)
  | [], k, acc, b, _ => by
    show acc.length ≤ _
    omega
  | t :: r, k, acc, b, h => by
    have ih := from_len r (k + 1) (acc ++ (if k > 0 then ", " else "" : String) ++ t) b (fun x hx => h x (List.mem_cons_of_mem _ hx))
    have ht := h t List.mem_cons_self
    have hs : (Str.ofString (if k > 0 then ", " else "" : String)).length ≤ 2 := by
      split
      · have e : (Str.ofString ", ").length = 2 := by decide +kernel
        omega
      · have e : (Str.ofString "").length = 0 := by decide +kernel
        omega
    show (textFrom (k + 1) (acc ++ (if k > 0 then ", " else "" : String) ++ t) r).length ≤ _
    rw [strLen_append, strLen_append] at ih
    rw [List.length_cons, Nat.add_mul]
    omega
theorem all_ints : ∀ ns : List Int, PyData.shownAll (ns.map PyData.int) = ns.map fun i => (Str.ofString (toString i) : Str)
  | [] => by simp [PyData.shownAll]
  | n :: r => by
    rw [List.map_cons, PyData.shownAll, all_ints r, List.map_cons, PyData.shown]
theorem ints_showable : ∀ ns : List Int, (∀ x ∈ ns, 0 ≤ x ∧ x < BIG) → PyData.showableAll (ns.map PyData.int) = true
  | [], _ => by simp [PyData.showableAll]
  | n :: r, h => by
    have a := h n List.mem_cons_self
    rw [List.map_cons, PyData.showableAll, PyData.showable, ints_showable r (fun x hx => h x (List.mem_cons_of_mem _ hx)), decide_eq_true (log_ok a.1 a.2)]
    rfl
theorem shown_len {ns : List Int} (h : ∀ x ∈ ns, 0 ≤ x ∧ x < BIG) (hl : ns.length ≤ 1440) : (shownInts ns).length ≤ sizeLine := by
  unfold shownInts
  rw [PyData.shown, all_ints]
  unfold listText
  rw [strLen_append]
  have e1 : (Str.ofString "[").length = 1 := by decide +kernel
  have e2 : (Str.ofString "]").length = 1 := by decide +kernel
  have k := from_len (ns.map fun i => (Str.ofString (toString i) : Str)) 0 "[" 90 (fun t ht => by
    obtain ⟨i, hi, e⟩ := List.mem_map.mp ht
    have a := h i hi
    rw [← e, str_num a.1, S_len]
    exact num_len a.2)
  rw [List.length_map] at k
  rw [sizeLine_eq]
  omega

/-! ### a def that is run while no repr is under way -/
section
variable (P : Program) (w : World) (K : PySem.W.Frag) (mg : Str → Option Value) (base : Heap)
structure Calm (k : Nat) (f : Addr) (fd : FuncData) (ps : List Str) (sp : Sp) : Prop where
  len : ∀ vs H Q E, sp vs H Q E → vs.length = ps.length
  run : ∀ (A : Around) (outer : List Env) (s : Shared) (H : Hp) (args : Args) (us : List Value) (vs : List V) (Q : VK) (E : XK), A.guards = some [] → Room k A → Env0 P w K mg base A outer s H → BindsTo s fd args (ps.zip us) → Vals vs us → sp vs H Q E →
    codeAny (model P w) A (.call (.ref f) args) (CR CX0 outer P w H s Q E) s
def FnC (k : Nat) (x : Str) (sp : Sp) : Prop := ∃ (f : Addr) (fd : FuncData) (ps : List Str), Calm P w K mg base k f fd ps sp ∧ mg x = some (.ref f) ∧ PySem.W.keepIn K (.ref f) = true ∧ Binds K fd ps []
end
section
variable {P : Program} {w : World} {K : PySem.W.Frag} {mg : Str → Option Value} {base : Heap} {k : Nat} {x : Str} {sp : Sp}
/-- the walk of such a def, from its body -/
theorem calm_of {qual : Str} {st : Stmt} {f : Addr} {fd : FuncData} {N ps : List Str} (B : BodyAt K x qual st f fd) (S : FnScope N ps (defScope st)) (len : ∀ vs H Q E, sp vs H Q E → vs.length = ps.length)
    (walk : ∀ (cdv : Value) (A : Around) (outer : List Env) (s : Shared) (H : Hp) (vs : List V) (Q : VK) (E : XK), A.guards = some [] → Room k (A.deeper (envOfC qual (defScope st) s.heap.objs.size f cdv)) → sp vs H Q E →
      ∃ t, PSs (cxOf CX0 P w K mg base N qual (defScope st) f cdv A outer s H E).nox (defBody st) t ∧ t { nx := fun _ H1 => Q .non H1, rt := Q } (start N vs) H) : Calm P w K mg base (k + 1) f fd ps sp := by
  obtain ⟨oc, od, dV, kV, doc, pm, an, cdv, ct, osl, rfl, lk, hcd⟩ := B
  refine ⟨len, fun A outer s H args us vs Q E hg hr e0 hb r hsp => ?_⟩
  have hin : K.In s.heap := e0.mod.kin.keeps fun b o e => (e0.bs b o e).1
  have slots : ∀ y ∈ ps.zip us, (defScope st).names.lookup y.1 = some .local ∨ ((defScope st).names.lookup y.1 = some .cell ∧ ((cellsFrom (s.heap.objs.size + 1) (defScope st).names []).lookup y.1).isSome = true) := fun y hy => by
    obtain ⟨n, v⟩ := y
    refine (S.par n (List.of_mem_zip hy).1).imp id fun q => ⟨q, PySem.W.cellsFrom_some _ _ _ (.inl q)⟩
  refine codeAny_call_function hr.depth (hin _ _ lk) rfl S.co S.gen rfl (PySem.W.codeRec_of hin hcd) (hb _ _ _ _ (wpAny_newFunctionEnv_cells S.kind slots fun env he s1 entered => ?_))
  subst he
  refine ⟨(e0.mod.nolimit.keeps fun b o e => (e0.bs b o e).1).keeps entered.toInCall.keep, codeAny_func ?_⟩
  obtain ⟨t, ht, hq⟩ := walk cdv A outer s H vs Q E hg (hr.deeper _) hsp
  have I := inv_start (CX := CX0) (E := E) S hr.hd e0 (len _ _ _ _ hsp) r entered
  refine wpAny_mono (ht.nox.run [] s1 (start N vs) H _ I hq) (fun fl s2 hs => ?_) fun e s2 hs => hs
  cases fl with
  | ret u =>
    obtain ⟨v, σ2, H2, J, rv, q⟩ := hs
    exact ⟨v, H2, J.os, J.bare, J.base, J.hok, rv, q⟩
  | next =>
    obtain ⟨σ2, H2, J, q⟩ := hs
    exact ⟨V.non, H2, J.os, J.bare, J.base, J.hok, rfl, q⟩
  | brk =>
    obtain ⟨_, _, _, q⟩ := hs
    exact q.elim
  | cont =>
    obtain ⟨_, _, _, q⟩ := hs
    exact q.elim
theorem fnc_by {st : Stmt} {N ps : List Str} (D : DefAt K mg x st ps) (S : FnScope N ps (defScope st)) (len : ∀ vs H Q E, sp vs H Q E → vs.length = ps.length)
    (walk : ∀ (f : Addr) (cdv : Value) (A : Around) (outer : List Env) (s : Shared) (H : Hp) (vs : List V) (Q : VK) (E : XK), A.guards = some [] → Room k (A.deeper (envOfC x (defScope st) s.heap.objs.size f cdv)) → sp vs H Q E →
      ∃ t, PSs (cxOf CX0 P w K mg base N x (defScope st) f cdv A outer s H E).nox (defBody st) t ∧ t { nx := fun _ H1 => Q .non H1, rt := Q } (start N vs) H) : FnC P w K mg base (k + 1) x sp := by
  obtain ⟨f, fd, F, hm, kp, b⟩ := D
  exact ⟨f, fd, ps, calm_of F S len (walk f), hm, kp, b⟩
end
section
variable {X : Cx} {j k : Nat} {x : Str} {sp : Sp} {p pos : Pos} {e : Expr} {es : List Expr} {t : TA}
theorem pe_fnc (c : FnC X.prog X.w X.K X.mg X.base k x sp) (hG : X.A.guards = some []) (hr : Room j X.A) (hk : k ≤ j) (hg : Gl X x) (ha : PA X (e :: es) t)
    (hdb : (x == ("__debug__" : Str)) = false := by decide) (he : starEach (e :: es) X.env = (false, eval e X.env) :: starEach es X.env := by rfl) (hpl : (backTo pos (starEach es X.env)).any (·.1) = false := by rfl) :
    PE X (.Call (.Name x p) (e :: es) [] pos) (tCall sp [] E0 t) := by
  obtain ⟨f, fd, ps, F, hm, kp, b⟩ := c
  constructor
  intro pins s σ H Q I h
  refine wpAny_Call_Name_kw (ld_glob I hg hm ?_ hdb)
  refine PySem.W.callWith_K (h₀ := X.base) I.ok.mod.kin kp (thn (ha.run pos pins s σ H _ I h) fun us s1 ⟨vs, H1, I1, r, q⟩ => ⟨I1.kIn, ?_⟩) he hpl
  have q : sp (vs ++ []) H1 Q E0 := q
  rw [List.append_nil] at q
  have hl : (us ++ []).length = ps.length := by
    rw [List.append_nil, ← r.length]
    exact F.len _ _ _ _ q
  have bt := b s1 us I1.kIn hl
  rw [List.append_nil] at bt
  refine wpAny_call (codeAny_mono (F.run X.A X.stack s1 H1 ⟨us, []⟩ us vs Q E0 hG (hr.mono hk) I1.env0 bt r q) fun r2 s2 hq => ?_)
  cases r2 with
  | error e => exact False.elim hq
  | ok fl =>
    cases fl with
    | ret u => exact I1.after hq
    | next => exact False.elim hq
    | brk => exact False.elim hq
    | cont => exact False.elim hq
end

/-! ### _law_is -/
section
variable {P : Program} {w : World} {K : PySem.W.Frag} {mg : Str → Option Value} {base : Heap} {cA cO cS cP : Addr}
def spIs (cA cO cP : Addr) : Sp := fun vs H Q _ => ∃ (a k : Addr) (ps : List Sh) (xs : List V), vs = [.ref a, .ref k, .str (S (rowTxt ps))] ∧ SP cA cO cP H ps a ∧ H k = some (.tup xs) ∧ TSs H ps xs ∧ OkR ps ∧ ∀ H1, Same H H1 → Q (.bl true) H1
theorem sc61 : FnScope ["_law_spread_here", "_law_row_here", "_law_text_here", "_law_parts", "_law_one", "_law_short_here"] ["_law_spread_here", "_law_row_here", "_law_text_here"] (defScope (topS 61)) := ⟨rfl, rfl, rfl, by decide +kernel, rfl, by decide +kernel, by decide +kernel⟩
theorem f_lIs (T : Top K mg cA cO cS cP) : FnC P w K mg base 46 "_law_is" (spIs cA cO cP) := by
  refine fnc_by T.dIs sc61 (fun vs H Q E h => ?_) (fun f cdv A outer s H vs Q E hG hr h => ?_)
  · obtain ⟨a, k, ps, xs, rfl, _⟩ := h
    rfl
  obtain ⟨a, k, ps, xs, rfl, hsp, hk, hts, ok, q⟩ := h
  have nd := sc61.nd
  refine ⟨_, pss_cons (ps_if (PW.pt (pw_or (pt_not (pt_val (pe_callB call_isi rfl T.bIsi boot_isinstance (pa_cons (pv 0) (pa_cons (pe_glob (v := .ref cP) rfl T.gP rfl) pa_nil)))))
        (pw_or1 (pt_cmpR op_ne (pe_callTy (call_strP T hr (by decide)) rfl T.bStr boot_str (pa_cons (pv 0) pa_nil)) (pv 2) (nomark _))))) (pss_one (ps_ret pe_bl)) pss_nil)
    (pss_cons (ps_if (pt_cmpR op_ne (pe_callB (call_reprP T hr (by decide)) rfl T.bRepr boot_repr (pa_cons (pv 0) pa_nil)) (pe_op op_add_str (pe_op op_add_str pe_str (pe_callB call_reprStr rfl T.bRepr boot_repr (pa_cons (pv 2) pa_nil))) pe_str) (nomark _)) (pss_one (ps_ret pe_bl)) pss_nil)
    (pss_cons (ps_if (PW.pt (pw_or (pt_cmpR op_ne (pe_callB (call_reprInts hr hG) rfl T.bRepr boot_repr (pa_cons (pe_mt0 (p_moms T) T.clP hr (by decide) (pv 0)) pa_nil)) (pe_callB (call_reprInts hr hG) rfl T.bRepr boot_repr (pa_cons (pe_fn (L_rowMoms T 9) hr (by decide) rfl (pa_cons (pv 1) pa_nil)) pa_nil)) (nomark _))
        (pw_or1 (pt_cmpR op_ne (pe_mt0 (p_pcs T) T.clP hr (by decide) (pv 0)) (pe_fn (L_pcs T 9) hr (by decide) rfl (pa_cons (pv 1) pa_nil)) (nomark _))))) (pss_one (ps_ret pe_bl)) pss_nil)
    (pss_cons (ps_set (i := 3) nd rfl (.inl rfl) (pe_mt0 (p_parts T) T.clP hr (by decide) (pv 0)))
    (pss_cons (ps_if (pt_cmpR op_ne (pe_callB call_len_seq rfl T.bLen PySem.boot_len (pa_cons (pv 3) pa_nil)) (pe_callB call_len_seq rfl T.bLen PySem.boot_len (pa_cons (pv 1) pa_nil)) (nomark _)) (pss_one (ps_ret pe_bl)) pss_nil)
    (pss_one (ps_ret (pe_callB (cr_all rfl) rfl T.bAll boot_all (pa_cons
      (pe_lc (own := [("_law_one", 4), ("_law_short_here", 5)]) (g := gTup K 2 (gCons (gName 4) (gCons (gName 5) gNil))) (tt := tYes) rfl nd
        (pi_zipM rfl T.bZip (pa_cons (pv 3) (pa_cons (pv 1) pa_nil)))
        (blkOk_by (N := ["_law_spread_here", "_law_row_here", "_law_text_here", "_law_parts", "_law_one", "_law_short_here"]) (sc := defScope (topS 61)) (by decide +kernel))
        (fun _ _ _ _ _ => pg_tup rfl (pgs_cons (pg_name (i := 4) nd rfl (Or.inl rfl)) (pgs_cons (pg_name (i := 5) nd rfl (Or.inl rfl)) pgs_nil))) (fun _ _ _ _ _ => pts_nil)
        (fun _ _ _ _ _ => pe_fn (L_writ T 9 (Nat.le_refl _)) hr (Nat.le_refl _) rfl (pa_cons (pv 4) (pa_cons (pv 5) pa_nil)))) pa_nil)))))))), ?_⟩
  have hsp2 := hsp
  obtain ⟨dx, kk, ll, os, ea, ekk, hos, ell⟩ := hsp2
  refine ⟨_, rfl, _, _, _, _, true, rfl, .own cP, .base (.ins ea T.clP T.icP.ha T.icg T.ict T.icP.hm), T.kPP, true, rfl, iteF ?_⟩
  refine ⟨_, rfl, a, ps, rfl, hsp, ok, fun H1 g1 => ⟨_, rfl, rfl, _, rfl, ?_⟩⟩
  show if (!decide (V.str (S (rowTxt ps)) = V.str (S (rowTxt ps)))) = true then _ else _
  rw [str_same]
  refine iteF ?_
  have l1 := repr_len ok.good
  have l2 := ok.pcs
  have s1 : ("Spread(" : Str).length = 7 := by decide +kernel
  have s2 : (")" : Str).length = 1 := by decide +kernel
  refine ⟨_, rfl, a, ps, rfl, hsp.mono g1, ok, fun H2 g2 => ?_⟩
  refine ⟨_, rfl, _, rfl, ?_, _, _, rfl, rfl, ?_, _, _, rfl, rfl, ?_, rfl, _, rfl, ?_⟩
  · rw [sizeLine_eq]
    omega
  · rw [s1, sizeLine_eq]
    omega
  · rw [strLen_append, s1, s2, sizeLine_eq]
    omega
  show if (!decide (V.str (reprSp ps) = V.str (reprSp ps))) = true then _ else _
  rw [str_same]
  refine iteF ?_
  have g12 := g1.trans g2
  have hin := momsR_in ok.good ok.ris
  have hlen : (momsR ps).length ≤ 1440 := by
    have := momsR_cnt ok.good
    have := ok.cnt
    omega
  have hshow : (PyData.list ((momsR ps).map PyData.int)).showable = true := by
    rw [PyData.showable]
    exact ints_showable _ hin
  have hsz := shown_len hin hlen
  refine ⟨_, rfl, a, dx, _, rfl, g12 _ _ ea, (lookP (by decide +kernel) (by decide +kernel)), a, dx, kk, ll, _, rfl, g12 _ _ ea, g12 _ _ ell, fun p3 hp3 => ?_⟩
  have g3 : Same H2 (upd H2 p3 (.lst ((momsR ps).map V.int))) := same_upd hp3 _
  refine ⟨p3, momsR ps, rfl, SqL.of upd_same, hshow, hsz, ?_⟩
  have g13 := g12.trans g3
  generalize upd H2 p3 (.lst ((momsR ps).map V.int)) = H3 at g3 g13
  refine ⟨_, rfl, ps, xs, k, rfl, g13 _ _ hk, hts.mono (same_imm g13), ok.fit, fun l4 H4 g4 hl4 e4 => ?_⟩
  refine ⟨l4, momsR ps, rfl, SqL.of e4, hshow, hsz, rfl, _, rfl, ?_⟩
  show if (!decide (V.str (shownInts (momsR ps)) = V.str (shownInts (momsR ps)))) = true then _ else _
  rw [str_same]
  refine iteF ?_
  have g14 := g13.trans g4
  refine ⟨_, rfl, a, dx, _, rfl, g14 _ _ ea, (lookP (by decide +kernel) (by decide +kernel)), a, ps, rfl, hsp.mono g14, ok, fun H5 g5 => ?_⟩
  have g15 := g14.trans g5
  refine ⟨_, rfl, ps, xs, k, rfl, g15 _ _ hk, hts.mono (same_imm g15), ok.fit, fun H6 g6 => ⟨rfl, _, rfl, ?_⟩⟩
  have z6 : (!decide (V.int ((pcsR ps : Nat) : Int) = V.int ((pcsR ps : Nat) : Int))) = false := by
    rw [decide_eq_true rfl]
    rfl
  show if (!decide (V.int ((pcsR ps : Nat) : Int) = V.int ((pcsR ps : Nat) : Int))) = true then _ else _
  rw [z6]
  refine iteF ?_
  have g16 := g15.trans g6
  refine ⟨_, rfl, a, dx, _, rfl, g16 _ _ ea, (lookP (by decide +kernel) (by decide +kernel)), a, dx, kk, ll, _, rfl, g16 _ _ ea, g16 _ _ ekk, fun p7 hp7 => ?_⟩
  have e7 : upd H6 p7 (.lst os) p7 = some (.lst os) := upd_same
  have g17 := same_up g16 hp7 (.lst os)
  generalize upd H6 p7 (.lst os) = H7 at e7 g17
  have hl1 := hos.len
  have hl2 := hts.len
  refine ⟨_, rfl, p7, _, rfl, .inl (SqL.of e7), _, rfl, k, _, rfl, .inr (SqT.of (g17 _ _ hk)), rfl, _, rfl, ?_⟩
  have z7 : (!decide (V.int ((os.length : Nat) : Int) = V.int ((xs.length : Nat) : Int))) = false := by
    rw [hl1, hl2, decide_eq_true rfl]
    rfl
  show if (!decide (V.int ((os.length : Nat) : Int) = V.int ((xs.length : Nat) : Int))) = true then _ else _
  rw [z7]
  refine iteF ?_
  refine ⟨_, rfl, _, rfl, p7, k, os, xs, rfl, SqL.of e7, SqT.of (g17 _ _ hk), fun D hD => ?_⟩
  refine lc_out (walk_mixed (xs := os) (ys := xs) (by omega)) ((List.replicate os.length true).map V.bl) (by rw [List.length_map, List.length_replicate]) (by have := ok.fit.len; rw [sizeLine_eq]; omega) hD (fun H4 g4 => ⟨SqL.of (g4 _ _ e7), SqT.of (g4 _ _ (g17 _ _ hk))⟩) ?_ ?_
  · intro i x H4 H5 Nx hi g y nx
    obtain ⟨Tp, x1, x2, rfl, hT, rfl, hu, hv⟩ := y
    obtain ⟨p1, hp1, op⟩ := hos.at_ hu
    obtain ⟨p2, hp2, tp⟩ := hts.at_ hv
    rw [hp1] at hp2
    cases hp2
    have gT : Same H (upd H4 Tp (.tup [x1, x2])) := same_up (g17.trans g) hT _
    refine ⟨Tp, [x1, x2], rfl, SqT.of upd_same, rfl, _, _, rfl, _, _, rfl, rfl, rfl, ?_⟩
    refine ⟨_, rfl, _, rfl, p1, x1, x2, rfl, op.mono (same_imm gT), tp.mono (same_imm gT), ok.fit.mem (getR hp1), fun H6 g6 => ?_⟩
    exact nx _ _ (trues_get hi) ((same_upd hT _).trans g6)
  · intro H4 g4 e4
    refine ⟨D, _, rfl, SqL.of e4, ?_⟩
    rw [trues]
    exact q _ (g17.trans g4)

/-! ### _law_right, law -/
def spRight : Sp := fun vs H Q _ => ∃ p, vs = [.ref p] ∧ Pot H p ∧ ∀ H1, Keep [p] H H1 → Q (.bl true) H1
theorem sc62 : FnScope ["_law_pot_here", "_law_row_here", "_law_text_here", "_law_one", "_law_short_here"] ["_law_pot_here"] (defScope (topS 62)) := ⟨rfl, rfl, rfl, by decide +kernel, rfl, by decide +kernel, by decide +kernel⟩
theorem f_lRight (T : Top K mg cA cO cS cP) : FnC P w K mg base 50 "_law_right" spRight := by
  refine fnc_by T.dRight sc62 (fun vs H Q E h => ?_) (fun f cdv A outer s H vs Q E hG hr h => ?_)
  · obtain ⟨p, rfl, _⟩ := h
    rfl
  obtain ⟨p, rfl, hp, q⟩ := h
  have nd := sc62.nd
  refine ⟨_, pss_cons (ps_set (i := 1) nd rfl (.inl rfl) (pe_fn (f_lSpread T) hr (by decide) rfl (pa_cons (pv 0) pa_nil)))
    (pss_cons (ps_set (i := 2) nd rfl (.inl rfl) (pe_fn (L_text T 9) hr (by decide) rfl (pa_cons (pv 1) pa_nil)))
    (pss_cons (ps_set (i := 3) nd rfl (.inl rfl) (pe_ma (p_ini T) T.gP hr (by decide) rfl (pa_cons
      (pe_lc (own := [("_law_short_here", 4)]) (g := gName 4) (tt := tYes) rfl nd (pi_tup (pv 1)) (blkOk_by (N := ["_law_pot_here", "_law_row_here", "_law_text_here", "_law_one", "_law_short_here"]) (sc := defScope (topS 62)) (by decide +kernel)) (fun _ _ _ _ _ => pg_name (i := 4) nd rfl (Or.inl rfl)) (fun _ _ _ _ _ => pts_nil)
        (fun _ _ _ _ _ => pe_fn (L_made T 9 (Nat.le_refl _)) hr (Nat.le_refl _) rfl (pa_cons (pv 4) pa_nil))) pa_nil)))
    (pss_cons (ps_if (PW.pt (pw_or (pt_not (pt_val (pe_fnc (f_lIs T) hG hr (by decide) rfl (pa_cons (pv 3) (pa_cons (pv 1) (pa_cons (pv 2) pa_nil))))))
        (pw_or1 (pt_not (pt_val (pe_fnc (f_lIs T) hG hr (by decide) rfl (pa_cons (pe_fn (f_readSp T) hr (by decide) rfl (pa_cons (pv 2) pa_nil)) (pa_cons (pv 1) (pa_cons (pv 2) pa_nil))))))))) (pss_one (ps_ret pe_bl)) pss_nil)
    (pss_one (ps_ret (pe_fnc (f_lIs T) hG hr (by decide) rfl (pa_cons (pe_fn (f_readSp T) hr (by decide) rfl (pa_cons (pe_callTy (call_strP T hr (by decide)) rfl T.bStr boot_str (pa_cons (pv 3) pa_nil)) pa_nil)) (pa_cons (pv 1) (pa_cons (pv 2) pa_nil))))))))), ?_⟩
  refine ⟨_, rfl, p, rfl, hp, fun ps k xs H1 k1 hk hts ok => ?_⟩
  refine ⟨_, rfl, ps, xs, k, rfl, hk, hts, ok.fit, fun H2 g2 => ?_⟩
  have hk2 := g2 _ _ hk
  have hts2 := hts.mono (same_imm g2)
  have hl := hts.len
  refine ⟨_, rfl, k, rfl, ⟨xs, SqT.of hk2⟩, fun D hD => ?_⟩
  have wk := walk_tup (K := K) (a := k) (xs := xs)
  rw [hl] at wk
  refine lc_made (cA := cA) (cO := cO) (ps := ps) wk (by have := ok.fit.len; rw [sizeLine_eq]; omega) hD (fun H3 g => SqT.of (g _ _ hk2)) ?_ ?_
  · intro i x H3 H4 p1 Nx hp1 g y nx
    obtain ⟨rfl, hx⟩ := y
    obtain ⟨p2, hp2, op⟩ := hts2.at_ hx
    rw [hp1] at hp2
    cases hp2
    exact ⟨rfl, _, rfl, p1, _, rfl, op.mono (same_imm g), ok.fit.mem (getR hp1), fun z H4 g4 o4 => nx _ _ g4 o4⟩
  intro H3 os g3 e3 o3 x dx hx hdx ne
  refine ⟨H3, x, dx, D, ps, os, rfl, same_put (same_upd hdx _) hx _, hx, upd_same, e3, o3, ok, fun H4 g4 sp4 => ⟨rfl, ?_⟩⟩
  have g24 := g3.trans g4
  -- the first one
  refine ⟨_, rfl, _, rfl, _, rfl, x, k, ps, xs, rfl, sp4, g24 _ _ hk2, hts2.mono (same_imm g24), ok, fun H5 g5 => ⟨true, rfl, iteF ?_⟩⟩
  have g25 := g24.trans g5
  -- read
  refine ⟨_, rfl, ps, rfl, ok, fun a6 H6 g6 sp6 => ?_⟩
  have g26 := g25.trans g6
  refine ⟨_, rfl, _, rfl, a6, k, ps, xs, rfl, sp6, g26 _ _ hk2, hts2.mono (same_imm g26), ok, fun H7 g7 => ⟨true, rfl, iteF ?_⟩⟩
  have g27 := g26.trans g7
  have sp7 := sp4.mono (g5.trans (g6.trans g7))
  -- read again
  refine ⟨_, rfl, x, ps, rfl, sp7, ok, fun H8 g8 => ⟨ps, rfl, ok, fun a9 H9 g9 sp9 => ?_⟩⟩
  have g29 := g27.trans (g8.trans g9)
  refine ⟨_, rfl, _, rfl, a9, k, ps, xs, rfl, sp9, g29 _ _ hk2, hts2.mono (same_imm g29), ok, fun H10 g10 => ?_⟩
  exact q _ (k1.trans (Keep.of (g2.trans (g29.trans g10))))
theorem seqL_keep {H H2 : Hp} {c : Addr} {xs : List V} (h : SqL K H c xs) (g : ∀ u, H c = some u → H2 c = some u) : SqL K H2 c xs := by
  rcases h with (h | ⟨o, h⟩) | h
  · exact .inl (.inl (g _ h))
  · exact .inl (.inr ⟨o, g _ h⟩)
  · exact .inr h
def spLaw (K : PySem.W.Frag) : Sp := fun vs H Q _ => ∃ (c : Addr) (ns : List Int), vs = [.ref c] ∧ SqL K H c (ns.map V.int) ∧ ∀ H1, Q (.bl true) H1
theorem sc63 : FnScope ["_law_script", "_law_k"] ["_law_script"] (defScope (topS 63)) := ⟨rfl, rfl, rfl, by decide +kernel, rfl, by decide +kernel, by decide +kernel⟩
theorem f_law (T : Top K mg cA cO cS cP) : FnC P w K mg base 51 "law" (spLaw K) := by
  refine fnc_by T.dLaw sc63 (fun vs H Q E h => ?_) (fun f cdv A outer s H vs Q E hG hr h => ?_)
  · obtain ⟨c, ns, rfl, _⟩ := h
    rfl
  obtain ⟨c, ns, rfl, hc, q⟩ := h
  have nd := sc63.nd
  refine ⟨_, pss_cons (ps_for PassesOwn.never rfl (pi_range1 rfl T.bRange (pa_cons (pe_callB (call_max2 rfl) rfl T.bMax boot_max (pa_cons pe_int (pa_cons (pe_callB (call_min2 rfl) rfl T.bMin boot_min (pa_cons (pe_callB call_len_seq rfl T.bLen PySem.boot_len (pa_cons (pv 0) pa_nil)) (pa_cons pe_int pa_nil))) pa_nil))) pa_nil)) (pg_name (i := 1) nd rfl (.inl rfl))
      (pss_one (ps_if (pt_not (pt_val (pe_fnc (f_lRight T) hG hr (by decide) rfl (pa_cons (pe_fn (f_pot T) hr (by decide) rfl (pa_cons (pv 0) (pa_cons (pv 1) pa_nil))) pa_nil)))) (pss_one (ps_ret pe_bl)) pss_nil)))
    (pss_one (ps_ret pe_bl)), ?_⟩
  refine ⟨_, rfl, c, _, rfl, .inl hc, _, _, rfl, _, _, rfl, ?_⟩
  generalize hn : (if (if (4 : Int) < (((ns.map V.int).length : Nat) : Int) then (4 : Int) else (((ns.map V.int).length : Nat) : Int)) > 1 then (if (4 : Int) < (((ns.map V.int).length : Nat) : Int) then (4 : Int) else (((ns.map V.int).length : Nat) : Int)) else 1) = n
  have n0 : 0 ≤ n ∧ n ≤ 4 := by
    rw [← hn]
    split
    · split <;> omega
    · omega
  refine ⟨n, rfl, by omega, by omega, for_range (lo := 0) (n := n.toNat) (fun i σ H1 => ∃ v, σ = [some (.ref c), v] ∧ SqL K H1 c (ns.map V.int)) ⟨none, rfl, hc⟩ ?_ ?_⟩
  · rintro i σ H1 hi ⟨v, rfl, hc1⟩
    refine ⟨_, rfl, _, rfl, c, ns, i, (by show [V.ref c, .int (0 + (i : Int))] = _; rw [Int.zero_add]), hc1, fun p H2 g2 hp0 hp => ?_⟩
    refine ⟨p, rfl, hp, fun H3 k3 => ⟨true, rfl, iteF ⟨_, rfl, seqL_keep hc1 fun u e => ?_⟩⟩⟩
    refine k3 c u ?_ (g2 _ _ e)
    intro z
    rw [List.mem_singleton.mp z, hp0] at e
    cases e
  · rintro σ H1 ⟨v, rfl, _⟩
    exact q H1
end
end K24

set_option Elab.async false
set_option linter.all false
set_option maxRecDepth 100000
set_option maxHeartbeats 4000000
/-! K19: the law's call, from the law's promise where no repr is under way. -/
namespace K24
open PySem PySem.Spec PyProof.Rows L2 TL SX

/-- nothing is tracked but the script, and it only if it is none of the module's own -/
def atCall (K : PySem.W.Frag) (a : Addr) (vs : List Value) (ns : List Int) : Hp := fun b =>
  if b = a ∧ K.lookup a = none then some (.frz { cls := .type "list", data := .seq vs.toArray } (.lst (ns.map V.int))) else none
theorem atCall_some {K : PySem.W.Frag} {a b : Addr} {vs : List Value} {ns : List Int} {u : HO} (h : atCall K a vs ns b = some u) :
    b = a ∧ K.lookup a = none ∧ u = .frz { cls := .type "list", data := .seq vs.toArray } (.lst (ns.map V.int)) := by
  unfold atCall at h
  by_cases c : b = a ∧ K.lookup a = none
  · rw [if_pos c] at h
    cases h
    exact ⟨c.1, c.2, rfl⟩
  · rw [if_neg c] at h
    cases h
theorem call_calm {P : Program} {w : World} {K : PySem.W.Frag} {mg mb : Str → Option Value} {k : Nat} {fa a : Addr} {x : Str} {sp : Sp} {s : Shared} {vs : List Value} {ns : List Int}
    (KX : K.In s.heap) (hns : s.heap.Ns mainGlobals mg) (hb : s.heap.Ns builtinsNs mb) (hbb : ∀ y : Str, y ≠ "__name__" → mb y = bootBuiltins y) (hlim : s.heap.NoLimit) (hgen : s.gens = #[])
    (ha : s.heap.get? a = some { cls := .type "list", data := .seq vs.toArray }) (hi : IntsAre vs ns) (hl : ns.length ≤ sizeLine) (hr : Room k callerA)
    (hfa : mg x = some (.ref fa)) (F : ∀ base : Heap, K.In base → base.Ns mainGlobals mg → FnC P w K mg base k x sp)
    (hsp : ∀ H : Hp, SqL K H a (ns.map V.int) → sp [.ref a] H (fun v _ => v = .bl true) E0) :
    codeAny (model P w) callerA (.call (.ref fa) ⟨[.ref a], []⟩) (fun r s2 => r = .ok (.ret (.bool true)) ∧ OldK s.heap s2.heap ∧ s2.os = s.os ∧ AllBare s2.gens) s := by
  have rv : Vals (ns.map V.int) vs := vals_ints hi
  have hseq : SqL K (atCall K a vs ns) a (ns.map V.int) := by
    cases hk : K.lookup a with
    | none => exact .inl (.inr ⟨_, if_pos ⟨rfl, hk⟩⟩)
    | some o =>
      have e := KX a o hk
      rw [ha] at e
      cases e
      exact .inr ⟨_, vs.toArray, _, hk, rfl, rfl, rfl, by rw [List.size_toArray, hi.length]; exact hl, by simpa using rv⟩
  have hok : HOk P w (atCall K a vs ns) s.heap := fun b u h => by
    obtain ⟨rfl, _, rfl⟩ := atCall_some h
    exact ⟨ha, by rw [List.length_map]; exact hl, vs, _, rv, ha⟩
  -- what is not the script is seen as it stands
  have seen : ∀ {b : Addr} {o : Obj}, s.heap.get? b = some o → ¬ (b = a ∧ K.lookup a = none) → (hidT s.heap (atCall K a vs ns)).get? b = some o := fun e n => hidT_get e (if_neg n)
  have ns_seen : ∀ {b : Addr} {m : Str → Option Value}, s.heap.Ns b m → (hidT s.heap (atCall K a vs ns)).Ns b m := fun {b m} n => by
    obtain ⟨o, es, ep, e, d, r⟩ := n
    refine ⟨o, es, ep, seen e (fun z => ?_), d, r⟩
    rw [z.1, ha] at e
    cases e
    cases (show Data.seq vs.toArray _ = Data.dict es ep from d)
  have kin : K.In (hidT s.heap (atCall K a vs ns)) := fun b o e => seen (KX b o e) fun z => by
    rw [z.1, z.2] at e
    cases e
  have hmod : Mod K mg (hidT s.heap (atCall K a vs ns)) := by
    obtain ⟨mc, h1, h2⟩ := hlim
    exact ⟨kin, ns_seen hns, ⟨mb, ns_seen hb, hbb⟩, mc, ns_seen h1, h2⟩
  have e0 : Env0 P w K mg (hidT s.heap (atCall K a vs ns)) callerA [] s (atCall K a vs ns) :=
    ⟨rfl, hmod, fun b o e => of_hidT e, Nat.le_of_eq (hidT_size _ _), trivial, fun b z => absurd (show b ∈ ([] : List Addr) from z) (by simp), hok, .of_eq hgen⟩
  obtain ⟨f, fd, ps, C, hm, _, hbind⟩ := F _ kin (ns_seen hns)
  obtain rfl : fa = f := by
    rw [hfa] at hm
    injection hm with hm
    injection hm
  have hsp2 := hsp _ hseq
  have hlen : ([Value.ref a] ++ []).length = ps.length := C.len _ _ _ _ hsp2
  have hbt := hbind s [.ref a] KX hlen
  rw [List.append_nil] at hbt
  refine codeAny_mono (C.run callerA [] s _ ⟨[.ref a], []⟩ [.ref a] [.ref a] _ _ rfl hr e0 hbt (.cons rfl .nil) hsp2) fun r s2 h => ?_
  cases r with
  | error e => exact False.elim h
  | ok fl =>
    cases fl with
    | next => exact False.elim h
    | brk => exact False.elim h
    | cont => exact False.elim h
    | ret u =>
      obtain ⟨v, H2, os, bare, un, hok2, r2, q⟩ := h
      have q : v = .bl true := q
      subst q
      obtain rfl : u = Value.bool true := r2
      refine ⟨rfl, OldK.of_keep fun b o e => ?_, os, bare⟩
      by_cases c : b = a ∧ K.lookup a = none
      · have z := hok2 b _ (un.frzs b _ _ (if_pos c : atCall K a vs ns b = _))
        rw [c.1, ha] at e
        cases e
        exact z.1
      · exact un.keep b o e (if_neg c) (by intro z; exact absurd (show b ∈ ([] : List Addr) from z) (by simp)) (by simp)
open PySem.W in
theorem walk_calm {l : PySem.W.OpenLaw} {q : Program} {loose : List Str} {XP : (Str → Option Value) → Heap → Prop} {YP : World → Heap → Prop} {d : DefRec} {K : Params → PySem.W.Frag} (hn : l.most = some 63) (hdf : d.params.defaults = []) (hname : d.name = "law")
    (hY : ∀ (w : World) (h : Heap), YP w h → (K w.params).In h)
    (F : ∀ (w : World) (mg : Str → Option Value) (h : Heap), (K w.params).In h → h.Ns mainGlobals mg → ∃ cA cO cS cP, Top (K w.params) mg cA cO cS cP) :
    PySem.W.WalkO q loose XP YP l.row.toRowW d [] (fun f vs => PySem.call f vs) := by
  refine Att.attach_call hn hdf fun w s0 s1 mg mb fa o pm cd doc a vs ns G Y ho hd hcd hmg hobj hints hlen hgen => ?_
  have KX := hY w _ Y
  obtain ⟨cA, cO, cS, cP, T⟩ := F w mg _ KX G.T.g
  rw [hname] at hmg
  exact call_calm KX G.T.g G.T.b G.T.builtins G.T.nolimit hgen hobj hints (Nat.le_trans hlen (by decide)) ⟨rfl, by decide, by decide⟩ hmg (fun base _ _ => f_law T) fun H hS => ⟨a, ns, rfl, hS, fun _ => rfl⟩
end K24

set_option Elab.async false
set_option linter.all false
set_option maxRecDepth 100000
set_option maxHeartbeats 4000000
/-! K20: how each def binds its arguments; from the facts of the written part to the fields of Top. -/
namespace K24
open PySem PySem.Spec PyProof.Rows L2 TL SX
def BindOk (x qual : Str) (st : Stmt) (ps : List Str) : Prop := ∀ (kV doc pm : Value) (an : Option Addr) (cdv ct : Value) (us : List Value), us.length = ps.length →
  bindArgs (PySem.W.fnOf x qual (defArgs st) (defBody st) (defScope st) .none kV doc pm an cdv ct) ⟨us, []⟩ = pure (ps.zip us)
def BindOkD (x qual : Str) (st : Stmt) (ps : List Str) (n : Nat) : Prop := ∀ (T : Addr) (kV doc pm : Value) (an : Option Addr) (cdv ct : Value) (us its : List Value), us.length = ps.length → its.length = n →
  ∃ k, bindArgs (PySem.W.fnOf x qual (defArgs st) (defBody st) (defScope st) (.ref T) kV doc pm an cdv ct) ⟨us, []⟩ = seqItems? (.ref T) >>= k ∧ k (some its.toArray) = pure (ps.zip us)
theorem b_dWhole : BindOk "is_whole" "is_whole" (topS 11) ["thing"] := fun _ _ _ _ _ _ us hl => match us, hl with | [_], _ => rfl
theorem b_dMoment : BindOk "is_moment" "is_moment" (topS 12) ["thing"] := fun _ _ _ _ _ _ us hl => match us, hl with | [_], _ => rfl
theorem b_dWant : BindOk "want_moment" "want_moment" (topS 13) ["thing"] := fun _ _ _ _ _ _ us hl => match us, hl with | [_], _ => rfl
theorem b_dBelow : BindOk "want_below" "want_below" (topS 14) ["thing", "many"] := fun _ _ _ _ _ _ us hl => match us, hl with | [_, _], _ => rfl
theorem b_dMomentAt : BindOkD "moment_at" "moment_at" (topS 15) ["day", "hour", "minute"] 3 := fun _ _ _ _ _ _ _ us its hl hi => match us, hl, its, hi with | [_, _, _], _, [_, _, _], _ => ⟨_, rfl, rfl⟩
theorem b_dClock : BindOk "clock_of" "clock_of" (topS 16) ["moment"] := fun _ _ _ _ _ _ us hl => match us, hl with | [_], _ => rfl
theorem b_dShow : BindOk "show_moment" "show_moment" (topS 17) ["moment"] := fun _ _ _ _ _ _ us hl => match us, hl with | [_], _ => rfl
theorem b_dFigs : BindOk "are_figures" "are_figures" (topS 18) ["word"] := fun _ _ _ _ _ _ us hl => match us, hl with | [_], _ => rfl
theorem b_dNumber : BindOk "number_of" "number_of" (topS 19) ["word"] := fun _ _ _ _ _ _ us hl => match us, hl with | [_], _ => rfl
theorem b_dDay : BindOk "day_of" "day_of" (topS 20) ["word"] := fun _ _ _ _ _ _ us hl => match us, hl with | [_], _ => rfl
theorem b_dRead : BindOk "read_moment" "read_moment" (topS 21) ["text"] := fun _ _ _ _ _ _ us hl => match us, hl with | [_], _ => rfl
theorem b_dIsNum : BindOk "is_number" "is_number" (topS 26) ["thing", "least"] := fun _ _ _ _ _ _ us hl => match us, hl with | [_, _], _ => rfl
theorem b_dRising : BindOk "all_rising" "all_rising" (topS 28) ["parts"] := fun _ _ _ _ _ _ us hl => match us, hl with | [_], _ => rfl
theorem b_dShortsIn : BindOk "shorts_in" "shorts_in" (topS 29) ["parts"] := fun _ _ _ _ _ _ us hl => match us, hl with | [_], _ => rfl
theorem b_dRowMoms : BindOk "row_moments" "row_moments" (topS 30) ["parts"] := fun _ _ _ _ _ _ us hl => match us, hl with | [_], _ => rfl
theorem b_dRowMany : BindOk "row_many" "row_many" (topS 31) ["parts"] := fun _ _ _ _ _ _ us hl => match us, hl with | [_], _ => rfl
theorem b_dRowPcs : BindOk "row_pieces" "row_pieces" (topS 32) ["parts"] := fun _ _ _ _ _ _ us hl => match us, hl with | [_], _ => rfl
theorem b_dRowText : BindOk "row_text" "row_text" (topS 33) ["parts"] := fun _ _ _ _ _ _ us hl => match us, hl with | [_], _ => rfl
theorem b_dNumIn : BindOk "number_in" "number_in" (topS 39) ["word"] := fun _ _ _ _ _ _ us hl => match us, hl with | [_], _ => rfl
theorem b_dAtIn : BindOk "at_in" "at_in" (topS 40) ["text"] := fun _ _ _ _ _ _ us hl => match us, hl with | [_], _ => rfl
theorem b_dItemEnd : BindOk "item_end" "item_end" (topS 41) ["text", "at"] := fun _ _ _ _ _ _ us hl => match us, hl with | [_, _], _ => rfl
theorem b_dOverIn : BindOk "over_in" "over_in" (topS 42) ["parts", "tail"] := fun _ _ _ _ _ _ us hl => match us, hl with | [_, _], _ => rfl
theorem b_dReadOn : BindOk "read_on" "read_on" (topS 43) ["text", "at", "rows"] := fun _ _ _ _ _ _ us hl => match us, hl with | [_, _, _], _ => rfl
theorem b_dReadSp : BindOk "read_spread" "read_spread" (topS 44) ["text"] := fun _ _ _ _ _ _ us hl => match us, hl with | [_], _ => rfl
theorem b_dPot : BindOk "_law_pot" "_law_pot" (topS 46) ["_law_script", "_law_k"] := fun _ _ _ _ _ _ us hl => match us, hl with | [_, _], _ => rfl
theorem b_dDraw : BindOk "_law_draw" "_law_draw" (topS 47) ["_law_pot_here", "_law_many"] := fun _ _ _ _ _ _ us hl => match us, hl with | [_, _], _ => rfl
theorem b_dLMoms : BindOk "_law_moments" "_law_moments" (topS 48) ["_law_short_here"] := fun _ _ _ _ _ _ us hl => match us, hl with | [_], _ => rfl
theorem b_dLRowMoms : BindOk "_law_row_moments" "_law_row_moments" (topS 49) ["_law_row_here"] := fun _ _ _ _ _ _ us hl => match us, hl with | [_], _ => rfl
theorem b_dWide : BindOk "_law_wide" "_law_wide" (topS 50) ["_law_pot_here"] := fun _ _ _ _ _ _ us hl => match us, hl with | [_], _ => rfl
theorem b_dGap : BindOk "_law_gap" "_law_gap" (topS 51) ["_law_pot_here"] := fun _ _ _ _ _ _ us hl => match us, hl with | [_], _ => rfl
theorem b_dShort : BindOk "_law_short" "_law_short" (topS 52) ["_law_pot_here", "_law_at", "_law_room", "_law_deep", "_law_left"] := fun _ _ _ _ _ _ us hl => match us, hl with | [_, _, _, _, _], _ => rfl
theorem b_dRow : BindOk "_law_row" "_law_row" (topS 53) ["_law_pot_here", "_law_at", "_law_room", "_law_deep", "_law_left"] := fun _ _ _ _ _ _ us hl => match us, hl with | [_, _, _, _, _], _ => rfl
theorem b_dSpread : BindOk "_law_spread" "_law_spread" (topS 54) ["_law_pot_here"] := fun _ _ _ _ _ _ us hl => match us, hl with | [_], _ => rfl
theorem b_dPieces : BindOk "_law_pieces" "_law_pieces" (topS 55) ["_law_row_here"] := fun _ _ _ _ _ _ us hl => match us, hl with | [_], _ => rfl
theorem b_dTime : BindOk "_law_time" "_law_time" (topS 56) ["_law_moment"] := fun _ _ _ _ _ _ us hl => match us, hl with | [_], _ => rfl
theorem b_dWord : BindOk "_law_word" "_law_word" (topS 57) ["_law_short_here"] := fun _ _ _ _ _ _ us hl => match us, hl with | [_], _ => rfl
theorem b_dText : BindOk "_law_text" "_law_text" (topS 58) ["_law_row_here"] := fun _ _ _ _ _ _ us hl => match us, hl with | [_], _ => rfl
theorem b_dMade : BindOk "_law_made" "_law_made" (topS 59) ["_law_short_here"] := fun _ _ _ _ _ _ us hl => match us, hl with | [_], _ => rfl
theorem b_dWritten : BindOk "_law_written" "_law_written" (topS 60) ["_law_one", "_law_short_here"] := fun _ _ _ _ _ _ us hl => match us, hl with | [_, _], _ => rfl
theorem b_dIs : BindOk "_law_is" "_law_is" (topS 61) ["_law_spread_here", "_law_row_here", "_law_text_here"] := fun _ _ _ _ _ _ us hl => match us, hl with | [_, _, _], _ => rfl
theorem b_dRight : BindOk "_law_right" "_law_right" (topS 62) ["_law_pot_here"] := fun _ _ _ _ _ _ us hl => match us, hl with | [_], _ => rfl
theorem b_dLaw : BindOk "law" "law" (topS 63) ["_law_script"] := fun _ _ _ _ _ _ us hl => match us, hl with | [_], _ => rfl
theorem b_aMoms : BindOk "moments" "At.moments" (inClass (topS 34) 1) ["self"] := fun _ _ _ _ _ _ us hl => match us, hl with | [_], _ => rfl
theorem b_aPcs : BindOk "pieces" "At.pieces" (inClass (topS 34) 2) ["self"] := fun _ _ _ _ _ _ us hl => match us, hl with | [_], _ => rfl
theorem b_aBeg : BindOk "begins" "At.begins" (inClass (topS 34) 3) ["self"] := fun _ _ _ _ _ _ us hl => match us, hl with | [_], _ => rfl
theorem b_aEnd : BindOk "ends" "At.ends" (inClass (topS 34) 4) ["self"] := fun _ _ _ _ _ _ us hl => match us, hl with | [_], _ => rfl
theorem b_aMany : BindOk "means_many" "At.means_many" (inClass (topS 34) 5) ["self"] := fun _ _ _ _ _ _ us hl => match us, hl with | [_], _ => rfl
theorem b_aNest : BindOk "nested" "At.nested" (inClass (topS 34) 6) ["self"] := fun _ _ _ _ _ _ us hl => match us, hl with | [_], _ => rfl
theorem b_aStr : BindOk "__str__" "At.__str__" (inClass (topS 34) 7) ["self"] := fun _ _ _ _ _ _ us hl => match us, hl with | [_], _ => rfl
theorem b_oParts : BindOk "parts" "Over.parts" (inClass (topS 35) 1) ["self"] := fun _ _ _ _ _ _ us hl => match us, hl with | [_], _ => rfl
theorem b_oMoms : BindOk "moments" "Over.moments" (inClass (topS 35) 2) ["self"] := fun _ _ _ _ _ _ us hl => match us, hl with | [_], _ => rfl
theorem b_oPcs : BindOk "pieces" "Over.pieces" (inClass (topS 35) 3) ["self"] := fun _ _ _ _ _ _ us hl => match us, hl with | [_], _ => rfl
theorem b_oBeg : BindOk "begins" "Over.begins" (inClass (topS 35) 4) ["self"] := fun _ _ _ _ _ _ us hl => match us, hl with | [_], _ => rfl
theorem b_oEnd : BindOk "ends" "Over.ends" (inClass (topS 35) 5) ["self"] := fun _ _ _ _ _ _ us hl => match us, hl with | [_], _ => rfl
theorem b_oMany : BindOk "means_many" "Over.means_many" (inClass (topS 35) 6) ["self"] := fun _ _ _ _ _ _ us hl => match us, hl with | [_], _ => rfl
theorem b_oNest : BindOk "nested" "Over.nested" (inClass (topS 35) 7) ["self"] := fun _ _ _ _ _ _ us hl => match us, hl with | [_], _ => rfl
theorem b_oStr : BindOk "__str__" "Over.__str__" (inClass (topS 35) 8) ["self"] := fun _ _ _ _ _ _ us hl => match us, hl with | [_], _ => rfl
theorem b_pParts : BindOk "parts" "Spread.parts" (inClass (topS 38) 1) ["self"] := fun _ _ _ _ _ _ us hl => match us, hl with | [_], _ => rfl
theorem b_pMoms : BindOk "moments" "Spread.moments" (inClass (topS 38) 2) ["self"] := fun _ _ _ _ _ _ us hl => match us, hl with | [_], _ => rfl
theorem b_pPcs : BindOk "pieces" "Spread.pieces" (inClass (topS 38) 3) ["self"] := fun _ _ _ _ _ _ us hl => match us, hl with | [_], _ => rfl
theorem b_pStr : BindOk "__str__" "Spread.__str__" (inClass (topS 38) 6) ["self"] := fun _ _ _ _ _ _ us hl => match us, hl with | [_], _ => rfl
theorem b_pRepr : BindOk "__repr__" "Spread.__repr__" (inClass (topS 38) 7) ["self"] := fun _ _ _ _ _ _ us hl => match us, hl with | [_], _ => rfl
theorem b_aIni : BindOk "__init__" "At.__init__" (inClass (topS 34) 0) ["self", "moment"] := fun _ _ _ _ _ _ us hl => match us, hl with | [_, _], _ => rfl
theorem b_oIni : BindOkD "__init__" "Over.__init__" (inClass (topS 35) 0) ["self", "parts", "many", "step"] 2 := fun _ _ _ _ _ _ _ us its hl hi => match us, hl, its, hi with | [_, _, _, _], _, [_, _], _ => ⟨_, rfl, rfl⟩
theorem b_pIni : BindOk "__init__" "Spread.__init__" (inClass (topS 38) 0) ["self", "parts"] := fun _ _ _ _ _ _ us hl => match us, hl with | [_, _], _ => rfl
section
variable {K : PySem.W.Frag} {mg : Str → Option Value} {h : Heap} {x m qual : Str} {st : Stmt} {ps : List Str} {f C T : Addr} {oc kV doc pm cdv ct : Value} {od an : Option Addr} {osl : Array (Option Value)}
theorem body_mk (l : K.lookup f = some ⟨oc, od, .func (PySem.W.fnOf x qual (defArgs st) (defBody st) (defScope st) .none kV doc pm an cdv ct), osl⟩) (c : PySem.W.codeIn K cdv qual = true) (b : BindOk x qual st ps) :
    ∃ fd : FuncData, BodyAt K x qual st f fd ∧ Binds K fd ps [] :=
  ⟨_, ⟨oc, od, .none, kV, doc, pm, an, cdv, ct, osl, rfl, l, c⟩, .all (b kV doc pm an cdv ct)⟩
theorem body_mkD {n : Nat} {o : Obj} {its : List Value} {z : Nat} (l : K.lookup f = some ⟨oc, od, .func (PySem.W.fnOf x qual (defArgs st) (defBody st) (defScope st) (.ref T) kV doc pm an cdv ct), osl⟩) (c : PySem.W.codeIn K cdv qual = true)
    (lT : K.lookup T = some o) (hd : o.data = .seq its.toArray z) (hn : its.length = n) (b : BindOkD x qual st ps n) : ∃ fd : FuncData, BodyAt K x qual st f fd ∧ Binds K fd ps [] := by
  refine ⟨_, ⟨oc, od, .ref T, kV, doc, pm, an, cdv, ct, osl, rfl, l, c⟩, fun s us X hl => ?_⟩
  rw [List.append_nil] at hl ⊢
  obtain ⟨k, e1, e2⟩ := b T kV doc pm an cdv ct us its hl hn
  refine BindsTo.of_looks fun M => ?_
  rw [e1]
  exact looks_items X lT hd (.of_pure e2)
theorem def_mk (X : K.In h) (G : h.Ns mainGlobals mg) (a : PySem.W.nsIn K mainGlobals x = some (some (.ref f))) (k : PySem.W.keepIn K (.ref f) = true) (b : ∃ fd : FuncData, BodyAt K x x st f fd ∧ Binds K fd ps []) : DefAt K mg x st ps := by
  obtain ⟨fd, B, bb⟩ := b
  exact ⟨f, fd, B, PySem.W.mg_of X G a, k, bb⟩
theorem met_mk (a : PySem.W.findIn K (.ref C) m = some (some (.ref f))) (i : PySem.W.isFn K (.ref f) = true) (k : PySem.W.keepIn K (.ref f) = true) (b : ∃ fd : FuncData, BodyAt K m qual st f fd ∧ Binds K fd ps []) : MetAt K C m qual st ps := by
  obtain ⟨fd, B, bb⟩ := b
  exact ⟨f, fd, B, ⟨a, i, k⟩, bb⟩
theorem ini_mk (a : PySem.W.findIn K (.ref C) "__init__" = some (some (.ref f))) (i : PySem.W.isFn K (.ref f) = true) (mk : PySem.W.makesIn K C = true) (kc : PySem.W.keepIn K (.ref C) = true) (b : ∃ fd : FuncData, BodyAt K "__init__" qual st f fd ∧ Binds K fd ps []) : IniAt K C qual st ps := by
  obtain ⟨fd, B, bb⟩ := b
  exact ⟨f, fd, B, ⟨mk, a, i, kc⟩, bb⟩
theorem int_mk {i : Int} {t : PySem.Tok} (X : K.In h) (G : h.Ns mainGlobals mg) (a : PySem.W.nsIn K mainGlobals x = some (some (.int i t))) : IntAt mg x i := ⟨_, PySem.W.mg_of X G a, t, rfl⟩
theorem str_mk {z : Str} {t : PySem.Tok} (X : K.In h) (G : h.Ns mainGlobals mg) (a : PySem.W.nsIn K mainGlobals x = some (some (.str z t))) : StrAt mg x z := ⟨_, PySem.W.mg_of X G a, t, rfl⟩
theorem kit_mk {t : Value} {o : ClassData} (h1 : PySem.W.clsIn K C = some o) (h2 : PySem.W.typeIn K (.ref C) = some (.type "type")) (h3 : PySem.W.subIn K t (.ref C) = some true) : PySem.W.kitOne K t (.ref C) = some true := by
  unfold PySem.W.kitOne
  split
  · rfl
  show (if ((PySem.W.clsIn K C).isSome && PySem.W.typeIn K (.ref C) == some (.type "type")) = true then PySem.W.subIn K t (.ref C) else none) = some true
  rw [h1, h2]
  exact h3
end
theorem top_ex {K : PySem.W.Frag} {mg : Str → Option Value} {cA cO cS cP : Addr} (a : PySem.W.nsIn K mainGlobals "At" = some (some (.ref cA))) (o : PySem.W.nsIn K mainGlobals "Over" = some (some (.ref cO))) (s : PySem.W.nsIn K mainGlobals "Short" = some (some (.ref cS))) (p : PySem.W.nsIn K mainGlobals "Spread" = some (some (.ref cP)))
    (T : Top K mg cA cO cS cP) : ∃ cA cO cS cP, Top K mg cA cO cS cP := ⟨cA, cO, cS, cP, T⟩
end K24

set_option Elab.async false
set_option linter.all false
set_option maxRecDepth 100000
/-! K21: the law holds. -/
open PySem PySem.W PyProof.Rows K24 in
set_option maxRecDepth 100000 in
set_option maxHeartbeats 0 in
theorem PySem.Challenge.cw_shortgoings_k24_whole_written_and_read_holds : PySem.Challenge.rw_shortgoings_k24_whole_written_and_read.Holds := by
  w_on; o_law; k_head; (case hw => w_witness2)
  k_fill
  refine K24.walk_calm (l := PySem.Challenge.rw_shortgoings_k24_whole_written_and_read) rfl rfl rfl (fun w h Y => PySem.W.kIn_of Y) ?F
  case F =>
    intro w mg h KX G
    refine' K24.top_ex ?xa ?xo ?xs ?xp ?xT
    (case xa => k_is); (case xo => k_is); (case xs => k_is); (case xp => k_is)
    case xT =>
      constructor
      case bLen => refine PySem.W.mg_none_of KX G ?_; k_is
      case bIsi => refine PySem.W.mg_none_of KX G ?_; k_is
      case bInt => refine PySem.W.mg_none_of KX G ?_; k_is
      case bBool => refine PySem.W.mg_none_of KX G ?_; k_is
      case bStr => refine PySem.W.mg_none_of KX G ?_; k_is
      case bList => refine PySem.W.mg_none_of KX G ?_; k_is
      case bTuple => refine PySem.W.mg_none_of KX G ?_; k_is
      case bAll => refine PySem.W.mg_none_of KX G ?_; k_is
      case bSum => refine PySem.W.mg_none_of KX G ?_; k_is
      case bMax => refine PySem.W.mg_none_of KX G ?_; k_is
      case bMin => refine PySem.W.mg_none_of KX G ?_; k_is
      case bZip => refine PySem.W.mg_none_of KX G ?_; k_is
      case bRange => refine PySem.W.mg_none_of KX G ?_; k_is
      case bRepr => refine PySem.W.mg_none_of KX G ?_; k_is
      case bDivmod => refine PySem.W.mg_none_of KX G ?_; k_is
      case iHOUR => refine' int_mk KX G ?ya; (case ya => k_is)
      case iDAY => refine' int_mk KX G ?ya; (case ya => k_is)
      case iHOURS => refine' int_mk KX G ?ya; (case ya => k_is)
      case iMOST => refine' int_mk KX G ?ya; (case ya => k_is)
      case iNEST => refine' int_mk KX G ?ya; (case ya => k_is)
      case sFIGc => refine' str_mk KX G ?ya; (case ya => k_is)
      case sCOLON => refine' str_mk KX G ?ya; (case ya => k_is)
      case sBLANK => refine' str_mk KX G ?ya; (case ya => k_is)
      case sNOP => refine' str_mk KX G ?ya; (case ya => k_is)
      case sFIGs => refine' str_mk KX G ?ya; (case ya => k_is)
      case dWhole => refine' def_mk KX G ?ya ?yk (body_mk ?yl ?yc b_dWhole); (case ya => k_is); (case yl => k_is); (case yc => k_is); (case yk => k_is)
      case dMoment => refine' def_mk KX G ?ya ?yk (body_mk ?yl ?yc b_dMoment); (case ya => k_is); (case yl => k_is); (case yc => k_is); (case yk => k_is)
      case dWant => refine' def_mk KX G ?ya ?yk (body_mk ?yl ?yc b_dWant); (case ya => k_is); (case yl => k_is); (case yc => k_is); (case yk => k_is)
      case dBelow => refine' def_mk KX G ?ya ?yk (body_mk ?yl ?yc b_dBelow); (case ya => k_is); (case yl => k_is); (case yc => k_is); (case yk => k_is)
      case dMomentAt => refine' def_mk KX G ?ya ?yk (body_mkD ?yl ?yc ?yT ?yh ?yn b_dMomentAt); (case ya => k_is); (case yl => k_is); (case yc => k_is); (case yT => k_is); (case yh => rfl); (case yn => rfl); (case yk => k_is)
      case dClock => refine' def_mk KX G ?ya ?yk (body_mk ?yl ?yc b_dClock); (case ya => k_is); (case yl => k_is); (case yc => k_is); (case yk => k_is)
      case dShow => refine' def_mk KX G ?ya ?yk (body_mk ?yl ?yc b_dShow); (case ya => k_is); (case yl => k_is); (case yc => k_is); (case yk => k_is)
      case dFigs => refine' def_mk KX G ?ya ?yk (body_mk ?yl ?yc b_dFigs); (case ya => k_is); (case yl => k_is); (case yc => k_is); (case yk => k_is)
      case dNumber => refine' def_mk KX G ?ya ?yk (body_mk ?yl ?yc b_dNumber); (case ya => k_is); (case yl => k_is); (case yc => k_is); (case yk => k_is)
      case dDay => refine' def_mk KX G ?ya ?yk (body_mk ?yl ?yc b_dDay); (case ya => k_is); (case yl => k_is); (case yc => k_is); (case yk => k_is)
      case dRead => refine' def_mk KX G ?ya ?yk (body_mk ?yl ?yc b_dRead); (case ya => k_is); (case yl => k_is); (case yc => k_is); (case yk => k_is)
      case dIsNum => refine' def_mk KX G ?ya ?yk (body_mk ?yl ?yc b_dIsNum); (case ya => k_is); (case yl => k_is); (case yc => k_is); (case yk => k_is)
      case dRising => refine' def_mk KX G ?ya ?yk (body_mk ?yl ?yc b_dRising); (case ya => k_is); (case yl => k_is); (case yc => k_is); (case yk => k_is)
      case dShortsIn => refine' def_mk KX G ?ya ?yk (body_mk ?yl ?yc b_dShortsIn); (case ya => k_is); (case yl => k_is); (case yc => k_is); (case yk => k_is)
      case dRowMoms => refine' def_mk KX G ?ya ?yk (body_mk ?yl ?yc b_dRowMoms); (case ya => k_is); (case yl => k_is); (case yc => k_is); (case yk => k_is)
      case dRowMany => refine' def_mk KX G ?ya ?yk (body_mk ?yl ?yc b_dRowMany); (case ya => k_is); (case yl => k_is); (case yc => k_is); (case yk => k_is)
      case dRowPcs => refine' def_mk KX G ?ya ?yk (body_mk ?yl ?yc b_dRowPcs); (case ya => k_is); (case yl => k_is); (case yc => k_is); (case yk => k_is)
      case dRowText => refine' def_mk KX G ?ya ?yk (body_mk ?yl ?yc b_dRowText); (case ya => k_is); (case yl => k_is); (case yc => k_is); (case yk => k_is)
      case dNumIn => refine' def_mk KX G ?ya ?yk (body_mk ?yl ?yc b_dNumIn); (case ya => k_is); (case yl => k_is); (case yc => k_is); (case yk => k_is)
      case dAtIn => refine' def_mk KX G ?ya ?yk (body_mk ?yl ?yc b_dAtIn); (case ya => k_is); (case yl => k_is); (case yc => k_is); (case yk => k_is)
      case dItemEnd => refine' def_mk KX G ?ya ?yk (body_mk ?yl ?yc b_dItemEnd); (case ya => k_is); (case yl => k_is); (case yc => k_is); (case yk => k_is)
      case dOverIn => refine' def_mk KX G ?ya ?yk (body_mk ?yl ?yc b_dOverIn); (case ya => k_is); (case yl => k_is); (case yc => k_is); (case yk => k_is)
      case dReadOn => refine' def_mk KX G ?ya ?yk (body_mk ?yl ?yc b_dReadOn); (case ya => k_is); (case yl => k_is); (case yc => k_is); (case yk => k_is)
      case dReadSp => refine' def_mk KX G ?ya ?yk (body_mk ?yl ?yc b_dReadSp); (case ya => k_is); (case yl => k_is); (case yc => k_is); (case yk => k_is)
      case dPot => refine' def_mk KX G ?ya ?yk (body_mk ?yl ?yc b_dPot); (case ya => k_is); (case yl => k_is); (case yc => k_is); (case yk => k_is)
      case dDraw => refine' def_mk KX G ?ya ?yk (body_mk ?yl ?yc b_dDraw); (case ya => k_is); (case yl => k_is); (case yc => k_is); (case yk => k_is)
      case dLMoms => refine' def_mk KX G ?ya ?yk (body_mk ?yl ?yc b_dLMoms); (case ya => k_is); (case yl => k_is); (case yc => k_is); (case yk => k_is)
      case dLRowMoms => refine' def_mk KX G ?ya ?yk (body_mk ?yl ?yc b_dLRowMoms); (case ya => k_is); (case yl => k_is); (case yc => k_is); (case yk => k_is)
      case dWide => refine' def_mk KX G ?ya ?yk (body_mk ?yl ?yc b_dWide); (case ya => k_is); (case yl => k_is); (case yc => k_is); (case yk => k_is)
      case dGap => refine' def_mk KX G ?ya ?yk (body_mk ?yl ?yc b_dGap); (case ya => k_is); (case yl => k_is); (case yc => k_is); (case yk => k_is)
      case dShort => refine' def_mk KX G ?ya ?yk (body_mk ?yl ?yc b_dShort); (case ya => k_is); (case yl => k_is); (case yc => k_is); (case yk => k_is)
      case dRow => refine' def_mk KX G ?ya ?yk (body_mk ?yl ?yc b_dRow); (case ya => k_is); (case yl => k_is); (case yc => k_is); (case yk => k_is)
      case dSpread => refine' def_mk KX G ?ya ?yk (body_mk ?yl ?yc b_dSpread); (case ya => k_is); (case yl => k_is); (case yc => k_is); (case yk => k_is)
      case dPieces => refine' def_mk KX G ?ya ?yk (body_mk ?yl ?yc b_dPieces); (case ya => k_is); (case yl => k_is); (case yc => k_is); (case yk => k_is)
      case dTime => refine' def_mk KX G ?ya ?yk (body_mk ?yl ?yc b_dTime); (case ya => k_is); (case yl => k_is); (case yc => k_is); (case yk => k_is)
      case dWord => refine' def_mk KX G ?ya ?yk (body_mk ?yl ?yc b_dWord); (case ya => k_is); (case yl => k_is); (case yc => k_is); (case yk => k_is)
      case dText => refine' def_mk KX G ?ya ?yk (body_mk ?yl ?yc b_dText); (case ya => k_is); (case yl => k_is); (case yc => k_is); (case yk => k_is)
      case dMade => refine' def_mk KX G ?ya ?yk (body_mk ?yl ?yc b_dMade); (case ya => k_is); (case yl => k_is); (case yc => k_is); (case yk => k_is)
      case dWritten => refine' def_mk KX G ?ya ?yk (body_mk ?yl ?yc b_dWritten); (case ya => k_is); (case yl => k_is); (case yc => k_is); (case yk => k_is)
      case dIs => refine' def_mk KX G ?ya ?yk (body_mk ?yl ?yc b_dIs); (case ya => k_is); (case yl => k_is); (case yc => k_is); (case yk => k_is)
      case dRight => refine' def_mk KX G ?ya ?yk (body_mk ?yl ?yc b_dRight); (case ya => k_is); (case yl => k_is); (case yc => k_is); (case yk => k_is)
      case dLaw => refine' def_mk KX G ?ya ?yk (body_mk ?yl ?yc b_dLaw); (case ya => k_is); (case yl => k_is); (case yc => k_is); (case yk => k_is)
      case aMoms => refine' met_mk ?ya ?yi ?yk (body_mk ?yl ?yc b_aMoms); (case ya => k_is); (case yl => k_is); (case yc => k_is); (case yi => k_is); (case yk => k_is)
      case aPcs => refine' met_mk ?ya ?yi ?yk (body_mk ?yl ?yc b_aPcs); (case ya => k_is); (case yl => k_is); (case yc => k_is); (case yi => k_is); (case yk => k_is)
      case aBeg => refine' met_mk ?ya ?yi ?yk (body_mk ?yl ?yc b_aBeg); (case ya => k_is); (case yl => k_is); (case yc => k_is); (case yi => k_is); (case yk => k_is)
      case aEnd => refine' met_mk ?ya ?yi ?yk (body_mk ?yl ?yc b_aEnd); (case ya => k_is); (case yl => k_is); (case yc => k_is); (case yi => k_is); (case yk => k_is)
      case aMany => refine' met_mk ?ya ?yi ?yk (body_mk ?yl ?yc b_aMany); (case ya => k_is); (case yl => k_is); (case yc => k_is); (case yi => k_is); (case yk => k_is)
      case aNest => refine' met_mk ?ya ?yi ?yk (body_mk ?yl ?yc b_aNest); (case ya => k_is); (case yl => k_is); (case yc => k_is); (case yi => k_is); (case yk => k_is)
      case aStr => refine' met_mk ?ya ?yi ?yk (body_mk ?yl ?yc b_aStr); (case ya => k_is); (case yl => k_is); (case yc => k_is); (case yi => k_is); (case yk => k_is)
      case oParts => refine' met_mk ?ya ?yi ?yk (body_mk ?yl ?yc b_oParts); (case ya => k_is); (case yl => k_is); (case yc => k_is); (case yi => k_is); (case yk => k_is)
      case oMoms => refine' met_mk ?ya ?yi ?yk (body_mk ?yl ?yc b_oMoms); (case ya => k_is); (case yl => k_is); (case yc => k_is); (case yi => k_is); (case yk => k_is)
      case oPcs => refine' met_mk ?ya ?yi ?yk (body_mk ?yl ?yc b_oPcs); (case ya => k_is); (case yl => k_is); (case yc => k_is); (case yi => k_is); (case yk => k_is)
      case oBeg => refine' met_mk ?ya ?yi ?yk (body_mk ?yl ?yc b_oBeg); (case ya => k_is); (case yl => k_is); (case yc => k_is); (case yi => k_is); (case yk => k_is)
      case oEnd => refine' met_mk ?ya ?yi ?yk (body_mk ?yl ?yc b_oEnd); (case ya => k_is); (case yl => k_is); (case yc => k_is); (case yi => k_is); (case yk => k_is)
      case oMany => refine' met_mk ?ya ?yi ?yk (body_mk ?yl ?yc b_oMany); (case ya => k_is); (case yl => k_is); (case yc => k_is); (case yi => k_is); (case yk => k_is)
      case oNest => refine' met_mk ?ya ?yi ?yk (body_mk ?yl ?yc b_oNest); (case ya => k_is); (case yl => k_is); (case yc => k_is); (case yi => k_is); (case yk => k_is)
      case oStr => refine' met_mk ?ya ?yi ?yk (body_mk ?yl ?yc b_oStr); (case ya => k_is); (case yl => k_is); (case yc => k_is); (case yi => k_is); (case yk => k_is)
      case pParts => refine' met_mk ?ya ?yi ?yk (body_mk ?yl ?yc b_pParts); (case ya => k_is); (case yl => k_is); (case yc => k_is); (case yi => k_is); (case yk => k_is)
      case pMoms => refine' met_mk ?ya ?yi ?yk (body_mk ?yl ?yc b_pMoms); (case ya => k_is); (case yl => k_is); (case yc => k_is); (case yi => k_is); (case yk => k_is)
      case pPcs => refine' met_mk ?ya ?yi ?yk (body_mk ?yl ?yc b_pPcs); (case ya => k_is); (case yl => k_is); (case yc => k_is); (case yi => k_is); (case yk => k_is)
      case pStr => refine' met_mk ?ya ?yi ?yk (body_mk ?yl ?yc b_pStr); (case ya => k_is); (case yl => k_is); (case yc => k_is); (case yi => k_is); (case yk => k_is)
      case pRepr => refine' met_mk ?ya ?yi ?yk (body_mk ?yl ?yc b_pRepr); (case ya => k_is); (case yl => k_is); (case yc => k_is); (case yi => k_is); (case yk => k_is)
      case aIni => refine' ini_mk ?ya ?yi ?ym ?yk (body_mk ?yl ?yc b_aIni); (case ya => k_is); (case yl => k_is); (case yc => k_is); (case yi => k_is); (case ym => k_is); (case yk => k_is)
      case oIni => refine' ini_mk ?ya ?yi ?ym ?yk (body_mkD ?yl ?yc ?yT ?yh ?yn b_oIni); (case ya => k_is); (case yl => k_is); (case yc => k_is); (case yT => k_is); (case yh => rfl); (case yn => rfl); (case yi => k_is); (case ym => k_is); (case yk => k_is)
      case pIni => refine' ini_mk ?ya ?yi ?ym ?yk (body_mk ?yl ?yc b_pIni); (case ya => k_is); (case yl => k_is); (case yc => k_is); (case yi => k_is); (case ym => k_is); (case yk => k_is)
      case gA => refine PySem.W.mg_of KX G ?_; k_is
      case gO => refine PySem.W.mg_of KX G ?_; k_is
      case gS => refine PySem.W.mg_of KX G ?_; k_is
      case gP => refine PySem.W.mg_of KX G ?_; k_is
      case clA => refine' ⟨?ya, ?yb, ?yc, ?yd⟩; (case ya => k_is); (case yb => k_is); (case yc => k_is); (case yd => k_is)
      case clO => refine' ⟨?ya, ?yb, ?yc, ?yd⟩; (case ya => k_is); (case yb => k_is); (case yc => k_is); (case yd => k_is)
      case clP => refine' ⟨?ya, ?yb, ?yc, ?yd⟩; (case ya => k_is); (case yb => k_is); (case yc => k_is); (case yd => k_is)
      case ne => decide
      case icg => k_is
      case ict => k_is
      case nMoment => show PySem.W.findIn _ _ _ = _; k_is
      case nKept => show PySem.W.findIn _ _ _ = _; k_is
      case nMany => show PySem.W.findIn _ _ _ = _; k_is
      case nStep => show PySem.W.findIn _ _ _ = _; k_is
      case nKeptP => show PySem.W.findIn _ _ _ = _; k_is
      case nHeld => show PySem.W.findIn _ _ _ = _; k_is
      case icA => refine' ⟨?ya, ?yb⟩; (case ya => k_is); (case yb => k_is)
      case icO => refine' ⟨?ya, ?yb⟩; (case ya => k_is); (case yb => k_is)
      case icP => refine' ⟨?ya, ?yb⟩; (case ya => k_is); (case yb => k_is)
      case kAS => refine' kit_mk ?ya ?yb ?yc; (case ya => k_is); (case yb => k_is); (case yc => k_is)
      case kOS => refine' kit_mk ?ya ?yb ?yc; (case ya => k_is); (case yb => k_is); (case yc => k_is)
      case kPP => refine' kit_mk ?ya ?yb ?yc; (case ya => k_is); (case yb => k_is); (case yc => k_is)
#print axioms PySem.Challenge.cw_shortgoings_k24_whole_written_and_read_holds
