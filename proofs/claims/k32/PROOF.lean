import PyProof.Rows.All
import Wide.All
import OpenK.AllK
import Wide.FinOn
import KE.IntTextText
import HandS.Text
import HandS.ForMost
import HandS.ForExc
import HandS.IsInst
import HandS.ExcIs
import HandS.StrMore
import HandS.Steps
import HandS.Walk
import PySem.Challenge.RW_carpetkin_k32_texts_of_no_fold
set_option Elab.async false
set_option linter.all false
set_option maxRecDepth 100000
set_option maxHeartbeats 4000000
namespace K32
open PySem
open TL (numL joinL)
open NumText (digitsVal AllDigits)

/-! ## 1. folds as data -/
inductive Fd where
  | nil
  | run (c k : Nat) (r : Fd)
  | again (k : Nat) (i r : Fd)
inductive It where
  | run (c k : Nat)
  | again (k : Nat) (i : Fd)
def size : Fd → Nat
  | .nil => 0
  | .run _ k r => k + size r
  | .again k i r => k * size i + size r
def deep : Fd → Nat
  | .nil => 0
  | .run _ _ r => deep r
  | .again _ i r => max (deep i + 1) (deep r)
def cnt (k : Nat) : List Nat := if k = 1 then [] else numL k
def words : Fd → List (List Nat)
  | .nil => []
  | .run c k r => (c :: cnt k) :: words r
  | .again k i r => (40 :: (joinL [32] (words i) ++ 41 :: numL k)) :: words r
def txt (f : Fd) : List Nat := joinL [32] (words f)
def It.put : It → Fd → Fd
  | .run c k, r => .run c k r
  | .again k i, r => .again k i r
def It.size : It → Nat
  | .run _ k => k
  | .again k i => k * K32.size i
def It.word : It → List Nat
  | .run c k => c :: cnt k
  | .again k i => 40 :: (txt i ++ 41 :: numL k)
def It.deep : It → Nat
  | .run _ _ => 0
  | .again _ i => K32.deep i + 1
def ofL : List It → Fd
  | [] => .nil
  | i :: r => i.put (ofL r)
theorem size_put (i : It) (f : Fd) : size (i.put f) = i.size + size f := by cases i <;> rfl
theorem words_put (i : It) (f : Fd) : words (i.put f) = i.word :: words f := by cases i <;> rfl
theorem deep_put (i : It) (f : Fd) : deep (i.put f) = max i.deep (deep f) := by
  cases i with
  | run c k => show deep f = max 0 (deep f); omega
  | again k g => rfl
theorem words_ofL : ∀ l : List It, words (ofL l) = l.map It.word
  | [] => rfl
  | i :: r => by
    show words (i.put (ofL r)) = _
    rw [words_put, words_ofL r] <;> rfl
theorem txt_put (i : It) (f : Fd) (h : f ≠ .nil) : txt (i.put f) = i.word ++ 32 :: txt f := by
  unfold txt
  rw [words_put]
  have e : words f ≠ [] := by
    cases f with
    | nil => exact absurd rfl h
    | run c k r => exact List.cons_ne_nil _ _
    | again k i r => exact List.cons_ne_nil _ _
  cases q : words f with
  | nil => exact absurd q e
  | cons a r => rfl
theorem txt_one (i : It) : txt (i.put .nil) = i.word := by
  unfold txt
  rw [words_put] <;> rfl
theorem put_ne (i : It) (f : Fd) : i.put f ≠ .nil := by cases i <;> exact (fun h => nomatch h)

/-! ## 2. the reader, on the signs that are left -/
def dig (c : Nat) : Bool := decide (48 ≤ c) && decide (c ≤ 57)
def low (c : Nat) : Bool := decide (97 ≤ c) && decide (c ≤ 122)
theorem dig_iff {c : Nat} : dig c = true ↔ 48 ≤ c ∧ c ≤ 57 := by simp [dig]
theorem low_iff {c : Nat} : low c = true ↔ 97 ≤ c ∧ c ≤ 122 := by simp [low]
abbrev ds (l : List Nat) : List Nat := l.takeWhile dig
abbrev af (l : List Nat) : List Nat := l.dropWhile dig
def cnt2 (d : List Nat) : Option Nat := if d = [] then some 1 else if d.head? = some 48 ∨ d = [49] ∨ 2 < d.length then none else some (digitsVal d)
def cnt3 (d : List Nat) : Option Nat := if d = [] then some 1 else if d.head? = some 48 ∨ 3 < d.length ∨ digitsVal d < 2 then none else some (digitsVal d)
def runP : List Nat → Option (It × List Nat)
  | [] => none
  | c :: r => if low c = true then (match cnt2 (ds r) with | some k => some (.run c k, af r) | none => none) else none
def tailP (pt : List Nat → Option (It × List Nat)) : Nat → List Nat → Option (List It × List Nat)
  | 0, _ => none
  | n + 1, r => match r with
    | 32 :: r1 => (match pt r1 with
      | none => none
      | some (i, r2) => match tailP pt n r2 with
        | none => none
        | some (is, r3) => some (i :: is, r3))
    | _ => some ([], r)
def partsP (pt : List Nat → Option (It × List Nat)) (l : List Nat) : Option (Fd × List Nat) := match pt l with
  | none => none
  | some (i, r) => match tailP pt (r.length + 1) r with
    | none => none
    | some (is, r2) => some (ofL (i :: is), r2)
def againP (q : Option (Fd × List Nat)) : Option (It × List Nat) := match q with
  | some (f, 41 :: r) => (match cnt2 (ds r) with | some k => if k = 1 then none else some (.again k f, af r) | none => none)
  | _ => none
def partD : Nat → List Nat → Option (It × List Nat)
  | 0, l => runP l
  | d + 1, l => if l.head? = some 40 then againP (partsP (partD d) (l.drop 1)) else runP l
def readP (l : List Nat) : Option Fd := match partsP (partD 12) l with
  | some (f, []) => if size f ≤ 24 then some f else none
  | _ => none

/-! ## 3. the size of a text, by what it writes (also with places #n!) -/
inductive Sz : Bool → List Nat → Nat → List Nat → Prop where
  | run {c k r} : low c = true → cnt3 (ds r) = some k → Sz true (c :: r) k (af r)
  | hash {r r2} : af r = 33 :: r2 → Sz true (35 :: r) (digitsVal (ds r)) r2
  | again {l n k r} : Sz false l n (41 :: r) → ds r ≠ [] → cnt3 (ds r) = some k → Sz true (40 :: l) (n * k) (af r)
  | one {l n r} : Sz true l n r → r.head? ≠ some 32 → Sz false l n r
  | more {l n r m r2} : Sz true l n (32 :: r) → Sz false r m r2 → Sz false l (n + m) r2

theorem af_suffix : ∀ r : List Nat, ∃ p, r = p ++ af r := fun r => ⟨ds r, (List.takeWhile_append_dropWhile).symm⟩
theorem Sz.suffix {b l n r} (h : Sz b l n r) : ∃ p, l = p ++ r := by
  induction h with
  | @run c k r _ _ => obtain ⟨p, e⟩ := af_suffix r; exact ⟨c :: p, congrArg (c :: ·) e⟩
  | @hash r r2 h =>
    obtain ⟨p, e⟩ := af_suffix r
    rw [h] at e
    exact ⟨35 :: (p ++ [33]), by rw [e]; simp⟩
  | @again l n k r _ _ _ ih =>
    obtain ⟨p, e⟩ := ih
    obtain ⟨q, e2⟩ := af_suffix r
    refine ⟨40 :: (p ++ 41 :: q), ?_⟩
    show 40 :: l = 40 :: (p ++ 41 :: q) ++ af r
    rw [e]
    conv => lhs; rw [e2]
    simp
  | one _ _ ih => exact ih
  | @more l n r m r2 _ _ ih1 ih2 =>
    obtain ⟨p, e⟩ := ih1
    obtain ⟨q, e2⟩ := ih2
    exact ⟨p ++ 32 :: q, by rw [e, e2]; simp⟩

/-! ### counts -/
theorem ds_all {r : List Nat} : AllDigits (ds r) := fun c hc => by
  have h : dig c = true := by
    have := List.all_takeWhile (p := dig) (l := r)
    exact List.all_eq_true.mp this c hc
  exact dig_iff.mp h
theorem val2 (a b : Nat) : digitsVal [a, b] = (a - 48) * 10 + (b - 48) := by
  show (0 * 10 + (a - 48)) * 10 + (b - 48) = _
  omega
theorem val1 (a : Nat) : digitsVal [a] = a - 48 := by
  show 0 * 10 + (a - 48) = _
  omega
theorem val3 (a b c : Nat) : digitsVal [a, b, c] = ((a - 48) * 10 + (b - 48)) * 10 + (c - 48) := by
  show ((0 * 10 + (a - 48)) * 10 + (b - 48)) * 10 + (c - 48) = _
  omega
theorem numL_val2 {d : List Nat} (hd : AllDigits d) (h0 : d ≠ []) (h1 : d.head? ≠ some 48) (h2 : d.length ≤ 2) : numL (digitsVal d) = d := by
  match d, h0, h1, h2, hd with
  | [a], _, h1, _, hd =>
    have ha := hd a (by simp)
    rw [val1, TL.numL_lt (by omega)]
    congr 1
    omega
  | [a, b], _, h1, _, hd =>
    have ha := hd a (by simp)
    have hb := hd b (by simp)
    have h1 : a ≠ 48 := fun e => h1 (by rw [e]; rfl)
    rw [val2, TL.numL_step (by omega)]
    have e1 : ((a - 48) * 10 + (b - 48)) / 10 = a - 48 := by omega
    have e2 : ((a - 48) * 10 + (b - 48)) % 10 = b - 48 := by omega
    rw [e1, e2, TL.numL_lt (by omega)]
    show [48 + (a - 48), 48 + (b - 48)] = [a, b]
    have f1 : 48 + (a - 48) = a := by omega
    have f2 : 48 + (b - 48) = b := by omega
    rw [f1, f2]
  | _ :: _ :: _ :: _, _, _, h2, _ => simp at h2
theorem cnt2_some {d : List Nat} {k : Nat} (hd : AllDigits d) (h : cnt2 d = some k) : cnt3 d = some k ∧ cnt k = d ∧ 1 ≤ k ∧ k ≤ 99 ∧ (k ≠ 1 → d ≠ [] ∧ numL k = d) := by
  unfold cnt2 at h
  by_cases h0 : d = []
  · rw [if_pos h0] at h
    cases h
    subst h0
    exact ⟨rfl, rfl, by omega, by omega, fun h => absurd rfl h⟩
  · rw [if_neg h0] at h
    by_cases h1 : d.head? = some 48 ∨ d = [49] ∨ 2 < d.length
    · rw [if_pos h1] at h; cases h
    · rw [if_neg h1] at h
      have hk : k = digitsVal d := (Option.some.inj h).symm
      have hn1 : d.head? ≠ some 48 := fun e => h1 (.inl e)
      have hn2 : d ≠ [49] := fun e => h1 (.inr (.inl e))
      have hn3 : d.length ≤ 2 := Nat.le_of_not_lt fun e => h1 (.inr (.inr e))
      have hb : 2 ≤ digitsVal d ∧ digitsVal d ≤ 99 := by
        match d, h0, hn1, hn2, hn3, hd with
        | [a], _, h1, h2, _, hd =>
          have ha := hd a (by simp)
          have : a ≠ 48 := fun e => h1 (by rw [e]; rfl)
          have : a ≠ 49 := fun e => h2 (by rw [e])
          rw [val1]; omega
        | [a, b], _, h1, _, _, hd =>
          have ha := hd a (by simp)
          have hb := hd b (by simp)
          have : a ≠ 48 := fun e => h1 (by rw [e]; rfl)
          rw [val2]; omega
        | _ :: _ :: _ :: _, _, _, _, h2, _ => simp at h2
      have e3 : cnt3 d = some k := by
        unfold cnt3
        rw [if_neg h0, if_neg ?_, hk]
        rintro (h | h | h)
        · exact hn1 h
        · omega
        · omega
      have en : numL k = d := by rw [hk]; exact numL_val2 hd h0 hn1 hn3
      refine ⟨e3, ?_, by omega, by omega, fun _ => ⟨h0, en⟩⟩
      unfold cnt
      rw [if_neg (by omega), en]
theorem cnt3_some {d : List Nat} {k : Nat} (hd : AllDigits d) (h : cnt3 d = some k) : 1 ≤ k ∧ (d ≠ [] → 2 ≤ k) ∧ (k ≤ 99 → cnt2 d = some k) ∧ k < 10 ^ (d.length + 1) ∧ (d ≠ [] → k < 10 ^ d.length) ∧ k ≤ 999 := by
  unfold cnt3 at h
  by_cases h0 : d = []
  · rw [if_pos h0] at h
    cases h
    subst h0
    exact ⟨by omega, fun h => absurd rfl h, fun _ => rfl, by decide, fun h => absurd rfl h, by omega⟩
  · rw [if_neg h0] at h
    by_cases h1 : d.head? = some 48 ∨ 3 < d.length ∨ digitsVal d < 2
    · rw [if_pos h1] at h; cases h
    · rw [if_neg h1] at h
      have hk : k = digitsVal d := (Option.some.inj h).symm
      have hn1 : d.head? ≠ some 48 := fun e => h1 (.inl e)
      have hn2 : 2 ≤ digitsVal d := Nat.le_of_not_lt fun e => h1 (.inr (.inr e))
      have hn3 : d.length ≤ 3 := Nat.le_of_not_lt fun e => h1 (.inr (.inl e))
      have main : digitsVal d < 10 ^ d.length ∧ digitsVal d ≤ 999 ∧ (digitsVal d ≤ 99 → cnt2 d = some (digitsVal d)) := by
        match d, h0, hn1, hn2, hn3, hd with
        | [a], _, h1, h2, _, hd =>
          have ha := hd a (by simp)
          rw [val1] at h2 ⊢
          refine ⟨by simp; omega, by omega, fun _ => ?_⟩
          unfold cnt2
          rw [if_neg (by simp), if_neg ?_, val1]
          rintro (h | h | h)
          · exact h1 h
          · injection h with h _; omega
          · simp at h
        | [a, b], _, h1, _, _, hd =>
          have ha := hd a (by simp)
          have hb := hd b (by simp)
          rw [val2]
          refine ⟨by simp; omega, by omega, fun _ => ?_⟩
          unfold cnt2
          rw [if_neg (by simp), if_neg ?_, val2]
          rintro (h | h | h)
          · exact h1 h
          · injection h with _ h; cases h
          · simp at h
        | [a, b, c], _, h1, _, _, hd =>
          have ha := hd a (by simp)
          have hb := hd b (by simp)
          have hc := hd c (by simp)
          have : a ≠ 48 := fun e => h1 (by rw [e]; rfl)
          rw [val3]
          exact ⟨by simp; omega, by omega, fun h => by omega⟩
        | _ :: _ :: _ :: _ :: _, _, _, _, h2, _ => simp at h2
      rw [hk]
      refine ⟨by omega, fun _ => hn2, main.2.2, ?_, fun _ => main.1, main.2.1⟩
      rw [Nat.pow_succ]
      omega

/-! ### what is read: its size, its text -/
theorem runP_cons (c : Nat) (r : List Nat) : runP (c :: r) = if low c = true then (match cnt2 (ds r) with | some k => some (.run c k, af r) | none => none) else none := rfl
theorem runP_sz {l : List Nat} {i : It} {r : List Nat} (h : runP l = some (i, r)) : Sz true l i.size r ∧ l = i.word ++ r ∧ i.deep = 0 := by
  match l, h with
  | c :: s, h =>
    rw [runP_cons] at h
    by_cases hc : low c = true
    · rw [if_pos hc] at h
      cases q : cnt2 (ds s) with
      | none => rw [q] at h; cases h
      | some k =>
        rw [q] at h
        cases h
        obtain ⟨h3, h4, _⟩ := cnt2_some ds_all q
        refine ⟨.run hc h3, ?_, rfl⟩
        show c :: s = c :: (cnt k ++ af s)
        rw [h4]
        exact congrArg (c :: ·) List.takeWhile_append_dropWhile.symm
    · rw [if_neg hc] at h; cases h
theorem tailP_sz {pt : List Nat → Option (It × List Nat)} (hp : ∀ l i r, pt l = some (i, r) → Sz true l i.size r ∧ l = i.word ++ r) :
    ∀ (n : Nat) (l r : List Nat) (i : It) (is : List It) (r2 : List Nat), Sz true l i.size r → l = i.word ++ r → tailP pt n r = some (is, r2) →
      Sz false l (size (ofL (i :: is))) r2 ∧ l = txt (ofL (i :: is)) ++ r2
  | 0, _, _, _, _, _, _, _, h => nomatch h
  | n + 1, l, r, i, is, r2, h1, h2, h => by
    unfold tailP at h
    split at h
    · rename_i r1
      cases q : pt r1 with
      | none => rw [q] at h; cases h
      | some z =>
        obtain ⟨j, r3⟩ := z
        rw [q] at h
        dsimp only at h
        cases q2 : tailP pt n r3 with
        | none => rw [q2] at h; cases h
        | some y =>
          obtain ⟨js, r4⟩ := y
          rw [q2] at h
          cases h
          obtain ⟨a1, a2⟩ := hp _ _ _ q
          obtain ⟨b1, b2⟩ := tailP_sz hp n r1 r3 j js _ a1 a2 q2
          refine ⟨?_, ?_⟩
          · show Sz false l (size (i.put (ofL (j :: js)))) _
            rw [size_put]
            exact .more h1 b1
          · show l = txt (i.put (ofL (j :: js))) ++ _
            have e : txt (i.put (ofL (j :: js))) = i.word ++ 32 :: txt (ofL (j :: js)) := txt_put i (j.put (ofL js)) (put_ne _ _)
            rw [e, h2, List.append_assoc, List.cons_append, ← b2]
    · rename_i hne
      cases h
      refine ⟨?_, ?_⟩
      · show Sz false l (size (i.put .nil)) r
        rw [size_put]
        refine .one h1 fun e => ?_
        cases r with
        | nil => cases e
        | cons a b =>
          have : a = 32 := Option.some.inj e
          exact hne b (by rw [this])
      · show l = txt (i.put .nil) ++ r
        rw [txt_one]
        exact h2
theorem partsP_sz {pt : List Nat → Option (It × List Nat)} (hp : ∀ l i r, pt l = some (i, r) → Sz true l i.size r ∧ l = i.word ++ r) {l : List Nat} {f : Fd} {r : List Nat} (h : partsP pt l = some (f, r)) : Sz false l (size f) r ∧ l = txt f ++ r := by
  unfold partsP at h
  cases q : pt l with
  | none => rw [q] at h; cases h
  | some z =>
    obtain ⟨i, r1⟩ := z
    rw [q] at h
    dsimp only at h
    cases q2 : tailP pt (r1.length + 1) r1 with
    | none => rw [q2] at h; cases h
    | some y =>
      obtain ⟨is, r2⟩ := y
      rw [q2] at h
      cases h
      obtain ⟨a1, a2⟩ := hp _ _ _ q
      exact tailP_sz hp _ _ _ _ _ _ a1 a2 q2
theorem partD_sz : ∀ (d : Nat) (l : List Nat) (i : It) (r : List Nat), partD d l = some (i, r) → Sz true l i.size r ∧ l = i.word ++ r
  | 0, l, i, r, h => ⟨(runP_sz h).1, (runP_sz h).2.1⟩
  | d + 1, l, i, r, h => by
    unfold partD at h
    by_cases h0 : l.head? = some 40
    · rw [if_pos h0] at h
      obtain ⟨s, rfl⟩ : ∃ s, l = 40 :: s := by
        cases l with
        | nil => cases h0
        | cons a b => exact ⟨b, by rw [Option.some.inj h0]⟩
      rw [List.drop_succ_cons, List.drop_zero] at h
      unfold againP at h
      split at h
      · rename_i f r2 q
        obtain ⟨a1, a2⟩ := partsP_sz (partD_sz d) q
        cases q2 : cnt2 (ds r2) with
        | none => rw [q2] at h; cases h
        | some k =>
          rw [q2] at h
          dsimp only at h
          by_cases hk : k = 1
          · rw [if_pos hk] at h; cases h
          · rw [if_neg hk] at h
            cases h
            obtain ⟨h3, _, _, _, h4⟩ := cnt2_some ds_all q2
            obtain ⟨h5, h6⟩ := h4 hk
            refine ⟨?_, ?_⟩
            · show Sz true (40 :: s) (k * size f) (af r2)
              rw [Nat.mul_comm]
              exact .again a1 h5 h3
            · show 40 :: s = 40 :: (txt f ++ 41 :: numL k) ++ af r2
              rw [h6, a2]
              have e : r2 = ds r2 ++ af r2 := List.takeWhile_append_dropWhile.symm
              conv => lhs; rw [e]
              simp
      · cases h
    · rw [if_neg h0] at h
      exact ⟨(runP_sz h).1, (runP_sz h).2.1⟩
theorem readP_some {l : List Nat} {f : Fd} (h : readP l = some f) : Sz false l (size f) [] ∧ l = txt f ∧ size f ≤ 24 := by
  unfold readP at h
  split at h
  · rename_i f' q
    by_cases hs : size f' ≤ 24
    · rw [if_pos hs] at h
      cases h
      obtain ⟨a, b⟩ := partsP_sz (partD_sz 12) q
      rw [List.append_nil] at b
      exact ⟨a, b, hs⟩
    · rw [if_neg hs] at h; cases h
  · cases h

/-! ### what has a small size is read -/
theorem word_len (i : It) : 1 ≤ i.word.length := by cases i <;> (show 1 ≤ _ + 1; omega)
theorem tailP_more {pt : List Nat → Option (It × List Nat)} : ∀ (n m : Nat) (r : List Nat) (x : List It × List Nat), n ≤ m → tailP pt n r = some x → tailP pt m r = some x
  | 0, _, _, _, _, h => nomatch h
  | n + 1, 0, _, _, hl, _ => absurd hl (by omega)
  | n + 1, m + 1, r, x, hl, h => by
    unfold tailP at h ⊢
    split at h
    · rename_i r1
      cases q : pt r1 with
      | none => rw [q] at h; cases h
      | some z =>
        obtain ⟨j, r3⟩ := z
        rw [q] at h
        dsimp only at h ⊢
        cases q2 : tailP pt n r3 with
        | none => rw [q2] at h; cases h
        | some y =>
          rw [q2] at h
          rw [tailP_more n m r3 y (by omega) q2]
          exact h
    · exact h
theorem tailP_end {pt : List Nat → Option (It × List Nat)} {n : Nat} {r : List Nat} (h : r.head? ≠ some 32) : tailP pt (n + 1) r = some ([], r) := by
  unfold tailP
  split
  · rename_i r1
    exact absurd rfl h
  · rfl
theorem tailP_go {pt : List Nat → Option (It × List Nat)} {n : Nat} {r r2 : List Nat} {i : It} (h : pt r = some (i, r2)) : tailP pt (n + 1) (32 :: r) = (match tailP pt n r2 with | none => none | some (is, r3) => some (i :: is, r3)) := by
  show (match pt r with | none => none | some (i, r2) => match tailP pt n r2 with | none => none | some (is, r3) => some (i :: is, r3)) = _
  rw [h]
theorem tailP_no {pt : List Nat → Option (It × List Nat)} {n : Nat} {r : List Nat} (h : pt r = none) : tailP pt (n + 1) (32 :: r) = none := by
  show (match pt r with | none => none | some (i, r2) => match tailP pt n r2 with | none => none | some (is, r3) => some (i :: is, r3)) = _
  rw [h]
theorem not_mem_suffix {l p r : List Nat} {c : Nat} (e : l = p ++ r) (h : c ∉ l) : c ∉ r := fun hc => h (by rw [e]; exact List.mem_append_right _ hc)
theorem sz_read {b l n r} (h : Sz b l n r) : 35 ∉ l → n ≤ 99 → 1 ≤ n ∧ ∀ d, n < 2 ^ (d + 1) →
    (b = true → ∃ i : It, partD d l = some (i, r) ∧ i.size = n) ∧ (b = false → ∃ f, partsP (partD d) l = some (f, r) ∧ size f = n) := by
  induction h with
  | @run c k r hc h3 =>
    intro _ hn
    obtain ⟨h1, _, h2, _⟩ := cnt3_some ds_all h3
    refine ⟨h1, fun d _ => ⟨fun _ => ⟨.run c k, ?_, rfl⟩, fun e => nomatch e⟩⟩
    have e : runP (c :: r) = some (.run c k, af r) := by
      rw [runP_cons, if_pos hc, h2 hn]
    cases d with
    | zero => exact e
    | succ d =>
      unfold partD
      rw [if_neg ?_, e]
      intro hh
      have : c = 40 := Option.some.inj hh
      rw [this] at hc
      exact absurd hc (by decide)
  | hash _ => intro h; exact absurd (List.mem_cons_self) h
  | @again l n k r h hd h3 ih =>
    intro hh hn
    have hl : 35 ∉ l := fun z => hh (List.mem_cons_of_mem _ z)
    obtain ⟨k1, k2, k3, _⟩ := cnt3_some ds_all h3
    have k2 := k2 hd
    have hn' : n ≤ 99 := Nat.le_trans (Nat.le_mul_of_pos_right n k1) hn
    obtain ⟨i1, i2⟩ := ih hl hn'
    have hk99 : k ≤ 99 := Nat.le_trans (Nat.le_mul_of_pos_left k i1) hn
    have hn2 : n * 2 ≤ n * k := Nat.mul_le_mul_left n k2
    refine ⟨by omega, fun d hd2 => ⟨fun _ => ?_, fun e => nomatch e⟩⟩
    cases d with
    | zero => exact absurd hd2 (by simp; omega)
    | succ d =>
      obtain ⟨_, i3⟩ := i2 d (by rw [Nat.pow_succ] at hd2; omega)
      obtain ⟨f, e1, e2⟩ := i3 rfl
      refine ⟨.again k f, ?_, ?_⟩
      · unfold partD
        rw [if_pos (show (40 :: l).head? = some 40 from rfl), List.drop_succ_cons, List.drop_zero, e1]
        show (match cnt2 (ds r) with | some k => if k = 1 then none else some (It.again k f, af r) | none => none) = _
        rw [k3 hk99]
        show (if k = 1 then none else some (It.again k f, af r)) = _
        rw [if_neg (by omega)]
      · show k * size f = n * k
        rw [e2, Nat.mul_comm]
  | @one l n r h hr ih =>
    intro hh hn
    obtain ⟨i1, i2⟩ := ih hh hn
    refine ⟨i1, fun d hd => ⟨fun e => (nomatch e), fun _ => ?_⟩⟩
    obtain ⟨i, e1, e2⟩ := (i2 d hd).1 rfl
    refine ⟨ofL [i], ?_, ?_⟩
    · unfold partsP
      rw [e1]
      show (match tailP (partD d) (r.length + 1) r with | none => none | some (is, r2) => some (ofL (i :: is), r2)) = _
      rw [tailP_end hr]
    · show size (i.put .nil) = n
      rw [size_put, e2] <;> rfl
  | @more l n r m r2 h1 h2 ih1 ih2 =>
    intro hh hn
    obtain ⟨p, e⟩ := h1.suffix
    have hh2 : 35 ∉ r := fun z => not_mem_suffix e hh (List.mem_cons_of_mem _ z)
    obtain ⟨i1, i2⟩ := ih1 hh (by omega)
    obtain ⟨j1, j2⟩ := ih2 hh2 (by omega)
    refine ⟨by omega, fun d hd => ⟨fun e => (nomatch e), fun _ => ?_⟩⟩
    obtain ⟨i, e1, e2⟩ := (i2 d (by omega)).1 rfl
    obtain ⟨f, e3, e4⟩ := (j2 d (by omega)).2 rfl
    unfold partsP at e3
    cases q : partD d r with
    | none => rw [q] at e3; cases e3
    | some z =>
      obtain ⟨j, r3⟩ := z
      rw [q] at e3
      dsimp only at e3
      cases q2 : tailP (partD d) (r3.length + 1) r3 with
      | none => rw [q2] at e3; cases e3
      | some y =>
        obtain ⟨js, r4⟩ := y
        rw [q2] at e3
        cases e3
        have hlen : r3.length + 1 ≤ r.length := by
          have := (partD_sz d _ _ _ q).2
          have wl := word_len j
          rw [this, List.length_append]
          omega
        refine ⟨ofL (i :: j :: js), ?_, ?_⟩
        · unfold partsP
          rw [e1]
          show (match tailP (partD d) ((32 :: r).length + 1) (32 :: r) with | none => none | some (is, r2) => some (ofL (i :: is), r2)) = _
          rw [tailP_go q, tailP_more _ _ _ _ (by rw [List.length_cons]; omega) q2]
        · show size (i.put (ofL (j :: js))) = n + m
          rw [size_put, e2, e4]
theorem readP_of {l : List Nat} {n : Nat} (h : Sz false l n []) (h35 : 35 ∉ l) (hn : n ≤ 24) : ∃ f, readP l = some f := by
  obtain ⟨_, q⟩ := sz_read h h35 (by omega)
  obtain ⟨f, e1, e2⟩ := (q 12 (Nat.lt_of_le_of_lt hn (by decide))).2 rfl
  refine ⟨f, ?_⟩
  unfold readP
  rw [e1]
  show (if size f ≤ 24 then some f else none) = some f
  rw [if_pos (by omega)]
end K32
namespace K32
open PySem
open TL (numL joinL)
open NumText (digitsVal AllDigits)

/-! ## 4. runs of figures in front of something else -/
theorem ds_app {p z : List Nat} (hz : ∀ c r, z = c :: r → dig c = false) : ds (p ++ z) = ds p ∧ af (p ++ z) = af p ++ z := by
  induction p with
  | nil =>
    cases z with
    | nil => exact ⟨rfl, rfl⟩
    | cons c r =>
      have e := hz c r rfl
      constructor
      · show List.takeWhile dig (c :: r) = []
        rw [List.takeWhile_cons, e] <;> rfl
      · show List.dropWhile dig (c :: r) = c :: r
        rw [List.dropWhile_cons, e] <;> rfl
  | cons a p ih =>
    obtain ⟨i1, i2⟩ := ih
    constructor
    · show List.takeWhile dig (a :: (p ++ z)) = List.takeWhile dig (a :: p)
      rw [List.takeWhile_cons, List.takeWhile_cons]
      rw [show List.takeWhile dig (p ++ z) = List.takeWhile dig p from i1]
    · show List.dropWhile dig (a :: (p ++ z)) = List.dropWhile dig (a :: p) ++ z
      rw [List.dropWhile_cons, List.dropWhile_cons]
      cases dig a
      · rfl
      · exact i2
theorem ds_of_all {p : List Nat} (h : AllDigits p) : ds p = p ∧ af p = [] := by
  induction p with
  | nil => exact ⟨rfl, rfl⟩
  | cons a p ih =>
    have ha : dig a = true := dig_iff.mpr (h a (by simp))
    obtain ⟨i1, i2⟩ := ih fun c hc => h c (List.mem_cons_of_mem _ hc)
    constructor
    · show List.takeWhile dig (a :: p) = a :: p
      rw [List.takeWhile_cons, ha]
      exact congrArg (a :: ·) i1
    · show List.dropWhile dig (a :: p) = []
      rw [List.dropWhile_cons, ha]
      exact i2
theorem af_head {r : List Nat} {c : Nat} {s : List Nat} (h : af r = c :: s) : dig c = false := by
  induction r with
  | nil => cases h
  | cons a r ih =>
    have h : List.dropWhile dig (a :: r) = c :: s := h
    rw [List.dropWhile_cons] at h
    cases q : dig a
    · rw [q] at h
      cases h
      exact q
    · rw [q] at h
      exact ih h
theorem ds_append_af (r : List Nat) : ds r ++ af r = r := List.takeWhile_append_dropWhile

/-- a sign that opens a place: neither figure, blank, closing bracket nor `!` -/
def Opens (x : Nat) : Prop := dig x = false ∧ x ≠ 32 ∧ x ≠ 33 ∧ x ≠ 41
theorem Opens.app {x : Nat} {X p : List Nat} (o : Opens x) : ds (p ++ x :: X) = ds p ∧ af (p ++ x :: X) = af p ++ x :: X := ds_app fun c r e => by
  injection e with e _
  rw [← e]
  exact o.1

/-! ## 5. one place for another -/
/-- where both are read alike as a part, they are read alike behind anything -/
theorem Sz.swap {x y : Nat} {X Y : List Nat} (ox : Opens x) (oy : Opens y) (hXY : ∀ n r, Sz true (x :: X) n r → Sz true (y :: Y) n r) {b l n r} (h : Sz b l n r) :
    ∀ A, l = A ++ x :: X → Sz b (A ++ y :: Y) n r ∨ ∃ p, r = p ++ x :: X ∧ Sz b (A ++ y :: Y) n (p ++ y :: Y) := by
  induction h with
  | @run c k r hc h3 =>
    intro A e
    cases A with
    | nil =>
      refine .inl (hXY _ _ ?_)
      rw [List.nil_append] at e
      rw [← e]
      exact .run hc h3
    | cons a A =>
      rw [List.cons_append] at e
      injection e with e1 e2
      subst e1 e2
      obtain ⟨d1, d2⟩ := ox.app (X := X) (p := A)
      obtain ⟨d3, d4⟩ := oy.app (X := Y) (p := A)
      refine .inr ⟨af A, d2, ?_⟩
      rw [← d4]
      show Sz true (_ :: (A ++ y :: Y)) _ _
      exact .run hc (by rw [d3, ← d1]; exact h3)
  | @hash r r2 h =>
    intro A e
    cases A with
    | nil =>
      refine .inl (hXY _ _ ?_)
      rw [List.nil_append] at e
      rw [← e]
      exact .hash h
    | cons a A =>
      rw [List.cons_append] at e
      injection e with e1 e2
      subst e1 e2
      obtain ⟨d1, d2⟩ := ox.app (X := X) (p := A)
      obtain ⟨d3, d4⟩ := oy.app (X := Y) (p := A)
      rw [d2] at h
      cases q : af A with
      | nil =>
        rw [q] at h
        injection h with h _
        exact absurd h ox.2.2.1
      | cons u p =>
        rw [q] at h
        injection h with h1 h2
        refine .inr ⟨p, h2.symm, ?_⟩
        rw [d1, ← d3]
        show Sz true (35 :: (A ++ y :: Y)) _ _
        exact .hash (by rw [d4, q, h1] <;> rfl)
  | @again l n k r h hd h3 ih =>
    intro A e
    cases A with
    | nil =>
      refine .inl (hXY _ _ ?_)
      rw [List.nil_append] at e
      rw [← e]
      exact .again h hd h3
    | cons a A =>
      rw [List.cons_append] at e
      injection e with e1 e2
      subst e1
      rcases ih A e2 with i | ⟨p, e3, i⟩
      · exact .inl (.again i hd h3)
      · cases p with
        | nil =>
          injection e3 with e3 _
          exact absurd e3.symm ox.2.2.2
        | cons u p =>
          rw [List.cons_append] at e3
          injection e3 with e3 e4
          subst e3 e4
          obtain ⟨d1, d2⟩ := ox.app (X := X) (p := p)
          obtain ⟨d3, d4⟩ := oy.app (X := Y) (p := p)
          refine .inr ⟨af p, d2, ?_⟩
          rw [← d4]
          exact .again i (by rw [d3, ← d1]; exact hd) (by rw [d3, ← d1]; exact h3)
  | @one l n r h hr ih =>
    intro A e
    rcases ih A e with i | ⟨p, e3, i⟩
    · exact .inl (.one i hr)
    · refine .inr ⟨p, e3, .one i ?_⟩
      cases p with
      | nil =>
        intro q
        exact oy.2.1 (Option.some.inj q)
      | cons u p =>
        rw [e3] at hr
        exact hr
  | @more l n r m r2 h1 h2 ih1 ih2 =>
    intro A e
    rcases ih1 A e with i | ⟨p, e3, i⟩
    · exact .inl (.more i h2)
    · cases p with
      | nil =>
        injection e3 with e3 _
        exact absurd e3.symm ox.2.1
      | cons u p =>
        rw [List.cons_append] at e3
        injection e3 with e3 e4
        subst e3
        rcases ih2 p e4 with j | ⟨p2, e5, j⟩
        · exact .inl (.more i j)
        · exact .inr ⟨p2, e5, .more i j⟩
theorem Sz.swap_end {x y : Nat} {X Y A : List Nat} {n : Nat} (ox : Opens x) (oy : Opens y) (hXY : ∀ n r, Sz true (x :: X) n r → Sz true (y :: Y) n r) (h : Sz false (A ++ x :: X) n []) : Sz false (A ++ y :: Y) n [] := by
  rcases h.swap ox oy hXY A rfl with h | ⟨p, e, _⟩
  · exact h
  · exact absurd (congrArg List.length e) (by rw [List.length_append]; simp)

/-- behind what is no part nothing is read to the end -/
theorem Sz.stuck {x : Nat} {X : List Nat} (ox : Opens x) (hX : ∀ n r, Sz true (x :: X) n r → ∃ c s, r = c :: s ∧ c ≠ 32 ∧ c ≠ 41) {b l n r} (h : Sz b l n r) :
    ∀ A, l = A ++ x :: X → (∃ p, r = p ++ x :: X) ∨ ∃ c s, r = c :: s ∧ c ≠ 32 ∧ c ≠ 41 := by
  induction h with
  | @run c k r hc h3 =>
    intro A e
    cases A with
    | nil =>
      rw [List.nil_append] at e
      refine .inr (hX k _ ?_)
      rw [← e]
      exact .run hc h3
    | cons a A =>
      rw [List.cons_append] at e
      injection e with e1 e2
      subst e2
      exact .inl ⟨af A, (ox.app).2⟩
  | @hash r r2 h =>
    intro A e
    cases A with
    | nil =>
      rw [List.nil_append] at e
      refine .inr (hX (digitsVal (ds r)) _ ?_)
      rw [← e]
      exact .hash h
    | cons a A =>
      rw [List.cons_append] at e
      injection e with e1 e2
      subst e2
      rw [(ox.app).2] at h
      cases q : af A with
      | nil =>
        rw [q] at h
        injection h with h _
        exact absurd h ox.2.2.1
      | cons u p =>
        rw [q] at h
        injection h with h1 h2
        exact .inl ⟨p, h2.symm⟩
  | @again l n k r h hd h3 ih =>
    intro A e
    cases A with
    | nil =>
      rw [List.nil_append] at e
      refine .inr (hX (n * k) _ ?_)
      rw [← e]
      exact .again h hd h3
    | cons a A =>
      rw [List.cons_append] at e
      injection e with e1 e2
      rcases ih A e2 with ⟨p, e3⟩ | ⟨c, s, e3, h1, h2⟩
      · cases p with
        | nil =>
          injection e3 with e3 _
          exact absurd e3.symm ox.2.2.2
        | cons u p =>
          rw [List.cons_append] at e3
          injection e3 with e3 e4
          subst e4
          exact .inl ⟨af p, (ox.app).2⟩
      · injection e3 with e3 _
        exact absurd e3.symm h2
  | @one l n r h hr ih => exact ih
  | @more l n r m r2 h1 h2 ih1 ih2 =>
    intro A e
    rcases ih1 A e with ⟨p, e3⟩ | ⟨c, s, e3, h1, h2⟩
    · cases p with
      | nil =>
        injection e3 with e3 _
        exact absurd e3.symm ox.2.1
      | cons u p =>
        rw [List.cons_append] at e3
        injection e3 with e3 e4
        exact ih2 p e4
    · injection e3 with e3 _
      exact absurd e3.symm h1
theorem Sz.stuck_end {x : Nat} {X A : List Nat} {n : Nat} (ox : Opens x) (hX : ∀ n r, Sz true (x :: X) n r → ∃ c s, r = c :: s ∧ c ≠ 32 ∧ c ≠ 41) : ¬ Sz false (A ++ x :: X) n [] := fun h => by
  rcases h.stuck ox hX A rfl with ⟨p, e⟩ | ⟨c, s, e, _⟩
  · exact absurd (congrArg List.length e) (by rw [List.length_append]; simp)
  · cases e
/-- a place right behind something that is no opening bracket and no blank is not read -/
theorem last_suffix {p q : List Nat} {z : Nat} (h : (p ++ q).getLast? = some z) (hq : q ≠ []) : q.getLast? = some z := by
  rw [List.getLast?_append] at h
  cases e : q.getLast? with
  | none => exact absurd (List.getLast?_eq_none_iff.mp e) hq
  | some y => rw [e] at h; exact h
theorem Sz.glued {x : Nat} {X : List Nat} (ox : Opens x) {b l n r} (h : Sz b l n r) :
    ∀ A z, l = A ++ x :: X → A.getLast? = some z → z ≠ 32 → z ≠ 40 → ∃ p, r = p ++ x :: X ∧ (p = [] ∨ p.getLast? = some z) := by
  have sub : ∀ (A : List Nat) (z : Nat), (A = [] ∨ A.getLast? = some z) → (af A = [] ∨ (af A).getLast? = some z) := fun A z h => by
    by_cases e : af A = []
    · exact .inl e
    · refine .inr ?_
      rcases h with h | h
      · rw [h] at e; exact absurd rfl e
      · rw [← ds_append_af A] at h
        exact last_suffix h e
  have tl : ∀ (a : Nat) (A : List Nat) (z : Nat), (a :: A).getLast? = some z → (A = [] ∨ A.getLast? = some z) := fun a A z h => by
    by_cases e : A = []
    · exact .inl e
    · exact .inr (last_suffix (p := [a]) h e)
  induction h with
  | @run c k r hc h3 =>
    intro A z e hz h1 h2
    cases A with
    | nil => cases hz
    | cons a A =>
      rw [List.cons_append] at e
      injection e with e1 e2
      subst e2
      exact ⟨af A, (ox.app).2, sub A z (tl a A z hz)⟩
  | @hash r r2 h =>
    intro A z e hz h1 h2
    cases A with
    | nil => cases hz
    | cons a A =>
      rw [List.cons_append] at e
      injection e with e1 e2
      subst e2
      rw [(ox.app).2] at h
      have s := sub A z (tl a A z hz)
      cases q : af A with
      | nil =>
        rw [q] at h
        injection h with h _
        exact absurd h ox.2.2.1
      | cons u p =>
        rw [q] at h s
        injection h with h1 h2
        refine ⟨p, h2.symm, ?_⟩
        rcases s with s | s
        · cases s
        · exact tl u p z s
  | @again l n k r h hd h3 ih =>
    intro A z e hz h1 h2
    cases A with
    | nil => cases hz
    | cons a A =>
      rw [List.cons_append] at e
      injection e with e1 e2
      have hA : A.getLast? = some z := by
        rcases tl a A z hz with q | q
        · subst q
          exact absurd ((Option.some.inj hz).symm.trans e1.symm) h2
        · exact q
      obtain ⟨p, e3, hp⟩ := ih A z e2 hA h1 h2
      cases p with
      | nil =>
        injection e3 with e3 _
        exact absurd e3.symm ox.2.2.2
      | cons u p =>
        rw [List.cons_append] at e3
        injection e3 with e3 e4
        subst e4
        rcases hp with hp | hp
        · cases hp
        · exact ⟨af p, (ox.app).2, sub p z (tl u p z hp)⟩
  | @one l n r h hr ih => exact ih
  | @more l n r m r2 h1 h2 ih1 ih2 =>
    intro A z e hz k1 k2
    obtain ⟨p, e3, hp⟩ := ih1 A z e hz k1 k2
    cases p with
    | nil =>
      injection e3 with e3 _
      exact absurd e3.symm ox.2.1
    | cons u p =>
      rw [List.cons_append] at e3
      injection e3 with e3 e4
      rcases hp with hp | hp
      · cases hp
      · rcases tl u p z hp with q | q
        · subst q
          exact absurd ((Option.some.inj hp).symm.trans e3.symm) k1
        · exact ih2 p z e4 q k1 k2
theorem Sz.glued_end {x z : Nat} {X A : List Nat} {n : Nat} (ox : Opens x) (hz : A.getLast? = some z) (h1 : z ≠ 32) (h2 : z ≠ 40) : ¬ Sz false (A ++ x :: X) n [] := fun h => by
  obtain ⟨p, e, _⟩ := h.glued ox A z rfl hz h1 h2
  exact absurd (congrArg List.length e) (by rw [List.length_append]; simp)

/-- without an opening bracket a closing one is never passed; without # a ! never -/
theorem Sz.keeps41 {b l n r} (h : Sz b l n r) : 40 ∉ l → 41 ∈ l → 41 ∈ r := by
  have dg : ∀ s : List Nat, 41 ∈ s → 41 ∈ af s := fun s hs => by
    rw [← ds_append_af s] at hs
    rcases List.mem_append.mp hs with q | q
    · have := ds_all 41 q; omega
    · exact q
  induction h with
  | @run c k r hc h3 =>
    intro _ hm
    rcases List.mem_cons.mp hm with q | q
    · rw [← q] at hc; exact absurd hc (by decide)
    · exact dg _ q
  | @hash r r2 h =>
    intro _ hm
    rcases List.mem_cons.mp hm with q | q
    · cases q
    · have := dg _ q
      rw [h] at this
      rcases List.mem_cons.mp this with q | q
      · cases q
      · exact q
  | again _ _ _ _ => intro h; exact absurd (List.mem_cons_self) h
  | one _ _ ih => exact ih
  | @more l n r m r2 h1 h2 ih1 ih2 =>
    intro h hm
    obtain ⟨p, e⟩ := h1.suffix
    refine ih2 (fun z => not_mem_suffix e h (List.mem_cons_of_mem _ z)) ?_
    rcases List.mem_cons.mp (ih1 h hm) with q | q
    · cases q
    · exact q
theorem Sz.keeps33 {b l n r} (h : Sz b l n r) : 35 ∉ l → 33 ∈ l → 33 ∈ r := by
  have dg : ∀ s : List Nat, 33 ∈ s → 33 ∈ af s := fun s hs => by
    rw [← ds_append_af s] at hs
    rcases List.mem_append.mp hs with q | q
    · have := ds_all 33 q; omega
    · exact q
  induction h with
  | @run c k r hc h3 =>
    intro _ hm
    rcases List.mem_cons.mp hm with q | q
    · rw [← q] at hc; exact absurd hc (by decide)
    · exact dg _ q
  | hash _ => intro h; exact absurd (List.mem_cons_self) h
  | @again l n k r h _ _ ih =>
    intro hh hm
    rcases List.mem_cons.mp hm with q | q
    · cases q
    · have := ih (fun z => hh (List.mem_cons_of_mem _ z)) q
      rcases List.mem_cons.mp this with q | q
      · cases q
      · exact dg _ q
  | one _ _ ih => exact ih
  | @more l n r m r2 h1 h2 ih1 ih2 =>
    intro h hm
    obtain ⟨p, e⟩ := h1.suffix
    refine ih2 (fun z => not_mem_suffix e h (List.mem_cons_of_mem _ z)) ?_
    rcases List.mem_cons.mp (ih1 h hm) with q | q
    · cases q
    · exact q

/-! ## 6. flat texts, word by word -/
def cut32 : List Nat → List (List Nat)
  | [] => [[]]
  | c :: r => if c = 32 then [] :: cut32 r else match cut32 r with
    | w :: ws => (c :: w) :: ws
    | [] => [[c]]
theorem cut32_cons {c : Nat} (r : List Nat) (h : c ≠ 32) : cut32 (c :: r) = match cut32 r with
    | w :: ws => (c :: w) :: ws
    | [] => [[c]] := if_neg h
theorem cut32_ne (l : List Nat) : cut32 l ≠ [] := by
  cases l with
  | nil => exact List.cons_ne_nil _ _
  | cons c r =>
    unfold cut32
    split
    · exact List.cons_ne_nil _ _
    · split <;> exact List.cons_ne_nil _ _
theorem cut32_word {w : List Nat} (h : 32 ∉ w) : cut32 w = [w] := by
  induction w with
  | nil => rfl
  | cons c r ih =>
    have h1 : c ≠ 32 := fun e => h (by rw [e]; exact List.mem_cons_self)
    unfold cut32
    rw [if_neg h1, ih fun z => h (List.mem_cons_of_mem _ z)]
theorem cut32_app {w : List Nat} (h : 32 ∉ w) (r : List Nat) : cut32 (w ++ 32 :: r) = w :: cut32 r := by
  induction w with
  | nil => rfl
  | cons c s ih =>
    have h1 : c ≠ 32 := fun e => h (by rw [e]; exact List.mem_cons_self)
    show cut32 (c :: (s ++ 32 :: r)) = _
    rw [cut32_cons _ h1, ih fun z => h (List.mem_cons_of_mem _ z)]
theorem cut_cases (l : List Nat) : (32 ∉ l) ∨ ∃ w r, l = w ++ 32 :: r ∧ 32 ∉ w := by
  induction l with
  | nil => exact .inl (by simp)
  | cons c l ih =>
    by_cases h : c = 32
    · exact .inr ⟨[], l, by rw [h] <;> rfl, by simp⟩
    · rcases ih with i | ⟨w, r, e, i⟩
      · exact .inl (by simp; exact ⟨fun z => h z.symm, i⟩)
      · exact .inr ⟨c :: w, r, by rw [e] <;> rfl, by simp; exact ⟨fun z => h z.symm, i⟩⟩
theorem spl_cut (l : List Nat) : ∀ acc, TL.spl [32] 0 acc l = match cut32 l with | w :: ws => (acc ++ w) :: ws | [] => [] := by
  induction l with
  | nil => intro acc; rw [TL.spl_nil]; show [acc] = [acc ++ []]; rw [List.append_nil]
  | cons c r ih =>
    intro acc
    by_cases h : c = 32
    · have hp : TL.pre [32] (c :: r) = true := by rw [h]; exact TL.pre_self [32] r
      rw [TL.spl_hit hp]
      unfold cut32
      rw [if_pos h]
      show acc :: TL.spl [32] 0 [] r = (acc ++ []) :: cut32 r
      rw [ih [], List.append_nil]
      cases q : cut32 r with
      | nil => exact absurd q (cut32_ne r)
      | cons w ws => rfl
    · rw [TL.spl_miss (TL.pre_of_head [] r h), ih, cut32_cons r h]
      cases q : cut32 r with
      | nil => exact absurd q (cut32_ne r)
      | cons w ws =>
        show (acc ++ [c] ++ w) :: ws = (acc ++ c :: w) :: ws
        rw [List.append_assoc] <;> rfl
theorem spl_eq (l : List Nat) : TL.spl [32] 0 [] l = cut32 l := by
  rw [spl_cut]
  cases q : cut32 l with
  | nil => exact absurd q (cut32_ne l)
  | cons w ws => rfl

def lawCount (w : List Nat) : Option Nat := if w.all dig = true then cnt3 w else none
def wordV : List Nat → Option Nat
  | [] => none
  | c :: r => if c = 35 then some (digitsVal r.dropLast) else if low c = true then lawCount r else none
def flatW : List (List Nat) → Option Nat
  | [] => some 0
  | w :: ws => match wordV w with
    | none => none
    | some a => match flatW ws with
      | none => none
      | some b => some (a + b)
def sumV : Nat → List (List Nat) → Option Nat
  | t, [] => some t
  | t, w :: ws => match wordV w with
    | none => none
    | some a => sumV (t + a) ws
theorem sumV_flatW : ∀ (ws : List (List Nat)) (t : Nat), sumV t ws = match flatW ws with | none => none | some b => some (t + b)
  | [], t => rfl
  | w :: ws, t => by
    unfold sumV flatW
    cases wordV w with
    | none => rfl
    | some a =>
      show sumV (t + a) ws = _
      rw [sumV_flatW ws]
      cases flatW ws with
      | none => rfl
      | some b => show some (t + a + b) = some (t + (a + b)); rw [Nat.add_assoc]
def Stop (l : List Nat) : Prop := ∀ c r, l = c :: r → c = 32 ∨ c = 41
/-- a word that begins with # is #n! -/
def WordOk (w : List Nat) : Prop := ∀ r, w = 35 :: r → ∃ n, r = numL n ++ [33]
theorem all_dig {w : List Nat} (h : w.all dig = true) : AllDigits w := fun c hc => dig_iff.mp (List.all_eq_true.mp h c hc)
theorem numL_ds (n : Nat) (z : List Nat) : ds (numL n ++ 33 :: z) = numL n ∧ af (numL n ++ 33 :: z) = 33 :: z := by
  obtain ⟨a, b⟩ := ds_app (p := numL n) (z := 33 :: z) fun c r e => by injection e with e _; rw [← e] <;> rfl
  obtain ⟨c, d⟩ := ds_of_all (TL.numL_digits n)
  exact ⟨a.trans c, by rw [b, d] <;> rfl⟩
theorem word_sz {w Z : List Nat} (h32 : 32 ∉ w) (h40 : 40 ∉ w) (h41 : 41 ∉ w) (ok : WordOk w) (hZ : Stop Z) :
    (∀ v, wordV w = some v → Sz true (w ++ Z) v Z) ∧ (∀ v r, Sz true (w ++ Z) v r → Stop r → r = Z ∧ wordV w = some v) := by
  cases w with
  | nil =>
    refine ⟨fun v h => (nomatch h), fun v r h _ => ?_⟩
    rw [List.nil_append] at h
    cases h with
    | run hc _ => rcases hZ _ _ rfl with q | q <;> (rw [q] at hc; exact absurd hc (by decide))
    | hash _ => rcases hZ _ _ rfl with q | q <;> cases q
    | again _ _ _ => rcases hZ _ _ rfl with q | q <;> cases q
  | cons c s =>
    have s32 : 32 ∉ s := fun z => h32 (List.mem_cons_of_mem _ z)
    have s41 : 41 ∉ s := fun z => h41 (List.mem_cons_of_mem _ z)
    by_cases hc : c = 35
    · subst hc
      obtain ⟨n, rfl⟩ := ok s rfl
      obtain ⟨d1, d2⟩ := numL_ds n Z
      have e : (35 :: (numL n ++ [33])) ++ Z = 35 :: (numL n ++ 33 :: Z) := by simp
      have ev : wordV (35 :: (numL n ++ [33])) = some n := by
        show (if (35 : Nat) = 35 then some (digitsVal (numL n ++ [33]).dropLast) else (if low 35 = true then lawCount (numL n ++ [33]) else none)) = some n
        rw [if_pos rfl, List.dropLast_concat, TL.numL_val]
      have hs : Sz true (35 :: (numL n ++ 33 :: Z)) n Z := by
        have := Sz.hash (r := numL n ++ 33 :: Z) (r2 := Z) d2
        rw [d1, TL.numL_val] at this
        exact this
      rw [e, ev]
      refine ⟨fun v h => by cases h; exact hs, fun v r h _ => ?_⟩
      cases h with
      | run hc _ => exact absurd hc (by decide)
      | hash h =>
        rw [d2] at h
        rw [d1, TL.numL_val]
        injection h with _ h
        exact ⟨h.symm, rfl⟩
    · have e : (c :: s) ++ Z = c :: (s ++ Z) := rfl
      have ev : wordV (c :: s) = if low c = true then lawCount s else none := if_neg hc
      have hzd : ∀ a b, Z = a :: b → dig a = false := fun a b e => by
        rcases hZ a b e with q | q <;> (rw [q] <;> rfl)
      obtain ⟨d1, d2⟩ := ds_app (p := s) (z := Z) hzd
      rw [e, ev]
      constructor
      · intro v h
        by_cases hl : low c = true
        · rw [if_pos hl] at h
          unfold lawCount at h
          by_cases ha : s.all dig = true
          · rw [if_pos ha] at h
            obtain ⟨d3, d4⟩ := ds_of_all (all_dig ha)
            have := Sz.run (c := c) (k := v) (r := s ++ Z) hl (by rw [d1, d3]; exact h)
            rw [d2, d4] at this
            exact this
          · rw [if_neg ha] at h; cases h
        · rw [if_neg hl] at h; cases h
      · intro v r h hr
        cases h with
        | run hl h3 =>
          rw [d2] at hr ⊢
          rw [d1] at h3
          cases q : af s with
          | cons u p =>
            exfalso
            rw [q] at hr
            have hu : u ∈ s := by
              rw [← ds_append_af s, q]
              exact List.mem_append_right _ List.mem_cons_self
            rcases hr u _ rfl with z | z
            · exact s32 (z ▸ hu)
            · exact s41 (z ▸ hu)
          | nil =>
            have e2 : ds s = s := by
              have := ds_append_af s
              rw [q, List.append_nil] at this
              exact this
            refine ⟨rfl, ?_⟩
            rw [if_pos hl]
            unfold lawCount
            rw [if_pos ?_, ← h3, e2]
            rw [← e2]
            exact List.all_takeWhile
        | hash _ => exact absurd rfl hc
        | again _ _ _ => exact absurd List.mem_cons_self h40
theorem stop32 (r : List Nat) : Stop (32 :: r) := fun c s e => by injection e with e _; exact .inl e.symm
theorem not_mem_parts {c : Nat} {w r : List Nat} (h : c ∉ w ++ 32 :: r) : c ∉ w ∧ c ∉ r := ⟨fun z => h (List.mem_append_left _ z), fun z => h (List.mem_append_right _ (List.mem_cons_of_mem _ z))⟩
theorem flat_sz : ∀ (m : Nat) (I : List Nat), I.length ≤ m → ∀ {T : List Nat}, 40 ∉ I → 41 ∉ I → (∀ w ∈ cut32 I, WordOk w) → (∀ c s, T = c :: s → c = 41) →
    (∀ n, flatW (cut32 I) = some n → Sz false (I ++ T) n T) ∧ (∀ n r, Sz false (I ++ T) n r → (∀ c s, r = c :: s → c = 41) → r = T ∧ flatW (cut32 I) = some n)
  | m, I, hm, T, h40, h41, ok, hT => by
    have sT : Stop T := fun c s e => .inr (hT c s e)
    have nT : T.head? ≠ some 32 := fun e => by
      cases T with
      | nil => cases e
      | cons a b =>
        have := hT a b rfl
        rw [this] at e
        cases e
    rcases cut_cases I with h32 | ⟨w, r, rfl, h32⟩
    · rw [cut32_word h32] at ok ⊢
      obtain ⟨a, b⟩ := word_sz h32 h40 h41 (ok I (List.mem_singleton.mpr rfl)) sT
      have ef : flatW [I] = match wordV I with | none => none | some v => some (v + 0) := by
        unfold flatW
        cases wordV I <;> rfl
      constructor
      · intro n h
        rw [ef] at h
        cases q : wordV I with
        | none => rw [q] at h; cases h
        | some v =>
          rw [q] at h
          cases h
          exact .one (a v q) nT
      · intro n r h hr
        rw [ef]
        cases h with
        | one h h32' =>
          obtain ⟨e1, e2⟩ := b _ _ h fun c s e => .inr (hr c s e)
          rw [e2]
          exact ⟨e1, rfl⟩
        | more h1 h2 =>
          obtain ⟨e1, _⟩ := b _ _ h1 (stop32 _)
          rw [← e1] at nT
          exact absurd rfl nT
    · obtain ⟨w40, r40⟩ := not_mem_parts h40
      obtain ⟨w41, r41⟩ := not_mem_parts h41
      rw [cut32_app h32] at ok ⊢
      have e : (w ++ 32 :: r) ++ T = w ++ 32 :: (r ++ T) := by simp
      obtain ⟨a, b⟩ := word_sz (Z := 32 :: (r ++ T)) h32 w40 w41 (ok w List.mem_cons_self) (stop32 _)
      cases m with
      | zero => rw [List.length_append] at hm; simp at hm
      | succ m =>
        obtain ⟨i, j⟩ := flat_sz m r (by rw [List.length_append, List.length_cons] at hm; omega) (T := T) r40 r41 (fun w hw => ok w (List.mem_cons_of_mem _ hw)) hT
        rw [e]
        constructor
        · intro n h
          unfold flatW at h
          cases q : wordV w with
          | none => rw [q] at h; cases h
          | some v =>
            rw [q] at h
            dsimp only at h
            cases q2 : flatW (cut32 r) with
            | none => rw [q2] at h; cases h
            | some u =>
              rw [q2] at h
              cases h
              exact .more (a v q) (i u q2)
        · intro n s h hs
          cases h with
          | one h h32' =>
            obtain ⟨e1, _⟩ := b _ _ h fun c s e => .inr (hs c s e)
            rw [e1] at h32'
            exact absurd rfl h32'
          | more h1 h2 =>
            obtain ⟨e1, e2⟩ := b _ _ h1 (stop32 _)
            injection e1 with _ e1
            subst e1
            obtain ⟨e3, e4⟩ := j _ _ h2 hs
            refine ⟨e3, ?_⟩
            unfold flatW
            rw [e2]
            dsimp only
            rw [e4]
end K32
namespace K32
open PySem
open TL (numL joinL)
open NumText (digitsVal AllDigits)

/-! ## 7. places #n! in a text -/
/-- every # begins #n!, behind nothing, a blank or an opening bracket, ahead of nothing, a blank or a closing one -/
def HashOk (l : List Nat) : Prop := ∀ p q, l = p ++ 35 :: q → ∃ n q2, q = numL n ++ 33 :: q2 ∧ (∀ z, p.getLast? = some z → z = 32 ∨ z = 40) ∧ Stop q2
theorem hashOk_of {l : List Nat} (h : 35 ∉ l) : HashOk l := fun p q e => absurd (by rw [e]; exact List.mem_append_right _ List.mem_cons_self) h
/-- what stands ahead of the first stop -/
theorem stop_inj : ∀ {a b x y : List Nat}, a ++ x = b ++ y → (∀ c ∈ a, c ≠ 32 ∧ c ≠ 41) → (∀ c ∈ b, c ≠ 32 ∧ c ≠ 41) → Stop x → Stop y → a = b ∧ x = y
  | [], [], _, _, e, _, _, _, _ => ⟨rfl, e⟩
  | [], c :: b, x, y, e, _, hb, hx, _ => by
    have h1 := hx c (b ++ y) e
    have h2 := hb c List.mem_cons_self
    rcases h1 with q | q
    · exact absurd q h2.1
    · exact absurd q h2.2
  | c :: a, [], x, y, e, ha, _, _, hy => by
    have h1 := hy c (a ++ x) e.symm
    have h2 := ha c List.mem_cons_self
    rcases h1 with q | q
    · exact absurd q h2.1
    · exact absurd q h2.2
  | c :: a, d :: b, x, y, e, ha, hb, hx, hy => by
    rw [List.cons_append, List.cons_append] at e
    injection e with e1 e2
    obtain ⟨i1, i2⟩ := stop_inj e2 (fun z hz => ha z (List.mem_cons_of_mem _ hz)) (fun z hz => hb z (List.mem_cons_of_mem _ hz)) hx hy
    exact ⟨by rw [e1, i1], i2⟩
theorem mem_cut {w : List Nat} : ∀ (m : Nat) (I : List Nat), I.length ≤ m → w ∈ cut32 I → 32 ∉ w ∧ ∃ p q, I = p ++ w ++ q ∧ (∀ c s, q = c :: s → c = 32)
  | m, I, hm, hw => by
    rcases cut_cases I with h | ⟨v, r, rfl, h⟩
    · rw [cut32_word h] at hw
      obtain rfl := List.mem_singleton.mp hw
      exact ⟨h, [], [], by simp, fun c s e => nomatch e⟩
    · rw [cut32_app h] at hw
      rcases List.mem_cons.mp hw with e | hw
      · subst e
        exact ⟨h, [], 32 :: r, by simp, fun c s e => by injection e with e _; exact e.symm⟩
      · cases m with
        | zero => rw [List.length_append] at hm; simp at hm
        | succ m =>
          obtain ⟨h1, p, q, e, h2⟩ := mem_cut m r (by rw [List.length_append, List.length_cons] at hm; omega) hw
          exact ⟨h1, v ++ 32 :: p, q, by rw [e]; simp, h2⟩
theorem numL_no {n c : Nat} (h : c < 48 ∨ 57 < c) : c ∉ numL n := TL.numL_free h
theorem words_ok {l P I S : List Nat} (e : l = P ++ I ++ S) (hl : HashOk l) (h41 : 41 ∉ I) (hS : ∀ c s, S = c :: s → c = 41) : ∀ w ∈ cut32 I, WordOk w := by
  intro w hw r er
  obtain ⟨h32, p, q, eI, hq⟩ := mem_cut _ I (Nat.le_refl _) hw
  subst er
  have e2 : l = (P ++ p) ++ 35 :: (r ++ (q ++ S)) := by rw [e, eI]; simp
  obtain ⟨n, q2, e3, _, hst⟩ := hl _ _ e2
  have h41w : 41 ∉ (35 :: r : List Nat) := fun z => h41 (by rw [eI]; exact List.mem_append_left _ (List.mem_append_right _ z))
  have e4 : r ++ (q ++ S) = (numL n ++ [33]) ++ q2 := by rw [e3]; simp
  have st : Stop (q ++ S) := fun c s e => by
    cases q with
    | nil => exact .inr (hS c s e)
    | cons a b =>
      rw [List.cons_append] at e
      injection e with e _
      exact .inl (e.symm.trans (hq a b rfl))
  refine ⟨n, (stop_inj e4 (fun c hc => ⟨fun z => h32 ?_, fun z => h41w ?_⟩) (fun c hc => ?_) st hst).1⟩
  · rw [← z]; exact List.mem_cons_of_mem _ hc
  · rw [← z]; exact List.mem_cons_of_mem _ hc
  · rcases List.mem_append.mp hc with hc | hc
    · have := TL.numL_digits n c hc
      omega
    · rw [List.mem_singleton.mp hc]
      omega

/-! ### how great -/
theorem pow_sum {a b x y : Nat} (h1 : x < 10 ^ a) (h2 : y < 10 ^ b) : x + y < 10 ^ (a + 1 + b) := by
  have p1 : 0 < 10 ^ a := Nat.pow_pos (by decide)
  have p2 : 0 < 10 ^ b := Nat.pow_pos (by decide)
  rw [Nat.pow_add, Nat.pow_succ]
  have q1 : 10 ^ a * 10 * 1 ≤ 10 ^ a * 10 * 10 ^ b := Nat.mul_le_mul_left _ p2
  have q2 : 10 ^ b * 1 ≤ 10 ^ b * 10 ^ a := Nat.mul_le_mul_left _ p1
  have q3 : 10 ^ a * 10 * 10 ^ b = 10 * (10 ^ b * 10 ^ a) := by
    rw [Nat.mul_comm (10 ^ a) 10, Nat.mul_assoc, Nat.mul_comm (10 ^ a)]
  have q4 : 10 * 10 ^ a ≤ 10 * (10 ^ b * 10 ^ a) := Nat.mul_le_mul_left _ (Nat.le_mul_of_pos_left _ p2)
  omega
theorem val_lt : ∀ d : List Nat, AllDigits d → digitsVal d < 10 ^ d.length := by
  have gen : ∀ (d : List Nat) (a : Nat), AllDigits d → d.foldl (fun acc c => acc * 10 + (c - 48)) a < (a + 1) * 10 ^ d.length := by
    intro d
    induction d with
    | nil => intro a _; simp
    | cons c r ih =>
      intro a h
      have hc := h c List.mem_cons_self
      have := ih (a * 10 + (c - 48)) fun z hz => h z (List.mem_cons_of_mem _ hz)
      refine Nat.lt_of_lt_of_le this ?_
      rw [List.length_cons, Nat.pow_succ, Nat.mul_comm (10 ^ r.length) 10, ← Nat.mul_assoc]
      exact Nat.mul_le_mul_right _ (by omega)
  intro d h
  have := gen d 0 h
  rw [Nat.zero_add, Nat.one_mul] at this
  exact this
theorem wordV_cons (c : Nat) (r : List Nat) : wordV (c :: r) = if c = 35 then some (digitsVal r.dropLast) else if low c = true then lawCount r else none := rfl
theorem word_lt {w : List Nat} {v : Nat} (ok : WordOk w) (h : wordV w = some v) : v < 10 ^ w.length := by
  cases w with
  | nil => cases h
  | cons c r =>
    rw [wordV_cons] at h
    by_cases hc : c = 35
    · rw [if_pos hc] at h
      obtain ⟨n, rfl⟩ := ok r (by rw [hc])
      rw [List.dropLast_concat] at h
      cases h
      refine Nat.lt_of_lt_of_le (val_lt _ (TL.numL_digits n)) (Nat.pow_le_pow_right (by decide) ?_)
      rw [List.length_cons, List.length_append]
      omega
    · rw [if_neg hc] at h
      by_cases hl : low c = true
      · rw [if_pos hl] at h
        unfold lawCount at h
        by_cases ha : r.all dig = true
        · rw [if_pos ha] at h
          exact (cnt3_some (all_dig ha) h).2.2.2.1
        · rw [if_neg ha] at h; cases h
      · rw [if_neg hl] at h; cases h
theorem flat_lt : ∀ (m : Nat) (I : List Nat), I.length ≤ m → (∀ w ∈ cut32 I, WordOk w) → ∀ n, flatW (cut32 I) = some n → n < 10 ^ I.length
  | m, I, hm, ok, n, h => by
    rcases cut_cases I with h32 | ⟨w, r, rfl, h32⟩
    · rw [cut32_word h32] at ok h
      unfold flatW at h
      cases q : wordV I with
      | none => rw [q] at h; cases h
      | some v =>
        rw [q] at h
        cases h
        exact word_lt (ok I (List.mem_singleton.mpr rfl)) q
    · rw [cut32_app h32] at ok h
      cases m with
      | zero => rw [List.length_append] at hm; simp at hm
      | succ m =>
        unfold flatW at h
        cases q : wordV w with
        | none => rw [q] at h; cases h
        | some v =>
          rw [q] at h
          dsimp only at h
          cases q2 : flatW (cut32 r) with
          | none => rw [q2] at h; cases h
          | some u =>
            rw [q2] at h
            cases h
            have h1 := word_lt (ok w List.mem_cons_self) q
            have h2 := flat_lt m r (by rw [List.length_append, List.length_cons] at hm; omega) (fun z hz => ok z (List.mem_cons_of_mem _ hz)) u q2
            have := pow_sum h1 h2
            rw [List.length_append, List.length_cons]
            have e : w.length + (r.length + 1) = w.length + 1 + r.length := by omega
            rw [e]
            exact this

/-! ## 8. one turn of taking out an innermost bracket -/
/-- l = A ( I ) D B, no bracket in I, D all the figures behind -/
structure Inner (l A I D B : List Nat) : Prop where
  e : l = A ++ 40 :: (I ++ 41 :: (D ++ B))
  i40 : 40 ∉ I
  i41 : 41 ∉ I
  dd : AllDigits D
  b : ∀ c r, B = c :: r → dig c = false
def put (A : List Nat) (n : Nat) (B : List Nat) : List Nat := A ++ 35 :: (numL n ++ 33 :: B)
theorem opens40 : Opens 40 := ⟨rfl, by decide, by decide, by decide⟩
theorem opens35 : Opens 35 := ⟨rfl, by decide, by decide, by decide⟩
section
variable {l A I D B : List Nat}
theorem Inner.dsb (h : Inner l A I D B) : ds (D ++ B) = D ∧ af (D ++ B) = B := by
  obtain ⟨a, b⟩ := ds_app (p := D) (z := B) h.b
  obtain ⟨c, d⟩ := ds_of_all h.dd
  exact ⟨a.trans c, by rw [b, d] <;> rfl⟩
theorem Inner.wordsOk (h : Inner l A I D B) (hl : HashOk l) : ∀ w ∈ cut32 I, WordOk w :=
  words_ok (P := A ++ [40]) (S := 41 :: (D ++ B)) (by rw [h.e]; simp) hl h.i41 fun c s e => by injection e with e _; exact e.symm
theorem t41 {X : List Nat} : ∀ c s, 41 :: X = c :: s → c = 41 := fun c s e => by injection e with e _; exact e.symm
/-- what the bracket is read to -/
theorem Inner.part (h : Inner l A I D B) (hl : HashOk l) {n : Nat} {r : List Nat} (s : Sz true (40 :: (I ++ 41 :: (D ++ B))) n r) : r = B ∧ D ≠ [] ∧ ∃ a k, flatW (cut32 I) = some a ∧ cnt3 D = some k ∧ n = a * k := by
  cases s with
  | run hc _ => exact absurd hc (by decide)
  | @again _ a k r s hd hk =>
    obtain ⟨e1, e2⟩ := (flat_sz _ I (Nat.le_refl _) h.i40 h.i41 (h.wordsOk hl) t41).2 _ _ s t41
    injection e1 with _ e1
    subst e1
    obtain ⟨d1, d2⟩ := h.dsb
    rw [d1] at hd hk
    exact ⟨d2, hd, a, k, e2, hk, rfl⟩
theorem Inner.part_of (h : Inner l A I D B) (hl : HashOk l) {a k : Nat} (h1 : flatW (cut32 I) = some a) (h2 : cnt3 D = some k) (h3 : D ≠ []) : Sz true (40 :: (I ++ 41 :: (D ++ B))) (a * k) B := by
  obtain ⟨d1, d2⟩ := h.dsb
  have s := (flat_sz _ I (Nat.le_refl _) h.i40 h.i41 (h.wordsOk hl) (T := 41 :: (D ++ B)) t41).1 a h1
  have := Sz.again (k := k) s (by rw [d1]; exact h3) (by rw [d1]; exact h2)
  rw [d2] at this
  exact this
theorem hash_part {n : Nat} : Sz true (35 :: (numL n ++ 33 :: B)) n B := by
  obtain ⟨d1, d2⟩ := numL_ds n B
  have := Sz.hash (r := numL n ++ 33 :: B) (r2 := B) d2
  rw [d1, TL.numL_val] at this
  exact this
theorem hash_part_of {n m : Nat} {r : List Nat} (s : Sz true (35 :: (numL n ++ 33 :: B)) m r) : r = B ∧ m = n := by
  obtain ⟨d1, d2⟩ := numL_ds n B
  cases s with
  | run hc _ => exact absurd hc (by decide)
  | hash h =>
    rw [d2] at h
    injection h with _ h
    rw [d1, TL.numL_val]
    exact ⟨h.symm, rfl⟩
/-- THE TURN -/
theorem Inner.turn (h : Inner l A I D B) (hl : HashOk l) {a k : Nat} (h1 : flatW (cut32 I) = some a) (h2 : cnt3 D = some k) (h3 : D ≠ []) (n : Nat) : Sz false l n [] ↔ Sz false (put A (a * k) B) n [] := by
  rw [h.e]
  constructor
  · refine Sz.swap_end opens40 opens35 fun n r s => ?_
    obtain ⟨e1, _, a', k', e2, e3, e4⟩ := h.part hl s
    rw [h1] at e2
    rw [h2] at e3
    cases e2
    cases e3
    rw [e1, e4]
    exact hash_part
  · refine Sz.swap_end opens35 opens40 fun n r s => ?_
    obtain ⟨e1, e2⟩ := hash_part_of s
    rw [e1, e2]
    exact h.part_of hl h1 h2 h3
theorem Inner.no_flat (h : Inner l A I D B) (hl : HashOk l) (h1 : flatW (cut32 I) = none ∨ cnt3 D = none ∨ D = []) (n : Nat) : ¬ Sz false l n [] := by
  rw [h.e]
  refine Sz.stuck_end opens40 fun n r s => ?_
  obtain ⟨_, h3, a, k, e2, e3, _⟩ := h.part hl s
  rcases h1 with q | q | q
  · rw [q] at e2; cases e2
  · rw [q] at e3; cases e3
  · exact absurd q h3
theorem Inner.no_before (h : Inner l A I D B) {z : Nat} (hz : A.getLast? = some z) (h1 : z ≠ 32) (h2 : z ≠ 40) (n : Nat) : ¬ Sz false l n [] := by
  rw [h.e]
  exact Sz.glued_end opens40 hz h1 h2
theorem Inner.no_behind (h : Inner l A I D B) (hl : HashOk l) {c : Nat} {s : List Nat} (hB : B = c :: s) (h1 : c ≠ 32) (h2 : c ≠ 41) (n : Nat) : ¬ Sz false l n [] := by
  rw [h.e]
  refine Sz.stuck_end opens40 fun n r s' => ?_
  obtain ⟨e, _⟩ := h.part hl s'
  exact ⟨c, s, e.trans hB, h1, h2⟩
theorem no_close {l A R : List Nat} (e : l = A ++ 40 :: R) (h : 41 ∉ R) (n : Nat) : ¬ Sz false l n [] := by
  rw [e]
  refine Sz.stuck_end opens40 fun n r s => ?_
  cases s with
  | run hc _ => exact absurd hc (by decide)
  | again s _ _ =>
    obtain ⟨p, q⟩ := s.suffix
    exact absurd (by rw [q]; exact List.mem_append_right _ List.mem_cons_self) h
theorem no_open {l : List Nat} (h : 40 ∉ l) (h2 : 41 ∈ l) (n : Nat) : ¬ Sz false l n [] := fun s => by cases s.keeps41 h h2
theorem no_bang {l : List Nat} (h : 35 ∉ l) (h2 : 33 ∈ l) (n : Nat) : ¬ Sz false l n [] := fun s => by cases s.keeps33 h h2
/-- the end: no bracket is left -/
theorem flat_end {l : List Nat} (hl : HashOk l) (h40 : 40 ∉ l) (h41 : 41 ∉ l) (n : Nat) : flatW (cut32 l) = some n ↔ Sz false l n [] := by
  have ok := words_ok (P := []) (I := l) (S := []) (by simp) hl h41 (fun c s e => nomatch e)
  obtain ⟨a, b⟩ := flat_sz _ l (Nat.le_refl _) (T := []) h40 h41 ok (fun c s e => nomatch e)
  rw [List.append_nil] at a b
  exact ⟨a n, fun h => (b n [] h fun c s e => nomatch e).2⟩
theorem end_ok {l : List Nat} (hl : HashOk l) (h41 : 41 ∉ l) : ∀ w ∈ cut32 l, WordOk w := words_ok (P := []) (I := l) (S := []) (by simp) hl h41 (fun c s e => nomatch e)
/-- the new text: its places, its length, its brackets -/
theorem Inner.put_ok (h : Inner l A I D B) (hl : HashOk l) (h3 : D ≠ []) (hA : ∀ z, A.getLast? = some z → z = 32 ∨ z = 40) (hB : Stop B) (n : Nat) : HashOk (put A n B) := by
  intro p q e
  unfold put at e
  rcases List.append_eq_append_iff.mp e with ⟨a, e1, e2⟩ | ⟨a, e1, e2⟩
  · -- p = A ++ a
    cases a with
    | nil =>
      rw [List.append_nil] at e1
      rw [List.nil_append] at e2
      injection e2 with _ e2
      refine ⟨n, B, e2.symm, ?_, hB⟩
      rw [e1]
      exact hA
    | cons u a =>
      rw [List.cons_append] at e2
      injection e2 with e2 e3
      subst e2
      rcases List.append_eq_append_iff.mp e3 with ⟨c, e4, e5⟩ | ⟨c, e4, e5⟩
      · -- a = numL n ++ c, 33 :: B = c ++ 35 :: q
        cases c with
        | nil => injection e5 with e5 _; cases e5
        | cons v c =>
          rw [List.cons_append] at e5
          injection e5 with e5 e6
          -- B = c ++ 35 :: q
          have e7 : l = (A ++ 40 :: (I ++ 41 :: (D ++ c))) ++ 35 :: q := by rw [h.e, e6]; simp
          obtain ⟨m, q2, e8, hp, hst⟩ := hl _ _ e7
          refine ⟨m, q2, e8, ?_, hst⟩
          cases c with
          | nil =>
            exfalso
            obtain ⟨y, hy⟩ : ∃ y, D.getLast? = some y := by
              cases q : D.getLast? with
              | none => exact absurd (List.getLast?_eq_none_iff.mp q) h3
              | some y => exact ⟨y, rfl⟩
            have hD : y ∈ D := List.mem_of_getLast? hy
            have := h.dd y hD
            have e9 : (A ++ 40 :: (I ++ 41 :: (D ++ []))).getLast? = some y := by
              rw [List.append_nil]
              have : A ++ 40 :: (I ++ 41 :: D) = (A ++ 40 :: (I ++ [41])) ++ D := by simp
              rw [this, List.getLast?_append, hy] <;> rfl
            rcases hp y e9 with q | q <;> omega
          | cons u2 c =>
            intro z hz
            refine hp z ?_
            have e9 : (A ++ 35 :: a).getLast? = some z := by rw [← e1]; exact hz
            rw [e4] at e9
            have g1 : A ++ 35 :: (numL n ++ v :: u2 :: c) = (A ++ 35 :: (numL n ++ [v])) ++ (u2 :: c) := by simp
            rw [g1] at e9
            have g2 : A ++ 40 :: (I ++ 41 :: (D ++ u2 :: c)) = (A ++ 40 :: (I ++ 41 :: D)) ++ (u2 :: c) := by simp
            have := last_suffix e9 (List.cons_ne_nil _ _)
            rw [g2, List.getLast?_append, this] <;> rfl
      · -- numL n = a ++ c, 35 :: q = c ++ 33 :: B
        exfalso
        cases c with
        | nil => injection e5 with e5 _; cases e5
        | cons v c =>
          rw [List.cons_append] at e5
          injection e5 with e5 _
          have : (35 : Nat) ∈ numL n := by rw [e4, ← e5]; exact List.mem_append_right _ List.mem_cons_self
          exact numL_no (.inl (by decide)) this
  · -- A = p ++ a, 35 :: q = a ++ 35 :: ..
    cases a with
    | nil =>
      rw [List.append_nil] at e1
      rw [List.nil_append] at e2
      injection e2 with _ e2
      refine ⟨n, B, e2, ?_, hB⟩
      rw [← e1]
      exact hA
    | cons u a =>
      rw [List.cons_append] at e2
      injection e2 with e2 e3
      subst e2
      have e7 : l = p ++ 35 :: (a ++ 40 :: (I ++ 41 :: (D ++ B))) := by rw [h.e, e1]; simp
      obtain ⟨m, q2, e8, hp, hst⟩ := hl _ _ e7
      rcases List.append_eq_append_iff.mp e8 with ⟨c, e4, e5⟩ | ⟨c, e4, e5⟩
      · -- numL m = a ++ c, 40 :: .. = c ++ 33 :: q2
        exfalso
        cases c with
        | nil => injection e5 with e5 _; cases e5
        | cons v c =>
          rw [List.cons_append] at e5
          injection e5 with e5 _
          have : (40 : Nat) ∈ numL m := by rw [e4, ← e5]; exact List.mem_append_right _ List.mem_cons_self
          exact numL_no (.inl (by decide)) this
      · -- a = numL m ++ c, 33 :: q2 = c ++ 40 :: ..
        cases c with
        | nil => injection e5 with e5 _; cases e5
        | cons v c =>
          rw [List.cons_append] at e5
          injection e5 with e5 e6
          subst e5
          refine ⟨m, c ++ 35 :: (numL n ++ 33 :: B), by rw [e3, e4]; simp, hp, ?_⟩
          cases c with
          | nil =>
            rcases hst 40 _ e6 with q | q <;> cases q
          | cons w c =>
            intro x y e9
            rw [List.cons_append] at e9
            injection e9 with e9 _
            rw [← e9]
            exact hst w _ e6
theorem Inner.put_len (h : Inner l A I D B) (hl : HashOk l) {a k : Nat} (h1 : flatW (cut32 I) = some a) (h2 : cnt3 D = some k) (h3 : D ≠ []) : (put A (a * k) B).length ≤ l.length ∧ a * k < 10 ^ l.length ∧ k ≤ 999 := by
  have ha := flat_lt _ I (Nat.le_refl _) (h.wordsOk hl) a h1
  obtain ⟨_, _, _, _, hk, hk9⟩ := cnt3_some h.dd h2
  have hk := hk h3
  have hlt : a * k < 10 ^ (I.length + D.length) := by
    rw [Nat.pow_add]
    exact Nat.mul_lt_mul'' ha hk
  have hd : 0 < D.length := List.length_pos_iff.mpr h3
  have hn : (numL (a * k)).length ≤ I.length + D.length := TL.numL_len (by omega) hlt
  refine ⟨?_, Nat.lt_of_lt_of_le hlt (Nat.pow_le_pow_right (by decide) ?_), hk9⟩
  · rw [h.e]
    unfold put
    simp only [List.length_append, List.length_cons]
    omega
  · rw [h.e]
    simp only [List.length_append, List.length_cons]
    omega
theorem Inner.put_count (h : Inner l A I D B) (n : Nat) : (put A n B).count 40 < l.count 40 := by
  rw [h.e]
  unfold put
  have z : (numL n).count 40 = 0 := List.count_eq_zero.mpr (numL_no (.inl (by decide)))
  simp only [List.count_append, List.count_cons, z]
  simp
  omega
end
end K32
namespace K32
open PySem L2
open TL (numL joinL)
open NumText (digitsVal AllDigits)

/-! ## 10. the text's places -/
def top (i : Nat) : Stmt := PySem.Challenge.pw_carpetkin_k32_texts_of_no_fold.main.body.getD i (.Pass ⟨0, 0, 0, 0⟩)
abbrev sShownCount : Stmt := top 8
abbrev sShownFold : Stmt := top 9
abbrev sCountAt : Stmt := top 10
abbrev sPartAt : Stmt := top 11
abbrev sPartsAt : Stmt := top 12
abbrev sSizeOf : Stmt := top 13
abbrev sReadFold : Stmt := top 14
abbrev sCellAt : Stmt := top 16
abbrev sNumber : Stmt := top 17
abbrev sFold : Stmt := top 18
abbrev sUnfolded : Stmt := top 19
abbrev sDrawn : Stmt := top 21
abbrev sShown : Stmt := top 22
abbrev sCount : Stmt := top 23
abbrev sFlat : Stmt := top 24
abbrev sSize : Stmt := top 25
abbrev sRight : Stmt := top 26
abbrev sSpoiled : Stmt := top 27
abbrev sNoText : Stmt := top 28
abbrev sLaw : Stmt := top 29

/-- what the top has written of classes, constants and built-in names -/
structure Cs (K : PySem.W.Frag) (mg : Str → Option Value) (CC C : Addr) : Prop where
  gC : mg "CarpetError" = some (.ref CC)
  gF : mg "NoFold" = some (.ref C)
  xF : PySem.W.excIn K C [.type "ValueError", .type "Exception", .type "BaseException", .type "object"] "ValueError.__new__" = true
  kF : PySem.W.keepIn K (.ref C) = true
  bF : PySem.W.subIn K (.ref C) (.type "BaseException") = some true
  tF : PySem.W.typeIn K (.ref C) = some (.type "type")
  eC : PySem.W.exmOne K (.ref C) (.ref CC) = some true
  eF : PySem.W.exmOne K (.ref C) (.ref C) = some true
  xc : ExcC K C
  iV : PySem.W.kitOne K (.ref C) (.type "ValueError") = some true
  gL : ∃ t, mg "LETTERS" = some (.str "abcdefghijklmnopqrstuvwxyz" t)
  gD : ∃ t, mg "FIGURES" = some (.str "0123456789" t)
  gK : ∃ t, mg "MOST_KNOTS" = some (.int 24 t)
  gM : ∃ t, mg "MOST_DEEP" = some (.int 12 t)
  len : mg "len" = none
  int : mg "int" = none
  str : mg "str" = none
  isi : mg "isinstance" = none
  range : mg "range" = none
  min : mg "min" = none
  max : mg "max" = none
  ve : mg "ValueError" = none

/-! ## 11. texts as lists of signs -/
abbrev S (cs : List Nat) : Str := ⟨cs.toArray⟩
theorem S_tl (z : Str) : S z.cps.toList = z := TL.ext_tl rfl
theorem S_len (l : List Nat) : (S l).length = l.length := List.size_toArray ..
theorem S_app (a b : List Nat) : S a ++ S b = S (a ++ b) := TL.ext_tl (TL.tl_append _ _)
theorem S_inj {a b : List Nat} (h : S a = S b) : a = b := by
  have := congrArg (fun z : Str => z.cps.toList) h
  exact this
theorem S_dec (a b : List Nat) : decide (V.str (S a) = V.str (S b)) = decide (a = b) := by
  by_cases h : a = b
  · rw [h, decide_eq_true rfl, decide_eq_true rfl]
  · rw [decide_eq_false h, decide_eq_false fun e => h (S_inj (V.str.inj e))]
theorem lit_empty : (Str.ofString "" : Str) = S [] := by decide +kernel
theorem lit_blank : (Str.ofString " " : Str) = S [32] := by decide +kernel
theorem lit_open : (Str.ofString "(" : Str) = S [40] := by decide +kernel
theorem lit_close : (Str.ofString ")" : Str) = S [41] := by decide +kernel
theorem lit_hash : (Str.ofString "#" : Str) = S [35] := by decide +kernel
theorem lit_bang : (Str.ofString "!" : Str) = S [33] := by decide +kernel
theorem lit_zero : (Str.ofString "0" : Str) = S [48] := by decide +kernel
theorem lit_one : (Str.ofString "1" : Str) = S [49] := by decide +kernel
theorem in_figures (c : Nat) : decide (c ∈ (Str.ofString "0123456789").cps.toList) = dig c := by
  have e : (Str.ofString "0123456789").cps.toList = [48, 49, 50, 51, 52, 53, 54, 55, 56, 57] := by decide +kernel
  rw [e]
  unfold dig
  rw [Bool.eq_iff_iff]
  simp only [List.mem_cons, List.not_mem_nil, or_false, decide_eq_true_eq, Bool.and_eq_true]
  omega
theorem in_letters (c : Nat) : decide (c ∈ (Str.ofString "abcdefghijklmnopqrstuvwxyz").cps.toList) = low c := by
  have e : (Str.ofString "abcdefghijklmnopqrstuvwxyz").cps.toList = [97, 98, 99, 100, 101, 102, 103, 104, 105, 106, 107, 108, 109, 110, 111, 112, 113, 114, 115, 116, 117, 118, 119, 120, 121, 122] := by decide +kernel
  rw [e]
  unfold low
  rw [Bool.eq_iff_iff]
  simp only [List.mem_cons, List.not_mem_nil, or_false, decide_eq_true_eq, Bool.and_eq_true]
  omega
theorem cut_nat (l : List Nat) (i j : Nat) : cutS (S l) (some (i : Int)) (some (j : Int)) = S ((l.drop i).take (j - i)) := by
  refine TL.ext_tl ?_
  show (l.drop (HT.sIx (S l).length 0 (some (i : Int)))).take (HT.sIx (S l).length (S l).length (some (j : Int)) - HT.sIx (S l).length 0 (some (i : Int))) = (l.drop i).take (j - i)
  rw [HT.sIx_nat, HT.sIx_nat, S_len]
  by_cases h : i ≤ l.length
  · rw [Nat.min_eq_left h]
    refine List.take_eq_take_iff.mpr ?_
    rw [List.length_drop]
    omega
  · rw [List.drop_eq_nil_of_le (show l.length ≤ min i l.length by omega), List.drop_eq_nil_of_le (show l.length ≤ i by omega), List.take_nil, List.take_nil]
theorem cut_one (l : List Nat) (i : Nat) : cutS (S l) (some (i : Int)) (some ((i : Int) + 1)) = S ((l.drop i).take 1) := by
  have e : ((i : Int) + 1) = ((i + 1 : Nat) : Int) := by omega
  rw [e, cut_nat, Nat.add_sub_cancel_left]
theorem cut_from (l : List Nat) (i : Nat) : cutS (S l) (some (i : Int)) none = S (l.drop i) := by
  refine TL.ext_tl ?_
  show (l.drop (HT.sIx (S l).length 0 (some (i : Int)))).take ((S l).length - HT.sIx (S l).length 0 (some (i : Int))) = l.drop i
  rw [HT.sIx_nat, S_len]
  by_cases h : i ≤ l.length
  · rw [Nat.min_eq_left h]
    exact List.take_of_length_le (by rw [List.length_drop] <;> exact Nat.le_refl _)
  · rw [List.drop_eq_nil_of_le (show l.length ≤ min i l.length by omega), List.drop_eq_nil_of_le (show l.length ≤ i by omega), List.take_nil]
theorem cut_to (l : List Nat) (j : Nat) : cutS (S l) none (some (j : Int)) = S (l.take j) := by
  refine TL.ext_tl ?_
  show (l.drop 0).take (HT.sIx (S l).length (S l).length (some (j : Int)) - 0) = l.take j
  rw [HT.sIx_nat, S_len, List.drop_zero, Nat.sub_zero]
  refine List.take_eq_take_iff.mpr ?_
  omega
theorem cut_mid (c : Nat) (w : List Nat) : cutS (S (c :: w)) (some 1) (some (-1)) = S w.dropLast := by
  refine TL.ext_tl ?_
  show ((c :: w).drop (HT.sIx (S (c :: w)).length 0 (some ((1 : Nat) : Int)))).take (HT.sIx (S (c :: w)).length (S (c :: w)).length (some (-1)) - HT.sIx (S (c :: w)).length 0 (some ((1 : Nat) : Int))) = w.dropLast
  rw [HT.sIx_nat, S_len]
  have e : HT.sIx (c :: w).length (c :: w).length (some (-1)) = w.length := by
    show (if (-1 : Int) < 0 then ((-1 : Int) + (((c :: w).length : Nat) : Int)).toNat else min (-1 : Int).toNat (c :: w).length) = w.length
    rw [if_pos (by decide), List.length_cons]
    omega
  rw [e, List.length_cons, show min 1 (w.length + 1) = 1 by omega, List.drop_succ_cons, List.drop_zero, List.dropLast_eq_take]
theorem at_S {l : List Nat} {i c : Nat} (h : l[i]? = some c) : atI (S l).cps.toList (i : Int) = some c := atI_nat h
theorem sz_le {n : Nat} (h : n ≤ 100000) : n ≤ sizeLine := Nat.le_trans h (by decide)
theorem sz_lt {m : Nat} (lt : m < 100000) : m < sizeLine :=
  Nat.lt_of_lt_of_le lt (by decide)
theorem Slen_le {l : List Nat} (h : l.length ≤ 100000) : (S l).length ≤ sizeLine := by rw [S_len]; exact sz_le h
theorem str_num (n : Nat) : (Str.ofString (toString ((n : Nat) : Int)) : Str) = S (numL n) := TL.ext_tl (TL.tl_num n)
set_option exponentiation.threshold 3000 in
theorem log_ok {n : Nat} (h : n < 10 ^ 500) : ((n : Int)).natAbs.log2 < 1920 := by
  rw [Int.natAbs_natCast]
  by_cases h0 : n = 0
  · rw [h0]; decide
  · rw [Nat.log2_lt h0]
    exact Nat.lt_trans h (by decide)
theorem num_lt {n m : Nat} (h : (numL n).length ≤ m) : n < 10 ^ m := by
  have := val_lt (numL n) (TL.numL_digits n)
  rw [TL.numL_val] at this
  exact Nat.lt_of_lt_of_le this (Nat.pow_le_pow_right (by decide) h)
theorem int_digits {d : List Nat} (hd : AllDigits d) (h0 : d ≠ []) (hl : d.length ≤ 640) : PySem.intText? (S d) = some ((digitsVal d : Nat) : Int) :=
  PySem.intText_digits (x := S d) hd h0 (by rw [S_len]; omega)

/-! ## 12. small words for readings -/
section
variable {σ : L2.St} {H : Hp} {c t u : TT} {D : Ends} {tb t1 t2 : TS} {b : Bool}
theorem st_if (h : Ans c σ H b) (h1 : b = true → t1 D σ H) (h0 : b = false → t2 D σ H) : tIfS c t1 t2 D σ H := by
  cases b with
  | true => exact st_yes h (h1 rfl)
  | false => exact st_no h (h0 rfl)
theorem while_ix (W : Nat → L2.St → Hp → Prop) (m0 : Nat) (h0 : W m0 σ H)
    (hs : ∀ m σ H, W m σ H → (Ans c σ H true ∧ tb { D with nx := fun σ' H' => ∃ m', m' < m ∧ W m' σ' H', ct := fun σ' H' => ∃ m', m' < m ∧ W m' σ' H', bk := D.nx } σ H) ∨ (Ans c σ H false ∧ D.nx σ H)) : tWhile c tb D σ H := by
  refine ⟨W, ⟨m0, h0⟩, fun m σ H w => ?_⟩
  rcases hs m σ H w with ⟨a, k⟩ | ⟨a, k⟩
  · refine a _ ?_
    show (if true = true then _ else _)
    rw [if_pos rfl]
    exact ⟨_, fun _ _ n => n, k⟩
  · refine a _ ?_
    show (if false = true then _ else _)
    rw [if_neg Bool.false_ne_true]
    exact k
end
theorem same_new {H : Hp} {p : Addr} (h : H p = none) (o : HO) : Same H (upd H p o) := fun b u q => by rw [upd_ne (ne_of_none q h)]; exact q
/-- what was not there may change -/
theorem same_mut {H H' : Hp} {p : Addr} {o : HO} (e : Same H H') (h : H p = none) : Same H (upd H' p o) := fun a u ha => by
  rw [upd_ne (ne_of_none ha h)]
  exact e a u ha
theorem Same.sqt {K : PySem.W.Frag} {H H' : Hp} {a : Addr} {xs : List V} (e : Same H H') (h : SqT K H a xs) : SqT K H' a xs := by
  rcases h with (h | ⟨o, h⟩) | h
  · exact .inl (.inl (e _ _ h))
  · exact .inl (.inr ⟨o, e _ _ h⟩)
  · exact .inr h

/-- what is new in H' -/
def newOf (H H' : Hp) : Hp := fun b => match H b with
  | none => H' b
  | some _ => none
theorem newOf_of {H H' : Hp} {b : Addr} {o : HO} (h : H b = none) (h' : H' b = some o) : newOf H H' b = some o := by
  unfold newOf
  rw [h]
  exact h'
theorem newOf_inv {H H' : Hp} {b : Addr} {o : HO} (h : newOf H H' b = some o) : H b = none ∧ H' b = some o := by
  unfold newOf at h
  cases q : H b with
  | none => rw [q] at h; exact ⟨rfl, h⟩
  | some u => rw [q] at h; cases h
theorem newOf_le {H H' : Hp} : Same (newOf H H') H' := fun b o h => (newOf_inv h).2
theorem newOf_same {H H1 H2 : Hp} (s : Same H1 H2) : Same (newOf H H1) (newOf H H2) := fun b o h => newOf_of (newOf_inv h).1 (s b o (newOf_inv h).2)
theorem newOf_back {H0 H H' : Hp} (s : Same H0 H) : Same (newOf H H') (newOf H0 H') := fun b o h => newOf_of (s.free (newOf_inv h).1) (newOf_inv h).2

/-! ## 13. folds as they lie -/
abbrev vRun : V := .str "run"
abbrev vAgain : V := .str "again"
inductive PartsAt (H : Hp) : List V → Fd → Prop where
  | nil : PartsAt H [] .nil
  | run {t c k vs r} : H t = some (.tup [vRun, .str (S [c]), .int (k : Nat)]) → PartsAt H vs r → PartsAt H (.ref t :: vs) (.run c k r)
  | again {t q k xs i vs r} : H t = some (.tup [vAgain, .int (k : Nat), .ref q]) → 1 ≤ k → H q = some (.lst xs) → PartsAt H xs i → PartsAt H vs r → PartsAt H (.ref t :: vs) (.again k i r)
def FoldAt (H : Hp) (p : Addr) (f : Fd) : Prop := ∃ xs, H p = some (.lst xs) ∧ PartsAt H xs f
theorem PartsAt.same {H H' : Hp} (e : Same H H') {xs : List V} {f : Fd} (h : PartsAt H xs f) : PartsAt H' xs f := by
  induction h with
  | nil => exact .nil
  | run h _ ih => exact .run (e _ _ h) ih
  | again h hk hq _ _ ih1 ih2 => exact .again (e _ _ h) hk (e _ _ hq) ih1 ih2
theorem FoldAt.same {H H' : Hp} (e : Same H H') {p : Addr} {f : Fd} (h : FoldAt H p f) : FoldAt H' p f := by
  obtain ⟨xs, h1, h2⟩ := h
  exact ⟨xs, e _ _ h1, h2.same e⟩
def ItAt (H : Hp) (q : Addr) : It → Prop
  | .run c k => H q = some (.tup [vRun, .str (S [c]), .int (k : Nat)])
  | .again k f => 1 ≤ k ∧ ∃ x, H q = some (.tup [vAgain, .int (k : Nat), .ref x]) ∧ FoldAt H x f
theorem ItAt.same {H H' : Hp} (e : Same H H') {q : Addr} {i : It} (h : ItAt H q i) : ItAt H' q i := by
  cases i with
  | run c k => exact e _ _ h
  | again k f =>
    obtain ⟨hk, x, h1, h2⟩ := h
    exact ⟨hk, x, e _ _ h1, h2.same e⟩
/-- a list of parts, part by part -/
inductive ItsAt (H : Hp) : List V → List It → Prop where
  | nil : ItsAt H [] []
  | cons {q i vs is} : ItAt H q i → ItsAt H vs is → ItsAt H (.ref q :: vs) (i :: is)
theorem ItsAt.same {H H' : Hp} (e : Same H H') {xs : List V} {is : List It} (h : ItsAt H xs is) : ItsAt H' xs is := by
  induction h with
  | nil => exact .nil
  | cons h _ ih => exact .cons (h.same e) ih
theorem ItsAt.snoc {H : Hp} {xs : List V} {is : List It} {q : Addr} {i : It} (h : ItsAt H xs is) (hi : ItAt H q i) : ItsAt H (xs ++ [.ref q]) (is ++ [i]) := by
  induction h with
  | nil => exact .cons hi .nil
  | cons h _ ih => exact .cons h ih
theorem ItsAt.parts {H : Hp} {xs : List V} {is : List It} (h : ItsAt H xs is) : PartsAt H xs (ofL is) := by
  induction h with
  | nil => exact .nil
  | @cons q i vs is h _ ih =>
    cases i with
    | run c k => exact .run h ih
    | again k f =>
      obtain ⟨hk, x, h1, ys, h2, h3⟩ := h
      exact .again h1 hk h2 h3 ih
theorem PartsAt.its {H : Hp} {xs : List V} {f : Fd} (h : PartsAt H xs f) : ∃ is, f = ofL is ∧ ItsAt H xs is := by
  induction h with
  | nil => exact ⟨[], rfl, .nil⟩
  | @run t c k vs r h _ ih =>
    obtain ⟨is, e, q⟩ := ih
    exact ⟨.run c k :: is, by rw [e] <;> rfl, .cons h q⟩
  | @again t q k xs i vs r h hk hq hi _ _ ih =>
    obtain ⟨is, e, z⟩ := ih
    exact ⟨.again k i :: is, by rw [e] <;> rfl, .cons ⟨hk, q, h, xs, hq, hi⟩ z⟩
theorem ItsAt.get {H : Hp} {xs : List V} {is : List It} (h : ItsAt H xs is) : ∀ {i : Nat} {x : V}, xs[i]? = some x → ∃ q j, x = .ref q ∧ is[i]? = some j ∧ ItAt H q j := by
  induction h with
  | nil => intro i x e; cases e
  | @cons q j vs is h _ ih =>
    intro i x e
    cases i with
    | zero => exact ⟨q, j, (Option.some.inj e).symm, rfl, h⟩
    | succ i => exact ih e
theorem ItsAt.length {H : Hp} {xs : List V} {is : List It} (h : ItsAt H xs is) : xs.length = is.length := by
  induction h with
  | nil => rfl
  | cons _ _ ih => rw [List.length_cons, List.length_cons, ih]
theorem take_more {α : Type} {l : List α} {i : Nat} {x : α} (h : l[i]? = some x) : l.take (i + 1) = l.take i ++ [x] := by
  rw [List.take_add_one, h] <;> rfl
theorem take_split {α : Type} {l : List α} {i : Nat} {x : α} (h : l[i]? = some x) : l = l.take i ++ x :: l.drop (i + 1) := by
  have h2 := List.take_append_drop i l
  obtain ⟨hi, e⟩ := List.getElem?_eq_some_iff.mp h
  rw [List.drop_eq_getElem_cons hi, e] at h2
  exact h2.symm
theorem run_ne_again : (V.str "run" : V) ≠ V.str "again" := by decide +kernel
end K32
namespace K32
open PySem L2
open TL (numL joinL)
open NumText (digitsVal AllDigits)

/-! ## 20. count_at -/
def spCa (C : Addr) : Sp := fun vs H Q E => ∃ (l : List Nat) (n : Nat), vs = [.str (S l), .int (n : Nat)] ∧ n ≤ l.length ∧ l.length ≤ 600 ∧
  (cnt2 (ds (l.drop n)) = none → ∀ H', Same H H' → E (.ref C) none H') ∧
  (∀ k, cnt2 (ds (l.drop n)) = some k → ∀ p H', Same H H' → H' p = some (.tup [.int (k : Nat), .int ((n + (ds (l.drop n)).length : Nat))]) → Q (.ref p) H')
section
variable {P : Program} {w : World} {K : PySem.W.Frag} {mg : Str → Option Value} {base : Heap} {CC C : Addr}
theorem scCa : FnScope ["text", "at", "end"] ["text", "at"] (defScope sCountAt) := ⟨rfl, rfl, rfl, by decide +kernel, rfl, by decide +kernel, by decide +kernel⟩
theorem if_yes {p A B : Prop} [Decidable p] (h : p) (a : A) : if decide p = true then A else B := by
  rw [if_pos (decide_eq_true h)]
  exact a
theorem if_no {p A B : Prop} [Decidable p] (h : ¬ p) (b : B) : if decide p = true then A else B := by
  rw [if_neg (by rw [decide_eq_false h]; exact Bool.false_ne_true)]
  exact b
theorem Ans.of {t : TT} {σ : L2.St} {H : Hp} {b b' : Bool} (e : b' = b) (h : ∀ Q : Bool → Hp → Prop, Q b' H → t σ H Q) : Ans t σ H b := by
  subst e
  exact h
theorem get_drop {l : List Nat} {e c : Nat} {q : List Nat} (h : l.drop e = c :: q) : l[e]? = some c := by
  have : (l.drop e)[0]? = some c := by rw [h] <;> rfl
  rw [List.getElem?_drop, Nat.add_zero] at this
  exact this
theorem drop_next {l : List Nat} {e c : Nat} {q : List Nat} (h : l.drop e = c :: q) : l.drop (e + 1) = q := by
  have := congrArg (List.drop 1) h
  rw [List.drop_drop] at this
  exact this
theorem drop_len {l : List Nat} {e c : Nat} {q : List Nat} (h : l.drop e = c :: q) : e < l.length := by
  have := congrArg List.length h
  rw [List.length_drop, List.length_cons] at this
  omega
theorem ok_countAt {f : Addr} {fd : FuncData} (F : Fun K "count_at" "count_at" sCountAt f fd) (T : Cs K mg CC C) : FnOk P w K mg base (L2.CX P w) 1 f fd ["text", "at"] (spCa C) := by
  obtain ⟨tD, gD⟩ := T.gD
  refine F.okX scCa (fun vs H Q E h => ?_) (fun cdv A outer s H vs Q E hr h => ?_)
  · obtain ⟨l, n, rfl, _⟩ := h
    rfl
  obtain ⟨l, n, rfl, hn, hl, kE, kQ⟩ := h
  refine ⟨_, pss_cons (ps_set (i := 2) scCa.nd rfl (.inl rfl) (pv 1))
    (pss_cons (ps_while (passes_of rfl) (PW.pt (pw_and (pt_cmpR op_lt (pv 2) (pe_callB call_len_str rfl T.len PySem.boot_len (pa_cons (pv 0) pa_nil)) (nomark _)) (pw_and1 (pt_cmpR op_in_sign (pe_ix ix_str (pv 0) (pv 2) (fun _ _ => rfl)) (pe_glob (v := .str (Str.ofString "0123456789")) rfl gD ⟨_, rfl⟩) rfl))))
      (pss_one (ps_set (i := 2) scCa.nd rfl (.inl rfl) (pe_op op_add (pv 2) pe_int))))
    (pss_cons (ps_if (pt_cmpR op_eq (pv 2) (pv 1) (nomark _)) (pss_one (ps_ret (pe_tup (pa_cons pe_int (pa_cons (pv 1) pa_nil))))) pss_nil)
    (pss_cons (ps_if (PW.pt (pw_or (pt_cmpR op_eq (pe_ix ix_str (pv 0) (pv 1) (fun _ _ => rfl)) pe_str (nomark _))
        (pw_or (pt_cmpR op_eq (pe_slice sl_str (pv 0) (po_some (pv 1)) (po_some (pv 2))) pe_str (nomark _))
          (pw_or1 (pt_cmpR op_gt (pv 2) (pe_op op_add (pv 1) pe_int) (nomark _))))))
        (pss_one (ps_raise rfl (takes_of rfl rfl rfl rfl) (pmk_own PySem.F.excBase_ValueError T.xF T.gF T.kF (raises_own T.bF T.tF) (by exact rfl)))) pss_nil)
    (pss_one (ps_ret (pe_tup (pa_cons (pe_callTy call_int_str rfl T.int (by decide +kernel) (pa_cons (pe_slice sl_str (pv 0) (po_some (pv 1)) (po_some (pv 2))) pa_nil)) (pa_cons (pv 2) pa_nil)))))))), ?_⟩
  refine ⟨_, rfl, ?_⟩
  refine while_ix (fun m σ H' => ∃ p q, l.drop n = p ++ q ∧ AllDigits p ∧ σ = [some (.str (S l)), some (.int (n : Nat)), some (.int ((n + p.length : Nat)))] ∧ H' = H ∧ m = q.length) (l.drop n).length
    ⟨[], l.drop n, rfl, (fun _ h => nomatch h), rfl, rfl, rfl⟩ ?_
  rintro m σ H' ⟨p, q, e, hp, rfl, rfl, rfl⟩
  have hd : l.drop (n + p.length) = q := by rw [← List.drop_drop, e, List.drop_left]
  have hl2 : (S l).length ≤ sizeLine := Slen_le (by omega)
  have fin : (∀ c r, q = c :: r → dig c = false) → ds (l.drop n) = p := fun h => by
    rw [e, (ds_app h).1, (ds_of_all hp).1]
  by_cases hc : ∃ c r, q = c :: r ∧ dig c = true
  · -- a figure more
    obtain ⟨c, r, rfl, hc⟩ := hc
    have lt := drop_len hd
    refine .inl ⟨?_, ?_⟩
    · intro Q1 q1
      refine ⟨_, rfl, _, rfl, S l, rfl, hl2, _, _, rfl, rfl, _, rfl, ?_⟩
      refine if_yes (by rw [S_len]; omega) ?_
      refine ⟨_, rfl, _, rfl, S l, _, c, rfl, rfl, hl2, at_S (get_drop hd), c, _, rfl, rfl, _, rfl, ?_⟩
      rw [in_figures, hc]
      exact q1
    · refine ⟨_, rfl, _, _, rfl, rfl, r.length, by rw [List.length_cons]; omega, p ++ [c], r, by rw [e, List.append_assoc]; rfl, ?_, ?_, rfl, rfl⟩
      · intro z hz
        rcases List.mem_append.mp hz with hz | hz
        · exact hp z hz
        · rw [List.mem_singleton.mp hz]; exact dig_iff.mp hc
      · show [some (V.str (S l)), some (V.int (n : Nat)), some (V.int (((n + p.length : Nat) : Int) + 1))] = _
        rw [show (((n + p.length : Nat) : Int) + 1) = ((n + (p ++ [c]).length : Nat) : Int) by rw [List.length_append, List.length_singleton]; omega]
  · -- no figure more
    have hf : ∀ c r, q = c :: r → dig c = false := fun c r e => by
      cases h : dig c
      · rfl
      · exact absurd ⟨c, r, e, h⟩ hc
    refine .inr ⟨?_, ?_⟩
    · intro Q1 q1
      refine ⟨_, rfl, _, rfl, S l, rfl, hl2, _, _, rfl, rfl, _, rfl, ?_⟩
      cases q with
      | nil =>
        refine if_no ?_ q1
        have := congrArg List.length hd
        rw [List.length_drop, List.length_nil] at this
        rw [S_len]; omega
      | cons c r =>
        have lt := drop_len hd
        refine if_yes (by rw [S_len]; omega) ?_
        refine ⟨_, rfl, _, rfl, S l, _, c, rfl, rfl, hl2, at_S (get_drop hd), c, _, rfl, rfl, _, rfl, ?_⟩
        rw [in_figures, hf c r rfl]
        exact q1
    · have hds := fin hf
      rw [hds] at kE kQ
      dsimp only [tSeq]
      refine st_if (b := decide (p = [])) ?_ ?_ ?_
      · intro Q1 q1
        refine ⟨_, rfl, _, rfl, rfl, _, rfl, ?_⟩
        rw [show decide (V.int ((n + p.length : Nat) : Int) = V.int ((n : Nat) : Int)) = decide (p = []) from ?_]
        · exact q1
        · rw [Bool.eq_iff_iff]
          simp only [decide_eq_true_eq]
          constructor
          · intro h
            have := V.int.inj h
            exact List.length_eq_zero_iff.mp (by omega)
          · intro h; rw [h] <;> rfl
      · intro h
        have h : p = [] := of_decide_eq_true h
        subst h
        refine ⟨_, rfl, (by show 2 ≤ sizeLine; decide), fun a ha => ?_⟩
        exact kQ 1 rfl a _ (same_new ha _) (by rw [upd_same] <;> rfl)
      · intro h
        have h : p ≠ [] := of_decide_eq_false h
        obtain ⟨c, p2, rfl⟩ : ∃ c p2, p = c :: p2 := by
          cases p with
          | nil => exact absurd rfl h
          | cons c p2 => exact ⟨c, p2, rfl⟩
        have hn0 : l.drop n = c :: (p2 ++ q) := e
        have hc0 := get_drop hn0
        have hcut : cutS (S l) (some ((n : Nat) : Int)) (some ((n + (c :: p2).length : Nat) : Int)) = S (c :: p2) := by
          rw [cut_nat, Nat.add_sub_cancel_left, e, List.take_left]
        dsimp only [tNext]
        refine st_if (b := decide ((c :: p2).head? = some 48 ∨ (c :: p2) = [49] ∨ 2 < (c :: p2).length)) ?_ ?_ ?_
        · by_cases h1 : c = 48
          · refine Ans.to (ans_or1 (Ans.of (b' := decide (V.str (S [c]) = V.str (Str.ofString "0"))) ?_ fun Q1 q1 => ?_)) (b := true) ?_
            · rw [lit_zero, S_dec, h1, decide_eq_true rfl]
            · exact ⟨_, rfl, _, rfl, S l, _, c, rfl, rfl, hl2, at_S hc0, rfl, _, rfl, q1⟩
            · rw [decide_eq_true]
              exact .inl (by rw [h1] <;> rfl)
          · refine ans_or (Ans.of (b' := decide (V.str (S [c]) = V.str (Str.ofString "0"))) ?_ fun Q1 q1 => ?_) ?_
            · rw [lit_zero, S_dec, decide_eq_false fun z => h1 (List.cons.inj z).1]
            · exact ⟨_, rfl, _, rfl, S l, _, c, rfl, rfl, hl2, at_S hc0, rfl, _, rfl, q1⟩
            by_cases h2 : (c :: p2) = [49]
            · refine Ans.to (ans_or1 (Ans.of (b' := decide (V.str (S (c :: p2)) = V.str (Str.ofString "1"))) ?_ fun Q1 q1 => ?_)) (b := true) ?_
              · rw [lit_one, S_dec, h2, decide_eq_true rfl]
              · refine ⟨_, rfl, _, rfl, _, rfl, _, rfl, _, rfl, S l, rfl, hl2, rfl, _, rfl, ?_⟩
                rw [hcut]
                exact q1
              · rw [decide_eq_true]
                exact .inr (.inl h2)
            · refine ans_or (Ans.of (b' := decide (V.str (S (c :: p2)) = V.str (Str.ofString "1"))) ?_ fun Q1 q1 => ?_) ?_
              · rw [lit_one, S_dec, decide_eq_false h2]
              · refine ⟨_, rfl, _, rfl, _, rfl, _, rfl, _, rfl, S l, rfl, hl2, rfl, _, rfl, ?_⟩
                rw [hcut]
                exact q1
              · intro Q1 q1
                refine ⟨_, rfl, _, rfl, _, _, rfl, rfl, _, _, rfl, rfl, _, rfl, ?_⟩
                rw [show decide ((((n : Nat) : Int) + 2) < ((n + (c :: p2).length : Nat) : Int)) = decide ((c :: p2).head? = some 48 ∨ (c :: p2) = [49] ∨ 2 < (c :: p2).length) from ?_]
                · exact q1
                · rw [Bool.eq_iff_iff]
                  simp only [decide_eq_true_eq]
                  constructor
                  · intro h; exact .inr (.inr (by omega))
                  · rintro (h | h | h)
                    · exact absurd (Option.some.inj h) h1
                    · exact absurd h h2
                    · omega
        · intro hb
          have hb := of_decide_eq_true hb
          refine kE ?_ _ (Same.refl _)
          unfold cnt2
          rw [if_neg h, if_pos hb]
        · intro hb
          have hb := of_decide_eq_false hb
          have hk : cnt2 (c :: p2) = some (digitsVal (c :: p2)) := by
            unfold cnt2
            rw [if_neg h, if_neg hb]
          have hlen : (c :: p2).length ≤ 2 := Nat.le_of_not_lt fun z => hb (.inr (.inr z))
          refine ⟨_, rfl, _, rfl, _, rfl, _, rfl, _, rfl, S l, rfl, hl2, _, ((digitsVal (c :: p2) : Nat) : Int), rfl, by rw [hcut]; exact int_digits hp h (by omega), by rw [hcut, S_len]; omega, _, rfl, (by show 2 ≤ sizeLine; decide), fun a ha => ?_⟩
          exact kQ _ hk a _ (same_new ha _) upd_same
end
end K32
namespace K32
open PySem L2
open TL (numL joinL)
open NumText (digitsVal AllDigits)

/-! ## 21. part_at and parts_at -/
def spPa (C : Addr) (d : Nat) : Sp := fun vs H Q E => ∃ (l : List Nat) (n : Nat), vs = [.str (S l), .int (n : Nat), .int (d : Nat)] ∧ n ≤ l.length ∧ l.length ≤ 600 ∧
  (partD d (l.drop n) = none → ∀ H', Same H H' → E (.ref C) none H') ∧
  (∀ i r, partD d (l.drop n) = some (i, r) → ∀ (p q : Addr) (e : Nat) H', Same H H' → H' p = some (.tup [.ref q, .int (e : Nat)]) → ItAt (newOf H H') q i → e ≤ l.length → l.drop e = r → Q (.ref p) H')
def spPs (C : Addr) (d : Nat) : Sp := fun vs H Q E => ∃ (l : List Nat) (n : Nat), vs = [.str (S l), .int (n : Nat), .int (d : Nat)] ∧ n ≤ l.length ∧ l.length ≤ 600 ∧
  (partsP (partD d) (l.drop n) = none → ∀ H', Same H H' → E (.ref C) none H') ∧
  (∀ f r, partsP (partD d) (l.drop n) = some (f, r) → ∀ (p q : Addr) (e : Nat) H', Same H H' → H' p = some (.tup [.ref q, .int (e : Nat)]) → FoldAt (newOf H H') q f → e ≤ l.length → l.drop e = r → Q (.ref p) H')
theorem partD_run {d : Nat} {l : List Nat} (h : l.head? ≠ some 40 ∨ d = 0) : partD d l = runP l := by
  cases d with
  | zero => rfl
  | succ d =>
    have h : l.head? ≠ some 40 := by
      rcases h with h | h
      · exact h
      · cases h
    exact if_neg h
theorem partD_again {d : Nat} {l : List Nat} (h : l.head? = some 40) : partD (d + 1) l = againP (partsP (partD d) (l.drop 1)) := if_pos h
theorem take1 {m : List Nat} {c : Nat} : m.take 1 = [c] ↔ m.head? = some c := by
  cases m with
  | nil => simp
  | cons a b => simp
theorem take1_nil {m : List Nat} : m.take 1 = [] ↔ m = [] := by
  cases m with
  | nil => simp
  | cons a b => simp
section
variable {P : Program} {w : World} {K : PySem.W.Frag} {mg : Str → Option Value} {base : Heap} {CC C : Addr}
theorem scPa : FnScope ["text", "at", "deep", "inner", "behind", "count", "end"] ["text", "at", "deep"] (defScope sPartAt) := ⟨rfl, rfl, rfl, by decide +kernel, rfl, by decide +kernel, by decide +kernel⟩
theorem scPs : FnScope ["text", "at", "deep", "part", "end", "found"] ["text", "at", "deep"] (defScope sPartsAt) := ⟨rfl, rfl, rfl, by decide +kernel, rfl, by decide +kernel, by decide +kernel⟩
/-- text[i:i + 1] == c -/
theorem cut1_dec (l : List Nat) (n c : Nat) : decide (V.str (cutS (S l) (some ((n : Nat) : Int)) (some (((n : Nat) : Int) + 1))) = V.str (S [c])) = decide ((l.drop n).head? = some c) := by
  rw [cut_one, S_dec, Bool.eq_iff_iff]
  simp only [decide_eq_true_eq]
  exact take1
theorem cut1_nil (l : List Nat) (n : Nat) : decide (V.str (cutS (S l) (some ((n : Nat) : Int)) (some (((n : Nat) : Int) + 1))) = V.str (S [])) = decide (l.drop n = []) := by
  rw [cut_one, S_dec, Bool.eq_iff_iff]
  simp only [decide_eq_true_eq]
  exact take1_nil
def badH : List Nat → Bool
  | [] => true
  | c :: _ => !low c
theorem drop_ds (m : List Nat) : m.drop (ds m).length = af m := by
  have : (ds m ++ af m).drop (ds m).length = af m := List.drop_left
  rw [ds_append_af] at this
  exact this
theorem head_cons {m : List Nat} {c : Nat} (h : m.head? = some c) : ∃ r, m = c :: r := by
  cases m with
  | nil => cases h
  | cons a b => exact ⟨b, by rw [Option.some.inj h]⟩
theorem ok_partAt {d k : Nat} {f g h1 : Addr} {fd gd hd1 : FuncData} {sp : Sp} (F : Fun K "part_at" "part_at" sPartAt f fd) (T : Cs K mg CC C)
    (G : FnOk P w K mg base (L2.CX P w) k g gd ["text", "at", "deep"] sp) (bG : Binds K gd ["text", "at", "deep"] []) (kG : PySem.W.keepIn K (.ref g) = true) (mG : mg "parts_at" = some (.ref g))
    (GC : FnOk P w K mg base (L2.CX P w) 1 h1 hd1 ["text", "at"] (spCa C)) (bC : Binds K hd1 ["text", "at"] []) (kC : PySem.W.keepIn K (.ref h1) = true) (mC : mg "count_at" = some (.ref h1)) (hk : 1 ≤ k)
    (hsp : ∀ d' vs H Q E, d = d' + 1 → spPs C d' vs H Q E → sp vs H Q E) : FnOk P w K mg base (L2.CX P w) (k + 1) f fd ["text", "at", "deep"] (spPa C d) := by
  obtain ⟨tL, gL⟩ := T.gL
  refine F.okX scPa (fun vs H Q E h => ?_) (fun cdv A outer s H vs Q E hr h => ?_)
  · obtain ⟨l, n, rfl, _⟩ := h
    rfl
  obtain ⟨l, n, rfl, hn, hl, kE, kQ⟩ := h
  have hr1 : Room 1 _ := hr.mono hk
  refine ⟨_, pss_cons (ps_if (PW.pt (pw_and (pt_cmpR op_eq (pe_slice sl_str (pv 0) (po_some (pv 1)) (po_some (pe_op op_add (pv 1) pe_int))) pe_str (nomark _)) (pw_and1 (pt_cmpR op_gt (pv 2) pe_int (nomark _)))))
      (pss_cons (ps_asg (pe_callS G hr rfl mG kG bG (fun σ => passAt (takes_of rfl rfl rfl rfl) σ) (pa_cons (pv 0) (pa_cons (pe_op op_add (pv 1) pe_int) (pa_cons (pe_op op_sub (pv 2) pe_int) pa_nil)))) (pg_tup rfl (pgs_cons (pg_name (i := 3) scPa.nd rfl (.inl rfl)) (pgs_cons (pg_name (i := 4) scPa.nd rfl (.inl rfl)) pgs_nil))))
      (pss_cons (ps_if (pt_cmpR op_ne (pe_slice sl_str (pv 0) (po_some (pv 4)) (po_some (pe_op op_add (pv 4) pe_int))) pe_str (nomark _))
        (pss_one (ps_raise rfl (takes_of rfl rfl rfl rfl) (pmk_own PySem.F.excBase_ValueError T.xF T.gF T.kF (raises_own T.bF T.tF) (by exact rfl)))) pss_nil)
      (pss_cons (ps_asg (pe_callS GC hr1 rfl mC kC bC (fun σ => passAt (takes_of rfl rfl rfl rfl) σ) (pa_cons (pv 0) (pa_cons (pe_op op_add (pv 4) pe_int) pa_nil))) (pg_tup rfl (pgs_cons (pg_name (i := 5) scPa.nd rfl (.inl rfl)) (pgs_cons (pg_name (i := 6) scPa.nd rfl (.inl rfl)) pgs_nil))))
      (pss_cons (ps_if (pt_cmpR op_eq (pv 5) pe_int (nomark _))
        (pss_one (ps_raise rfl (takes_of rfl rfl rfl rfl) (pmk_own PySem.F.excBase_ValueError T.xF T.gF T.kF (raises_own T.bF T.tF) (by exact rfl)))) pss_nil)
      (pss_one (ps_ret (pe_tup (pa_cons (pe_tup (pa_cons pe_str (pa_cons (pv 5) (pa_cons (pv 3) pa_nil)))) (pa_cons (pv 6) pa_nil)))))))))
      pss_nil)
    (pss_cons (ps_if (PW.pt (pw_or (pt_cmpR op_eq (pe_slice sl_str (pv 0) (po_some (pv 1)) (po_some (pe_op op_add (pv 1) pe_int))) pe_str (nomark _)) (pw_or1 (pt_cmpR op_notIn_sign (pe_ix ix_str (pv 0) (pv 1) (fun _ _ => rfl)) (pe_glob (v := .str (Str.ofString "abcdefghijklmnopqrstuvwxyz")) rfl gL ⟨_, rfl⟩) rfl))))
        (pss_one (ps_raise rfl (takes_of rfl rfl rfl rfl) (pmk_own PySem.F.excBase_ValueError T.xF T.gF T.kF (raises_own T.bF T.tF) (by exact rfl)))) pss_nil)
    (pss_cons (ps_asg (pe_callS GC hr1 rfl mC kC bC (fun σ => passAt (takes_of rfl rfl rfl rfl) σ) (pa_cons (pv 0) (pa_cons (pe_op op_add (pv 1) pe_int) pa_nil))) (pg_tup rfl (pgs_cons (pg_name (i := 5) scPa.nd rfl (.inl rfl)) (pgs_cons (pg_name (i := 6) scPa.nd rfl (.inl rfl)) pgs_nil))))
    (pss_one (ps_ret (pe_tup (pa_cons (pe_tup (pa_cons pe_str (pa_cons (pe_ix ix_str (pv 0) (pv 1) (fun _ _ => rfl)) (pa_cons (pv 5) pa_nil)))) (pa_cons (pv 6) pa_nil))))))), ?_⟩
  have hl2 : (S l).length ≤ sizeLine := Slen_le (by omega)
  dsimp only [tSeq, tNext]
  refine st_if (b := decide ((l.drop n).head? = some 40) && decide (0 < d)) ?_ ?_ ?_
  · refine ans_and2 (Ans.of (b' := decide (V.str (cutS (S l) (some ((n : Nat) : Int)) (some (((n : Nat) : Int) + 1))) = V.str (Str.ofString "("))) ?_ fun Q1 q1 => ?_) ?_
    · rw [lit_open, cut1_dec]
    · exact ⟨_, rfl, _, rfl, _, rfl, _, rfl, _, _, rfl, rfl, _, rfl, S l, rfl, hl2, rfl, _, rfl, q1⟩
    · intro Q1 q1
      refine ⟨_, rfl, _, _, rfl, rfl, _, rfl, ?_⟩
      rw [show decide ((0 : Int) < ((d : Nat) : Int)) = decide (0 < d) from by rw [Bool.eq_iff_iff]; simp only [decide_eq_true_eq]; omega]
      exact q1
  · -- an again
    intro hb
    rw [Bool.and_eq_true, decide_eq_true_eq, decide_eq_true_eq] at hb
    obtain ⟨h40, hd0⟩ := hb
    obtain ⟨d', rfl⟩ : ∃ d', d = d' + 1 := ⟨d - 1, by omega⟩
    obtain ⟨m, hm⟩ := head_cons h40
    have hlt := drop_len hm
    have hm1 := drop_next hm
    rw [partD_again h40, hm, List.drop_succ_cons, List.drop_zero] at kE kQ
    refine ⟨_, rfl, _, rfl, _, _, rfl, rfl, _, rfl, _, _, rfl, rfl, hsp d' _ _ _ _ rfl ?_⟩
    refine ⟨l, n + 1, ?_, hlt, hl, ?_, ?_⟩
    · dsimp only
      rw [show (((n : Nat) : Int) + 1) = ((n + 1 : Nat) : Int) by omega, show ((((d' + 1 : Nat)) : Int) - 1) = ((d' : Nat) : Int) by omega]
    · rw [hm1]
      intro hno H1 s1
      exact kE (by rw [hno] <;> rfl) H1 s1
    · rw [hm1]
      intro f r hyes p q e H1 s1 hp hq he hr2
      rw [hyes] at kE kQ
      refine ⟨p, _, rfl, SqT.of hp, rfl, _, _, rfl, _, _, rfl, rfl, ?_⟩
      -- text[behind:behind + 1] != ")"
      dsimp only [tSeq, tNext]
      refine st_if (b := !decide (r.head? = some 41)) ?_ ?_ ?_
      · refine Ans.of (b' := !decide (V.str (cutS (S l) (some ((e : Nat) : Int)) (some (((e : Nat) : Int) + 1))) = V.str (Str.ofString ")"))) ?_ fun Q1 q1 => ?_
        · rw [lit_close, cut1_dec, hr2]
        · exact ⟨_, rfl, _, rfl, _, rfl, _, rfl, _, _, rfl, rfl, _, rfl, S l, rfl, hl2, rfl, _, rfl, q1⟩
      · intro hb
        have hb : ¬ r.head? = some 41 := by simpa using hb
        refine kE ?_ H1 s1
        unfold againP
        split
        · rename_i f' r' z
          cases z
          exact absurd rfl hb
        · rfl
      · intro hb
        have hb : r.head? = some 41 := by simpa using hb
        obtain ⟨r2, rfl⟩ := head_cons hb
        have he2 := drop_len hr2
        have hr3 := drop_next hr2
        refine ⟨_, rfl, _, rfl, _, _, rfl, rfl, l, e + 1, ?_, he2, hl, ?_, ?_⟩
        · dsimp only
          rw [show (((e : Nat) : Int) + 1) = ((e + 1 : Nat) : Int) by omega]
        · rw [hr3]
          intro hno H2 s2
          refine kE ?_ H2 (s1.trans s2)
          show (match cnt2 (ds r2) with | some k => if k = 1 then none else some (It.again k f, af r2) | none => none) = none
          rw [hno]
        · rw [hr3]
          intro c hc p2 H2 s2 hp2
          refine ⟨p2, _, rfl, SqT.of hp2, rfl, _, _, rfl, _, _, rfl, rfl, ?_⟩
          dsimp only [tSeq, tNext]
          refine st_if (b := decide (c = 1)) ?_ ?_ ?_
          · intro Q1 q1
            refine ⟨_, rfl, rfl, _, rfl, ?_⟩
            rw [show decide (V.int ((c : Nat) : Int) = V.int 1) = decide (c = 1) from ?_]
            · exact q1
            · rw [Bool.eq_iff_iff]
              simp only [decide_eq_true_eq]
              exact ⟨fun h => by have := V.int.inj h; omega, fun h => by rw [h] <;> rfl⟩
          · intro h1
            have h1 := of_decide_eq_true h1
            refine kE ?_ H2 (s1.trans s2)
            show (match cnt2 (ds r2) with | some k => if k = 1 then none else some (It.again k f, af r2) | none => none) = none
            rw [hc]
            exact if_pos h1
          · intro h1
            have h1 := of_decide_eq_false h1
            obtain ⟨_, _, hc1, _⟩ := cnt2_some ds_all hc
            refine ⟨_, rfl, _, rfl, (by show 3 ≤ sizeLine; decide), fun a ha => ?_⟩
            refine ⟨_, rfl, (by show 2 ≤ sizeLine; decide), fun b hb2 => ?_⟩
            have sa := same_new ha (.tup [vAgain, .int ((c : Nat) : Int), .ref q])
            have sb := same_new hb2 (.tup [.ref a, .int ((e + 1 + (ds r2).length : Nat) : Int)])
            refine kQ (.again c f) (af r2) ?_ b a (e + 1 + (ds r2).length) _ (((s1.trans s2).trans sa).trans sb) upd_same ⟨hc1, q, newOf_of ((s1.trans s2).free ha) (sb _ _ upd_same), hq.same (newOf_same ((s2.trans sa).trans sb))⟩ ?_ ?_
            · show (match cnt2 (ds r2) with | some k => if k = 1 then none else some (It.again k f, af r2) | none => none) = _
              rw [hc]
              exact if_neg h1
            · have := congrArg List.length (ds_append_af r2)
              have := congrArg List.length hr3
              rw [List.length_drop] at this
              rw [List.length_append] at *
              omega
            · rw [← List.drop_drop, hr3]
              exact drop_ds r2
  · -- no again
    intro hb
    have hrun : partD d (l.drop n) = runP (l.drop n) := partD_run (by
      rw [Bool.and_eq_false_iff, decide_eq_false_iff_not, decide_eq_false_iff_not] at hb
      rcases hb with h | h
      · exact .inl h
      · exact .inr (by omega))
    rw [hrun] at kE kQ
    dsimp only [tSeq, tNext]
    refine st_if (b := badH (l.drop n)) ?_ ?_ ?_
    · cases hm : l.drop n with
      | nil =>
        refine Ans.to (ans_or1 (Ans.of (b' := decide (V.str (cutS (S l) (some ((n : Nat) : Int)) (some (((n : Nat) : Int) + 1))) = V.str (Str.ofString ""))) ?_ fun Q1 q1 => ?_)) (b := true) ?_
        · rw [lit_empty, cut1_nil, decide_eq_true hm]
        · exact ⟨_, rfl, _, rfl, _, rfl, _, rfl, _, _, rfl, rfl, _, rfl, S l, rfl, hl2, rfl, _, rfl, q1⟩
        · rfl
      | cons c m =>
        refine ans_or (Ans.of (b' := decide (V.str (cutS (S l) (some ((n : Nat) : Int)) (some (((n : Nat) : Int) + 1))) = V.str (Str.ofString ""))) ?_ fun Q1 q1 => ?_) ?_
        · rw [lit_empty, cut1_nil, hm]
          exact decide_eq_false fun z => nomatch z
        · exact ⟨_, rfl, _, rfl, _, rfl, _, rfl, _, _, rfl, rfl, _, rfl, S l, rfl, hl2, rfl, _, rfl, q1⟩
        · intro Q1 q1
          refine ⟨_, rfl, _, rfl, S l, _, c, rfl, rfl, hl2, at_S (get_drop hm), c, _, rfl, rfl, _, rfl, ?_⟩
          rw [in_letters]
          exact q1
    · intro hb
      refine kE ?_ H (Same.refl _)
      cases hm : l.drop n with
      | nil => rfl
      | cons c r =>
        rw [hm] at hb
        have hb : (!low c) = true := hb
        rw [runP_cons, if_neg]
        intro h
        rw [h] at hb
        cases hb
    · intro hb
      obtain ⟨c, m, hm, hc⟩ : ∃ c m, l.drop n = c :: m ∧ low c = true := by
        cases hm : l.drop n with
        | nil => rw [hm] at hb; cases hb
        | cons c m =>
          refine ⟨c, m, rfl, ?_⟩
          rw [hm] at hb
          have hb : (!low c) = false := hb
          cases hc : low c
          · rw [hc] at hb; cases hb
          · rfl
      have hlt := drop_len hm
      have hm1 := drop_next hm
      rw [hm, runP_cons, if_pos hc] at kE kQ
      refine ⟨_, rfl, _, rfl, _, _, rfl, rfl, l, n + 1, ?_, hlt, hl, ?_, ?_⟩
      · dsimp only
        rw [show (((n : Nat) : Int) + 1) = ((n + 1 : Nat) : Int) by omega]
      · rw [hm1]
        intro hno H2 s2
        exact kE (by rw [hno]) H2 s2
      · rw [hm1]
        intro k hk p2 H2 s2 hp2
        rw [hk] at kQ
        refine ⟨p2, _, rfl, SqT.of hp2, rfl, _, _, rfl, _, _, rfl, rfl, ?_⟩
        refine ⟨_, rfl, _, rfl, S l, _, c, rfl, rfl, hl2, at_S (get_drop hm), _, rfl, (by show 3 ≤ sizeLine; decide), fun a ha => ?_⟩
        refine ⟨_, rfl, (by show 2 ≤ sizeLine; decide), fun b hb2 => ?_⟩
        have sa := same_new ha (.tup [vRun, .str (S [c]), .int ((k : Nat) : Int)])
        have sb := same_new hb2 (.tup [.ref a, .int ((n + 1 + (ds m).length : Nat) : Int)])
        refine kQ (.run c k) (af m) rfl b a (n + 1 + (ds m).length) _ ((s2.trans sa).trans sb) upd_same (newOf_of (s2.free ha) (sb _ _ upd_same)) ?_ ?_
        · have := congrArg List.length (ds_append_af m)
          have := congrArg List.length hm1
          rw [List.length_drop] at this
          rw [List.length_append] at *
          omega
        · rw [← List.drop_drop, hm1]
          exact drop_ds m
theorem join_hp {G N H H' H1 : Hp} {fa : Addr} (hG : ∀ b o, G b = some o → H' b = some o ∧ H b = none ∧ b ≠ fa) (s0 : Same H H') (s1 : Same H' H1) (hfa : ∃ o, H' fa = some o) :
    ∃ G' : Hp, Same G G' ∧ Same (newOf H' H1) G' ∧ ∀ b o, G' b = some o → H1 b = some o ∧ H b = none ∧ b ≠ fa := by
  refine ⟨fun b => match G b with | some o => some o | none => newOf H' H1 b, fun b o h => ?_, fun b o h => ?_, fun b o h => ?_⟩
  · show (match G b with | some o => some o | none => newOf H' H1 b) = some o
    rw [h]
  · show (match G b with | some o => some o | none => newOf H' H1 b) = some o
    cases q : G b with
    | none => exact h
    | some u =>
      obtain ⟨h1, _⟩ := newOf_inv h
      rw [(hG b u q).1] at h1
      cases h1
  · have h : (match G b with | some o => some o | none => newOf H' H1 b) = some o := h
    cases q : G b with
    | none =>
      rw [q] at h
      obtain ⟨h1, h2⟩ := newOf_inv h
      refine ⟨h2, s0.free h1, fun e => ?_⟩
      obtain ⟨u, hu⟩ := hfa
      rw [e, hu] at h1
      cases h1
    | some u =>
      rw [q] at h
      cases h
      obtain ⟨h1, h2, h3⟩ := hG b _ q
      exact ⟨s1 _ _ h1, h2, h3⟩
theorem ok_partsAt {d k : Nat} {f g : Addr} {fd gd : FuncData} (F : Fun K "parts_at" "parts_at" sPartsAt f fd) (T : Cs K mg CC C)
    (G : FnOk P w K mg base (L2.CX P w) k g gd ["text", "at", "deep"] (spPa C d)) (bG : Binds K gd ["text", "at", "deep"] []) (kG : PySem.W.keepIn K (.ref g) = true) (mG : mg "part_at" = some (.ref g)) :
    FnOk P w K mg base (L2.CX P w) (k + 1) f fd ["text", "at", "deep"] (spPs C d) := by
  refine F.okX scPs (fun vs H Q E h => ?_) (fun cdv A outer s H vs Q E hr h => ?_)
  · obtain ⟨l, n, rfl, _⟩ := h
    rfl
  obtain ⟨l, n, rfl, hn, hl, kE, kQ⟩ := h
  refine ⟨_, pss_cons (ps_asg (pe_callS G hr rfl mG kG bG (fun σ => passAt (takes_of rfl rfl rfl rfl) σ) (pa_cons (pv 0) (pa_cons (pv 1) (pa_cons (pv 2) pa_nil)))) (pg_tup rfl (pgs_cons (pg_name (i := 3) scPs.nd rfl (.inl rfl)) (pgs_cons (pg_name (i := 4) scPs.nd rfl (.inl rfl)) pgs_nil))))
    (pss_cons (ps_set (i := 5) scPs.nd rfl (.inl rfl) (pe_lst (pa_cons (pv 3) pa_nil)))
    (pss_cons (ps_while (passes_of rfl) (pt_cmpR op_eq (pe_slice sl_str (pv 0) (po_some (pv 4)) (po_some (pe_op op_add (pv 4) pe_int))) pe_str (nomark _))
      (pss_cons (ps_asg (pe_callS G hr rfl mG kG bG (fun σ => passAt (takes_of rfl rfl rfl rfl) σ) (pa_cons (pv 0) (pa_cons (pe_op op_add (pv 4) pe_int) (pa_cons (pv 2) pa_nil)))) (pg_tup rfl (pgs_cons (pg_name (i := 3) scPs.nd rfl (.inl rfl)) (pgs_cons (pg_name (i := 4) scPs.nd rfl (.inl rfl)) pgs_nil))))
      (pss_one (ps_expr (pe_bm PySem.F.plainAttrs_list PySem.F.slot_list_append PySem.F.type_list_append mt_append (pv 5) (pa_cons (pv 3) pa_nil))))))
    (pss_one (ps_ret (pe_tup (pa_cons (pv 5) (pa_cons (pv 4) pa_nil)))))))  , ?_⟩
  have hl2 : (S l).length ≤ sizeLine := Slen_le (by omega)
  refine ⟨_, rfl, _, rfl, _, rfl, l, n, rfl, hn, hl, ?_, ?_⟩
  · intro hno H1 s1
    refine kE ?_ H1 s1
    unfold partsP
    rw [hno]
  intro i r hi p q e H1 s1 hp hq he hr2
  refine ⟨p, _, rfl, SqT.of hp, rfl, _, _, rfl, _, _, rfl, rfl, ?_⟩
  refine ⟨_, rfl, (by show 1 ≤ sizeLine; decide), fun fa hfa => ?_⟩
  have hfa0 : H fa = none := s1.free hfa
  dsimp only [tSeq, tNext]
  refine while_ix (fun m σ H' => ∃ (done : List It) (xs : List V) (G : Hp) (u : V) (e n' : Nat) (r : List Nat), σ = [some (.str (S l)), some (.int (n : Nat)), some (.int (d : Nat)), some u, some (.int (e : Nat)), some (.ref fa)] ∧
      Same H H' ∧ H' fa = some (.lst xs) ∧ ItsAt G xs done ∧ (∀ b o, G b = some o → H' b = some o ∧ H b = none ∧ b ≠ fa) ∧ e ≤ l.length ∧ l.drop e = r ∧ r.length < n' ∧ xs.length + r.length ≤ l.length + 1 ∧
      partsP (partD d) (l.drop n) = (match tailP (partD d) n' r with | none => none | some (is, r') => some (ofL (done ++ is), r')) ∧ m = r.length) r.length ?_ ?_
  · refine ⟨[i], [.ref q], newOf H H1, .ref q, e, r.length + 1, r, rfl, s1.trans (same_new hfa _), upd_same, .cons hq .nil, fun b o h => ?_, he, hr2, Nat.lt_succ_self _, ?_, ?_, rfl⟩
    · obtain ⟨h1, h2⟩ := newOf_inv h
      have hb : b ≠ fa := fun z => by rw [z, hfa] at h2; cases h2
      exact ⟨by rw [upd_ne hb]; exact h2, h1, hb⟩
    · have := congrArg List.length hr2
      rw [List.length_drop] at this
      rw [List.length_singleton]
      omega
    · unfold partsP
      rw [hi] <;> rfl
  · rintro m σ H' ⟨done, xs, G, u, e, n', r, rfl, s2, hx, hG, hG2, he, hr3, hn', hlen, hR, rfl⟩
    have test : Ans (tTest (tOp rEq (tSl rSlS (tVar 0) (tPart (tVar 4)) (tPart (tOp (rI0 fun i j => V.int (i + j)) (tVar 4) (tC (V.int 1))))) (tC (V.str (Str.ofString " "))))) [some (.str (S l)), some (.int (n : Nat)), some (.int (d : Nat)), some u, some (.int (e : Nat)), some (.ref fa)] H' (decide (r.head? = some 32)) := by
      refine Ans.of (b' := decide (V.str (cutS (S l) (some ((e : Nat) : Int)) (some (((e : Nat) : Int) + 1))) = V.str (Str.ofString " "))) ?_ fun Q1 q1 => ?_
      · rw [lit_blank, cut1_dec, hr3]
      · exact ⟨_, rfl, _, rfl, _, rfl, _, rfl, _, _, rfl, rfl, _, rfl, S l, rfl, hl2, rfl, _, rfl, q1⟩
    by_cases hb : r.head? = some 32
    · rw [decide_eq_true hb] at test
      refine .inl ⟨test, ?_⟩
      obtain ⟨r1, rfl⟩ := head_cons hb
      have he2 := drop_len hr3
      have hr4 := drop_next hr3
      obtain ⟨n2, rfl⟩ : ∃ n2, n' = n2 + 1 := ⟨n' - 1, by omega⟩
      refine ⟨_, rfl, _, rfl, _, _, rfl, rfl, _, rfl, l, e + 1, ?_, he2, hl, ?_, ?_⟩
      · dsimp only
        rw [show (((e : Nat) : Int) + 1) = ((e + 1 : Nat) : Int) by omega] <;> rfl
      · rw [hr4]
        intro hno H2 s3
        refine kE ?_ H2 (s2.trans s3)
        rw [hR, tailP_no hno]
      · rw [hr4]
        intro j r2 hj p2 q2 e2 H2 s3 hp2 hq2 he2' hr5
        have hsh := congrArg List.length (partD_sz d _ _ _ hj).2
        rw [List.length_append] at hsh
        have hw := word_len j
        have hx2 : H2 fa = some (.lst xs) := s3 _ _ hx
        obtain ⟨G', g1, g2, g3⟩ := join_hp (N := newOf H' H2) hG2 s2 s3 ⟨_, hx⟩
        refine ⟨p2, _, rfl, SqT.of hp2, rfl, _, _, rfl, _, _, rfl, rfl, ?_⟩
        refine ⟨_, rfl, .inl ⟨rfl, _, SqL.of hx2⟩, _, rfl, fa, xs, _, rfl, rfl, hx2, sz_lt (by rw [List.length_cons] at hlen; omega), ?_⟩
        refine ⟨r2.length, ?_, done ++ [j], xs ++ [.ref q2], G', .ref q2, e2, n2, r2, rfl, ?_, upd_same, (hG.same g1).snoc (hq2.same g2), ?_, he2', hr5, ?_, ?_, ?_, rfl⟩
        · rw [List.length_cons]; omega
        · exact same_mut (s2.trans s3) hfa0
        · intro b o hb
          obtain ⟨h1, h2, h3⟩ := g3 b o hb
          exact ⟨by rw [upd_ne h3]; exact h1, h2, h3⟩
        · rw [List.length_cons] at hn'; omega
        · rw [List.length_append, List.length_singleton]
          rw [List.length_cons] at hlen
          omega
        · rw [hR, tailP_go hj]
          cases tailP (partD d) n2 r2 with
          | none => rfl
          | some z =>
            obtain ⟨is, r'⟩ := z
            show some (ofL (done ++ j :: is), r') = some (ofL (done ++ [j] ++ is), r')
            rw [List.append_assoc] <;> rfl
    · rw [decide_eq_false hb] at test
      refine .inr ⟨test, ?_⟩
      obtain ⟨n2, rfl⟩ : ∃ n2, n' = n2 + 1 := ⟨n' - 1, by omega⟩
      rw [tailP_end hb] at hR
      have hR : partsP (partD d) (l.drop n) = some (ofL (done ++ []), r) := hR
      rw [List.append_nil] at hR
      refine ⟨_, rfl, _, rfl, (by show 2 ≤ sizeLine; decide), fun a ha => ?_⟩
      have sa := same_new ha (.tup [.ref fa, .int ((e : Nat) : Int)])
      refine kQ _ _ hR a fa e _ (s2.trans sa) upd_same ⟨xs, newOf_of hfa0 (sa _ _ hx), (hG.same fun b o h => ?_).parts⟩ he hr3
      obtain ⟨h1, h2, _⟩ := hG2 b o h
      exact newOf_of h2 (sa _ _ h1)
/-- both, for any depth -/
theorem none_ok {f : Addr} {fd : FuncData} {ps : List Str} {k : Nat} : FnOk P w K mg base (L2.CX P w) k f fd ps (fun _ _ _ _ => False) :=
  ⟨fun _ _ _ _ h => h.elim, fun _ _ _ _ _ _ _ _ _ _ _ _ _ h => h.elim⟩
theorem parse_both {f g h1 : Addr} {fd gd hd1 : FuncData} (T : Cs K mg CC C) (FP : Fun K "part_at" "part_at" sPartAt f fd) (FS : Fun K "parts_at" "parts_at" sPartsAt g gd) (FC : Fun K "count_at" "count_at" sCountAt h1 hd1)
    (bP : Binds K fd ["text", "at", "deep"] []) (bS : Binds K gd ["text", "at", "deep"] []) (bC : Binds K hd1 ["text", "at"] []) (mP : mg "part_at" = some (.ref f)) (mS : mg "parts_at" = some (.ref g)) (mC : mg "count_at" = some (.ref h1)) :
    ∀ d : Nat, FnOk P w K mg base (L2.CX P w) (2 * d + 2) f fd ["text", "at", "deep"] (spPa C d) ∧ FnOk P w K mg base (L2.CX P w) (2 * d + 3) g gd ["text", "at", "deep"] (spPs C d)
  | 0 => by
    have GC : FnOk P w K mg base (L2.CX P w) 1 h1 hd1 ["text", "at"] (spCa C) := ok_countAt FC T
    have A : FnOk P w K mg base (L2.CX P w) 2 f fd ["text", "at", "deep"] (spPa C 0) :=
      ok_partAt (d := 0) (k := 1) FP T none_ok bS FS.kp mS GC bC FC.kp mC (Nat.le_refl _) fun d' vs H Q E e _ => by omega
    exact ⟨A, ok_partsAt FS T A bP FP.kp mP⟩
  | d + 1 => by
    obtain ⟨_, ihS⟩ := parse_both T FP FS FC bP bS bC mP mS mC d
    have GC : FnOk P w K mg base (L2.CX P w) 1 h1 hd1 ["text", "at"] (spCa C) := ok_countAt FC T
    have A : FnOk P w K mg base (L2.CX P w) (2 * (d + 1) + 2) f fd ["text", "at", "deep"] (spPa C (d + 1)) := by
      have := ok_partAt (d := d + 1) (k := 2 * d + 3) FP T ihS bS FS.kp mS GC bC FC.kp mC (by omega) fun d' vs H Q E e h => by
        have : d' = d := by omega
        subst this
        exact h
      exact this
    exact ⟨A, ok_partsAt FS T A bP FP.kp mP⟩
end
end K32
namespace K32
open PySem L2
open TL (numL joinL)
open NumText (digitsVal AllDigits)

/-! ## 22. shown_count, shown_fold, size_of, read_fold -/
theorem runP_deep {l : List Nat} {i : It} {r : List Nat} (h : runP l = some (i, r)) : i.deep = 0 := (runP_sz h).2.2
theorem tailP_deep {pt : List Nat → Option (It × List Nat)} {d : Nat} (hp : ∀ l i r, pt l = some (i, r) → i.deep ≤ d) : ∀ (n : Nat) (r : List Nat) (is : List It) (r2 : List Nat), tailP pt n r = some (is, r2) → deep (ofL is) ≤ d
  | 0, _, _, _, h => nomatch h
  | n + 1, r, is, r2, h => by
    unfold tailP at h
    split at h
    · rename_i r1
      cases q : pt r1 with
      | none => rw [q] at h; cases h
      | some z =>
        obtain ⟨j, r3⟩ := z
        rw [q] at h
        dsimp only at h
        cases q2 : tailP pt n r3 with
        | none => rw [q2] at h; cases h
        | some y =>
          obtain ⟨js, r4⟩ := y
          rw [q2] at h
          cases h
          have a := hp _ _ _ q
          have b := tailP_deep hp n r3 js _ q2
          show deep (j.put (ofL js)) ≤ d
          rw [deep_put]
          omega
    · cases h
      exact Nat.zero_le _
theorem partsP_deep {pt : List Nat → Option (It × List Nat)} {d : Nat} (hp : ∀ l i r, pt l = some (i, r) → i.deep ≤ d) {l : List Nat} {f : Fd} {r : List Nat} (h : partsP pt l = some (f, r)) : deep f ≤ d := by
  unfold partsP at h
  cases q : pt l with
  | none => rw [q] at h; cases h
  | some z =>
    obtain ⟨i, r1⟩ := z
    rw [q] at h
    dsimp only at h
    cases q2 : tailP pt (r1.length + 1) r1 with
    | none => rw [q2] at h; cases h
    | some y =>
      obtain ⟨is, r2⟩ := y
      rw [q2] at h
      cases h
      have a := hp _ _ _ q
      have b := tailP_deep hp _ _ _ _ q2
      show deep (i.put (ofL is)) ≤ d
      rw [deep_put]
      omega
theorem partD_deep : ∀ (d : Nat) (l : List Nat) (i : It) (r : List Nat), partD d l = some (i, r) → i.deep ≤ d
  | 0, l, i, r, h => by rw [runP_deep h]; exact Nat.le_refl _
  | d + 1, l, i, r, h => by
    unfold partD at h
    by_cases h0 : l.head? = some 40
    · rw [if_pos h0] at h
      unfold againP at h
      split at h
      · rename_i f r2 q
        have a := partsP_deep (partD_deep d) q
        cases q2 : cnt2 (ds r2) with
        | none => rw [q2] at h; cases h
        | some k =>
          rw [q2] at h
          dsimp only at h
          by_cases hk : k = 1
          · rw [if_pos hk] at h; cases h
          · rw [if_neg hk] at h
            cases h
            show deep f + 1 ≤ d + 1
            omega
      · cases h
    · rw [if_neg h0] at h
      rw [runP_deep h]
      exact Nat.zero_le _
theorem readP_deep {l : List Nat} {f : Fd} (h : readP l = some f) : deep f ≤ 12 := by
  unfold readP at h
  split at h
  · rename_i f' q
    by_cases hs : size f' ≤ 24
    · rw [if_pos hs] at h
      cases h
      exact partsP_deep (partD_deep 12) q
    · rw [if_neg hs] at h; cases h
  · cases h

/-! ### sums over parts -/
theorem join_len : ∀ (ws : List (List Nat)), (joinL [32] ws).length + 1 = (ws.map List.length).sum + ws.length + (if ws = [] then 1 else 0)
  | [] => rfl
  | [w] => by
    show w.length + 1 = ([w.length] : List Nat).sum + 1 + 0
    simp
  | w :: v :: r => by
    have ih := join_len (v :: r)
    rw [if_neg (List.cons_ne_nil _ _)] at ih ⊢
    show (w ++ ([32] ++ joinL [32] (v :: r))).length + 1 = _
    simp only [List.length_append, List.map_cons, List.sum_cons, List.length_cons, List.length_nil] at ih ⊢
    omega
theorem join_mem {ws : List (List Nat)} {w : List Nat} (h : w ∈ ws) : w.length ≤ (joinL [32] ws).length := by
  have e := join_len ws
  have hne : ws ≠ [] := fun z => by rw [z] at h; cases h
  rw [if_neg hne] at e
  have h1 : w.length ≤ (ws.map List.length).sum := by
    clear e hne
    induction ws with
    | nil => cases h
    | cons v r ih =>
      rw [List.map_cons, List.sum_cons]
      rcases List.mem_cons.mp h with q | q
      · rw [q]; omega
      · have := ih q; omega
  have h2 : 1 ≤ ws.length := List.length_pos_iff.mpr hne
  omega
theorem txt_ofL (is : List It) : txt (ofL is) = joinL [32] (is.map It.word) := by
  unfold txt
  rw [words_ofL]
theorem word_mem {is : List It} {j : It} {i : Nat} (h : is[i]? = some j) : j.word.length ≤ (txt (ofL is)).length := by
  rw [txt_ofL]
  exact join_mem (List.mem_map.mpr ⟨j, List.mem_of_getElem? h, rfl⟩)
theorem size_app : ∀ (a b : List It), size (ofL (a ++ b)) = size (ofL a) + size (ofL b)
  | [], b => by rw [List.nil_append]; show _ = 0 + _; omega
  | i :: a, b => by
    show size (i.put (ofL (a ++ b))) = size (i.put (ofL a)) + size (ofL b)
    rw [size_put, size_put, size_app a b]
    omega
theorem size_sing (j : It) : size (ofL [j]) = j.size := by
  show size (j.put .nil) = _
  rw [size_put] <;> rfl
theorem size_cons (j : It) (is : List It) : size (ofL (j :: is)) = j.size + size (ofL is) := size_put j _
theorem deep_app : ∀ (a b : List It), deep (ofL (a ++ b)) = max (deep (ofL a)) (deep (ofL b))
  | [], b => by rw [List.nil_append]; show _ = max 0 _; omega
  | i :: a, b => by
    show deep (i.put (ofL (a ++ b))) = max (deep (i.put (ofL a))) (deep (ofL b))
    rw [deep_put, deep_put, deep_app a b]
    omega
theorem deep_mem {is : List It} {j : It} {i : Nat} (h : is[i]? = some j) : j.deep ≤ deep (ofL is) := by
  have e := take_split h
  have : deep (ofL is) = deep (ofL (is.take i ++ j :: is.drop (i + 1))) := congrArg (fun z => deep (ofL z)) e
  rw [deep_app] at this
  have d2 : deep (ofL (j :: is.drop (i + 1))) = max j.deep (deep (ofL (is.drop (i + 1)))) := deep_put j _
  rw [d2] at this
  omega
theorem join_S (ws : List (List Nat)) : Txt.join (S [32]) (ws.map S) = S (joinL [32] ws) := by
  rw [TL.join_eq]
  refine TL.ext_tl ?_
  rw [TL.tl_join, List.map_map]
  have e : (TL.tl ∘ S) = (id : List Nat → List Nat) := funext fun l => rfl
  rw [e, List.map_id] <;> rfl
theorem map_len_S (ws : List (List Nat)) : ((ws.map S).map (·.length)).sum = (ws.map List.length).sum := by
  rw [List.map_map]
  congr 1
theorem cnt_lt {k : Nat} (h : (cnt k).length ≤ 500) : k < 10 ^ 500 := by
  unfold cnt at h
  by_cases h1 : k = 1
  · subst h1
    exact Nat.one_lt_pow (by decide) (by decide)
  · rw [if_neg h1] at h
    exact num_lt h
section
variable {P : Program} {w : World} {K : PySem.W.Frag} {mg : Str → Option Value} {base : Heap} {CC C : Addr}
def spSc : Sp := fun vs H Q _ => ∃ k : Nat, vs = [.int (k : Nat)] ∧ k < 10 ^ 500 ∧ Q (.str (S (cnt k))) H
theorem scSc : FnScope ["count"] ["count"] (defScope sShownCount) := ⟨rfl, rfl, rfl, by decide +kernel, rfl, by decide +kernel, by decide +kernel⟩
theorem int_one_dec (c : Nat) : decide (V.int ((c : Nat) : Int) = V.int 1) = decide (c = 1) := by
  rw [Bool.eq_iff_iff]
  simp only [decide_eq_true_eq]
  exact ⟨fun h => by have := V.int.inj h; omega, fun h => by rw [h] <;> rfl⟩
theorem ok_shownCount {f : Addr} {fd : FuncData} (F : Fun K "shown_count" "shown_count" sShownCount f fd) (T : Cs K mg CC C) : FnOk P w K mg base CX0 1 f fd ["count"] spSc := by
  refine F.ok scSc (fun vs H Q E h => ?_) (fun cdv A outer s H vs Q E hr h => ?_)
  · obtain ⟨k, rfl, _⟩ := h
    rfl
  obtain ⟨k, rfl, hk, q⟩ := h
  refine ⟨_, pss_cons (ps_if (pt_cmpR op_eq (pv 0) pe_int (nomark _)) (pss_one (ps_ret pe_str)) pss_nil)
    (pss_one (ps_ret (pe_callTy call_str_int rfl T.str (by decide +kernel) (pa_cons (pv 0) pa_nil)))), ?_⟩
  dsimp only [tSeq, tNext]
  refine st_if (b := decide (k = 1)) ?_ ?_ ?_
  · intro Q1 q1
    refine ⟨_, rfl, rfl, _, rfl, ?_⟩
    rw [int_one_dec]
    exact q1
  · intro h
    have h := of_decide_eq_true h
    show Q (.str (Str.ofString "")) H
    rw [lit_empty]
    unfold cnt at q
    rw [if_pos h] at q
    exact q
  · intro h
    have h := of_decide_eq_false h
    refine ⟨_, rfl, _, rfl, log_ok hk, ?_⟩
    rw [str_num]
    unfold cnt at q
    rw [if_neg h] at q
    exact q
def spSh (n : Nat) : Sp := fun vs H Q _ => ∃ (a : Addr) (f : Fd), vs = [.ref a] ∧ FoldAt H a f ∧ deep f < n ∧ (txt f).length ≤ 500 ∧ ∀ H', Same H H' → Q (.str (S (txt f))) H'
theorem scSh : FnScope ["fold", "words", "part"] ["fold"] (defScope sShownFold) := ⟨rfl, rfl, rfl, by decide +kernel, rfl, by decide +kernel, by decide +kernel⟩
theorem run_yes : decide (V.str (Str.ofString "run") = V.str (Str.ofString "run")) = true := decide_eq_true rfl
theorem run_no : decide (V.str (Str.ofString "again") = V.str (Str.ofString "run")) = false := by decide +kernel
theorem again_yes : decide (V.str (Str.ofString "again") = V.str (Str.ofString "again")) = true := decide_eq_true rfl
theorem again_no : decide (V.str (Str.ofString "run") = V.str (Str.ofString "again")) = false := by decide +kernel
theorem ok_shownFold {n : Nat} {f g : Addr} {fd gd : FuncData} (F : Fun K "shown_fold" "shown_fold" sShownFold f fd) (T : Cs K mg CC C)
    (G : FnOk P w K mg base CX0 (n + 1) f fd ["fold"] (spSh n)) (bF : Binds K fd ["fold"] []) (mF : mg "shown_fold" = some (.ref f))
    (GC : FnOk P w K mg base CX0 1 g gd ["count"] spSc) (bG : Binds K gd ["count"] []) (kG : PySem.W.keepIn K (.ref g) = true) (mG : mg "shown_count" = some (.ref g)) : FnOk P w K mg base CX0 (n + 2) f fd ["fold"] (spSh (n + 1)) := by
  refine F.ok scSh (fun vs H Q E h => ?_) (fun cdv A outer s H vs Q E hr h => ?_)
  · obtain ⟨a, f, rfl, _⟩ := h
    rfl
  obtain ⟨a, fo, rfl, hf, hdeep, hlen, kQ⟩ := h
  have hr1 : Room 1 _ := hr.mono (by omega)
  refine ⟨_, pss_cons (ps_set (i := 1) scSh.nd rfl (.inl rfl) (pe_lst pa_nil))
    (pss_cons (ps_for PassesOwn.never rfl (pi_list (pv 0)) (pg_name (i := 2) scSh.nd rfl (.inl rfl))
      (pss_one (ps_if (pt_cmpR op_eq (pe_ix ix_tup (pv 2) pe_int (fun _ _ => rfl)) pe_str (nomark _))
        (pss_one (ps_expr (pe_bm PySem.F.plainAttrs_list PySem.F.slot_list_append PySem.F.type_list_append mt_append (pv 1) (pa_cons (pe_op op_add_str (pe_ix ix_tup (pv 2) pe_int (fun _ _ => rfl)) (pe_call GC hr1 rfl mG kG bG .nil pass0 (pa_cons (pe_ix ix_tup (pv 2) pe_int (fun _ _ => rfl)) pa_nil))) pa_nil))))
        (pss_one (ps_expr (pe_bm PySem.F.plainAttrs_list PySem.F.slot_list_append PySem.F.type_list_append mt_append (pv 1) (pa_cons (pe_op op_add_str (pe_op op_add_str (pe_op op_add_str pe_str (pe_call G hr rfl mF F.kp bF .nil pass0 (pa_cons (pe_ix ix_tup (pv 2) pe_int (fun _ _ => rfl)) pa_nil))) pe_str) (pe_callTy call_str_int rfl T.str (by decide +kernel) (pa_cons (pe_ix ix_tup (pv 2) pe_int (fun _ _ => rfl)) pa_nil))) pa_nil)))))))
    (pss_one (ps_ret (pe_join pe_str (pv 1))))), ?_⟩
  obtain ⟨xs, hx, hp⟩ := hf
  obtain ⟨is, rfl, hi⟩ := hp.its
  have hxl := hi.length
  refine ⟨(by show 0 ≤ sizeLine; decide), fun wa hwa => ?_⟩
  refine ⟨_, rfl, a, rfl, ⟨_, SqL.of (same_new hwa _ _ _ hx)⟩, for_list (K := K) (a := a) (xs := xs) (fun i σ H' => ∃ u, σ = [some (.ref a), some (.ref wa), u] ∧ Same H H' ∧ H' wa = some (.lst ((((is.take i).map It.word).map S).map V.str)))
    ⟨none, rfl, same_new hwa _, by rw [List.take_zero]; exact upd_same⟩ (fun i σ H' _ ⟨_, _, s1, _⟩ => SqL.of (s1 _ _ hx)) ?_ ?_⟩
  · rintro i x σ H' hxi ⟨u, rfl, s1, hw⟩
    obtain ⟨q, j, rfl, hj, hq⟩ := hi.get hxi
    have hword := word_mem hj
    have hdj := deep_mem hj
    have ilt : i < is.length := (List.getElem?_eq_some_iff.mp hj).1
    have hxsz : ((((is.take i).map It.word).map S).map V.str).length < sizeLine := by
      simp only [List.length_map, List.length_take]
      have h1 := join_len (is.map It.word)
      rw [← txt_ofL, List.length_map] at h1
      refine sz_lt ?_
      split at h1 <;> omega
    cases j with
    | run c k =>
      have hq : H q = some (.tup [vRun, .str (S [c]), .int (k : Nat)]) := hq
      have hq' := s1 _ _ hq
      have hkl : (cnt k).length ≤ 500 := by
        have : (c :: cnt k).length ≤ 500 := Nat.le_trans hword hlen
        rw [List.length_cons] at this
        omega
      refine st_if (b := true) ?_ (fun _ => ?_) (fun z => Bool.noConfusion z)
      · intro Q1 q1
        refine ⟨_, rfl, q, _, _, _, rfl, rfl, SqT.of hq', atI_nat (j := 0) rfl, rfl, _, rfl, ?_⟩
        rw [run_yes]
        exact q1
      · refine ⟨_, rfl, .inl ⟨rfl, _, SqL.of hw⟩, _, rfl, q, _, _, _, rfl, rfl, SqT.of hq', atI_nat (j := 1) rfl, _, rfl, q, _, _, _, rfl, rfl, SqT.of hq', atI_nat (j := 2) rfl, ?_⟩
        refine ⟨k, rfl, cnt_lt hkl, ?_⟩
        refine ⟨_, _, rfl, rfl, ?_, ?_⟩
        · rw [S_len, S_len]
          exact sz_le (by rw [List.length_singleton]; omega)
        refine ⟨wa, _, _, rfl, rfl, hw, hxsz, ?_⟩
        refine ⟨_, rfl, same_mut s1 hwa, ?_⟩
        rw [upd_same, take_more hj, S_app, List.map_append, List.map_append, List.map_append] <;> rfl
    | again k fi =>
      obtain ⟨hk1, y, hq, hy⟩ := hq
      have hq' := s1 _ _ hq
      have hwl : (40 :: (txt fi ++ 41 :: numL k)).length ≤ 500 := Nat.le_trans hword hlen
      rw [List.length_cons, List.length_append, List.length_cons] at hwl
      refine st_if (b := false) ?_ (fun z => Bool.noConfusion z) (fun _ => ?_)
      · intro Q1 q1
        refine ⟨_, rfl, q, _, _, _, rfl, rfl, SqT.of hq', atI_nat (j := 0) rfl, rfl, _, rfl, ?_⟩
        rw [run_no]
        exact q1
      · refine ⟨_, rfl, .inl ⟨rfl, _, SqL.of hw⟩, _, rfl, q, _, _, _, rfl, rfl, SqT.of hq', atI_nat (j := 2) rfl, ?_⟩
        refine ⟨y, fi, rfl, hy.same s1, ?_, by omega, fun H2 s2 => ?_⟩
        · have : deep fi + 1 ≤ deep (ofL is) := hdj
          omega
        refine ⟨_, _, rfl, rfl, ?_, _, _, rfl, rfl, ?_, _, rfl, q, _, _, _, rfl, rfl, SqT.of (s2 _ _ hq'), atI_nat (j := 1) rfl, _, rfl, log_ok (num_lt (by omega)), _, _, rfl, rfl, ?_, ?_⟩
        · rw [lit_open, S_len, S_len]
          exact sz_le (by rw [List.length_singleton]; omega)
        · rw [lit_open, lit_close, S_app, S_len, S_len]
          exact sz_le (by rw [List.length_append, List.length_singleton, List.length_singleton]; omega)
        · rw [lit_open, lit_close, str_num, S_app, S_app, S_len, S_len]
          exact sz_le (by rw [List.length_append, List.length_append, List.length_singleton, List.length_singleton]; omega)
        have hw2 := s2 _ _ hw
        refine ⟨wa, _, _, rfl, rfl, hw2, hxsz, ?_⟩
        refine ⟨_, rfl, same_mut (s1.trans s2) hwa, ?_⟩
        rw [upd_same, take_more hj, lit_open, lit_close, str_num, S_app, S_app, S_app, List.map_append, List.map_append, List.map_append]
        show _ = some (HO.lst (_ ++ [V.str (S (40 :: (txt fi ++ 41 :: numL k)))]))
        congr 5
        simp
  · rintro σ H' ⟨u, rfl, s1, hw⟩
    rw [hxl, List.take_length] at hw
    refine ⟨⟨_, rfl⟩, _, rfl, _, wa, ((is.map It.word).map S), rfl, rfl, .inl (SqL.of hw), ?_, ?_⟩
    · rw [map_len_S, lit_blank, S_len, List.length_map, List.length_map, List.length_singleton]
      have h1 := join_len (is.map It.word)
      rw [← txt_ofL, List.length_map] at h1
      split at h1 <;> omega
    · rw [lit_blank, join_S, ← txt_ofL]
      exact kQ H' s1
theorem shown_all {f g : Addr} {fd gd : FuncData} (F : Fun K "shown_fold" "shown_fold" sShownFold f fd) (T : Cs K mg CC C) (bF : Binds K fd ["fold"] []) (mF : mg "shown_fold" = some (.ref f))
    (GC : FnOk P w K mg base CX0 1 g gd ["count"] spSc) (bG : Binds K gd ["count"] []) (kG : PySem.W.keepIn K (.ref g) = true) (mG : mg "shown_count" = some (.ref g)) : ∀ n, FnOk P w K mg base CX0 (n + 1) f fd ["fold"] (spSh n)
  | 0 => by
    have no : ∀ vs H Q E, ¬ spSh 0 vs H Q E := fun vs H Q E h => by
      obtain ⟨a, f, _, _, h, _⟩ := h
      omega
    exact ⟨fun vs H Q E h => absurd h (no vs H Q E), fun A outer s H args us vs Q E _ _ _ _ h => absurd h (no vs H Q E)⟩
  | n + 1 => ok_shownFold F T (shown_all F T bF mF GC bG kG mG n) bF mF GC bG kG mG
end
end K32
namespace K32
open PySem L2
open TL (numL joinL)
open NumText (digitsVal AllDigits)
section
variable {P : Program} {w : World} {K : PySem.W.Frag} {mg : Str → Option Value} {base : Heap} {CC C : Addr}
/-! ## 23. size_of -/
def capS (n : Nat) : Nat := if n ≤ 24 then n else 25
def spSo (n : Nat) : Sp := fun vs H Q _ => ∃ (a : Addr) (f : Fd), vs = [.ref a] ∧ FoldAt H a f ∧ deep f < n ∧ Q (.int (capS (size f) : Nat)) H
theorem scSo : FnScope ["fold", "found", "part"] ["fold"] (defScope sSizeOf) := ⟨rfl, rfl, rfl, by decide +kernel, rfl, by decide +kernel, by decide +kernel⟩
theorem capS_le (n : Nat) : capS n ≤ 25 := by unfold capS; split <;> omega
theorem ok_sizeOf {n : Nat} {f : Addr} {fd : FuncData} (F : Fun K "size_of" "size_of" sSizeOf f fd) (T : Cs K mg CC C)
    (G : FnOk P w K mg base CX0 (n + 1) f fd ["fold"] (spSo n)) (bF : Binds K fd ["fold"] []) (mF : mg "size_of" = some (.ref f)) : FnOk P w K mg base CX0 (n + 2) f fd ["fold"] (spSo (n + 1)) := by
  obtain ⟨tK, gK⟩ := T.gK
  refine F.ok scSo (fun vs H Q E h => ?_) (fun cdv A outer s H vs Q E hr h => ?_)
  · obtain ⟨a, f, rfl, _⟩ := h
    rfl
  obtain ⟨a, fo, rfl, hf, hdeep, kQ⟩ := h
  refine ⟨_, pss_cons (ps_set (i := 1) scSo.nd rfl (.inl rfl) pe_int)
    (pss_cons (ps_for PassesOwn.never rfl (pi_list (pv 0)) (pg_name (i := 2) scSo.nd rfl (.inl rfl))
      (pss_cons (ps_if (pt_cmpR op_eq (pe_ix ix_tup (pv 2) pe_int (fun _ _ => rfl)) pe_str (nomark _))
        (pss_one (ps_set (i := 1) scSo.nd rfl (.inl rfl) (pe_op op_add (pv 1) (pe_ix ix_tup (pv 2) pe_int (fun _ _ => rfl)))))
        (pss_one (ps_set (i := 1) scSo.nd rfl (.inl rfl) (pe_op op_add (pv 1) (pe_op op_mul (pe_ix ix_tup (pv 2) pe_int (fun _ _ => rfl)) (pe_call G hr rfl mF F.kp bF .nil pass0 (pa_cons (pe_ix ix_tup (pv 2) pe_int (fun _ _ => rfl)) pa_nil)))))))
      (pss_one (ps_if (pt_cmpR op_gt (pv 1) (pe_glob (v := .int 24) rfl gK ⟨_, rfl⟩) (nomark _)) (pss_one (ps_ret (pe_op op_add (pe_glob (v := .int 24) rfl gK ⟨_, rfl⟩) pe_int))) pss_nil))))
    (pss_one (ps_ret (pv 1)))), ?_⟩
  obtain ⟨xs, hx, hp⟩ := hf
  obtain ⟨is, rfl, hi⟩ := hp.its
  have hxl := hi.length
  refine ⟨_, rfl, a, rfl, ⟨_, SqL.of hx⟩, for_list (K := K) (a := a) (xs := xs) (fun i σ H' => ∃ u, σ = [some (.ref a), some (.int (size (ofL (is.take i)) : Nat)), u] ∧ H' = H ∧ size (ofL (is.take i)) ≤ 24)
    ⟨none, rfl, rfl, Nat.zero_le _⟩ (fun i σ H' _ ⟨_, _, s1, _⟩ => by rw [s1]; exact SqL.of hx) ?_ ?_⟩
  · rintro i x σ H' hxi ⟨u, rfl, rfl, h24⟩
    obtain ⟨q, j, rfl, hj, hq⟩ := hi.get hxi
    have hdj := deep_mem hj
    have hsz : size (ofL is) = size (ofL (is.take i)) + (j.size + size (ofL (is.drop (i + 1)))) := by
      have e : size (ofL is) = size (ofL (is.take i ++ j :: is.drop (i + 1))) := congrArg (fun z => size (ofL z)) (take_split hj)
      rw [e, size_app, size_cons]
    have hsz2 : size (ofL (is.take (i + 1))) = size (ofL (is.take i)) + j.size := by rw [take_more hj, size_app, size_sing]
    -- behind the sum: more than 24?
    have last : ∀ (z : Int) (m : Nat) (D : Ends), z = (m : Int) → D.rt = Q → (m ≤ 24 → m = size (ofL (is.take (i + 1)))) → (24 < m → 24 < size (ofL is)) →
        (∀ u', D.nx [some (.ref a), some (.int (size (ofL (is.take (i + 1))) : Nat)), u'] H' ∨ ¬ size (ofL (is.take (i + 1))) ≤ 24) →
        tIfS (tTest (tOp (rI0 fun i j => V.bl (decide (j < i))) (tVar 1) (tC (.int 24)))) (tRet (tOp (rI0 fun i j => V.int (i + j)) (tC (.int 24)) (tC (.int 1)))) tNext D [some (.ref a), some (.int z), some (.ref q)] H' := by
      intro z m D hz hD h1 h2 hN
      subst hz
      refine st_if (b := decide (24 < m)) ?_ ?_ ?_
      · intro Q1 q1
        refine ⟨_, rfl, _, _, rfl, rfl, _, rfl, ?_⟩
        rw [show decide ((24 : Int) < ((m : Nat) : Int)) = decide (24 < m) from by rw [Bool.eq_iff_iff]; simp only [decide_eq_true_eq]; omega]
        exact q1
      · intro h
        have h := h2 (of_decide_eq_true h)
        refine ⟨_, _, rfl, rfl, ?_⟩
        rw [hD]
        have e : capS (size (ofL is)) = 25 := if_neg (by omega)
        rw [e] at kQ
        exact kQ
      · intro h
        have h := of_decide_eq_false h
        have e := h1 (by omega)
        rcases hN (some (.ref q)) with z | z
        · rw [e]
          exact z
        · omega
    cases j with
    | run c k =>
      have hq : H' q = some (.tup [vRun, .str (S [c]), .int (k : Nat)]) := hq
      refine st_if (b := true) ?_ (fun _ => ?_) (fun z => Bool.noConfusion z)
      · intro Q1 q1
        refine ⟨_, rfl, q, _, _, _, rfl, rfl, SqT.of hq, atI_nat (j := 0) rfl, rfl, _, rfl, ?_⟩
        rw [run_yes]
        exact q1
      · refine ⟨_, rfl, _, rfl, q, _, _, _, rfl, rfl, SqT.of hq, atI_nat (j := 2) rfl, _, _, rfl, rfl, ?_⟩
        have e : ((size (ofL (is.take i)) : Nat) : Int) + ((k : Nat) : Int) = ((size (ofL (is.take i)) + k : Nat) : Int) := by omega
        have hs : (It.run c k).size = k := rfl
        rw [hs] at hsz hsz2
        dsimp only [tSeq, tNext]
        refine last _ (size (ofL (is.take i)) + k) _ e rfl (fun _ => hsz2.symm) (fun h => by omega) (fun u' => by
          by_cases h : size (ofL (is.take (i + 1))) ≤ 24
          · exact .inl ⟨u', rfl, rfl, h⟩
          · exact .inr h)
    | again k fi =>
      obtain ⟨hk1, y, hq, hy⟩ := hq
      refine st_if (b := false) ?_ (fun z => Bool.noConfusion z) (fun _ => ?_)
      · intro Q1 q1
        refine ⟨_, rfl, q, _, _, _, rfl, rfl, SqT.of hq, atI_nat (j := 0) rfl, rfl, _, rfl, ?_⟩
        rw [run_no]
        exact q1
      · have hcap := capS_le (size fi)
        refine ⟨_, rfl, _, rfl, q, _, _, _, rfl, rfl, SqT.of hq, atI_nat (j := 1) rfl, _, rfl, q, _, _, _, rfl, rfl, SqT.of hq, atI_nat (j := 2) rfl, y, fi, rfl, hy, ?_, ?_⟩
        · have : deep fi + 1 ≤ deep (ofL is) := hdj
          omega
        refine ⟨_, _, rfl, rfl, .inr ⟨by omega, by omega⟩, _, _, rfl, rfl, ?_⟩
        have e : ((size (ofL (is.take i)) : Nat) : Int) + ((k : Nat) : Int) * ((capS (size fi) : Nat) : Int) = ((size (ofL (is.take i)) + k * capS (size fi) : Nat) : Int) := by
          rw [Int.natCast_add, Int.natCast_mul]
        have hs : (It.again k fi).size = k * size fi := rfl
        rw [hs] at hsz hsz2
        have hbig : 24 < size fi → 24 < k * size fi ∧ 24 < k * 25 := fun h => by
          have h1 : 1 * size fi ≤ k * size fi := Nat.mul_le_mul_right _ hk1
          have h2 : 1 * 25 ≤ k * 25 := Nat.mul_le_mul_right _ hk1
          omega
        dsimp only [tSeq, tNext]
        refine last _ (size (ofL (is.take i)) + k * capS (size fi)) _ e rfl (fun h => by
            by_cases h2 : size fi ≤ 24
            · have e2 : capS (size fi) = size fi := if_pos h2
              rw [e2, hsz2]
            · have e2 : capS (size fi) = 25 := if_neg h2
              rw [e2] at h
              have := hbig (by omega)
              omega) (fun h => by
            by_cases h2 : size fi ≤ 24
            · have e2 : capS (size fi) = size fi := if_pos h2
              rw [e2] at h
              omega
            · have := hbig (by omega)
              omega) (fun u' => by
          by_cases h : size (ofL (is.take (i + 1))) ≤ 24
          · exact .inl ⟨u', rfl, rfl, h⟩
          · exact .inr h)
  · rintro σ H' ⟨u, rfl, rfl, h24⟩
    rw [hxl, List.take_length] at h24 ⊢
    have e : capS (size (ofL is)) = size (ofL is) := if_pos h24
    rw [e] at kQ
    exact ⟨_, rfl, kQ⟩
theorem size_all {f : Addr} {fd : FuncData} (F : Fun K "size_of" "size_of" sSizeOf f fd) (T : Cs K mg CC C) (bF : Binds K fd ["fold"] []) (mF : mg "size_of" = some (.ref f)) : ∀ n, FnOk P w K mg base CX0 (n + 1) f fd ["fold"] (spSo n)
  | 0 => by
    have no : ∀ vs H Q E, ¬ spSo 0 vs H Q E := fun vs H Q E h => by
      obtain ⟨a, f, _, _, h, _⟩ := h
      omega
    exact ⟨fun vs H Q E h => absurd h (no vs H Q E), fun A outer s H args us vs Q E _ _ _ _ h => absurd h (no vs H Q E)⟩
  | n + 1 => ok_sizeOf F T (size_all F T bF mF n) bF mF
/-! ## 24. read_fold -/
theorem readP_eq {l : List Nat} {fo : Fd} {r : List Nat} (h : partsP (partD 12) l = some (fo, r)) : readP l = if r = [] then (if size fo ≤ 24 then some fo else none) else none := by
  unfold readP
  rw [h]
  cases r with
  | nil => exact (if_pos rfl).symm
  | cons a b => exact (if_neg (List.cons_ne_nil _ _)).symm
def spRf (K : PySem.W.Frag) (C : Addr) : Sp := fun vs H Q E => ∃ x : V, vs = [x] ∧
  ((∃ l : List Nat, x = .str (S l) ∧ l.length ≤ 600 ∧ (readP l = none → ∀ H', Same H H' → E (.ref C) none H') ∧ (∀ f, readP l = some f → ∀ (p : Addr) H', Same H H' → FoldAt (newOf H H') p f → Q (.ref p) H')) ∨
    (∃ t, TyX K H x t ∧ PySem.W.kitOne K t (.type "str") = some false ∧ ∀ H', Same H H' → E (.ref C) none H'))
theorem scRf : FnScope ["text", "found", "end"] ["text"] (defScope sReadFold) := ⟨rfl, rfl, rfl, by decide +kernel, rfl, by decide +kernel, by decide +kernel⟩
theorem ok_readFold {f g h : Addr} {fd gd hd : FuncData} (F : Fun K "read_fold" "read_fold" sReadFold f fd) (T : Cs K mg CC C)
    (GS : FnOk P w K mg base (L2.CX P w) 27 g gd ["text", "at", "deep"] (spPs C 12)) (bS : Binds K gd ["text", "at", "deep"] []) (kS : PySem.W.keepIn K (.ref g) = true) (mS : mg "parts_at" = some (.ref g))
    (GO : FnOk P w K mg base CX0 14 h hd ["fold"] (spSo 13)) (bO : Binds K hd ["fold"] []) (kO : PySem.W.keepIn K (.ref h) = true) (mO : mg "size_of" = some (.ref h)) :
    FnOk P w K mg base (L2.CX P w) 28 f fd ["text"] (spRf K C) := by
  obtain ⟨tK, gK⟩ := T.gK
  obtain ⟨tM, gM⟩ := T.gM
  refine F.okX scRf (fun vs H Q E h => ?_) (fun cdv A outer s H vs Q E hr h => ?_)
  · obtain ⟨x, rfl, _⟩ := h
    rfl
  have hr1 : Room 14 _ := hr.mono (by decide)
  obtain ⟨x, rfl, h⟩ := h
  refine ⟨_, pss_cons (ps_if (pt_not (pt_val (pe_callB call_isi rfl T.isi (by decide +kernel) (pa_cons (pv 0) (pa_cons (pe_bltn (v := .ty "str") rfl T.str (by decide +kernel) rfl) pa_nil)))))
        (pss_one (ps_raise rfl (takes_of rfl rfl rfl rfl) (pmk_own PySem.F.excBase_ValueError T.xF T.gF T.kF (raises_own T.bF T.tF) (by exact rfl)))) pss_nil)
    (pss_cons (ps_asg (pe_callS GS hr rfl mS kS bS (fun σ => passAt (takes_of rfl rfl rfl rfl) σ) (pa_cons (pv 0) (pa_cons pe_int (pa_cons (pe_glob (v := .int 12) rfl gM ⟨_, rfl⟩) pa_nil)))) (pg_tup rfl (pgs_cons (pg_name (i := 1) scRf.nd rfl (.inl rfl)) (pgs_cons (pg_name (i := 2) scRf.nd rfl (.inl rfl)) pgs_nil))))
    (pss_cons (ps_if (PW.pt (pw_or (pt_cmpR op_ne (pv 2) (pe_callB call_len_str rfl T.len PySem.boot_len (pa_cons (pv 0) pa_nil)) (nomark _))
          (pw_or1 (pt_cmpR op_gt (pe_call GO hr1 rfl mO kO bO .nil pass0 (pa_cons (pv 1) pa_nil)) (pe_glob (v := .int 24) rfl gK ⟨_, rfl⟩) (nomark _)))))
        (pss_one (ps_raise rfl (takes_of rfl rfl rfl rfl) (pmk_own PySem.F.excBase_ValueError T.xF T.gF T.kF (raises_own T.bF T.tF) (by exact rfl)))) pss_nil)
    (pss_one (ps_ret (pv 1))))), ?_⟩
  dsimp only [tSeq, tNext]
  rcases h with ⟨l, rfl, hl, kE, kQ⟩ | ⟨t, ht, hk, kE⟩
  · have hl2 : (S l).length ≤ sizeLine := Slen_le (by omega)
    refine st_if (b := !true) (ans_not ?_) (fun z => Bool.noConfusion z) (fun _ => ?_)
    · intro Q1 q1
      exact ⟨_, rfl, _, _, _, _, true, rfl, .ty "str", .base (.str _), kit_ty (by decide +kernel), true, rfl, q1⟩
    refine ⟨_, rfl, l, 0, rfl, Nat.zero_le _, hl, ?_, ?_⟩
    · intro hno H1 s1
      refine kE ?_ H1 s1
      rw [List.drop_zero] at hno
      unfold readP
      rw [hno]
    · rw [List.drop_zero]
      intro fo r hyes p q e H1 s1 hp hq he hr2
      refine ⟨p, _, rfl, SqT.of hp, rfl, _, _, rfl, _, _, rfl, rfl, ?_⟩
      have hdp := partsP_deep (partD_deep 12) hyes
      have hread := readP_eq hyes
      have her : e = l.length ↔ r = [] := by
        constructor
        · intro h
          rw [← hr2, h, List.drop_length]
        · intro h
          rw [h] at hr2
          have := congrArg List.length hr2
          rw [List.length_drop, List.length_nil] at this
          omega
      dsimp only [tSeq, tNext]
      refine st_if (b := decide (r ≠ []) || decide (24 < size fo)) ?_ ?_ ?_
      · have t1 : Ans (tTest (tOp rNe (tVar 2) (tCB (fun xs H Q => ∃ z, xs = [V.str z] ∧ z.length ≤ sizeLine ∧ Q (.int z.length) H) (tCons (tVar 0) tNil)))) [some (.str (S l)), some (.ref q), some (.int (e : Nat))] H1 (decide (r ≠ [])) := by
          refine Ans.of (b' := !decide (V.int ((e : Nat) : Int) = V.int (((S l).length : Nat) : Int))) ?_ fun Q1 q1 => ?_
          · rw [S_len]
            by_cases h : r = []
            · rw [her.mpr h, decide_eq_true rfl, decide_eq_false fun z => z h] <;> rfl
            · rw [decide_eq_false fun z => h (her.mp (by have := V.int.inj z; omega)), decide_eq_true h] <;> rfl
          · exact ⟨_, rfl, _, rfl, S l, rfl, hl2, rfl, _, rfl, q1⟩
        by_cases h : r = []
        · rw [decide_eq_false fun z => z h] at t1 ⊢
          refine ans_or t1 ?_
          intro Q1 q1
          refine ⟨_, rfl, q, fo, rfl, hq.same newOf_le, by omega, _, _, rfl, rfl, _, rfl, ?_⟩
          rw [show decide ((24 : Int) < ((capS (size fo) : Nat) : Int)) = (false || decide (24 < size fo)) from ?_]
          · exact q1
          · rw [Bool.false_or, Bool.eq_iff_iff]
            simp only [decide_eq_true_eq]
            unfold capS
            split <;> omega
        · rw [decide_eq_true h] at t1 ⊢
          exact ans_or1 t1
      · intro hb
        rw [Bool.or_eq_true, decide_eq_true_eq, decide_eq_true_eq] at hb
        refine kE ?_ H1 s1
        rw [hread]
        cases r with
        | nil =>
          have h24 : 24 < size fo := by
            rcases hb with h | h
            · exact absurd rfl h
            · exact h
          rw [if_pos rfl]
          exact if_neg (by omega)
        | cons a b => exact if_neg (List.cons_ne_nil _ _)
      · intro hb
        rw [Bool.or_eq_false_iff, decide_eq_false_iff_not, decide_eq_false_iff_not] at hb
        have hrn : r = [] := Classical.not_not.mp hb.1
        subst hrn
        refine ⟨_, rfl, kQ fo ?_ q H1 s1 hq⟩
        rw [hread, if_pos rfl]
        exact if_pos (by omega)
  · refine st_if (b := !false) (ans_not ?_) (fun _ => ?_) (fun z => Bool.noConfusion z)
    · intro Q1 q1
      exact ⟨_, rfl, _, _, _, _, false, rfl, .ty "str", ht, hk, false, rfl, q1⟩
    · exact kE H (Same.refl _)
end
end K32
namespace K32
open PySem L2
open TL (numL joinL)
open NumText (digitsVal AllDigits)
/-! ## 30. finding brackets -/
theorem at_one (l : List Nat) (c i : Nat) : StrLaws.At (S l) (S [c]) (S l).length i ↔ l[i]? = some c := StrLaws.subAt_one (S l) c i
theorem rfind_none {l : List Nat} {c : Nat} (h : c ∉ l) : Txt.rfind (S l) (S [c]) = -1 := by
  rcases PyProof.Rows.rfind_whole (S l) (S [c]) with ⟨e, _⟩ | ⟨i, _, h1, _⟩
  · exact e
  · exact absurd (List.mem_of_getElem? ((at_one l c i).mp h1)) h
theorem get_mid {A R : List Nat} {c : Nat} : (A ++ c :: R)[A.length]? = some c := by
  rw [List.getElem?_append_right (Nat.le_refl _), Nat.sub_self] <;> rfl
theorem rfind_at {A R : List Nat} {c : Nat} (h : c ∉ R) : Txt.rfind (S (A ++ c :: R)) (S [c]) = (A.length : Int) := by
  rcases PyProof.Rows.rfind_whole (S (A ++ c :: R)) (S [c]) with ⟨_, hn⟩ | ⟨i, e, h1, hn⟩
  · exact absurd ((at_one _ c _).mpr get_mid) (hn A.length)
  · have h1 := (at_one _ c i).mp h1
    have a : ¬ i < A.length := fun z => hn _ z ((at_one _ c _).mpr get_mid)
    have b : ¬ A.length < i := fun z => by
      rw [List.getElem?_append_right (by omega)] at h1
      obtain ⟨m, hm⟩ : ∃ m, i - A.length = m + 1 := ⟨i - A.length - 1, by omega⟩
      rw [hm, List.getElem?_cons_succ] at h1
      exact h (List.mem_of_getElem? h1)
    rw [e]
    omega
theorem from_nat (n i : Nat) : fromIndex n (i : Int) = i := by
  unfold fromIndex
  rw [if_neg (by omega)]
  omega
theorem getD_of {l : List Nat} {i c : Nat} (h : l[i]? = some c) : (S l).cps.getD i 0 = c := StrLaws.getD_of_getElem? h
theorem find_none {A R : List Nat} {c d : Nat} (hd : d ≠ c) (h : c ∉ R) : Txt.find3 (S (A ++ d :: R)) (S [c]) (A.length : Int) = -1 := by
  rcases StrLaws.find3_spec (S (A ++ d :: R)) c (A.length : Int) with ⟨e, _⟩ | ⟨k, _, h1, h2, h3, _⟩
  · exact e
  · rw [from_nat] at h1
    have h4 := StrLaws.getElem?_of_getD h2 h3
    have h4 : (A ++ d :: R)[k]? = some c := h4
    rw [List.getElem?_append_right h1] at h4
    cases q : k - A.length with
    | zero =>
      rw [q] at h4
      exact absurd (Option.some.inj h4) hd
    | succ m =>
      rw [q, List.getElem?_cons_succ] at h4
      exact absurd (List.mem_of_getElem? h4) h
theorem find_at {A I Z : List Nat} {c d : Nat} (hd : d ≠ c) (h : c ∉ I) : Txt.find3 (S (A ++ d :: (I ++ c :: Z))) (S [c]) (A.length : Int) = ((A.length + 1 + I.length : Nat) : Int) := by
  have hit : (A ++ d :: (I ++ c :: Z))[A.length + 1 + I.length]? = some c := by
    rw [List.getElem?_append_right (by omega), show A.length + 1 + I.length - A.length = I.length + 1 by omega, List.getElem?_cons_succ]
    exact get_mid
  have hlt : A.length + 1 + I.length < (S (A ++ d :: (I ++ c :: Z))).length := by
    rw [S_len]
    exact (List.getElem?_eq_some_iff.mp hit).1
  rcases StrLaws.find3_spec (S (A ++ d :: (I ++ c :: Z))) c (A.length : Int) with ⟨_, hn⟩ | ⟨k, e, h1, h2, h3, hn⟩
  · rw [from_nat] at hn
    exact absurd (getD_of hit) (hn _ (by omega) hlt)
  · rw [from_nat] at h1 hn
    have h4 : (A ++ d :: (I ++ c :: Z))[k]? = some c := StrLaws.getElem?_of_getD h2 h3
    have a : ¬ A.length + 1 + I.length < k := fun z => hn _ (by omega) z (getD_of hit)
    have b : ¬ k < A.length + 1 + I.length := fun z => by
      rw [List.getElem?_append_right h1] at h4
      cases q : k - A.length with
      | zero =>
        rw [q] at h4
        exact absurd (Option.some.inj h4) hd
      | succ m =>
        rw [q, List.getElem?_cons_succ, List.getElem?_append_left (by omega)] at h4
        exact absurd (List.mem_of_getElem? h4) h
    rw [e]
    omega
/-- the last opening bracket, the first closing one behind it -/
theorem split_last {c : Nat} : ∀ {l : List Nat}, c ∈ l → ∃ A R, l = A ++ c :: R ∧ c ∉ R
  | [], h => by cases h
  | a :: l, h => by
    by_cases hl : c ∈ l
    · obtain ⟨A, R, e, hR⟩ := split_last hl
      exact ⟨a :: A, R, by rw [e] <;> rfl, hR⟩
    · rcases List.mem_cons.mp h with q | q
      · exact ⟨[], l, by rw [q] <;> rfl, hl⟩
      · exact absurd q hl
theorem split_first {c : Nat} : ∀ {l : List Nat}, c ∈ l → ∃ A R, l = A ++ c :: R ∧ c ∉ A
  | [], h => by cases h
  | a :: l, h => by
    by_cases ha : a = c
    · exact ⟨[], l, by rw [ha] <;> rfl, by simp⟩
    · have hl : c ∈ l := by
        rcases List.mem_cons.mp h with q | q
        · exact absurd q.symm ha
        · exact q
      obtain ⟨A, R, e, hA⟩ := split_first hl
      exact ⟨a :: A, R, by rw [e] <;> rfl, by simp; exact ⟨fun z => ha z.symm, hA⟩⟩
theorem split_S (l : List Nat) : Txt.split (S l) (S [32]) = (cut32 l).map S := by
  refine TL.map_tl_inj ?_
  rw [TL.split_spl _ (S [32]) (List.cons_ne_nil _ _) (TL.kind_ok (by decide +kernel)), List.map_map]
  show TL.spl [32] 0 [] l = _
  rw [spl_eq]
  have e : (TL.tl ∘ S) = (id : List Nat → List Nat) := funext fun l => rfl
  rw [e, List.map_id]
def optV : Option Nat → V
  | some k => .int (k : Nat)
  | none => .non
section
variable {P : Program} {w : World} {K : PySem.W.Frag} {mg : Str → Option Value} {base : Heap} {CC C : Addr}
/-! ## 31. _law_count -/
def spLc : Sp := fun vs H Q _ => ∃ l : List Nat, vs = [.str (S l), .int 2] ∧ l.length ≤ 600 ∧ Q (optV (lawCount l)) H
theorem scLc : FnScope ["_law_word", "_law_least", "_law_sign"] ["_law_word", "_law_least"] (defScope sCount) := ⟨rfl, rfl, rfl, by decide +kernel, rfl, by decide +kernel, by decide +kernel⟩
theorem cps_get {l : List Nat} {i c : Nat} (h : (S l).cps[i]? = some c) : l[i]? = some c := by
  have : l.toArray[i]? = some c := h
  rw [List.getElem?_toArray] at this
  exact this
theorem ok_lawCount {f : Addr} {fd : FuncData} (F : Fun K "_law_count" "_law_count" sCount f fd) (T : Cs K mg CC C) : FnOk P w K mg base CX0 1 f fd ["_law_word", "_law_least"] spLc := by
  refine F.ok scLc (fun vs H Q E h => ?_) (fun cdv A outer s H vs Q E hr h => ?_)
  · obtain ⟨l, rfl, _⟩ := h
    rfl
  obtain ⟨l, rfl, hl, kQ⟩ := h
  refine ⟨_, pss_cons (ps_if (pt_cmpR op_eq (pv 0) pe_str (nomark _)) (pss_one (ps_ret pe_int)) pss_nil)
    (pss_cons (ps_for PassesOwn.never rfl (pi_str (pv 0)) (pg_name (i := 2) scLc.nd rfl (.inl rfl)) (pss_one (ps_if (pt_cmpR op_notIn_sign (pv 2) pe_str rfl) (pss_one (ps_ret pe_non)) pss_nil)))
    (pss_cons (ps_if (PW.pt (pw_or (pt_cmpR op_eq (pe_ix ix_str (pv 0) pe_int (fun _ _ => rfl)) pe_str (nomark _))
        (pw_or (pt_cmpR op_gt (pe_callB call_len_str rfl T.len PySem.boot_len (pa_cons (pv 0) pa_nil)) pe_int (nomark _))
          (pw_or1 (pt_cmpR op_lt (pe_callTy call_int_str rfl T.int (by decide +kernel) (pa_cons (pv 0) pa_nil)) (pv 1) (nomark _))))))
        (pss_one (ps_ret pe_non)) pss_nil)
    (pss_one (ps_ret (pe_callTy call_int_str rfl T.int (by decide +kernel) (pa_cons (pv 0) pa_nil)))))), ?_⟩
  have hl2 : (S l).length ≤ sizeLine := Slen_le (by omega)
  dsimp only [tSeq, tNext]
  refine st_if (b := decide (l = [])) ?_ ?_ ?_
  · refine Ans.of (b' := decide (V.str (S l) = V.str (Str.ofString ""))) ?_ fun Q1 q1 => ⟨_, rfl, rfl, _, rfl, q1⟩
    rw [lit_empty, S_dec]
  · intro h
    have h := of_decide_eq_true h
    subst h
    exact kQ
  intro h
  have hne := of_decide_eq_false h
  refine ⟨_, rfl, S l, rfl, for_it walk_str (fun i σ H' => ∃ u, σ = [some (.str (S l)), some (.int 2), u] ∧ H' = H ∧ (l.take i).all dig = true) ⟨none, rfl, rfl, rfl⟩ (fun _ _ _ _ _ => trivial) ?_ ?_⟩
  · rintro i x σ H1 H' hi ⟨u, rfl, rfl, ha⟩ ⟨rfl, c, hc, rfl⟩
    have hc := cps_get hc
    refine st_if (b := !dig c) ?_ ?_ ?_
    · intro Q1 q1
      refine ⟨_, rfl, c, _, rfl, rfl, _, rfl, ?_⟩
      rw [in_figures]
      exact q1
    · intro hd
      have hd : dig c = false := by simpa using hd
      have e : lawCount l = none := by
        unfold lawCount
        refine if_neg fun z => ?_
        have := List.all_eq_true.mp z c (List.mem_of_getElem? hc)
        rw [hd] at this
        cases this
      rw [e] at kQ
      exact kQ
    · intro hd
      have hd : dig c = true := by simpa using hd
      refine ⟨_, rfl, rfl, ?_⟩
      rw [take_more hc, List.all_append, ha]
      show (true && (dig c && true)) = true
      rw [hd] <;> rfl
  · rintro σ H' ⟨u, rfl, rfl, ha⟩
    have hsz : (S l).cps.size = l.length := S_len l
    rw [hsz, List.take_length] at ha
    have had := all_dig ha
    obtain ⟨c, r, rfl⟩ : ∃ c r, l = c :: r := by
      cases l with
      | nil => exact absurd rfl hne
      | cons c r => exact ⟨c, r, rfl⟩
    have e : lawCount (c :: r) = cnt3 (c :: r) := if_pos ha
    rw [e] at kQ
    unfold cnt3 at kQ
    rw [if_neg hne] at kQ
    have hint := int_digits had hne (by omega)
    dsimp only [tSeq, tNext]
    refine st_if (b := decide ((c :: r).head? = some 48 ∨ 3 < (c :: r).length ∨ digitsVal (c :: r) < 2)) ?_ ?_ ?_
    · by_cases h1 : c = 48
      · refine Ans.to (ans_or1 (Ans.of (b' := decide (V.str (S [c]) = V.str (Str.ofString "0"))) ?_ fun Q1 q1 => ?_)) (b := true) ?_
        · rw [lit_zero, S_dec, h1, decide_eq_true rfl]
        · exact ⟨_, rfl, S (c :: r), _, c, rfl, rfl, hl2, at_S (i := 0) rfl, rfl, _, rfl, q1⟩
        · rw [decide_eq_true]
          exact .inl (by rw [h1] <;> rfl)
      · refine ans_or (Ans.of (b' := decide (V.str (S [c]) = V.str (Str.ofString "0"))) ?_ fun Q1 q1 => ?_) ?_
        · rw [lit_zero, S_dec, decide_eq_false fun z => h1 (List.cons.inj z).1]
        · exact ⟨_, rfl, S (c :: r), _, c, rfl, rfl, hl2, at_S (i := 0) rfl, rfl, _, rfl, q1⟩
        have t2 : ∀ b, decide (3 < (c :: r).length) = b → Ans (tTest (tOp (rI0 fun i j => V.bl (decide (j < i))) (tCB (fun xs H Q => ∃ z, xs = [V.str z] ∧ z.length ≤ sizeLine ∧ Q (.int z.length) H) (tCons (tVar 0) tNil)) (tC (.int 3)))) [some (.str (S (c :: r))), some (.int 2), u] H' b := by
          intro b hb
          refine Ans.of (b' := decide ((3 : Int) < (((S (c :: r)).length : Nat) : Int))) ?_ fun Q1 q1 => ⟨_, rfl, S (c :: r), rfl, hl2, _, _, rfl, rfl, _, rfl, q1⟩
          rw [← hb, S_len, Bool.eq_iff_iff]
          simp only [decide_eq_true_eq]
          omega
        by_cases h2 : 3 < (c :: r).length
        · refine Ans.to (ans_or1 (t2 true (decide_eq_true h2))) (b := true) ?_
          rw [decide_eq_true]
          exact .inr (.inl h2)
        · refine ans_or (t2 false (decide_eq_false h2)) ?_
          intro Q1 q1
          refine ⟨_, rfl, _, _, rfl, hint, by rw [S_len]; omega, _, rfl, _, _, rfl, rfl, _, rfl, ?_⟩
          rw [show decide (((digitsVal (c :: r) : Nat) : Int) < 2) = decide ((c :: r).head? = some 48 ∨ 3 < (c :: r).length ∨ digitsVal (c :: r) < 2) from ?_]
          · exact q1
          · rw [Bool.eq_iff_iff]
            simp only [decide_eq_true_eq]
            constructor
            · intro h; exact .inr (.inr (by omega))
            · rintro (h | h | h)
              · exact absurd (Option.some.inj h) h1
              · exact absurd h h2
              · omega
    · intro hb
      rw [if_pos (of_decide_eq_true hb)] at kQ
      exact kQ
    · intro hb
      rw [if_neg (of_decide_eq_false hb)] at kQ
      exact ⟨_, rfl, _, _, rfl, hint, by rw [S_len]; omega, kQ⟩
/-! ## 32. _law_flat -/
def spLf : Sp := fun vs H Q _ => ∃ l : List Nat, vs = [.str (S l)] ∧ l.length ≤ 600 ∧ (∀ v ∈ cut32 l, WordOk v) ∧ ∀ H', Same H H' → Q (optV (flatW (cut32 l))) H'
theorem scLf : FnScope ["_law_text", "_law_total", "_law_word", "_law_size_here", "_law_many"] ["_law_text"] (defScope sFlat) := ⟨rfl, rfl, rfl, by decide +kernel, rfl, by decide +kernel, by decide +kernel⟩
theorem cut_word_len {l v : List Nat} (h : v ∈ cut32 l) : v.length ≤ l.length := by
  obtain ⟨_, p, q, e, _⟩ := mem_cut _ l (Nat.le_refl _) h
  rw [e, List.length_append, List.length_append]
  omega
theorem ok_lawFlat {f g : Addr} {fd gd : FuncData} (F : Fun K "_law_flat" "_law_flat" sFlat f fd) (T : Cs K mg CC C)
    (G : FnOk P w K mg base CX0 1 g gd ["_law_word", "_law_least"] spLc) (bG : Binds K gd ["_law_word", "_law_least"] []) (kG : PySem.W.keepIn K (.ref g) = true) (mG : mg "_law_count" = some (.ref g)) : FnOk P w K mg base CX0 2 f fd ["_law_text"] spLf := by
  refine F.ok scLf (fun vs H Q E h => ?_) (fun cdv A outer s H vs Q E hr h => ?_)
  · obtain ⟨l, rfl, _⟩ := h
    rfl
  obtain ⟨l, rfl, hl, hok, kQ⟩ := h
  refine ⟨_, pss_cons (ps_set (i := 1) scLf.nd rfl (.inl rfl) pe_int)
    (pss_cons (ps_for PassesOwn.never rfl (pi_list (pe_split (pv 0) pe_str)) (pg_name (i := 2) scLf.nd rfl (.inl rfl))
      (pss_cons (ps_if (pt_cmpR op_eq (pe_slice sl_str (pv 2) po_none (po_some pe_int)) pe_str (nomark _))
        (pss_one (ps_set (i := 3) scLf.nd rfl (.inl rfl) (pe_callTy call_int_str rfl T.int (by decide +kernel) (pa_cons (pe_slice sl_str (pv 2) (po_some pe_int) (po_some (pe_un un_neg pe_int))) pa_nil))))
        (pss_cons (ps_set (i := 4) scLf.nd rfl (.inl rfl) (pe_call G hr rfl mG kG bG .nil pass0 (pa_cons (pe_slice sl_str (pv 2) (po_some pe_int) po_none) (pa_cons pe_int pa_nil))))
        (pss_cons (ps_if (PW.pt (pw_or (pt_cmpR op_eq (pv 2) pe_str (nomark _)) (pw_or (pt_cmpR op_notIn_sign (pe_ix ix_str (pv 2) pe_int (fun _ _ => rfl)) pe_str rfl) (pw_or1 (pt_cmpR op_isN (pv 4) pe_non (nomark _))))))
          (pss_one (ps_ret pe_non)) pss_nil)
        (pss_one (ps_set (i := 3) scLf.nd rfl (.inl rfl) (pv 4))))))
      (pss_one (ps_set (i := 1) scLf.nd rfl (.inl rfl) (pe_op op_add (pv 1) (pv 3))))))
    (pss_one (ps_ret (pv 1)))), ?_⟩
  refine ⟨_, rfl, ⟨_, rfl⟩, S l, S [32], rfl, by rw [lit_blank], rfl, ?_, fun p hp => ?_⟩
  · rw [S_len]
    exact sz_le (by omega)
  rw [split_S]
  refine ⟨p, rfl, ⟨_, SqL.of upd_same⟩, for_list (K := K) (a := p) (xs := ((cut32 l).map S).map V.str) (fun i σ H' => ∃ (t : Nat) (u2 u3 u4 : Option V), σ = [some (.str (S l)), some (.int (t : Nat)), u2, u3, u4] ∧ H' = upd H p (.lst (((cut32 l).map S).map V.str)) ∧
      flatW (cut32 l) = (match flatW ((cut32 l).drop i) with | none => none | some b => some (t + b)))
    ⟨0, none, none, none, rfl, rfl, ?_⟩ (fun i σ H' _ ⟨_, _, _, _, _, e, _⟩ => by rw [e]; exact SqL.of upd_same) ?_ ?_⟩
  · rw [List.drop_zero]
    cases flatW (cut32 l) with
    | none => rfl
    | some b => show some b = some (0 + b); rw [Nat.zero_add]
  · rintro i x σ H' hxi ⟨t, u2, u3, u4, rfl, rfl, hR⟩
    rw [List.getElem?_map, List.getElem?_map] at hxi
    cases hv : (cut32 l)[i]? with
    | none => rw [hv] at hxi; cases hxi
    | some v =>
      rw [hv] at hxi
      obtain rfl := (Option.some.inj hxi).symm
      have hmem := List.mem_of_getElem? hv
      have hvl := cut_word_len hmem
      have hv2 : (S v).length ≤ sizeLine := Slen_le (by omega)
      have hvok := hok v hmem
      have hdrop : (cut32 l).drop i = v :: (cut32 l).drop (i + 1) := by
        obtain ⟨hi, e⟩ := List.getElem?_eq_some_iff.mp hv
        rw [List.drop_eq_getElem_cons hi, e]
      rw [hdrop] at hR
      have sa := same_new hp (.lst (((cut32 l).map S).map V.str))
      have hfl : flatW (v :: (cut32 l).drop (i + 1)) = (match wordV v with | none => none | some a => match flatW ((cut32 l).drop (i + 1)) with | none => none | some b => some (a + b)) := rfl
      -- behind the word's number
      have next : ∀ k, wordV v = some k → flatW (cut32 l) = (match flatW ((cut32 l).drop (i + 1)) with | none => none | some b => some ((t + k) + b)) := by
        intro k hk
        rw [hR, hfl, hk]
        show (match (match flatW ((cut32 l).drop (i + 1)) with | none => none | some b => some (k + b)) with | none => none | some b => some (t + b)) = _
        cases flatW ((cut32 l).drop (i + 1)) with
        | none => rfl
        | some b => show some (t + (k + b)) = some (t + k + b); rw [Nat.add_assoc]
      have stop : wordV v = none → flatW (cut32 l) = none := by
        intro hk
        rw [hR, hfl, hk]
      refine st_if (b := decide (v.head? = some 35)) ?_ ?_ ?_
      · refine Ans.of (b' := decide (V.str (cutS (S v) none (some ((1 : Nat) : Int))) = V.str (Str.ofString "#"))) ?_ fun Q1 q1 => ⟨_, rfl, _, rfl, S v, rfl, hv2, rfl, _, rfl, q1⟩
        rw [lit_hash, cut_to, S_dec, Bool.eq_iff_iff]
        simp only [decide_eq_true_eq]
        exact take1
      · intro hb
        obtain ⟨r, rfl⟩ := head_cons (of_decide_eq_true hb)
        obtain ⟨n, rfl⟩ := hvok r rfl
        have hwv : wordV (35 :: (numL n ++ [33])) = some n := by
          rw [wordV_cons, if_pos rfl, List.dropLast_concat, TL.numL_val]
        have hcut : cutS (S (35 :: (numL n ++ [33]))) (some 1) (some (-1)) = S (numL n) := by rw [cut_mid, List.dropLast_concat]
        have hnl : (numL n).length ≤ 600 := by
          rw [List.length_cons, List.length_append] at hvl
          omega
        have hint := int_digits (TL.numL_digits n) (TL.numL_ne n) (show (numL n).length ≤ 640 by omega)
        rw [TL.numL_val] at hint
        refine ⟨_, rfl, _, rfl, _, rfl, _, rfl, S (35 :: (numL n ++ [33])), rfl, hv2, _, ((n : Nat) : Int), rfl, ?_, ?_, ?_⟩
        · exact (congrArg PySem.intText? hcut).trans hint
        · refine Nat.le_trans (Nat.le_of_eq (congrArg Str.length hcut)) ?_
          rw [S_len]; omega
        refine ⟨_, rfl, _, rfl, _, _, rfl, rfl, t + n, some (.str (S (35 :: (numL n ++ [33])))), some (.int (n : Nat)), u4, ?_, rfl, next n hwv⟩
        rw [Int.natCast_add]
        rfl
      · intro hb
        have hb := of_decide_eq_false hb
        have hcut : cutS (S v) (some ((1 : Nat) : Int)) none = S (v.drop 1) := cut_from v 1
        refine ⟨_, rfl, _, rfl, S v, rfl, hv2, v.drop 1, ?_, ?_, ?_⟩
        · rw [← hcut] <;> rfl
        · rw [List.length_drop]; omega
        dsimp only [tSeq, tNext]
        have hwv : wordV v = if v = [] ∨ badH v = true then none else lawCount (v.drop 1) := by
          cases v with
          | nil => rfl
          | cons c r =>
            have hc : c ≠ 35 := fun z => hb (by rw [z] <;> rfl)
            rw [wordV_cons, if_neg hc]
            show (if low c = true then lawCount r else none) = (if c :: r = [] ∨ (!low c) = true then none else lawCount r)
            cases low c
            · rw [if_neg Bool.false_ne_true, if_pos (.inr rfl)]
            · rw [if_pos rfl, if_neg]
              rintro (h | h)
              · cases h
              · cases h
        refine st_if (b := decide (wordV v = none)) ?_ ?_ ?_
        · cases v with
          | nil =>
            refine Ans.to (ans_or1 (Ans.of (b' := decide (V.str (S []) = V.str (Str.ofString ""))) ?_ fun Q1 q1 => ⟨_, rfl, rfl, _, rfl, q1⟩)) (b := true) rfl
            rw [lit_empty, S_dec, decide_eq_true rfl]
          | cons c r =>
            refine ans_or (Ans.of (b' := decide (V.str (S (c :: r)) = V.str (Str.ofString ""))) ?_ fun Q1 q1 => ⟨_, rfl, rfl, _, rfl, q1⟩) ?_
            · rw [lit_empty, S_dec]
              exact decide_eq_false fun z => nomatch z
            have hc : c ≠ 35 := fun z => hb (by rw [z] <;> rfl)
            have t2 : Ans (tTest (tOp (fun x y H Q => ∃ (c : Nat) (z : Str), x = .str ⟨#[c]⟩ ∧ y = .str z ∧ Q (.bl (!decide (c ∈ z.cps.toList))) H) (tOp rIxS (tVar 2) (tC (.int 0))) (tC (.str (Str.ofString "abcdefghijklmnopqrstuvwxyz"))))) [some (.str (S l)), some (.int (t : Nat)), some (.str (S (c :: r))), u3, some (optV (lawCount ((c :: r).drop 1)))] (upd H p (.lst (((cut32 l).map S).map V.str))) (!low c) := by
              intro Q1 q1
              refine ⟨_, rfl, S (c :: r), _, c, rfl, rfl, hv2, at_S (i := 0) rfl, c, _, rfl, rfl, _, rfl, ?_⟩
              rw [in_letters]
              exact q1
            rw [wordV_cons, if_neg hc]
            cases hlow : low c
            · rw [hlow] at t2
              exact ans_or1 t2
            · rw [hlow] at t2
              rw [if_pos rfl]
              refine ans_or t2 ?_
              intro Q1 q1
              refine ⟨_, rfl, rfl, _, rfl, ?_⟩
              rw [show decide (optV (lawCount ((c :: r).drop 1)) = V.non) = decide (lawCount r = none) from ?_]
              · exact q1
              · show decide (optV (lawCount r) = V.non) = _
                cases lawCount r with
                | none => rfl
                | some k => rfl
        · intro h
          have h := stop (of_decide_eq_true h)
          rw [h] at kQ
          exact kQ _ sa
        · intro h
          have h := of_decide_eq_false h
          obtain ⟨k, hk⟩ : ∃ k, wordV v = some k := by
            cases q : wordV v with
            | none => exact absurd q h
            | some k => exact ⟨k, rfl⟩
          have hlc : lawCount (v.drop 1) = some k := by
            rw [hwv] at hk
            split at hk
            · cases hk
            · exact hk
          refine ⟨_, rfl, ?_⟩
          dsimp only [tSeq, tNext]
          rw [hlc]
          refine ⟨_, rfl, _, rfl, _, _, rfl, rfl, t + k, some (.str (S v)), some (.int (k : Nat)), some (.int (k : Nat)), ?_, rfl, next k hk⟩
          rw [Int.natCast_add]
          rfl
  · rintro σ H' ⟨t, u2, u3, u4, rfl, rfl, hR⟩
    have hlen : (((cut32 l).map S).map V.str).length = (cut32 l).length := by rw [List.length_map, List.length_map]
    rw [hlen, List.drop_length] at hR
    have hR : flatW (cut32 l) = some (t + 0) := hR
    rw [hR] at kQ
    exact ⟨_, rfl, kQ _ (same_new hp _)⟩
end
end K32
namespace K32
open PySem L2
open TL (numL joinL)
open NumText (digitsVal AllDigits)
/-! ## 33. _law_size -/
def okA (A : List Nat) : Bool := match A.getLast? with
  | none => true
  | some z => decide (z = 32 ∨ z = 40)
def okB (B : List Nat) : Bool := match B.head? with
  | none => true
  | some z => decide (z = 32 ∨ z = 41)
theorem eqV_str (a b : Str) : eqV (.str a) (.str b) = decide (a = b) := rfl
theorem S_dec2 (a b : List Nat) : decide (S a = S b) = decide (a = b) := by
  rw [Bool.eq_iff_iff]
  simp only [decide_eq_true_eq]
  exact ⟨S_inj, fun h => by rw [h]⟩
theorem in3 (x : List Nat) (c d : Nat) : inV (.str (S x)) [.str (S []), .str (S [c]), .str (S [d])] = decide (x = [] ∨ x = [c] ∨ x = [d]) := by
  show (decide (S [] = S x) || (decide (S [c] = S x) || (decide (S [d] = S x) || false))) = _
  rw [S_dec2, S_dec2, S_dec2, Bool.or_false, Bool.eq_iff_iff]
  simp only [Bool.or_eq_true, decide_eq_true_eq]
  constructor
  · rintro (h | h | h)
    · exact .inl h.symm
    · exact .inr (.inl h.symm)
    · exact .inr (.inr h.symm)
  · rintro (h | h | h)
    · exact .inl h.symm
    · exact .inr (.inl h.symm)
    · exact .inr (.inr h.symm)
theorem okA_eq (A : List Nat) : decide (A.getLast?.toList = [] ∨ A.getLast?.toList = [32] ∨ A.getLast?.toList = [40]) = okA A := by
  unfold okA
  cases A.getLast? with
  | none => rfl
  | some z =>
    show decide ([z] = [] ∨ [z] = [32] ∨ [z] = [40]) = decide (z = 32 ∨ z = 40)
    rw [Bool.eq_iff_iff]
    simp
theorem okB_eq (B : List Nat) : decide (B.take 1 = [] ∨ B.take 1 = [32] ∨ B.take 1 = [41]) = okB B := by
  unfold okB
  cases B with
  | nil => rfl
  | cons z B =>
    show decide ([z] = [] ∨ [z] = [32] ∨ [z] = [41]) = decide (z = 32 ∨ z = 41)
    rw [Bool.eq_iff_iff]
    simp
theorem cut_before (A R : List Nat) : cutS (S (A ++ R)) (some (((A.length : Nat) : Int) - 1)) (some ((A.length : Nat) : Int)) = S A.getLast?.toList := by
  rcases List.eq_nil_or_concat A with h | ⟨A', z, h⟩
  · subst h
    refine TL.ext_tl ?_
    show ((([] : List Nat) ++ R).drop (HT.sIx (S ([] ++ R)).length 0 (some (((([] : List Nat).length : Nat) : Int) - 1)))).take (HT.sIx (S ([] ++ R)).length (S ([] ++ R)).length (some ((([] : List Nat).length : Nat) : Int)) - HT.sIx (S ([] ++ R)).length 0 (some (((([] : List Nat).length : Nat) : Int) - 1))) = []
    rw [HT.sIx_nat]
    simp
  · rw [List.concat_eq_append] at h
    subst h
    have e : (((A' ++ [z]).length : Nat) : Int) - 1 = ((A'.length : Nat) : Int) := by rw [List.length_append, List.length_singleton]; omega
    rw [e, cut_nat, List.length_append, List.length_singleton, Nat.add_sub_cancel_left, List.append_assoc, List.drop_left, List.getLast?_concat]
    rfl
section
variable {σ : L2.St} {H : Hp} {c : TT} {D : Ends} {t1 t2 : TS} {b : Bool} {P : Hp → Prop}
theorem st_ifH (h : AnsH c σ H b P) (h1 : b = true → ∀ H', P H' → t1 D σ H') (h0 : b = false → ∀ H', P H' → t2 D σ H') : tIfS c t1 t2 D σ H := by
  cases b with
  | true => exact st_yesH h (h1 rfl)
  | false => exact st_noH h (h0 rfl)
end
section
variable {P : Program} {w : World} {K : PySem.W.Frag} {mg : Str → Option Value} {base : Heap} {CC C : Addr}
def spLs : Sp := fun vs H Q _ => ∃ l : List Nat, vs = [.str (S l)] ∧ l.length ≤ 200 ∧
  (∀ n, 35 ∉ l → Sz false l n [] → ∀ H', Same H H' → Q (.int (n : Nat)) H') ∧ ((∀ n, ¬ (35 ∉ l ∧ Sz false l n [])) → ∀ H', Same H H' → Q .non H')
theorem scLs : FnScope ["_law_text", "_law_first", "_law_last", "_law_end", "_law_size_here", "_law_many"] ["_law_text"] (defScope sSize) := ⟨rfl, rfl, rfl, by decide +kernel, rfl, by decide +kernel, by decide +kernel⟩
def rInOne : R2 := fun x y H Q => ∃ (c : Nat) (z : Str), x = .str ⟨#[c]⟩ ∧ y = .str z ∧ Q (.bl (decide (c ∈ z.cps.toList))) H
theorem op_inOne {X : Cx} : OpR X (compareOp .In) rInOne := op_in_sign
/-- 'x' in text or 'y' in text -/
theorem two_in {l : List Nat} {c d : Nat} {x y : Str} {σ : L2.St} {H : Hp} (hx : x = S [c]) (hy : y = S [d]) (h0 : σ[0]? = some (some (.str (S l)))) :
    Ans (tOr (tTest (tOp rInOne (tC (.str x)) (tVar 0))) (tTest (tOp rInOne (tC (.str y)) (tVar 0)))) σ H (decide (c ∈ l ∨ d ∈ l)) := by
  have t1 : Ans (tTest (tOp rInOne (tC (.str x)) (tVar 0))) σ H (decide (c ∈ l)) := fun Q1 q1 => ⟨_, h0, c, S l, congrArg V.str hx, rfl, _, rfl, q1⟩
  have t2 : Ans (tTest (tOp rInOne (tC (.str y)) (tVar 0))) σ H (decide (d ∈ l)) := fun Q1 q1 => ⟨_, h0, d, S l, congrArg V.str hy, rfl, _, rfl, q1⟩
  by_cases h : c ∈ l
  · rw [decide_eq_true h] at t1
    exact Ans.to (ans_or1 t1) (decide_eq_true (Or.inl h)).symm
  · rw [decide_eq_false h] at t1
    refine Ans.to (ans_or t1 t2) ?_
    rw [Bool.eq_iff_iff]
    simp only [decide_eq_true_eq]
    exact ⟨Or.inr, fun z => z.elim (fun z => absurd z h) id⟩
theorem okA_no {A : List Nat} (h : okA A = false) : ∃ z, A.getLast? = some z ∧ z ≠ 32 ∧ z ≠ 40 := by
  unfold okA at h
  cases q : A.getLast? with
  | none => rw [q] at h; cases h
  | some z =>
    rw [q] at h
    have h := of_decide_eq_false h
    exact ⟨z, rfl, fun e => h (.inl e), fun e => h (.inr e)⟩
theorem okA_yes {A : List Nat} (h : okA A = true) : ∀ z, A.getLast? = some z → z = 32 ∨ z = 40 := by
  intro z q
  unfold okA at h
  rw [q] at h
  exact of_decide_eq_true h
theorem okB_no {B : List Nat} (h : okB B = false) : ∃ c s, B = c :: s ∧ c ≠ 32 ∧ c ≠ 41 := by
  cases B with
  | nil => cases h
  | cons z B =>
    have h : decide (z = 32 ∨ z = 41) = false := h
    have h := of_decide_eq_false h
    exact ⟨z, B, rfl, fun e => h (.inl e), fun e => h (.inr e)⟩
theorem okB_yes {B : List Nat} (h : okB B = true) : Stop B := by
  intro c r e
  subst e
  have h : decide (c = 32 ∨ c = 41) = true := h
  exact of_decide_eq_true h
theorem ok_lawSize {f g1 g2 : Addr} {fd gd1 gd2 : FuncData} (F : Fun K "_law_size" "_law_size" sSize f fd) (T : Cs K mg CC C)
    (GC : FnOk P w K mg base CX0 1 g1 gd1 ["_law_word", "_law_least"] spLc) (bC : Binds K gd1 ["_law_word", "_law_least"] []) (kC : PySem.W.keepIn K (.ref g1) = true) (mC : mg "_law_count" = some (.ref g1))
    (GF : FnOk P w K mg base CX0 2 g2 gd2 ["_law_text"] spLf) (bF : Binds K gd2 ["_law_text"] []) (kF : PySem.W.keepIn K (.ref g2) = true) (mF : mg "_law_flat" = some (.ref g2)) : FnOk P w K mg base CX0 3 f fd ["_law_text"] spLs := by
  refine F.ok scLs (fun vs H Q E h => ?_) (fun cdv A outer s H vs Q E hr h => ?_)
  · obtain ⟨l, rfl, _⟩ := h
    rfl
  obtain ⟨l, rfl, hl, kY, kN⟩ := h
  have hr1 : Room 1 _ := hr.mono (by decide)
  refine ⟨_, pss_cons (ps_if (PW.pt (pw_or (pt_cmpR op_inOne pe_str (pv 0) rfl) (pw_or1 (pt_cmpR op_inOne pe_str (pv 0) rfl)))) (pss_one (ps_ret pe_non)) pss_nil)
    (pss_cons (ps_while PassesOwn.never (PW.pt (pw_or (pt_cmpR op_inOne pe_str (pv 0) rfl) (pw_or1 (pt_cmpR op_inOne pe_str (pv 0) rfl))))
      (pss_cons (ps_set (i := 1) scLs.nd rfl (.inl rfl) (pe_m1 PySem.F.slot_str_rfind PySem.F.type_str_rfind mt_rfind (pv 0) pe_str))
      (pss_cons (ps_set (i := 2) scLs.nd rfl (.inl rfl) (pe_bm PySem.F.plainAttrs_str PySem.F.slot_str_find PySem.F.type_str_find mt_find3 (pv 0) (pa_cons pe_str (pa_cons (pe_callB (call_max2 rfl) rfl T.max (by decide +kernel) (pa_cons (pv 1) (pa_cons pe_int pa_nil))) pa_nil))))
      (pss_cons (ps_if (PW.pt (pw_or (pt_cmpR op_lt (pv 1) pe_int (nomark _)) (pw_or1 (pt_cmpR op_lt (pv 2) pe_int (nomark _))))) (pss_one (ps_ret pe_non)) pss_nil)
      (pss_cons (ps_set (i := 3) scLs.nd rfl (.inl rfl) (pe_op op_add (pv 2) pe_int))
      (pss_cons (ps_while PassesOwn.never (PW.pt (pw_and (pt_cmpR op_lt (pv 3) (pe_callB call_len_str rfl T.len PySem.boot_len (pa_cons (pv 0) pa_nil)) (nomark _)) (pw_and1 (pt_cmpR op_inOne (pe_ix ix_str (pv 0) (pv 3) (fun _ _ => rfl)) pe_str rfl))))
        (pss_one (ps_set (i := 3) scLs.nd rfl (.inl rfl) (pe_op op_add (pv 3) pe_int))))
      (pss_cons (ps_set (i := 4) scLs.nd rfl (.inl rfl) (pe_call GF hr rfl mF kF bF .nil pass0 (pa_cons (pe_slice sl_str (pv 0) (po_some (pe_op op_add (pv 1) pe_int)) (po_some (pv 2))) pa_nil)))
      (pss_cons (ps_set (i := 5) scLs.nd rfl (.inl rfl) (pe_call GC hr1 rfl mC kC bC .nil pass0 (pa_cons (pe_slice sl_str (pv 0) (po_some (pe_op op_add (pv 2) pe_int)) (po_some (pv 3))) (pa_cons pe_int pa_nil))))
      (pss_cons (ps_if (PW.pt (pw_or (pt_cmpR op_isN (pv 4) pe_non (nomark _)) (pw_or (pt_cmpR op_isN (pv 5) pe_non (nomark _)) (pw_or1 (pt_cmpR op_eq (pe_op op_add (pv 2) pe_int) (pv 3) (nomark _)))))) (pss_one (ps_ret pe_non)) pss_nil)
      (pss_cons (ps_if (PW.pt (pw_or (pt_cmpR op_notIn_seq (pe_slice sl_str (pv 0) (po_some (pe_op op_sub (pv 1) pe_int)) (po_some (pv 1))) (pe_tup (pa_cons pe_str (pa_cons pe_str (pa_cons pe_str pa_nil)))) rfl)
          (pw_or1 (pt_cmpR op_notIn_seq (pe_slice sl_str (pv 0) (po_some (pv 3)) (po_some (pe_op op_add (pv 3) pe_int))) (pe_tup (pa_cons pe_str (pa_cons pe_str (pa_cons pe_str pa_nil)))) rfl)))) (pss_one (ps_ret pe_non)) pss_nil)
      (pss_one (ps_set (i := 0) scLs.nd rfl (.inl rfl) (pe_op op_add_str (pe_op op_add_str (pe_op op_add_str (pe_op op_add_str (pe_slice sl_str (pv 0) po_none (po_some (pv 1))) pe_str) (pe_callTy call_str_int rfl T.str (by decide +kernel) (pa_cons (pe_op op_mul (pv 4) (pv 5)) pa_nil))) pe_str) (pe_slice sl_str (pv 0) (po_some (pv 3)) po_none)))))))))))))
    )
    (pss_one (ps_ret (pe_call GF hr rfl mF kF bF .nil pass0 (pa_cons (pv 0) pa_nil))))), ?_⟩
  dsimp only [tSeq, tNext]
  refine st_if (two_in lit_hash lit_bang rfl) ?_ ?_
  · intro h
    have h := of_decide_eq_true h
    refine kN (fun n z => ?_) H (Same.refl _)
    rcases h with h | h
    · exact z.1 h
    · exact no_bang z.1 h n z.2
  intro h
  have h := of_decide_eq_false h
  have h35 : 35 ∉ l := fun z => h (.inl z)
  refine while_ix (fun m σ H' => ∃ (l' : List Nat) (u1 u2 u3 u4 u5 : Option V), σ = [some (.str (S l')), u1, u2, u3, u4, u5] ∧ Same H H' ∧ HashOk l' ∧ l'.length ≤ l.length ∧ (∀ n, Sz false l n [] ↔ Sz false l' n []) ∧ m = l'.count 40) (l.count 40)
    ⟨l, none, none, none, none, none, rfl, Same.refl _, hashOk_of h35, Nat.le_refl _, fun n => Iff.rfl, rfl⟩ ?_
  rintro m σ H1 ⟨l', u1, u2, u3, u4, u5, rfl, s1, hh, hlen, hiff, rfl⟩
  have hl2 : (S l').length ≤ sizeLine := Slen_le (by omega)
  have none_of : (∀ n, ¬ Sz false l' n []) → ∀ H', Same H H' → Q .non H' := fun z => kN fun n y => z n ((hiff n).mp y.2)
  have test := two_in (l := l') (H := H1) (σ := [some (.str (S l')), u1, u2, u3, u4, u5]) lit_open lit_close rfl
  by_cases hb : 40 ∈ l' ∨ 41 ∈ l'
  · rw [decide_eq_true hb] at test
    refine .inl ⟨test, ?_⟩
    dsimp only [tSeq, tNext]
    -- first = text.rfind("(")
    refine ⟨_, rfl, ⟨_, rfl⟩, S l', S [40], rfl, by rw [lit_open], ?_⟩
    refine ⟨_, rfl, rfl, _, rfl, _, _, rfl, S l', S [41], _, rfl, by rw [lit_close], ?_⟩
    by_cases m40 : 40 ∈ l'
    · obtain ⟨A, R, rfl, hR⟩ := split_last m40
      rw [rfind_at hR, show (if (0 : Int) > ((A.length : Nat) : Int) then (0 : Int) else ((A.length : Nat) : Int)) = ((A.length : Nat) : Int) from if_neg (by omega)]
      have t1 : ∀ z : Int, Ans (tTest (tOp (rI0 fun i j => V.bl (decide (i < j))) (tVar 1) (tC (.int 0)))) (([some (.str (S (A ++ 40 :: R))), u1, u2, u3, u4, u5].set 1 (some (V.int ((A.length : Nat) : Int)))).set 2 (some (V.int z))) H1 false := by
        intro z
        refine Ans.of (b' := decide (((A.length : Nat) : Int) < 0)) (decide_eq_false (by omega)) fun Q1 q1 => ⟨_, rfl, _, _, rfl, rfl, _, rfl, q1⟩
      by_cases m41 : 41 ∈ R
      · obtain ⟨I, Z, rfl, hI⟩ := split_first m41
        rw [find_at (by decide) hI]
        have hin : Inner (A ++ 40 :: (I ++ 41 :: Z)) A I (ds Z) (af Z) := ⟨by rw [ds_append_af], fun z => hR (List.mem_append_left _ z), hI, ds_all, fun c r e => af_head e⟩
        have hlA : (A ++ 40 :: (I ++ 41 :: Z)).length = A.length + 1 + I.length + 1 + Z.length := by
          simp only [List.length_append, List.length_cons]
          omega
        generalize hE : A.length + 1 + I.length = e at hlA
        have dZ : ∀ k, (A ++ 40 :: (I ++ 41 :: Z)).drop (e + 1 + k) = Z.drop k := by
          intro k
          have e1 : A ++ 40 :: (I ++ 41 :: Z) = (A ++ 40 :: (I ++ [41])) ++ Z := by simp
          have e2 : e + 1 + k = (A ++ 40 :: (I ++ [41])).length + k := by
            simp only [List.length_append, List.length_cons, List.length_nil]
            omega
          rw [e1, e2, List.drop_append]
          rw [List.drop_eq_nil_of_le (by omega), List.nil_append, Nat.add_sub_cancel_left]
        dsimp only [tSeq, tNext, tAsg, gName]
        refine st_if (b := false) ?_ (fun z => Bool.noConfusion z) (fun _ => ?_)
        · refine ans_or (t1 _) ?_
          refine Ans.of (b' := decide (((e : Nat) : Int) < 0)) (decide_eq_false (by omega)) fun Q1 q1 => ⟨_, rfl, _, _, rfl, rfl, _, rfl, q1⟩
        refine ⟨_, rfl, _, _, rfl, rfl, ?_⟩
        dsimp only [tSeq, tNext]
        -- the figures behind
        refine while_ix (fun m σ H' => ∃ p q, Z = p ++ q ∧ AllDigits p ∧ σ = [some (.str (S (A ++ 40 :: (I ++ 41 :: Z)))), some (.int (A.length : Nat)), some (.int (e : Nat)), some (.int ((e + 1 + p.length : Nat))), u4, u5] ∧ H' = H1 ∧ m = q.length) Z.length
          ⟨[], Z, rfl, (fun _ h => nomatch h), ?_, rfl, rfl⟩ ?_
        · rw [List.length_nil, Nat.add_zero, show ((e + 1 : Nat) : Int) = ((e : Nat) : Int) + 1 by omega]
          rfl
        rintro m σ H' ⟨p, q, eZ, hp, rfl, rfl, rfl⟩
        have hd : (A ++ 40 :: (I ++ 41 :: Z)).drop (e + 1 + p.length) = q := by rw [dZ, eZ, List.drop_left]
        by_cases hc : ∃ c r, q = c :: r ∧ dig c = true
        · obtain ⟨c, r, rfl, hc⟩ := hc
          have lt := drop_len hd
          refine .inl ⟨?_, ?_⟩
          · intro Q1 q1
            refine ⟨_, rfl, _, rfl, S _, rfl, hl2, _, _, rfl, rfl, _, rfl, ?_⟩
            refine if_yes (by rw [S_len]; omega) ?_
            refine ⟨_, rfl, _, rfl, S _, _, c, rfl, rfl, hl2, at_S (get_drop hd), c, _, rfl, rfl, _, rfl, ?_⟩
            rw [in_figures, hc]
            exact q1
          · refine ⟨_, rfl, _, _, rfl, rfl, r.length, by rw [List.length_cons]; omega, p ++ [c], r, by rw [eZ, List.append_assoc]; rfl, ?_, ?_, rfl, rfl⟩
            · intro z hz
              rcases List.mem_append.mp hz with hz | hz
              · exact hp z hz
              · rw [List.mem_singleton.mp hz]; exact dig_iff.mp hc
            · rw [show ((e + 1 + (p ++ [c]).length : Nat) : Int) = ((e + 1 + p.length : Nat) : Int) + 1 by rw [List.length_append, List.length_singleton]; omega]
              rfl
        have hf : ∀ c r, q = c :: r → dig c = false := fun c r e => by
          cases h : dig c
          · rfl
          · exact absurd ⟨c, r, e, h⟩ hc
        refine .inr ⟨?_, ?_⟩
        · intro Q1 q1
          refine ⟨_, rfl, _, rfl, S _, rfl, hl2, _, _, rfl, rfl, _, rfl, ?_⟩
          cases q with
          | nil =>
            refine if_no ?_ q1
            have := congrArg List.length hd
            rw [List.length_drop, List.length_nil] at this
            rw [S_len]; omega
          | cons c r =>
            have lt := drop_len hd
            refine if_yes (by rw [S_len]; omega) ?_
            refine ⟨_, rfl, _, rfl, S _, _, c, rfl, rfl, hl2, at_S (get_drop hd), c, _, rfl, rfl, _, rfl, ?_⟩
            rw [in_figures, hf c r rfl]
            exact q1
        have hds : ds Z = p := by rw [eZ, (ds_app hf).1, (ds_of_all hp).1]
        have haf : af Z = q := by
          have := ds_append_af Z
          rw [hds] at this
          exact List.append_cancel_left (this.trans eZ)
        rw [hds, haf] at hin
        have hZl := congrArg List.length eZ
        rw [List.length_append] at hZl
        -- what is inside
        have cutI : cutS (S (A ++ 40 :: (I ++ 41 :: Z))) (some (((A.length : Nat) : Int) + 1)) (some ((e : Nat) : Int)) = S I := by
          rw [show ((A.length : Nat) : Int) + 1 = ((A.length + 1 : Nat) : Int) by omega, cut_nat]
          have e1 : A ++ 40 :: (I ++ 41 :: Z) = (A ++ [40]) ++ (I ++ 41 :: Z) := by simp
          have e2 : A.length + 1 = (A ++ [40]).length := by simp
          rw [e1, e2, List.drop_left, ← e2, show e - (A.length + 1) = I.length by omega, List.take_left]
        have cutD : cutS (S (A ++ 40 :: (I ++ 41 :: Z))) (some (((e : Nat) : Int) + 1)) (some ((e + 1 + p.length : Nat) : Int)) = S p := by
          rw [show ((e : Nat) : Int) + 1 = ((e + 1 : Nat) : Int) by omega, cut_nat]
          have := dZ 0
          rw [Nat.add_zero, List.drop_zero] at this
          rw [this, Nat.add_sub_cancel_left, eZ, List.take_left]
        have hIl : I.length ≤ 600 := by omega
        refine ⟨_, rfl, _, rfl, _, _, rfl, rfl, _, rfl, _, rfl, _, rfl, S _, rfl, hl2, I, congrArg (fun z => [V.str z]) cutI, hIl, hin.wordsOk hh, fun H2 s2 => ?_⟩
        refine ⟨_, rfl, _, rfl, _, _, rfl, rfl, _, rfl, _, rfl, _, rfl, S _, rfl, hl2, p, congrArg (fun z => [V.str z, V.int 2]) cutD, by omega, ?_⟩
        have hlc : lawCount p = cnt3 p := if_pos (List.all_eq_true.mpr fun c hc => dig_iff.mpr (hp c hc))
        rw [hlc]
        dsimp only [tSeq, tNext]
        refine st_if (b := decide (flatW (cut32 I) = none ∨ cnt3 p = none ∨ p = [])) ?_ ?_ ?_
        · have v1 : decide (optV (flatW (cut32 I)) = V.non) = decide (flatW (cut32 I) = none) := by
            cases flatW (cut32 I) with
            | none => rfl
            | some k => rfl
          have v2 : decide (optV (cnt3 p) = V.non) = decide (cnt3 p = none) := by
            cases cnt3 p with
            | none => rfl
            | some k => rfl
          by_cases h1 : flatW (cut32 I) = none
          · refine Ans.to (ans_or1 (Ans.of (b' := decide (optV (flatW (cut32 I)) = V.non)) ?_ fun Q1 q1 => ⟨_, rfl, rfl, _, rfl, q1⟩)) (b := true) (decide_eq_true (Or.inl h1)).symm
            rw [v1, decide_eq_true h1]
          · refine ans_or (Ans.of (b' := decide (optV (flatW (cut32 I)) = V.non)) ?_ fun Q1 q1 => ⟨_, rfl, rfl, _, rfl, q1⟩) ?_
            · rw [v1, decide_eq_false h1]
            by_cases h2 : cnt3 p = none
            · refine Ans.to (ans_or1 (Ans.of (b' := decide (optV (cnt3 p) = V.non)) ?_ fun Q1 q1 => ⟨_, rfl, rfl, _, rfl, q1⟩)) (b := true) (decide_eq_true (Or.inr (Or.inl h2))).symm
              rw [v2, decide_eq_true h2]
            · refine ans_or (Ans.of (b' := decide (optV (cnt3 p) = V.non)) ?_ fun Q1 q1 => ⟨_, rfl, rfl, _, rfl, q1⟩) ?_
              · rw [v2, decide_eq_false h2]
              refine Ans.of (b' := decide (V.int (((e : Nat) : Int) + 1) = V.int ((e + 1 + p.length : Nat) : Int))) ?_ fun Q1 q1 => ⟨_, rfl, _, _, rfl, rfl, _, rfl, rfl, _, rfl, q1⟩
              rw [Bool.eq_iff_iff]
              simp only [decide_eq_true_eq]
              constructor
              · intro h
                have := V.int.inj h
                exact .inr (.inr (List.length_eq_zero_iff.mp (by omega)))
              · rintro (h | h | h)
                · exact absurd h h1
                · exact absurd h h2
                · subst h
                  rw [List.length_nil, Nat.add_zero, show ((e + 1 : Nat) : Int) = ((e : Nat) : Int) + 1 by omega]
        · intro h
          exact none_of (hin.no_flat hh (of_decide_eq_true h)) H2 (s1.trans s2)
        intro h
        have h := of_decide_eq_false h
        obtain ⟨a, ha⟩ : ∃ a, flatW (cut32 I) = some a := by
          cases q : flatW (cut32 I) with
          | none => exact absurd (.inl q) h
          | some a => exact ⟨a, rfl⟩
        obtain ⟨k, hk⟩ : ∃ k, cnt3 p = some k := by
          cases q : cnt3 p with
          | none => exact absurd (.inr (.inl q)) h
          | some k => exact ⟨k, rfl⟩
        have hpn : p ≠ [] := fun z => h (.inr (.inr z))
        have cA : cutS (S (A ++ 40 :: (I ++ 41 :: Z))) (some (((A.length : Nat) : Int) - 1)) (some ((A.length : Nat) : Int)) = S A.getLast?.toList := cut_before _ _
        have cB : cutS (S (A ++ 40 :: (I ++ 41 :: Z))) (some ((e + 1 + p.length : Nat) : Int)) (some (((e + 1 + p.length : Nat) : Int) + 1)) = S (q.take 1) := by
          rw [cut_one, hd]
        rw [ha, hk]
        dsimp only [tSeq, tNext]
        refine st_ifH (b := !okA A || !okB q) (P := fun H' => Same H2 H') ?_ ?_ ?_
        · intro Q1 q1
          refine ⟨_, rfl, _, rfl, _, _, rfl, rfl, _, rfl, _, rfl, _, rfl, S _, rfl, hl2, (by show 3 ≤ sizeLine; decide), fun tp htp => ?_⟩
          rw [cA, lit_empty, lit_blank, lit_open]
          refine ⟨tp, _, rfl, .inr (SqT.of upd_same), rfl, rfl, !okA A, ?_, ?_⟩
          · show V.bl (if true = true then !inV (.str (S A.getLast?.toList)) [.str (S []), .str (S [32]), .str (S [40])] else inV (.str (S A.getLast?.toList)) [.str (S []), .str (S [32]), .str (S [40])]) = _
            rw [if_pos rfl, in3, okA_eq]
          · have sp := same_new htp (.tup [.str (S []), .str (S [32]), .str (S [40])])
            cases hoA : okA A with
            | false =>
              rw [hoA] at q1
              exact iteT (q1 _ sp)
            | true =>
              rw [hoA] at q1
              refine iteF ?_
              refine ⟨_, rfl, _, rfl, _, rfl, _, rfl, _, _, rfl, rfl, _, rfl, S _, rfl, hl2, (by show 3 ≤ sizeLine; decide), fun tq htq => ?_⟩
              rw [cB, lit_close]
              refine ⟨tq, _, rfl, .inr (SqT.of upd_same), rfl, rfl, !okB q, ?_, ?_⟩
              · show V.bl (if true = true then !inV (.str (S (q.take 1))) [.str (S []), .str (S [32]), .str (S [41])] else inV (.str (S (q.take 1))) [.str (S []), .str (S [32]), .str (S [41])]) = _
                rw [if_pos rfl, in3, okB_eq]
              · have sq := same_new htq (.tup [.str (S []), .str (S [32]), .str (S [41])])
                exact q1 _ (sp.trans sq)
        · intro hb2 H3 s3
          refine none_of (fun n => ?_) H3 ((s1.trans s2).trans s3)
          rw [Bool.or_eq_true] at hb2
          rcases hb2 with z | z
          · have z : okA A = false := by simpa using z
            obtain ⟨y, hy, y1, y2⟩ := okA_no z
            exact hin.no_before hy y1 y2 n
          · have z : okB q = false := by simpa using z
            obtain ⟨c, t, hy, y1, y2⟩ := okB_no z
            exact hin.no_behind hh hy y1 y2 n
        · intro hb2 H3 s3
          rw [Bool.or_eq_false_iff] at hb2
          have hA : okA A = true := by simpa using hb2.1
          have hB : okB q = true := by simpa using hb2.2
          obtain ⟨p1, p2, p3⟩ := hin.put_len hh ha hk hpn
          have hpl : (put A (a * k) q).length = A.length + 1 + (numL (a * k)).length + 1 + q.length := by
            unfold put
            simp only [List.length_append, List.length_cons]
            omega
          have cT : cutS (S (A ++ 40 :: (I ++ 41 :: Z))) none (some ((A.length : Nat) : Int)) = S A := by rw [cut_to, List.take_left]
          have cF : cutS (S (A ++ 40 :: (I ++ 41 :: Z))) (some ((e + 1 + p.length : Nat) : Int)) none = S q := by rw [cut_from, hd]
          have hmul : ((a : Nat) : Int) * ((k : Nat) : Int) = ((a * k : Nat) : Int) := (Int.natCast_mul a k).symm
          refine ⟨_, rfl, _, rfl, _, rfl, S _, rfl, hl2, _, _, rfl, rfl, ?_, _, rfl, _, rfl, _, _, rfl, rfl, .inr ⟨by omega, by omega⟩, _, rfl, ?_, _, _, rfl, rfl, ?_, _, _, rfl, rfl, ?_, _, rfl, _, rfl, _, rfl, S _, rfl, hl2, _, _, rfl, rfl, ?_, ?_⟩
          · rw [cT, lit_hash, S_len, S_len]
            exact sz_le (by rw [List.length_singleton]; omega)
          · show (((a : Nat) : Int) * ((k : Nat) : Int)).natAbs.log2 < 1920
            rw [hmul]
            exact log_ok (Nat.lt_of_lt_of_le p2 (Nat.pow_le_pow_right (by decide) (by omega)))
          · rw [cT, lit_hash]
            show (S A ++ S [35]).length + (Str.ofString (toString (((a : Nat) : Int) * ((k : Nat) : Int)))).length ≤ sizeLine
            rw [hmul, str_num, S_app A, S_len, S_len]
            exact sz_le (by rw [List.length_append, List.length_singleton]; omega)
          · rw [cT, lit_hash]
            show (S A ++ S [35] ++ Str.ofString (toString (((a : Nat) : Int) * ((k : Nat) : Int)))).length + (Str.ofString "!").length ≤ sizeLine
            rw [hmul, str_num, lit_bang, S_app A, S_app (A ++ [35]), S_len, S_len]
            exact sz_le (by simp only [List.length_append, List.length_singleton]; omega)
          · rw [cT, cF, lit_hash]
            show (S A ++ S [35] ++ Str.ofString (toString (((a : Nat) : Int) * ((k : Nat) : Int))) ++ Str.ofString "!").length + (S q).length ≤ sizeLine
            rw [hmul, str_num, lit_bang, S_app A, S_app (A ++ [35]), S_app (A ++ [35] ++ numL (a * k)), S_len, S_len]
            exact sz_le (by simp only [List.length_append, List.length_singleton]; omega)
          · refine ⟨(put A (a * k) q).count 40, hin.put_count (a * k), put A (a * k) q, some (.int (A.length : Nat)), some (.int (e : Nat)), some (.int ((e + 1 + p.length : Nat))), some (.int (a : Nat)), some (.int (k : Nat)), ?_, (s1.trans s2).trans s3, hin.put_ok hh hpn (okA_yes hA) (okB_yes hB) (a * k), by omega, fun n => (hiff n).trans (hin.turn hh ha hk hpn n), rfl⟩
            rw [cT, cF, lit_hash]
            have e9 : (S A ++ S [35] ++ Str.ofString (toString (((a : Nat) : Int) * ((k : Nat) : Int))) ++ Str.ofString "!" ++ S q) = S (put A (a * k) q) := by
              rw [hmul, str_num, lit_bang, S_app A, S_app (A ++ [35]), S_app (A ++ [35] ++ numL (a * k)), S_app]
              congr 1
              unfold put
              simp
            rw [← e9]
            rfl
      · rw [find_none (by decide) m41]
        dsimp only [tSeq, tNext, tAsg, gName]
        refine st_if (b := true) ?_ (fun _ => ?_) (fun z => Bool.noConfusion z)
        · refine ans_or (t1 _) ?_
          refine Ans.of (b' := decide ((-1 : Int) < 0)) (decide_eq_true (by omega)) fun Q1 q1 => ⟨_, rfl, _, _, rfl, rfl, _, rfl, q1⟩
        · exact none_of (no_close rfl m41) H1 s1
    · rw [rfind_none m40]
      dsimp only [tSeq, tNext, tAsg, gName]
      refine st_if (b := true) ?_ (fun _ => ?_) (fun z => Bool.noConfusion z)
      · refine ans_or1 ?_
        refine Ans.of (b' := decide ((-1 : Int) < 0)) (decide_eq_true (by omega)) fun Q1 q1 => ⟨_, rfl, _, _, rfl, rfl, _, rfl, q1⟩
      · exact none_of (no_open m40 (hb.resolve_left m40)) H1 s1
  · rw [decide_eq_false hb] at test
    refine .inr ⟨test, ?_⟩
    have n40 : 40 ∉ l' := fun z => hb (.inl z)
    have n41 : 41 ∉ l' := fun z => hb (.inr z)
    refine ⟨_, rfl, l', rfl, by omega, end_ok hh n41, fun H2 s2 => ?_⟩
    cases q : flatW (cut32 l') with
    | none => exact none_of (fun n z => by rw [(flat_end hh n40 n41 n).mpr z] at q; cases q) H2 (s1.trans s2)
    | some n => exact kY n h35 ((hiff n).mpr ((flat_end hh n40 n41 n).mp q)) H2 (s1.trans s2)
end
end K32
namespace K32
open PySem L2
open TL (numL joinL)
open NumText (digitsVal AllDigits)
/-! ## 40. good folds: how long they are written -/
def Good : Fd → Prop
  | .nil => True
  | .run _ k r => 1 ≤ k ∧ Good r
  | .again k i r => 2 ≤ k ∧ i ≠ .nil ∧ Good i ∧ Good r
def It.Good : It → Prop
  | .run _ k => 1 ≤ k
  | .again k i => 2 ≤ k ∧ i ≠ .nil ∧ K32.Good i
theorem good_put {i : It} {f : Fd} (hi : i.Good) (hf : Good f) : Good (i.put f) := by
  cases i with
  | run c k => exact ⟨hi, hf⟩
  | again k g => exact ⟨hi.1, hi.2.1, hi.2.2, hf⟩
theorem good_app : ∀ {a b : List It}, Good (ofL a) → Good (ofL b) → Good (ofL (a ++ b))
  | [], b, _, hb => hb
  | i :: a, b, ha, hb => by
    cases i with
    | run c k => exact ⟨ha.1, good_app ha.2 hb⟩
    | again k g => exact ⟨ha.1, ha.2.1, ha.2.2.1, good_app ha.2.2.2 hb⟩
theorem good_mem : ∀ {is : List It} {j : It} {i : Nat}, Good (ofL is) → is[i]? = some j → j.Good
  | [], _, _, _, h => by cases h
  | k :: is, j, 0, hg, h => by
    obtain rfl := Option.some.inj h
    cases k with
    | run c k => exact hg.1
    | again k g => exact ⟨hg.1, hg.2.1, hg.2.2.1⟩
  | k :: is, j, i + 1, hg, h => by
    have hg' : Good (ofL is) := by
      cases k with
      | run c k => exact hg.2
      | again k g => exact hg.2.2.2
    exact good_mem hg' h
theorem lt_pow_pred : ∀ {k : Nat}, 2 ≤ k → k < 10 ^ (k - 1)
  | 0, h => by omega
  | 1, h => by omega
  | 2, _ => by decide
  | k + 3, _ => by
    have ih := lt_pow_pred (k := k + 2) (by omega)
    show k + 3 < 10 ^ (k + 2)
    have e : (10 : Nat) ^ (k + 2) = 10 ^ (k + 1) * 10 := Nat.pow_succ ..
    have ih : k + 2 < 10 ^ (k + 1) := ih
    omega
theorem numL_pred {k : Nat} (h : 2 ≤ k) : (numL k).length ≤ k - 1 := TL.numL_len (by omega) (lt_pow_pred h)
theorem len_good : ∀ (f : Fd), Good f → f ≠ .nil → 1 ≤ size f ∧ (txt f).length + 1 ≤ 3 * size f
  | .nil, _, h => absurd rfl h
  | .run c k r, hg, _ => by
    obtain ⟨hk, hr⟩ := hg
    have hw : (cnt k).length + 2 ≤ 3 * k := by
      unfold cnt
      by_cases h1 : k = 1
      · rw [if_pos h1, h1] <;> decide
      · rw [if_neg h1]
        have := numL_pred (k := k) (by omega)
        omega
    have hs : size (.run c k r) = k + size r := rfl
    by_cases h0 : r = .nil
    · subst h0
      have e : txt (.run c k .nil) = c :: cnt k := txt_one (.run c k)
      rw [e, hs, List.length_cons]
      show 1 ≤ k + 0 ∧ _ ≤ 3 * (k + 0)
      omega
    · obtain ⟨i1, i2⟩ := len_good r hr h0
      have e : txt (.run c k r) = (c :: cnt k) ++ 32 :: txt r := txt_put (.run c k) r h0
      rw [e, hs, List.length_append, List.length_cons, List.length_cons]
      omega
  | .again k i r, hg, _ => by
    obtain ⟨hk, hi, hgi, hr⟩ := hg
    obtain ⟨j1, j2⟩ := len_good i hgi hi
    have hnk := numL_pred hk
    have hm : 2 * size i ≤ k * size i := Nat.mul_le_mul_right _ hk
    have hw : (40 :: (txt i ++ 41 :: numL k)).length + 1 ≤ 3 * (k * size i) := by
      rw [List.length_cons, List.length_append, List.length_cons]
      have h1 : k * 1 ≤ k * size i := Nat.mul_le_mul_left _ j1
      have h2 : (k - 2) * 1 ≤ (k - 2) * size i := Nat.mul_le_mul_left _ j1
      have h3 : k * size i = (k - 2) * size i + 2 * size i := by
        rw [← Nat.add_mul]
        congr 1
        omega
      omega
    have hs : size (.again k i r) = k * size i + size r := rfl
    by_cases h0 : r = .nil
    · subst h0
      have e : txt (.again k i .nil) = 40 :: (txt i ++ 41 :: numL k) := txt_one (.again k i)
      rw [e, hs]
      show 1 ≤ k * size i + 0 ∧ _ ≤ 3 * (k * size i + 0)
      omega
    · obtain ⟨i1, i2⟩ := len_good r hr h0
      have e : txt (.again k i r) = (40 :: (txt i ++ 41 :: numL k)) ++ 32 :: txt r := txt_put (.again k i) r h0
      rw [e, hs, List.length_append, List.length_cons (a := 32)]
      omega
theorem join0_len (ys : List Str) : (Txt.join (S []) ys).length = (ys.map (·.length)).sum := by
  rw [TL.join_eq, TL.len_tl, TL.tl_join]
  have gen : ∀ ws : List (List Nat), (joinL [] ws).length = (ws.map List.length).sum := by
    intro ws
    induction ws with
    | nil => rfl
    | cons w r ih =>
      cases r with
      | nil => show w.length = _; simp
      | cons v r =>
        show (w ++ ([] ++ joinL [] (v :: r))).length = _
        rw [List.length_append, List.nil_append, ih]
        simp only [List.map_cons, List.sum_cons]
  show (joinL [] (ys.map TL.tl)).length = _
  rw [gen, List.map_map]
  congr 1
theorem sum_const {α : Type} {f : α → Nat} {m : Nat} : ∀ {l : List α}, (∀ x ∈ l, f x = m) → (l.map f).sum = l.length * m
  | [], _ => by simp
  | x :: r, h => by
    rw [List.map_cons, List.sum_cons, h x List.mem_cons_self, sum_const fun y hy => h y (List.mem_cons_of_mem _ hy), List.length_cons, Nat.add_mul, Nat.one_mul, Nat.add_comm]
section
variable {P : Program} {w : World} {K : PySem.W.Frag} {mg : Str → Option Value} {base : Heap} {CC C : Addr}
/-! ## 41. _law_cell_at, _law_number -/
def spCell (K : PySem.W.Frag) : Sp := fun vs H Q _ => ∃ (a : Addr) (ns : List Int), vs = [.ref a, .int 0] ∧ SqL K H a (ns.map V.int) ∧ ∀ v : Int, Q (.int v) H
theorem scCell : FnScope ["_law_script", "_law_k"] ["_law_script", "_law_k"] (defScope sCellAt) := ⟨rfl, rfl, rfl, by decide +kernel, rfl, by decide +kernel, by decide +kernel⟩
theorem ok_cellAt {f : Addr} {fd : FuncData} (F : Fun K "_law_cell_at" "_law_cell_at" sCellAt f fd) (T : Cs K mg CC C) : FnOk P w K mg base CX0 1 f fd ["_law_script", "_law_k"] (spCell K) := by
  refine F.ok scCell (fun vs H Q E h => ?_) (fun cdv A outer s H vs Q E hr h => ?_)
  · obtain ⟨a, ns, rfl, _⟩ := h
    rfl
  obtain ⟨a, ns, rfl, hs, kQ⟩ := h
  refine ⟨_, pss_cons (ps_if (pt_cmpR op_lt (pv 1) (pe_callB call_len_seq rfl T.len PySem.boot_len (pa_cons (pv 0) pa_nil)) (nomark _)) (pss_one (ps_ret (pe_ix ix_list (pv 0) (pv 1) (fun _ _ => rfl)))) pss_nil)
    (pss_one (ps_ret pe_int)), ?_⟩
  dsimp only [tSeq, tNext]
  refine st_if (b := decide (0 < ns.length)) ?_ ?_ ?_
  · intro Q1 q1
    refine ⟨_, rfl, _, rfl, a, _, rfl, .inl hs, _, _, rfl, rfl, _, rfl, ?_⟩
    rw [show decide ((0 : Int) < (((ns.map V.int).length : Nat) : Int)) = decide (0 < ns.length) from by rw [List.length_map, Bool.eq_iff_iff]; simp only [decide_eq_true_eq]; omega]
    exact q1
  · intro h
    have h := of_decide_eq_true h
    obtain ⟨n, r, rfl⟩ : ∃ n r, ns = n :: r := by
      cases ns with
      | nil => exact absurd h (by simp)
      | cons n r => exact ⟨n, r, rfl⟩
    exact ⟨_, rfl, _, rfl, a, _, _, _, rfl, rfl, hs, atI_nat (j := 0) rfl, kQ n⟩
  · intro h
    exact kQ 0
def spNum : Sp := fun vs H Q _ => ∃ c : Int, vs = [.int c] ∧ ∀ v : Nat, v < 2147483629 → Q (.int (v : Nat)) H
theorem scNum : FnScope ["_law_cell"] ["_law_cell"] (defScope sNumber) := ⟨rfl, rfl, rfl, by decide +kernel, rfl, by decide +kernel, by decide +kernel⟩
theorem ok_number {f : Addr} {fd : FuncData} (F : Fun K "_law_number" "_law_number" sNumber f fd) (T : Cs K mg CC C) : FnOk P w K mg base CX0 1 f fd ["_law_cell"] spNum := by
  refine F.ok scNum (fun vs H Q E h => ?_) (fun cdv A outer s H vs Q E hr h => ?_)
  · obtain ⟨c, rfl, _⟩ := h
    rfl
  obtain ⟨c, rfl, kQ⟩ := h
  refine ⟨_, pss_one (ps_ret (pe_op op_mod (pe_op op_mul (pe_op op_add (pe_op op_mod (pv 0) pe_int) pe_int) pe_int) pe_int)), ?_⟩
  refine ⟨_, rfl, _, _, rfl, rfl, (by show (0 : Int) < 2147483629; decide), _, _, rfl, rfl, _, _, rfl, rfl, .inr ⟨by decide, by decide⟩, _, _, rfl, rfl, (by show (0 : Int) < 2147483629; decide), ?_⟩
  generalize (c % 2147483629 + 48611) * 69621 = z
  have h0 : 0 ≤ z % 2147483629 := Int.emod_nonneg _ (by decide)
  have h1 : z % 2147483629 < 2147483629 := Int.emod_lt_of_pos _ (by decide)
  have := kQ (z % 2147483629).toNat (by omega)
  rw [Int.toNat_of_nonneg h0] at this
  exact this
/-! ## 42. _law_unfolded -/
def spUn (n : Nat) : Sp := fun vs H Q _ => ∃ (a : Addr) (f : Fd), vs = [.ref a] ∧ FoldAt H a f ∧ deep f < n ∧ Good f ∧ size f ≤ 1000 ∧ ∀ z : Str, z.length = size f → ∀ H', Same H H' → Q (.str z) H'
theorem scUn : FnScope ["_law_fold_here", "_law_parts", "_law_part", "_law_turn"] ["_law_fold_here"] (defScope sUnfolded) := ⟨rfl, rfl, rfl, by decide +kernel, rfl, by decide +kernel, by decide +kernel⟩
theorem ok_unfolded {n : Nat} {f : Addr} {fd : FuncData} (F : Fun K "_law_unfolded" "_law_unfolded" sUnfolded f fd) (T : Cs K mg CC C)
    (G : FnOk P w K mg base CX0 (n + 1) f fd ["_law_fold_here"] (spUn n)) (bF : Binds K fd ["_law_fold_here"] []) (mF : mg "_law_unfolded" = some (.ref f)) : FnOk P w K mg base CX0 (n + 2) f fd ["_law_fold_here"] (spUn (n + 1)) := by
  refine F.ok scUn (fun vs H Q E h => ?_) (fun cdv A outer s H vs Q E hr h => ?_)
  · obtain ⟨a, f, rfl, _⟩ := h
    rfl
  obtain ⟨a, fo, rfl, hf, hdeep, hgood, hsize, kQ⟩ := h
  refine ⟨_, pss_cons (ps_set (i := 1) scUn.nd rfl (.inl rfl) (pe_lst pa_nil))
    (pss_cons (ps_for PassesOwn.never rfl (pi_list (pv 0)) (pg_name (i := 2) scUn.nd rfl (.inr rfl))
      (pss_one (ps_if (pt_cmpR op_eq (pe_ix ix_tup (pv 2) pe_int (fun _ _ => rfl)) pe_str (nomark _))
        (pss_one (ps_expr (pe_bm PySem.F.plainAttrs_list PySem.F.slot_list_append PySem.F.type_list_append mt_append (pv 1) (pa_cons (pe_join pe_str
          (pe_lc (own := [("_law_turn", 3)]) (g := gName 3) (tt := tYes) (te := tOp (rIxT K) (tVar 2) (tC (.int 1))) rfl scUn.nd (pi_range1 rfl T.range (pa_cons (pe_ix ix_tup (pv 2) pe_int (fun _ _ => rfl)) pa_nil)) (blkOk_by (N := ["_law_fold_here", "_law_parts", "_law_part", "_law_turn"]) (sc := defScope sUnfolded) (by decide +kernel))
            (fun _ _ _ _ _ => pg_name (i := 3) scUn.nd rfl (Or.inl rfl)) (fun _ _ _ _ _ => pts_nil) (fun _ _ _ _ _ => pe_ix ix_tup (pv 2) pe_int (fun _ _ => rfl)))) pa_nil))))
        (pss_one (ps_expr (pe_bm PySem.F.plainAttrs_list PySem.F.slot_list_append PySem.F.type_list_append mt_append (pv 1) (pa_cons (pe_join pe_str
          (pe_lc (own := [("_law_turn", 3)]) (g := gName 3) (tt := tYes) (te := tCall (spUn n) [] E0 (tCons (tOp (rIxT K) (tVar 2) (tC (.int 2))) tNil)) rfl scUn.nd (pi_range1 rfl T.range (pa_cons (pe_ix ix_tup (pv 2) pe_int (fun _ _ => rfl)) pa_nil)) (blkOk_by (N := ["_law_fold_here", "_law_parts", "_law_part", "_law_turn"]) (sc := defScope sUnfolded) (by decide +kernel))
            (fun _ _ _ _ _ => pg_name (i := 3) scUn.nd rfl (Or.inl rfl)) (fun _ _ _ _ _ => pts_nil) (fun _ _ _ _ _ => pe_call G hr rfl mF F.kp bF .nil pass0 (pa_cons (pe_ix ix_tup (pv 2) pe_int (fun _ _ => rfl)) pa_nil)))) pa_nil)))))))
    (pss_one (ps_ret (pe_join pe_str (pv 1))))), ?_⟩
  obtain ⟨xs, hx, hp⟩ := hf
  obtain ⟨is, rfl, hi⟩ := hp.its
  have hxl := hi.length
  refine ⟨(by show 0 ≤ sizeLine; decide), fun wa hwa => ?_⟩
  refine ⟨_, rfl, a, rfl, ⟨_, SqL.of (same_new hwa _ _ _ hx)⟩, for_list (K := K) (a := a) (xs := xs) (fun i σ H' => ∃ (u u3 : Option V) (ys : List Str), σ = [some (.ref a), some (.ref wa), u, u3] ∧ Same H H' ∧ H' wa = some (.lst (ys.map V.str)) ∧ ys.length = i ∧ (ys.map (·.length)).sum = size (ofL (is.take i)))
    ⟨none, none, [], rfl, same_new hwa _, upd_same, rfl, rfl⟩ (fun i σ H' _ ⟨_, _, _, _, s1, _⟩ => SqL.of (s1 _ _ hx)) ?_ ?_⟩
  · rintro i x σ H' hxi ⟨u, u3, ys, rfl, s1, hw, hyl, hys⟩
    obtain ⟨q, j, rfl, hj, hq⟩ := hi.get hxi
    have hdj := deep_mem hj
    have hgj := good_mem hgood hj
    have ilt : i < is.length := (List.getElem?_eq_some_iff.mp hj).1
    have hsz : size (ofL is) = size (ofL (is.take i)) + (j.size + size (ofL (is.drop (i + 1)))) := by
      have e : size (ofL is) = size (ofL (is.take i ++ j :: is.drop (i + 1))) := congrArg (fun z => size (ofL z)) (take_split hj)
      rw [e, size_app, size_cons]
    have hsz2 : size (ofL (is.take (i + 1))) = size (ofL (is.take i)) + j.size := by rw [take_more hj, size_app, size_sing]
    -- the list of alike texts is joined and laid
    have fin : ∀ (D : Addr) (H2 : Hp) (zs : List Str) (k m : Nat) (N : L2.St → Hp → Prop) (σ : L2.St), (∀ H3, Same H H3 → H3 wa = some (.lst ((ys ++ [Txt.join (S []) zs]).map V.str)) → N σ H3) → Same H' H2 → H2 D = some (.lst (zs.map V.str)) → zs.length = k → (∀ z ∈ zs, z.length = m) → j.size = k * m →
        (∃ a p, ∃ ys : List Str, V.str (Str.ofString "") = .str a ∧ [V.ref D] = [.ref p] ∧ (SqL K H2 p (ys.map V.str) ∨ SqT K H2 p (ys.map V.str)) ∧ (ys.map (·.length)).sum + ys.length * a.length ≤ 16777216 ∧
          (∃ l xs y, V.ref wa = .ref l ∧ [V.str (Txt.join a ys)] = [y] ∧ H2 l = some (.lst xs) ∧ xs.length < sizeLine ∧ N σ (upd H2 l (.lst (xs ++ [y]))))) := by
      intro D H2 zs k m N σ hN s2 hD hzl hzm hjs
      refine ⟨_, D, zs, rfl, rfl, .inl (SqL.of hD), ?_, wa, ys.map V.str, _, rfl, rfl, s2 _ _ hw, ?_, ?_⟩
      · rw [sum_const hzm, hzl, lit_empty, S_len, List.length_nil, Nat.mul_zero]
        omega
      · rw [List.length_map, hyl]
        have : is.length ≤ size (ofL is) := by
          clear hzm hN
          have gen : ∀ l : List It, Good (ofL l) → l.length ≤ size (ofL l) := by
            intro l
            induction l with
            | nil => intro _; exact Nat.zero_le _
            | cons t r ih =>
              intro hg
              rw [List.length_cons, size_cons]
              cases t with
              | run c k =>
                have h1 : 1 ≤ k := hg.1
                have h2 : (It.run c k).size = k := rfl
                have := ih hg.2
                omega
              | again k g =>
                have h1 := (len_good g hg.2.2.1 hg.2.1).1
                have h2 : (It.again k g).size = k * size g := rfl
                have h3 : 2 * size g ≤ k * size g := Nat.mul_le_mul_right _ hg.1
                have := ih hg.2.2.2
                omega
          exact gen is hgood
        exact sz_lt (by omega)
      · refine hN _ (same_mut (s1.trans s2) hwa) ?_
        rw [upd_same, lit_empty, List.map_append] <;> rfl
    have fin2 : ∀ (zs : List Str) (k m : Nat), zs.length = k → (∀ z ∈ zs, z.length = m) → j.size = k * m → ((ys ++ [Txt.join (S []) zs]).map (·.length)).sum = size (ofL (is.take (i + 1))) := by
      intro zs k m hzl hzm hjs
      rw [List.map_append, List.sum_append, hys, hsz2, hjs]
      show _ + ([(Txt.join (S []) zs).length] : List Nat).sum = _
      rw [join0_len, sum_const hzm, hzl, List.sum_singleton]
    cases j with
    | run c k =>
      have hq : H q = some (.tup [vRun, .str (S [c]), .int (k : Nat)]) := hq
      have hq' := s1 _ _ hq
      have hjs : (It.run c k).size = k * 1 := (Nat.mul_one k).symm
      refine st_if (b := true) ?_ (fun _ => ?_) (fun z => Bool.noConfusion z)
      · intro Q1 q1
        refine ⟨_, rfl, q, _, _, _, rfl, rfl, SqT.of hq', atI_nat (j := 0) rfl, rfl, _, rfl, ?_⟩
        rw [run_yes]
        exact q1
      · refine ⟨_, rfl, .inl ⟨rfl, _, SqL.of hw⟩, ⟨_, rfl⟩, _, rfl, q, _, _, _, rfl, rfl, SqT.of hq', atI_nat (j := 2) rfl, _, rfl, by omega, by omega, fun D hD => lc_range (lo := 0) (n := k) (fun t H2 => ∃ zs : List Str, Same H' H2 ∧ H2 D = some (.lst (zs.map V.str)) ∧ zs.length = t ∧ ∀ z ∈ zs, z.length = 1)
          ⟨[], same_new hD _, upd_same, rfl, fun _ h => nomatch h⟩ ?_ ?_⟩
        · rintro t H2 ht ⟨zs, s2, hD2, hzl, hzm⟩
          refine ⟨rfl, ?_⟩
          dsimp only [tYes]
          rw [if_pos rfl]
          refine ⟨_, rfl, q, _, _, _, rfl, rfl, SqT.of (s2 _ _ hq'), atI_nat (j := 1) rfl, zs.map V.str, hD2, ?_, zs ++ [S [c]], same_mut s2 hD, ?_, ?_, ?_⟩
          · rw [List.length_map]
            exact sz_lt (by omega)
          · rw [upd_same, List.map_append] <;> rfl
          · rw [List.length_append, hzl] <;> rfl
          · intro z hz
            rcases List.mem_append.mp hz with hz | hz
            · exact hzm z hz
            · rw [List.mem_singleton.mp hz] <;> rfl
        · rintro H2 ⟨zs, s2, hD2, hzl, hzm⟩
          exact fin D H2 zs k 1 _ _ (fun H3 s3 h3 => ⟨some (.ref q), u3, _, rfl, s3, h3, by rw [List.length_append, hyl] <;> rfl, fin2 zs k 1 hzl hzm hjs⟩) s2 hD2 hzl hzm hjs
    | again k fi =>
      obtain ⟨hk1, y, hq, hy⟩ := hq
      have hq' := s1 _ _ hq
      have hjs : (It.again k fi).size = k * size fi := rfl
      have h1 := (len_good fi hgj.2.2 hgj.2.1).1
      have hks : k * 1 ≤ k * size fi := Nat.mul_le_mul_left _ h1
      have hks2 : 1 * size fi ≤ k * size fi := Nat.mul_le_mul_right _ hk1
      refine st_if (b := false) ?_ (fun z => Bool.noConfusion z) (fun _ => ?_)
      · intro Q1 q1
        refine ⟨_, rfl, q, _, _, _, rfl, rfl, SqT.of hq', atI_nat (j := 0) rfl, rfl, _, rfl, ?_⟩
        rw [run_no]
        exact q1
      · refine ⟨_, rfl, .inl ⟨rfl, _, SqL.of hw⟩, ⟨_, rfl⟩, _, rfl, q, _, _, _, rfl, rfl, SqT.of hq', atI_nat (j := 1) rfl, _, rfl, by omega, by omega, fun D hD => lc_range (lo := 0) (n := k) (fun t H2 => ∃ zs : List Str, Same H' H2 ∧ H2 D = some (.lst (zs.map V.str)) ∧ zs.length = t ∧ ∀ z ∈ zs, z.length = size fi)
          ⟨[], same_new hD _, upd_same, rfl, fun _ h => nomatch h⟩ ?_ ?_⟩
        · rintro t H2 ht ⟨zs, s2, hD2, hzl, hzm⟩
          refine ⟨rfl, ?_⟩
          dsimp only [tYes]
          rw [if_pos rfl]
          refine ⟨_, rfl, q, _, _, _, rfl, rfl, SqT.of (s2 _ _ hq'), atI_nat (j := 2) rfl, y, fi, rfl, hy.same (s1.trans s2), ?_, hgj.2.2, by omega, fun z hz H3 s3 => ?_⟩
          · have : deep fi + 1 ≤ deep (ofL is) := hdj
            omega
          refine ⟨zs.map V.str, s3 _ _ hD2, ?_, zs ++ [z], same_mut (s2.trans s3) hD, ?_, ?_, ?_⟩
          · rw [List.length_map]
            exact sz_lt (by omega)
          · rw [upd_same, List.map_append] <;> rfl
          · rw [List.length_append, hzl] <;> rfl
          · intro z' hz'
            rcases List.mem_append.mp hz' with hz' | hz'
            · exact hzm z' hz'
            · rw [List.mem_singleton.mp hz']
              exact hz
        · rintro H2 ⟨zs, s2, hD2, hzl, hzm⟩
          exact fin D H2 zs k (size fi) _ _ (fun H3 s3 h3 => ⟨some (.ref q), u3, _, rfl, s3, h3, by rw [List.length_append, hyl] <;> rfl, fin2 zs k (size fi) hzl hzm hjs⟩) s2 hD2 hzl hzm hjs
  · rintro σ H' ⟨u, u3, ys, rfl, s1, hw, hyl, hys⟩
    rw [hxl, List.take_length] at hys
    refine ⟨⟨_, rfl⟩, _, rfl, _, wa, ys, rfl, rfl, .inl (SqL.of hw), ?_, ?_⟩
    · rw [hys, lit_empty, S_len, List.length_nil, Nat.mul_zero]
      omega
    · rw [lit_empty]
      exact kQ _ (by rw [join0_len, hys]) H' s1
theorem unfolded_all {f : Addr} {fd : FuncData} (F : Fun K "_law_unfolded" "_law_unfolded" sUnfolded f fd) (T : Cs K mg CC C) (bF : Binds K fd ["_law_fold_here"] []) (mF : mg "_law_unfolded" = some (.ref f)) : ∀ n, FnOk P w K mg base CX0 (n + 1) f fd ["_law_fold_here"] (spUn n)
  | 0 => by
    have no : ∀ vs H Q E, ¬ spUn 0 vs H Q E := fun vs H Q E h => by
      obtain ⟨a, f, _, _, h, _⟩ := h
      omega
    exact ⟨fun vs H Q E h => absurd h (no vs H Q E), fun A outer s H args us vs Q E _ _ _ _ h => absurd h (no vs H Q E)⟩
  | n + 1 => ok_unfolded F T (unfolded_all F T bF mF n) bF mF
end
end K32
namespace K32
open PySem L2
open TL (numL joinL)
open NumText (digitsVal AllDigits)
section
variable {P : Program} {w : World} {K : PySem.W.Frag} {mg : Str → Option Value} {base : Heap} {CC C : Addr}
/-! ## 43. _law_shown -/
theorem scWs : FnScope ["_law_fold_here", "_law_words", "_law_part"] ["_law_fold_here"] (defScope sShown) := ⟨rfl, rfl, rfl, by decide +kernel, rfl, by decide +kernel, by decide +kernel⟩
theorem ok_lawShown {n : Nat} {f : Addr} {fd : FuncData} (F : Fun K "_law_shown" "_law_shown" sShown f fd) (T : Cs K mg CC C)
    (G : FnOk P w K mg base CX0 (n + 1) f fd ["_law_fold_here"] (spSh n)) (bF : Binds K fd ["_law_fold_here"] []) (mF : mg "_law_shown" = some (.ref f)) : FnOk P w K mg base CX0 (n + 2) f fd ["_law_fold_here"] (spSh (n + 1)) := by
  refine F.ok scWs (fun vs H Q E h => ?_) (fun cdv A outer s H vs Q E hr h => ?_)
  · obtain ⟨a, f, rfl, _⟩ := h
    rfl
  obtain ⟨a, fo, rfl, hf, hdeep, hlen, kQ⟩ := h
  refine ⟨_, pss_cons (ps_set (i := 1) scWs.nd rfl (.inl rfl) (pe_lst pa_nil))
    (pss_cons (ps_for PassesOwn.never rfl (pi_list (pv 0)) (pg_name (i := 2) scWs.nd rfl (.inl rfl))
      (pss_one (ps_if (pt_cmpR op_eq (pe_ix ix_tup (pv 2) pe_int (fun _ _ => rfl)) pe_str (nomark _))
        (pss_one (ps_expr (pe_bm PySem.F.plainAttrs_list PySem.F.slot_list_append PySem.F.type_list_append mt_append (pv 1) (pa_cons (pe_op op_add_str (pe_op op_add_str (pe_op op_add_str pe_str (pe_call G hr rfl mF F.kp bF .nil pass0 (pa_cons (pe_ix ix_tup (pv 2) pe_int (fun _ _ => rfl)) pa_nil))) pe_str) (pe_callTy call_str_int rfl T.str (by decide +kernel) (pa_cons (pe_ix ix_tup (pv 2) pe_int (fun _ _ => rfl)) pa_nil))) pa_nil))))
        (pss_one (ps_if (pt_cmpR op_eq (pe_ix ix_tup (pv 2) pe_int (fun _ _ => rfl)) pe_int (nomark _))
          (pss_one (ps_expr (pe_bm PySem.F.plainAttrs_list PySem.F.slot_list_append PySem.F.type_list_append mt_append (pv 1) (pa_cons (pe_ix ix_tup (pv 2) pe_int (fun _ _ => rfl)) pa_nil))))
          (pss_one (ps_expr (pe_bm PySem.F.plainAttrs_list PySem.F.slot_list_append PySem.F.type_list_append mt_append (pv 1) (pa_cons (pe_op op_add_str (pe_ix ix_tup (pv 2) pe_int (fun _ _ => rfl)) (pe_callTy call_str_int rfl T.str (by decide +kernel) (pa_cons (pe_ix ix_tup (pv 2) pe_int (fun _ _ => rfl)) pa_nil))) pa_nil)))))))))
    (pss_one (ps_ret (pe_join pe_str (pv 1))))), ?_⟩
  obtain ⟨xs, hx, hp⟩ := hf
  obtain ⟨is, rfl, hi⟩ := hp.its
  have hxl := hi.length
  refine ⟨(by show 0 ≤ sizeLine; decide), fun wa hwa => ?_⟩
  refine ⟨_, rfl, a, rfl, ⟨_, SqL.of (same_new hwa _ _ _ hx)⟩, for_list (K := K) (a := a) (xs := xs) (fun i σ H' => ∃ u, σ = [some (.ref a), some (.ref wa), u] ∧ Same H H' ∧ H' wa = some (.lst ((((is.take i).map It.word).map S).map V.str)))
    ⟨none, rfl, same_new hwa _, by rw [List.take_zero]; exact upd_same⟩ (fun i σ H' _ ⟨_, _, s1, _⟩ => SqL.of (s1 _ _ hx)) ?_ ?_⟩
  · rintro i x σ H' hxi ⟨u, rfl, s1, hw⟩
    obtain ⟨q, j, rfl, hj, hq⟩ := hi.get hxi
    have hword := word_mem hj
    have hdj := deep_mem hj
    have ilt : i < is.length := (List.getElem?_eq_some_iff.mp hj).1
    have hxsz : ((((is.take i).map It.word).map S).map V.str).length < sizeLine := by
      simp only [List.length_map, List.length_take]
      have h1 := join_len (is.map It.word)
      rw [← txt_ofL, List.length_map] at h1
      refine sz_lt ?_
      split at h1 <;> omega
    cases j with
    | run c k =>
      have hq : H q = some (.tup [vRun, .str (S [c]), .int (k : Nat)]) := hq
      have hq' := s1 _ _ hq
      have hkl : (cnt k).length ≤ 500 := by
        have : (c :: cnt k).length ≤ 500 := Nat.le_trans hword hlen
        rw [List.length_cons] at this
        omega
      refine st_if (b := false) ?_ (fun z => Bool.noConfusion z) (fun _ => ?_)
      · intro Q1 q1
        refine ⟨_, rfl, q, _, _, _, rfl, rfl, SqT.of hq', atI_nat (j := 0) rfl, rfl, _, rfl, ?_⟩
        rw [again_no]
        exact q1
      refine st_if (b := decide (k = 1)) ?_ (fun h1 => ?_) (fun h1 => ?_)
      · intro Q1 q1
        refine ⟨_, rfl, q, _, _, _, rfl, rfl, SqT.of hq', atI_nat (j := 2) rfl, rfl, _, rfl, ?_⟩
        rw [int_one_dec]
        exact q1
      · have h1 := of_decide_eq_true h1
        refine ⟨_, rfl, .inl ⟨rfl, _, SqL.of hw⟩, _, rfl, q, _, _, _, rfl, rfl, SqT.of hq', atI_nat (j := 1) rfl, wa, _, _, rfl, rfl, hw, hxsz, ?_⟩
        refine ⟨_, rfl, same_mut s1 hwa, ?_⟩
        have e : (It.run c k).word = [c] := by
          show c :: cnt k = [c]
          unfold cnt
          rw [if_pos h1]
        rw [upd_same, take_more hj, List.map_append, List.map_append, List.map_append]
        show _ = some (HO.lst (_ ++ [V.str (S (It.run c k).word)]))
        rw [e]
      · have h1 := of_decide_eq_false h1
        have hck : cnt k = numL k := if_neg h1
        refine ⟨_, rfl, .inl ⟨rfl, _, SqL.of hw⟩, _, rfl, q, _, _, _, rfl, rfl, SqT.of hq', atI_nat (j := 1) rfl, _, rfl, q, _, _, _, rfl, rfl, SqT.of hq', atI_nat (j := 2) rfl, _, rfl, log_ok (cnt_lt hkl), ?_⟩
        refine ⟨_, _, rfl, rfl, ?_, wa, _, _, rfl, rfl, hw, hxsz, ?_⟩
        · rw [str_num, S_len, S_len, ← hck]
          exact sz_le (by rw [List.length_singleton]; omega)
        refine ⟨_, rfl, same_mut s1 hwa, ?_⟩
        rw [upd_same, take_more hj, str_num, S_app, ← hck, List.map_append, List.map_append, List.map_append] <;> rfl
    | again k fi =>
      obtain ⟨hk1, y, hq, hy⟩ := hq
      have hq' := s1 _ _ hq
      have hwl : (40 :: (txt fi ++ 41 :: numL k)).length ≤ 500 := Nat.le_trans hword hlen
      rw [List.length_cons, List.length_append, List.length_cons] at hwl
      refine st_if (b := true) ?_ (fun _ => ?_) (fun z => Bool.noConfusion z)
      · intro Q1 q1
        refine ⟨_, rfl, q, _, _, _, rfl, rfl, SqT.of hq', atI_nat (j := 0) rfl, rfl, _, rfl, ?_⟩
        rw [again_yes]
        exact q1
      · refine ⟨_, rfl, .inl ⟨rfl, _, SqL.of hw⟩, _, rfl, q, _, _, _, rfl, rfl, SqT.of hq', atI_nat (j := 2) rfl, ?_⟩
        refine ⟨y, fi, rfl, hy.same s1, ?_, by omega, fun H2 s2 => ?_⟩
        · have : deep fi + 1 ≤ deep (ofL is) := hdj
          omega
        refine ⟨_, _, rfl, rfl, ?_, _, _, rfl, rfl, ?_, _, rfl, q, _, _, _, rfl, rfl, SqT.of (s2 _ _ hq'), atI_nat (j := 1) rfl, _, rfl, log_ok (num_lt (by omega)), _, _, rfl, rfl, ?_, ?_⟩
        · rw [lit_open, S_len, S_len]
          exact sz_le (by rw [List.length_singleton]; omega)
        · rw [lit_open, lit_close, S_app, S_len, S_len]
          exact sz_le (by rw [List.length_append, List.length_singleton, List.length_singleton]; omega)
        · rw [lit_open, lit_close, str_num, S_app, S_app, S_len, S_len]
          exact sz_le (by rw [List.length_append, List.length_append, List.length_singleton, List.length_singleton]; omega)
        have hw2 := s2 _ _ hw
        refine ⟨wa, _, _, rfl, rfl, hw2, hxsz, ?_⟩
        refine ⟨_, rfl, same_mut (s1.trans s2) hwa, ?_⟩
        rw [upd_same, take_more hj, lit_open, lit_close, str_num, S_app, S_app, S_app, List.map_append, List.map_append, List.map_append]
        show _ = some (HO.lst (_ ++ [V.str (S (40 :: (txt fi ++ 41 :: numL k)))]))
        congr 5
        simp
  · rintro σ H' ⟨u, rfl, s1, hw⟩
    rw [hxl, List.take_length] at hw
    refine ⟨⟨_, rfl⟩, _, rfl, _, wa, ((is.map It.word).map S), rfl, rfl, .inl (SqL.of hw), ?_, ?_⟩
    · rw [map_len_S, lit_blank, S_len, List.length_map, List.length_map, List.length_singleton]
      have h1 := join_len (is.map It.word)
      rw [← txt_ofL, List.length_map] at h1
      split at h1 <;> omega
    · rw [lit_blank, join_S, ← txt_ofL]
      exact kQ H' s1
theorem lawShown_all {f : Addr} {fd : FuncData} (F : Fun K "_law_shown" "_law_shown" sShown f fd) (T : Cs K mg CC C) (bF : Binds K fd ["_law_fold_here"] []) (mF : mg "_law_shown" = some (.ref f)) : ∀ n, FnOk P w K mg base CX0 (n + 1) f fd ["_law_fold_here"] (spSh n)
  | 0 => by
    have no : ∀ vs H Q E, ¬ spSh 0 vs H Q E := fun vs H Q E h => by
      obtain ⟨a, f, _, _, h, _⟩ := h
      omega
    exact ⟨fun vs H Q E h => absurd h (no vs H Q E), fun A outer s H args us vs Q E _ _ _ _ h => absurd h (no vs H Q E)⟩
  | n + 1 => ok_lawShown F T (lawShown_all F T bF mF n) bF mF
/-! ## 44. _law_fold -/
def spFo (K : PySem.W.Frag) (d : Nat) : Sp := fun vs H Q _ => ∃ (a : Addr) (ns : List Int) (at' : Int) (room : Nat), vs = [.ref a, .int at', .int (room : Nat), .int (d : Nat)] ∧ SqL K H a (ns.map V.int) ∧ ns ≠ [] ∧ 1 ≤ room ∧ room ≤ 24 ∧
  ∀ (f : Fd) (e : Int) (p q : Addr) H', Same H H' → H' p = some (.tup [.ref q, .int e]) → FoldAt (newOf H H') q f → Good f → f ≠ .nil → size f ≤ room → deep f ≤ d → Q (.ref p) H'
theorem cell_ix {ns : List Int} (h : ns ≠ []) (z : Int) : 0 < (((ns.map V.int).length : Nat) : Int) ∧ ∃ v : Int, atI (ns.map V.int) (z % (((ns.map V.int).length : Nat) : Int)) = some (.int v) := by
  have hl : 0 < (ns.map V.int).length := by rw [List.length_map]; exact List.length_pos_iff.mpr h
  have h1 : (0 : Int) < (((ns.map V.int).length : Nat) : Int) := by omega
  refine ⟨h1, ?_⟩
  have z0 := Int.emod_nonneg z (Int.ne_of_gt h1)
  have z1 := Int.emod_lt_of_pos z h1
  generalize hg : z % (((ns.map V.int).length : Nat) : Int) = y at z0 z1
  obtain ⟨j, rfl⟩ := Int.eq_ofNat_of_zero_le z0
  have hj : j < (ns.map V.int).length := by omega
  have hj2 : j < ns.length := by rw [List.length_map] at hj; exact hj
  refine ⟨ns[j], atI_nat ?_⟩
  rw [List.getElem?_map, List.getElem?_eq_getElem hj2] <;> rfl
theorem sign_ix (z : Int) : ∃ c : Nat, atI (Str.ofString "abcxz").cps.toList (z % 5) = some c := by
  have e : (Str.ofString "abcxz").cps.toList = [97, 98, 99, 120, 122] := by decide +kernel
  rw [e]
  have z0 := Int.emod_nonneg z (show (5 : Int) ≠ 0 by decide)
  have z1 := Int.emod_lt_of_pos z (show (0 : Int) < 5 by decide)
  generalize z % 5 = y at z0 z1
  obtain ⟨j, rfl⟩ := Int.eq_ofNat_of_zero_le z0
  have hj : j < ([97, 98, 99, 120, 122] : List Nat).length := by show j < 5; omega
  exact ⟨_, atI_nat (List.getElem?_eq_getElem hj)⟩
theorem ofL_ne {done : List It} (h : done ≠ []) : ofL done ≠ .nil := by
  cases done with
  | nil => exact absurd rfl h
  | cons i r => exact put_ne i _
theorem scFo : FnScope ["_law_cells", "_law_at", "_law_room", "_law_deep", "_law_fold_here", "_law_left", "_law_many", "_law_turn", "_law_number_here", "_law_k", "_law_inner"] ["_law_cells", "_law_at", "_law_room", "_law_deep"] (defScope sFold) := ⟨rfl, rfl, rfl, by decide +kernel, rfl, by decide +kernel, by decide +kernel⟩
theorem ok_lawFold {d k : Nat} {f gN gU : Addr} {fd gdN gdU : FuncData} {sp : Sp} (F : Fun K "_law_fold" "_law_fold" sFold f fd) (T : Cs K mg CC C)
    (G : FnOk P w K mg base CX0 k f fd ["_law_cells", "_law_at", "_law_room", "_law_deep"] sp) (bF : Binds K fd ["_law_cells", "_law_at", "_law_room", "_law_deep"] []) (mF : mg "_law_fold" = some (.ref f))
    (GN : FnOk P w K mg base CX0 1 gN gdN ["_law_cell"] spNum) (bN : Binds K gdN ["_law_cell"] []) (kN : PySem.W.keepIn K (.ref gN) = true) (mN : mg "_law_number" = some (.ref gN))
    (GU : FnOk P w K mg base CX0 5 gU gdU ["_law_fold_here"] (spUn 4)) (bU : Binds K gdU ["_law_fold_here"] []) (kU : PySem.W.keepIn K (.ref gU) = true) (mU : mg "_law_unfolded" = some (.ref gU)) (hk : 5 ≤ k) (hd4 : d ≤ 4)
    (hsp : ∀ d' vs H Q E, d = d' + 1 → spFo K d' vs H Q E → sp vs H Q E) : FnOk P w K mg base CX0 (k + 1) f fd ["_law_cells", "_law_at", "_law_room", "_law_deep"] (spFo K d) := by
  refine F.ok scFo (fun vs H Q E h => ?_) (fun cdv A outer s H vs Q E hr h => ?_)
  · obtain ⟨a, ns, e, r, rfl, _⟩ := h
    rfl
  obtain ⟨a, ns, at0, room, rfl, hs, hns, hr1, hr24, kQ⟩ := h
  have hrN : Room 1 _ := hr.mono (by omega)
  have hrU : Room 5 _ := hr.mono hk
  refine ⟨_, pss_cons (ps_set (i := 4) scFo.nd rfl (.inl rfl) (pe_lst pa_nil))
    (pss_cons (ps_set (i := 5) scFo.nd rfl (.inl rfl) (pv 2))
    (pss_cons (ps_set (i := 6) scFo.nd rfl (.inl rfl) (pe_op op_add pe_int (pe_op op_mod (pe_call GN hrN rfl mN kN bN .nil pass0 (pa_cons (pe_op op_add (pe_ix ix_list (pv 0) (pe_op op_mod (pv 1) (pe_callB call_len_seq rfl T.len PySem.boot_len (pa_cons (pv 0) pa_nil))) (fun _ _ => rfl)) (pv 1)) pa_nil)) pe_int)))
    (pss_cons (ps_for PassesOwn.never rfl (pi_range1 rfl T.range (pa_cons (pv 6) pa_nil)) (pg_name (i := 7) scFo.nd rfl (.inl rfl))
      (pss_one (ps_if (pt_cmpR op_gt (pv 5) pe_int (nomark _))
        (pss_cons (ps_set (i := 1) scFo.nd rfl (.inl rfl) (pe_op op_add (pv 1) pe_int))
        (pss_cons (ps_set (i := 8) scFo.nd rfl (.inl rfl) (pe_call GN hrN rfl mN kN bN .nil pass0 (pa_cons (pe_op op_add (pe_ix ix_list (pv 0) (pe_op op_mod (pv 1) (pe_callB call_len_seq rfl T.len PySem.boot_len (pa_cons (pv 0) pa_nil))) (fun _ _ => rfl)) (pe_op op_mul pe_int (pv 1))) pa_nil)))
        (pss_one (ps_if (PW.pt (pw_and (pt_cmpR op_gt (pv 3) pe_int (nomark _)) (pw_and (pt_cmpR op_gt (pv 5) pe_int (nomark _)) (pw_and1 (pt_cmpR op_eq (pe_op op_mod (pv 8) pe_int) pe_int (nomark _))))))
          (pss_cons (ps_set (i := 9) scFo.nd rfl (.inl rfl) (pe_op op_add pe_int (pe_op op_mod (pe_op op_fdiv (pv 8) pe_int) (pe_callB (call_min2 rfl) rfl T.min (by decide +kernel) (pa_cons pe_int (pa_cons (pe_op op_sub (pv 5) pe_int) pa_nil))))))
          (pss_cons (ps_asg (pe_call G hr rfl mF F.kp bF .nil pass0 (pa_cons (pv 0) (pa_cons (pe_op op_add (pv 1) pe_int) (pa_cons (pe_op op_fdiv (pv 5) (pv 9)) (pa_cons (pe_op op_sub (pv 3) pe_int) pa_nil))))) (pg_tup rfl (pgs_cons (pg_name (i := 10) scFo.nd rfl (.inl rfl)) (pgs_cons (pg_name (i := 1) scFo.nd rfl (.inl rfl)) pgs_nil))))
          (pss_cons (ps_expr (pe_bm PySem.F.plainAttrs_list PySem.F.slot_list_append PySem.F.type_list_append mt_append (pv 4) (pa_cons (pe_tup (pa_cons pe_str (pa_cons (pv 9) (pa_cons (pv 10) pa_nil)))) pa_nil)))
          (pss_one (ps_set (i := 5) scFo.nd rfl (.inl rfl) (pe_op op_sub (pv 5) (pe_op op_mul (pv 9) (pe_callB call_len_str rfl T.len PySem.boot_len (pa_cons (pe_call GU hrU rfl mU kU bU .nil pass0 (pa_cons (pv 10) pa_nil)) pa_nil)))))))))
          (pss_cons (ps_set (i := 9) scFo.nd rfl (.inl rfl) (pe_op op_add pe_int (pe_op op_mod (pe_op op_fdiv (pv 8) pe_int) (pe_callB (call_min2 rfl) rfl T.min (by decide +kernel) (pa_cons (pv 5) (pa_cons (pe_op op_add pe_int (pe_op op_mul pe_int (pe_op op_fdiv (pe_op op_mod (pe_op op_fdiv (pv 8) pe_int) pe_int) pe_int))) pa_nil))))))
          (pss_cons (ps_expr (pe_bm PySem.F.plainAttrs_list PySem.F.slot_list_append PySem.F.type_list_append mt_append (pv 4) (pa_cons (pe_tup (pa_cons pe_str (pa_cons (pe_ix ix_str pe_str (pe_op op_mod (pe_op op_fdiv (pv 8) pe_int) pe_int) (fun _ _ => rfl)) (pa_cons (pv 9) pa_nil)))) pa_nil)))
          (pss_one (ps_set (i := 5) scFo.nd rfl (.inl rfl) (pe_op op_sub (pv 5) (pv 9))))))))))
        pss_nil)))
    (pss_one (ps_ret (pe_tup (pa_cons (pv 4) (pa_cons (pv 1) pa_nil)))))))), ?_⟩
  refine ⟨(by show 0 ≤ sizeLine; decide), fun fa hfa => ?_⟩
  have hsA := (same_new hfa (.lst [])).seq hs
  obtain ⟨hpos, v0, hv0⟩ := cell_ix hns at0
  refine ⟨_, rfl, ?_⟩
  refine ⟨_, rfl, _, rfl, _, rfl, a, _, rfl, .inl hsA, _, _, rfl, rfl, hpos, a, _, _, _, rfl, rfl, hsA, hv0, _, rfl, _, _, rfl, rfl, _, rfl, fun vm hvm => ?_⟩
  refine ⟨_, _, rfl, rfl, (by show (0 : Int) < 4; decide), _, _, rfl, rfl, ?_⟩
  obtain ⟨m, hm, hm1, hm4⟩ : ∃ m : Nat, (1 : Int) + ((vm : Nat) : Int) % 4 = (m : Int) ∧ 1 ≤ m ∧ m ≤ 4 := ⟨1 + vm % 4, by omega, by omega, by omega⟩
  dsimp only [gName]
  rw [hm]
  refine ⟨_, rfl, _, rfl, by omega, by omega, for_range (lo := 0) (n := m) (fun i σ H' => ∃ (at' : Int) (left : Nat) (done : List It) (xs : List V) (G : Hp) (u7 u8 u9 u10 : Option V),
      σ = [some (.ref a), some (.int at'), some (.int (room : Nat)), some (.int (d : Nat)), some (.ref fa), some (.int (left : Nat)), some (.int (m : Nat)), u7, u8, u9, u10] ∧ Same H H' ∧ H' fa = some (.lst xs) ∧ ItsAt G xs done ∧
      (∀ b o, G b = some o → H' b = some o ∧ H b = none ∧ b ≠ fa) ∧ xs.length ≤ i ∧ size (ofL done) + left = room ∧ Good (ofL done) ∧ deep (ofL done) ≤ d ∧ (1 ≤ i → done ≠ []))
    ⟨at0, room, [], [], (fun _ => none), none, none, none, none, rfl, same_new hfa _, upd_same, .nil, (fun _ _ h => nomatch h), Nat.le_refl _, Nat.zero_add _, trivial, Nat.zero_le _, fun h => by omega⟩ ?_ ?_⟩
  · rintro i σ H' hi ⟨at', left, done, xs, G, u7, u8, u9, u10, rfl, s1, hx, hG, hG2, hxl, hsz, hgd, hdd, hne⟩
    have hsB := s1.seq hs
    refine st_if (b := decide (0 < left)) ?_ (fun hl => ?_) (fun hl => ?_)
    · intro Q1 q1
      refine ⟨_, rfl, _, _, rfl, rfl, _, rfl, ?_⟩
      rw [show decide ((0 : Int) < ((left : Nat) : Int)) = decide (0 < left) from by rw [Bool.eq_iff_iff]; simp only [decide_eq_true_eq]; omega]
      exact q1
    · have hl := of_decide_eq_true hl
      obtain ⟨_, v1, hv1⟩ := cell_ix hns (at' + 1)
      refine ⟨_, rfl, _, _, rfl, rfl, ?_⟩
      refine ⟨_, rfl, _, rfl, _, rfl, a, _, rfl, .inl hsB, _, _, rfl, rfl, hpos, a, _, _, _, rfl, rfl, hsB, hv1, _, rfl, _, _, rfl, rfl, .inl ⟨by decide, by decide⟩, _, _, rfl, rfl, _, rfl, fun nh hnh => ?_⟩
      dsimp only [tSeq, tNext]
      refine st_if (b := decide (0 < d) && (decide (1 < left) && decide (nh % 3 = 0))) ?_ (fun hb => ?_) (fun hb => ?_)
      · refine ans_and2 ?_ (ans_and2 ?_ ?_)
        · refine Ans.of (b' := decide ((0 : Int) < ((d : Nat) : Int))) ?_ fun Q1 q1 => ⟨_, rfl, _, _, rfl, rfl, _, rfl, q1⟩
          rw [Bool.eq_iff_iff]; simp only [decide_eq_true_eq]; omega
        · refine Ans.of (b' := decide ((1 : Int) < ((left : Nat) : Int))) ?_ fun Q1 q1 => ⟨_, rfl, _, _, rfl, rfl, _, rfl, q1⟩
          rw [Bool.eq_iff_iff]; simp only [decide_eq_true_eq]; omega
        · refine Ans.of (b' := decide (V.int (((nh : Nat) : Int) % 3) = V.int 0)) ?_ fun Q1 q1 => ⟨_, rfl, _, _, rfl, rfl, (by show (0 : Int) < 3; decide), rfl, _, rfl, q1⟩
          rw [Bool.eq_iff_iff]
          simp only [decide_eq_true_eq]
          exact ⟨fun h => by have := V.int.inj h; omega, fun h => congrArg V.int (by omega)⟩
      · -- an again
        rw [Bool.and_eq_true, Bool.and_eq_true, decide_eq_true_eq, decide_eq_true_eq, decide_eq_true_eq] at hb
        obtain ⟨hd0, hl1, _⟩ := hb
        obtain ⟨d', rfl⟩ : ∃ d', d = d' + 1 := ⟨d - 1, by omega⟩
        have hM : ∃ M : Int, (if ((left : Nat) : Int) - 1 < 3 then ((left : Nat) : Int) - 1 else 3) = M ∧ 1 ≤ M ∧ M ≤ (left : Int) - 1 := by
          by_cases h : ((left : Nat) : Int) - 1 < 3
          · exact ⟨_, if_pos h, by omega, by omega⟩
          · exact ⟨_, if_neg h, by omega, by omega⟩
        obtain ⟨M, eM, M1, M2⟩ := hM
        have r0 := Int.emod_nonneg (((nh : Nat) : Int) / 3) (show M ≠ 0 by omega)
        have r1 := Int.emod_lt_of_pos (((nh : Nat) : Int) / 3) (show 0 < M by omega)
        refine ⟨_, rfl, _, _, rfl, rfl, ⟨by decide, by decide⟩, _, rfl, _, _, rfl, rfl, _, _, rfl, ?_⟩
        rw [eM]
        refine ⟨_, _, rfl, rfl, (by show (0 : Int) < M; omega), _, _, rfl, rfl, ?_⟩
        obtain ⟨kk, hkk⟩ : ∃ kk : Nat, (2 : Int) + ((nh : Nat) : Int) / 3 % M = (kk : Int) := ⟨(2 + ((nh : Nat) : Int) / 3 % M).toNat, by omega⟩
        dsimp only [gName]
        rw [hkk]
        have hk2 : 2 ≤ kk := by omega
        have hkl : kk ≤ left := by omega
        have hdiv1 : 1 ≤ left / kk := (Nat.le_div_iff_mul_le (by omega)).mpr (by omega)
        have hdiv2 : left / kk ≤ left := Nat.div_le_self _ _
        have hdiv : ((left : Nat) : Int) / ((kk : Nat) : Int) = ((left / kk : Nat) : Int) := (Int.natCast_ediv left kk).symm
        refine ⟨_, rfl, _, rfl, _, _, rfl, rfl, _, rfl, _, rfl, _, _, rfl, rfl, ⟨by omega, by omega⟩, _, rfl, _, _, rfl, rfl, hsp d' _ _ _ _ rfl ⟨a, ns, at' + 1 + 1, left / kk, ?_, hsB, hns, hdiv1, by omega, fun f2 e2 p2 q2 H2 s2 hp2 hq2 hg2 hn2 hs2 hd2 => ?_⟩⟩
        · show [V.ref a, V.int (at' + 1 + 1), V.int (((left : Nat) : Int) / ((kk : Nat) : Int)), V.int ((((d' + 1 : Nat)) : Int) - 1)] = _
          rw [hdiv, show ((((d' + 1 : Nat)) : Int) - 1) = ((d' : Nat) : Int) by omega]
        refine ⟨p2, _, rfl, SqT.of hp2, rfl, _, _, rfl, _, _, rfl, rfl, ?_⟩
        have hx2 := s2 _ _ hx
        obtain ⟨G1, g1, g2, g3⟩ := join_hp (N := newOf H' H2) hG2 s1 s2 ⟨_, hx⟩
        refine ⟨_, rfl, .inl ⟨rfl, _, SqL.of hx2⟩, _, rfl, _, rfl, (by show 3 ≤ sizeLine; decide), fun t ht => ?_⟩
        have s3 := same_new ht (.tup [vAgain, .int ((kk : Nat) : Int), .ref q2])
        obtain ⟨G2, j1, j2, j3⟩ := join_hp (N := newOf H2 (upd H2 t (.tup [vAgain, .int ((kk : Nat) : Int), .ref q2]))) g3 (s1.trans s2) s3 ⟨_, hx2⟩
        refine ⟨fa, xs, _, rfl, rfl, s3 _ _ hx2, sz_lt (by omega), ?_⟩
        have hf2 : FoldAt G2 q2 f2 := (hq2.same g2).same j1
        have hG4 : ∀ b o, G2 b = some o → (upd (upd H2 t (.tup [vAgain, .int ((kk : Nat) : Int), .ref q2])) fa (.lst (xs ++ [.ref t]))) b = some o := fun b o hb => by
          obtain ⟨h1, _, h3⟩ := j3 b o hb
          rw [upd_ne h3]
          exact h1
        have hszle : kk * size f2 ≤ left := Nat.le_trans (Nat.mul_le_mul_left _ hs2) (Nat.mul_div_le left kk)
        refine ⟨_, rfl, _, rfl, _, rfl, q2, f2, rfl, hf2.same hG4, by omega, hg2, by omega, fun z hz H5 s5 => ?_⟩
        refine ⟨z, rfl, by rw [hz]; exact sz_le (by omega), _, _, rfl, rfl, .inl ⟨by omega, by omega⟩, _, _, rfl, rfl, ?_⟩
        have hgood2 : Good (ofL (done ++ [It.again kk f2])) := good_app hgd ⟨hk2, hn2, hg2, trivial⟩
        have hval : ((left : Nat) : Int) - ((kk : Nat) : Int) * ((z.length : Nat) : Int) = ((left - kk * size f2 : Nat) : Int) := by
          rw [hz, ← Int.natCast_mul, Int.ofNat_sub hszle]
        refine ⟨e2, left - kk * size f2, done ++ [.again kk f2], xs ++ [.ref t], G2, some (.int (0 + (i : Nat))), some (.int (nh : Nat)), some (.int (kk : Nat)), some (.ref q2), ?_, ((same_mut ((s1.trans s2).trans s3) hfa).trans s5), s5 _ _ upd_same, (((hG.same g1).same j1).snoc (show ItAt G2 t (.again kk f2) from ⟨by omega, q2, j2 _ _ (newOf_of ht upd_same), hf2⟩)), ?_, ?_, ?_, hgood2, ?_, fun _ => by simp⟩
        · rw [← hval]
          rfl
        · intro b o hb
          obtain ⟨_, h2, h3⟩ := j3 b o hb
          exact ⟨s5 _ _ (hG4 b o hb), h2, h3⟩
        · rw [List.length_append, List.length_singleton]; omega
        · rw [size_app, size_sing]
          show size (ofL done) + kk * size f2 + (left - kk * size f2) = room
          omega
        · rw [deep_app]
          have e : deep (ofL [It.again kk f2]) = max (deep f2 + 1) 0 := rfl
          rw [e]
          omega
      · -- a run
        have hM : ∃ M : Int, (if (3 : Int) + 9 * (((nh : Nat) : Int) / 81 % 5 / 4) < ((left : Nat) : Int) then (3 : Int) + 9 * (((nh : Nat) : Int) / 81 % 5 / 4) else ((left : Nat) : Int)) = M ∧ 1 ≤ M ∧ M ≤ (left : Int) := by
          by_cases h : (3 : Int) + 9 * (((nh : Nat) : Int) / 81 % 5 / 4) < ((left : Nat) : Int)
          · exact ⟨_, if_pos h, by omega, by omega⟩
          · exact ⟨_, if_neg h, by omega, by omega⟩
        obtain ⟨M, eM, M1, M2⟩ := hM
        have r0 := Int.emod_nonneg (((nh : Nat) : Int) / 3) (show M ≠ 0 by omega)
        have r1 := Int.emod_lt_of_pos (((nh : Nat) : Int) / 3) (show 0 < M by omega)
        obtain ⟨c, hc⟩ := sign_ix (((nh : Nat) : Int) / 405)
        refine ⟨_, rfl, _, _, rfl, rfl, ⟨by decide, by decide⟩, _, rfl, _, rfl, _, _, rfl, rfl, ⟨by decide, by decide⟩, _, _, rfl, rfl, (by show (0 : Int) < 5; decide), _, _, rfl, rfl, ⟨by decide, by decide⟩, _, _, rfl, rfl, .inl ⟨by decide, by decide⟩, _, _, rfl, rfl, _, _, rfl, ?_⟩
        dsimp only
        rw [eM]
        refine ⟨_, _, rfl, rfl, (by show (0 : Int) < M; omega), _, _, rfl, rfl, ?_⟩
        obtain ⟨kk, hkk⟩ : ∃ kk : Nat, (1 : Int) + ((nh : Nat) : Int) / 3 % M = (kk : Int) := ⟨(1 + ((nh : Nat) : Int) / 3 % M).toNat, by omega⟩
        dsimp only [gName]
        rw [hkk]
        have hk1 : 1 ≤ kk := by omega
        have hkl : kk ≤ left := by omega
        refine ⟨_, rfl, .inl ⟨rfl, _, SqL.of hx⟩, _, rfl, _, _, rfl, rfl, ⟨by decide, by decide⟩, _, _, rfl, rfl, (by show (0 : Int) < 5; decide), _, _, c, rfl, rfl, (by decide +kernel), hc, _, rfl, (by show 3 ≤ sizeLine; decide), fun t ht => ?_⟩
        have s3 := same_new ht (.tup [vRun, .str (S [c]), .int ((kk : Nat) : Int)])
        obtain ⟨G2, j1, j2, j3⟩ := join_hp (N := newOf H' (upd H' t (.tup [vRun, .str (S [c]), .int ((kk : Nat) : Int)]))) hG2 s1 s3 ⟨_, hx⟩
        refine ⟨fa, xs, _, rfl, rfl, s3 _ _ hx, sz_lt (by omega), ?_⟩
        have hgood2 : Good (ofL (done ++ [It.run c kk])) := good_app hgd ⟨hk1, trivial⟩
        have hval : ((left : Nat) : Int) - ((kk : Nat) : Int) = ((left - kk : Nat) : Int) := Int.ofNat_sub hkl ▸ rfl
        refine ⟨_, rfl, _, rfl, _, _, rfl, rfl, ?_⟩
        refine ⟨at' + 1, left - kk, done ++ [.run c kk], xs ++ [.ref t], G2, some (.int (0 + (i : Nat))), some (.int (nh : Nat)), some (.int (kk : Nat)), u10, ?_, same_mut (s1.trans s3) hfa, upd_same, ((hG.same j1).snoc (show ItAt G2 t (.run c kk) from j2 _ _ (newOf_of ht upd_same))), ?_, ?_, ?_, hgood2, ?_, fun _ => by simp⟩
        · rw [← hval]
          rfl
        · intro b o hb
          obtain ⟨h1, h2, h3⟩ := j3 b o hb
          exact ⟨by rw [upd_ne h3]; exact h1, h2, h3⟩
        · rw [List.length_append, List.length_singleton]; omega
        · rw [size_app, size_sing]
          show size (ofL done) + kk + (left - kk) = room
          omega
        · rw [deep_app]
          have e : deep (ofL [It.run c kk]) = 0 := rfl
          rw [e]
          omega
    · have hl := of_decide_eq_false hl
      refine ⟨at', left, done, xs, G, some (.int (0 + (i : Nat))), u8, u9, u10, rfl, s1, hx, hG, hG2, by omega, hsz, hgd, hdd, fun _ hd => ?_⟩
      rw [hd] at hsz
      have : size (ofL []) = 0 := rfl
      omega
  · rintro σ H' ⟨at', left, done, xs, G, u7, u8, u9, u10, rfl, s1, hx, hG, hG2, hxl, hsz, hgd, hdd, hne⟩
    refine ⟨_, rfl, _, rfl, (by show 2 ≤ sizeLine; decide), fun p hp => ?_⟩
    have sp := same_new hp (.tup [.ref fa, .int at'])
    refine kQ (ofL done) at' p fa _ (s1.trans sp) upd_same ⟨xs, newOf_of hfa (sp _ _ hx), (hG.same fun b o h => ?_).parts⟩ hgd (ofL_ne (hne hm1)) (by omega) hdd
    obtain ⟨h1, h2, _⟩ := hG2 b o h
    exact newOf_of h2 (sp _ _ h1)
end
end K32
namespace K32
open PySem L2
open TL (numL joinL)
open NumText (digitsVal AllDigits)
/-! ## 50. one size alone; no # in what is read -/
theorem Sz.det {b l n r} (h : Sz b l n r) : ∀ n' r', Sz b l n' r' → n' = n ∧ r' = r := by
  induction h with
  | @run c k r hc h3 =>
    intro n' r' h
    cases h with
    | run hc' h3' =>
      rw [h3] at h3'
      cases h3'
      exact ⟨rfl, rfl⟩
    | hash _ => exact absurd hc (by decide)
    | again _ _ _ => exact absurd hc (by decide)
  | @hash r r2 h =>
    intro n' r' h'
    cases h' with
    | run hc' h3' => exact absurd hc' (by decide)
    | hash h' =>
      rw [h] at h'
      cases h'
      exact ⟨rfl, rfl⟩
  | @again l n k r h hd h3 ih =>
    intro n' r' h'
    cases h' with
    | run hc' h3' => exact absurd hc' (by decide)
    | again h' hd' h3' =>
      obtain ⟨e1, e2⟩ := ih _ _ h'
      injection e2 with _ e2
      subst e1 e2
      rw [h3] at h3'
      cases h3'
      exact ⟨rfl, rfl⟩
  | @one l n r h hr ih =>
    intro n' r' h'
    cases h' with
    | one h' hr' => exact ih _ _ h'
    | more h1 h2 =>
      obtain ⟨_, e2⟩ := ih _ _ h1
      rw [← e2] at hr
      exact absurd rfl hr
  | @more l n r m r2 h1 h2 ih1 ih2 =>
    intro n' r' h'
    cases h' with
    | one h' hr' =>
      obtain ⟨_, e2⟩ := ih1 _ _ h'
      rw [e2] at hr'
      exact absurd rfl hr'
    | more h1' h2' =>
      obtain ⟨e1, e2⟩ := ih1 _ _ h1'
      injection e2 with _ e2
      subst e1 e2
      obtain ⟨e3, e4⟩ := ih2 _ _ h2'
      exact ⟨by rw [e3], e4⟩
theorem cnt_no {k : Nat} : 35 ∉ cnt k := by
  unfold cnt
  split
  · simp
  · exact numL_no (.inl (by decide))
theorem runP_no {l : List Nat} {i : It} {r : List Nat} (h : runP l = some (i, r)) : 35 ∉ i.word := by
  cases l with
  | nil => cases h
  | cons c s =>
    rw [runP_cons] at h
    by_cases hc : low c = true
    · rw [if_pos hc] at h
      cases q : cnt2 (ds s) with
      | none => rw [q] at h; cases h
      | some k =>
        rw [q] at h
        cases h
        intro z
        rcases List.mem_cons.mp z with z | z
        · rw [← z] at hc
          exact absurd hc (by decide)
        · exact cnt_no z
    · rw [if_neg hc] at h; cases h
theorem tailP_no35 {pt : List Nat → Option (It × List Nat)} (hp : ∀ l i r, pt l = some (i, r) → 35 ∉ i.word) : ∀ (n : Nat) (r : List Nat) (is : List It) (r2 : List Nat), tailP pt n r = some (is, r2) → ∀ i ∈ is, 35 ∉ It.word i
  | 0, _, _, _, h => nomatch h
  | n + 1, r, is, r2, h => by
    unfold tailP at h
    split at h
    · rename_i r1
      cases q : pt r1 with
      | none => rw [q] at h; cases h
      | some z =>
        obtain ⟨j, r3⟩ := z
        rw [q] at h
        dsimp only at h
        cases q2 : tailP pt n r3 with
        | none => rw [q2] at h; cases h
        | some y =>
          obtain ⟨js, r4⟩ := y
          rw [q2] at h
          cases h
          intro i hi
          rcases List.mem_cons.mp hi with e | hi
          · rw [e]; exact hp _ _ _ q
          · exact tailP_no35 hp n r3 js _ q2 i hi
    · cases h
      intro i hi
      cases hi
theorem join_no {ws : List (List Nat)} (h : ∀ v ∈ ws, 35 ∉ v) : 35 ∉ joinL [32] ws := by
  induction ws with
  | nil => intro z; cases z
  | cons v r ih =>
    cases r with
    | nil => exact h v List.mem_cons_self
    | cons u r =>
      intro z
      have z : 35 ∈ v ++ ([32] ++ joinL [32] (u :: r)) := z
      rcases List.mem_append.mp z with z | z
      · exact h v List.mem_cons_self z
      · rcases List.mem_append.mp z with z | z
        · cases List.mem_singleton.mp z
        · exact ih (fun x hx => h x (List.mem_cons_of_mem _ hx)) z
theorem partsP_no {pt : List Nat → Option (It × List Nat)} (hp : ∀ l i r, pt l = some (i, r) → 35 ∉ i.word) {l : List Nat} {f : Fd} {r : List Nat} (h : partsP pt l = some (f, r)) : 35 ∉ txt f := by
  unfold partsP at h
  cases q : pt l with
  | none => rw [q] at h; cases h
  | some z =>
    obtain ⟨i, r1⟩ := z
    rw [q] at h
    dsimp only at h
    cases q2 : tailP pt (r1.length + 1) r1 with
    | none => rw [q2] at h; cases h
    | some y =>
      obtain ⟨is, r2⟩ := y
      rw [q2] at h
      cases h
      rw [txt_ofL]
      refine join_no fun v hv => ?_
      obtain ⟨j, hj, rfl⟩ := List.mem_map.mp hv
      rcases List.mem_cons.mp hj with e | hj
      · rw [e]; exact hp _ _ _ q
      · exact tailP_no35 hp _ _ _ _ q2 j hj
theorem partD_no : ∀ (d : Nat) (l : List Nat) (i : It) (r : List Nat), partD d l = some (i, r) → 35 ∉ i.word
  | 0, l, i, r, h => runP_no h
  | d + 1, l, i, r, h => by
    unfold partD at h
    by_cases h0 : l.head? = some 40
    · rw [if_pos h0] at h
      unfold againP at h
      split at h
      · rename_i f r2 q
        have a := partsP_no (partD_no d) q
        cases q2 : cnt2 (ds r2) with
        | none => rw [q2] at h; cases h
        | some k =>
          rw [q2] at h
          dsimp only at h
          by_cases hk : k = 1
          · rw [if_pos hk] at h; cases h
          · rw [if_neg hk] at h
            cases h
            intro z
            rcases List.mem_cons.mp z with z | z
            · cases z
            · rcases List.mem_append.mp z with z | z
              · exact a z
              · rcases List.mem_cons.mp z with z | z
                · cases z
                · exact numL_no (.inl (by decide)) z
      · cases h
    · rw [if_neg h0] at h
      exact runP_no h
theorem readP_no {l : List Nat} {f : Fd} (h : readP l = some f) : 35 ∉ l := by
  have e := (readP_some h).2.1
  unfold readP at h
  split at h
  · rename_i f' q
    by_cases hs : size f' ≤ 24
    · rw [if_pos hs] at h
      cases h
      rw [e]
      exact partsP_no (partD_no 12) q
    · rw [if_neg hs] at h; cases h
  · cases h
section
variable {P : Program} {w : World} {K : PySem.W.Frag} {mg : Str → Option Value} {base : Heap} {CC C : Addr}
theorem fold_all {f gN gU : Addr} {fd gdN gdU : FuncData} (F : Fun K "_law_fold" "_law_fold" sFold f fd) (T : Cs K mg CC C)
    (bF : Binds K fd ["_law_cells", "_law_at", "_law_room", "_law_deep"] []) (mF : mg "_law_fold" = some (.ref f))
    (GN : FnOk P w K mg base CX0 1 gN gdN ["_law_cell"] spNum) (bN : Binds K gdN ["_law_cell"] []) (kN : PySem.W.keepIn K (.ref gN) = true) (mN : mg "_law_number" = some (.ref gN))
    (GU : FnOk P w K mg base CX0 5 gU gdU ["_law_fold_here"] (spUn 4)) (bU : Binds K gdU ["_law_fold_here"] []) (kU : PySem.W.keepIn K (.ref gU) = true) (mU : mg "_law_unfolded" = some (.ref gU)) :
    ∀ d, d ≤ 4 → FnOk P w K mg base CX0 (6 + d) f fd ["_law_cells", "_law_at", "_law_room", "_law_deep"] (spFo K d)
  | 0, h => ok_lawFold (d := 0) (k := 5) (sp := fun _ _ _ _ => False) F T ⟨fun _ _ _ _ h => h.elim, fun _ _ _ _ _ _ _ _ _ _ _ _ _ h => h.elim⟩ bF mF GN bN kN mN GU bU kU mU (Nat.le_refl _) h fun d' vs H Q E e _ => by omega
  | d + 1, h => ok_lawFold (d := d + 1) (k := 6 + d) F T (fold_all F T bF mF GN bN kN mN GU bU kU mU d (by omega)) bF mF GN bN kN mN GU bU kU mU (by omega) h fun d' vs H Q E e z => by
      have : d' = d := by omega
      subst this
      exact z
/-! ## 51. _law_drawn -/
def spDr (K : PySem.W.Frag) : Sp := fun vs H Q _ => ∃ (a : Addr) (ns : List Int), vs = [.ref a, .int 0, .int 24] ∧ SqL K H a (ns.map V.int) ∧ ns.length ≤ 63 ∧
  ∀ (f : Fd) (q : Addr) H', Same H H' → FoldAt H' q f → Good f → f ≠ .nil → size f ≤ 24 → deep f ≤ 3 → Q (.ref q) H'
theorem scDr : FnScope ["_law_script", "_law_at", "_law_most", "_law_cells", "_law_room"] ["_law_script", "_law_at", "_law_most"] (defScope sDrawn) := ⟨rfl, rfl, rfl, by decide +kernel, rfl, by decide +kernel, by decide +kernel⟩
theorem room_ix (z : Int) : ∃ r : Nat, atI [V.int 24, V.int 24, V.int (24 / 2), V.int 5] (z % 4) = some (.int (r : Nat)) ∧ 1 ≤ r ∧ r ≤ 24 := by
  have z0 := Int.emod_nonneg z (show (4 : Int) ≠ 0 by decide)
  have z1 := Int.emod_lt_of_pos z (show (0 : Int) < 4 by decide)
  generalize z % 4 = y at z0 z1
  obtain ⟨j, rfl⟩ := Int.eq_ofNat_of_zero_le z0
  match j, z1 with
  | 0, _ => exact ⟨24, atI_nat (j := 0) rfl, by decide, by decide⟩
  | 1, _ => exact ⟨24, atI_nat (j := 1) rfl, by decide, by decide⟩
  | 2, _ => exact ⟨12, atI_nat (j := 2) rfl, by decide, by decide⟩
  | 3, _ => exact ⟨5, atI_nat (j := 3) rfl, by decide, by decide⟩
  | j + 4, h => omega
theorem cutV_all (xs : List V) : cutV xs (some 0) none = xs := by
  show (xs.drop (HT.sIx xs.length 0 (some ((0 : Nat) : Int)))).take (xs.length - HT.sIx xs.length 0 (some ((0 : Nat) : Int))) = xs
  rw [HT.sIx_nat]
  simp
theorem ok_drawn {f gN gC gF : Addr} {fd gdN gdC gdF : FuncData} (F : Fun K "_law_drawn" "_law_drawn" sDrawn f fd) (T : Cs K mg CC C)
    (GN : FnOk P w K mg base CX0 1 gN gdN ["_law_cell"] spNum) (bN : Binds K gdN ["_law_cell"] []) (kN : PySem.W.keepIn K (.ref gN) = true) (mN : mg "_law_number" = some (.ref gN))
    (GC : FnOk P w K mg base CX0 1 gC gdC ["_law_script", "_law_k"] (spCell K)) (bC : Binds K gdC ["_law_script", "_law_k"] []) (kC : PySem.W.keepIn K (.ref gC) = true) (mC : mg "_law_cell_at" = some (.ref gC))
    (GF : FnOk P w K mg base CX0 9 gF gdF ["_law_cells", "_law_at", "_law_room", "_law_deep"] (spFo K 3)) (bF : Binds K gdF ["_law_cells", "_law_at", "_law_room", "_law_deep"] []) (kF : PySem.W.keepIn K (.ref gF) = true) (mF : mg "_law_fold" = some (.ref gF)) :
    FnOk P w K mg base CX0 10 f fd ["_law_script", "_law_at", "_law_most"] (spDr K) := by
  refine F.ok scDr (fun vs H Q E h => ?_) (fun cdv A outer s H vs Q E hr h => ?_)
  · obtain ⟨a, ns, rfl, _⟩ := h
    rfl
  obtain ⟨a, ns, rfl, hs, hns, kQ⟩ := h
  have hr1 : Room 1 _ := hr.mono (by decide)
  refine ⟨_, pss_cons (ps_set (i := 3) scDr.nd rfl (.inl rfl) (pe_op op_cat (pe_slice sl_list (pv 0) (po_some (pv 1)) po_none) (pe_lst (pa_cons pe_int pa_nil))))
    (pss_cons (ps_set (i := 4) scDr.nd rfl (.inl rfl) (pe_ix ix_list (pe_lst (pa_cons (pv 2) (pa_cons (pv 2) (pa_cons (pe_op op_fdiv (pv 2) pe_int) (pa_cons pe_int pa_nil)))))
      (pe_op op_mod (pe_op op_fdiv (pe_call GN hr1 rfl mN kN bN .nil pass0 (pa_cons (pe_call GC hr1 rfl mC kC bC .nil pass0 (pa_cons (pv 0) (pa_cons (pv 1) pa_nil))) pa_nil)) pe_int) pe_int) (fun _ _ => rfl)))
    (pss_one (ps_ret (pe_ix ix_tup (pe_call GF hr rfl mF kF bF .nil pass0 (pa_cons (pv 3) (pa_cons pe_int (pa_cons (pv 4) (pa_cons pe_int pa_nil))))) pe_int (fun _ _ => rfl))))), ?_⟩
  refine ⟨_, rfl, _, rfl, _, rfl, a, _, rfl, hs, fun p1 hp1 => ?_⟩
  rw [cutV_all]
  have s1 := same_new hp1 (.lst (ns.map V.int))
  refine ⟨(by show 1 ≤ sizeLine; decide), fun p2 hp2 => ?_⟩
  have s2 := same_new hp2 (.lst [.int 1])
  refine ⟨p1, p2, _, _, rfl, rfl, s2 _ _ upd_same, upd_same, ?_, fun p3 hp3 => ?_⟩
  · rw [List.length_map]
    exact sz_le (by show ns.length + 1 ≤ 100000; omega)
  have s3 := same_new hp3 (.lst (ns.map V.int ++ [.int 1]))
  refine ⟨_, rfl, _, rfl, _, rfl, _, _, rfl, rfl, ⟨by decide, by decide⟩, (by show 4 ≤ sizeLine; decide), fun p4 hp4 => ?_⟩
  have s4 := same_new hp4 (.lst [.int 24, .int 24, .int (24 / 2), .int 5])
  refine ⟨_, rfl, _, rfl, a, ns, rfl, (((s1.trans s2).trans s3).trans s4).seq hs, fun v => ⟨v, rfl, fun nh hnh => ?_⟩⟩
  obtain ⟨r, hr2, r1, r24⟩ := room_ix (((nh : Nat) : Int) / 4)
  refine ⟨_, _, rfl, rfl, ⟨by decide, by decide⟩, _, _, rfl, rfl, (by show (0 : Int) < 4; decide), p4, _, _, _, rfl, rfl, SqL.of upd_same, hr2, ?_⟩
  refine ⟨_, rfl, _, rfl, p3, ns ++ [1], 0, r, rfl, ?_, by simp, r1, r24, fun fo e p q H' s5 hp hq hg hn hsz hd => ?_⟩
  · rw [List.map_append]
    exact SqL.of (s4 _ _ upd_same)
  exact ⟨p, _, _, _, rfl, rfl, SqT.of hp, atI_nat (j := 0) rfl, kQ fo q H' ((((s1.trans s2).trans s3).trans s4).trans s5) (hq.same newOf_le) hg hn (Nat.le_trans hsz r24) hd⟩
end
end K32
namespace K32
open PySem L2
open TL (numL joinL)
open NumText (digitsVal AllDigits)
section
variable {P : Program} {w : World} {K : PySem.W.Frag} {mg : Str → Option Value} {base : Heap} {CC C : Addr}
/-! ## 52. _law_right -/
theorem pss_when {X : Cx} {p : Prop} {st : List Stmt} {t : TS} (h : p → PSs X st t) : PSs X st (fun D σ H => p ∧ t D σ H) := ⟨fun pins s σ H D I hw => (h hw.1).run pins s σ H D I hw.2⟩
theorem kit_self : PySem.W.kitOne K (.ref C) (.ref C) = some true := by
  unfold PySem.W.kitOne
  rw [if_pos (by simp)]
def SizeIs (l : List Nat) (v : V) : Prop := (v = .non ∧ ∀ n, ¬ (35 ∉ l ∧ Sz false l n [])) ∨ ∃ n : Nat, v = .int (n : Nat) ∧ 35 ∉ l ∧ Sz false l n []
def spLs1 : Sp := fun vs H Q _ => ∃ l : List Nat, vs = [.str (S l)] ∧ l.length ≤ 200 ∧ ∀ v H', Same H H' → SizeIs l v → Q v H'
theorem ls_ls1 {vs : List V} {H : Hp} {Q : VK} {E : XK} (h : spLs1 vs H Q E) : spLs vs H Q E := by
  obtain ⟨l, rfl, hl, k⟩ := h
  exact ⟨l, rfl, hl, fun n h1 h2 H' s => k _ H' s (.inr ⟨n, rfl, h1, h2⟩), fun h H' s => k _ H' s (.inl ⟨rfl, h⟩)⟩
def spRi : Sp := fun vs H Q _ => ∃ l : List Nat, vs = [.str (S l)] ∧ l.length ≤ 200 ∧ ∀ H', Same H H' → Q (.bl true) H'
theorem scRi : FnScope ["_law_text", "_law_size_here", "_law_found", "e"] ["_law_text"] (defScope sRight) := ⟨rfl, rfl, rfl, by decide +kernel, rfl, by decide +kernel, by decide +kernel⟩
theorem ok_right {f gZ gR gW gS : Addr} {fd gdZ gdR gdW gdS : FuncData} (F : Fun K "_law_right" "_law_right" sRight f fd) (T : Cs K mg CC C)
    (GZ : FnOk P w K mg base CX0 3 gZ gdZ ["_law_text"] spLs) (bZ : Binds K gdZ ["_law_text"] []) (kZ : PySem.W.keepIn K (.ref gZ) = true) (mZ : mg "_law_size" = some (.ref gZ))
    (GR : FnOk P w K mg base (L2.CX P w) 28 gR gdR ["text"] (spRf K C)) (bR : Binds K gdR ["text"] []) (kR : PySem.W.keepIn K (.ref gR) = true) (mR : mg "read_fold" = some (.ref gR))
    (GW : FnOk P w K mg base CX0 14 gW gdW ["_law_fold_here"] (spSh 13)) (bW : Binds K gdW ["_law_fold_here"] []) (kW : PySem.W.keepIn K (.ref gW) = true) (mW : mg "_law_shown" = some (.ref gW))
    (GS : FnOk P w K mg base CX0 14 gS gdS ["fold"] (spSh 13)) (bS : Binds K gdS ["fold"] []) (kS : PySem.W.keepIn K (.ref gS) = true) (mS : mg "shown_fold" = some (.ref gS)) : FnOk P w K mg base CX0 29 f fd ["_law_text"] spRi := by
  refine F.ok scRi (fun vs H Q E h => ?_) (fun cdv A outer s H vs Q E hr h => ?_)
  · obtain ⟨l, rfl, _⟩ := h
    rfl
  obtain ⟨l, rfl, hl, kQ⟩ := h
  have GZ1 : FnOk P w K mg base CX0 3 gZ gdZ ["_law_text"] spLs1 := GZ.imp fun vs H Q E => ls_ls1
  have hr3 : Room 3 _ := hr.mono (by decide)
  have hr14 : Room 14 _ := hr.mono (by decide)
  refine ⟨_, pss_cons (ps_set (i := 1) scRi.nd rfl (.inl rfl) (pe_call GZ1 hr3 rfl mZ kZ bZ .nil pass0 (pa_cons (pv 0) pa_nil)))
    (pss_cons (ps_set (i := 2) scRi.nd rfl (.inl rfl) pe_non)
    (pss_cons (ps_try_as (i := 3) (tb := fun W => tAsg (tCallS (spRf K C) (WE W) (tCons (tVar 0) tNil)) (gName 2))
        (ts := fun a cls d => fun D σ H => (cls = .ref C ∧ d = none) ∧ (tIfS (tOr (tNot (tB (tCB (rIsE K C a) (tCons (tVar 3) (tCons (tC (.ref C)) tNil))))) (tNot (tB (tCB (rIsE K C a) (tCons (tVar 3) (tCons (tC (.ty "ValueError")) tNil)))))) (tRet (tC (.bl false))) tNext) D σ H)
        (Wout := fun _ _ _ _ => False) rfl rfl scRi.nd rfl rfl ⟨rfl, by decide, Or.inl T.gC⟩ takes0
        (fun W pn xe tk _ => pss_one (ps_set (i := 2) scRi.nd rfl (.inl rfl) (pe_callS GR hr rfl mR kR bR (fun σ => passAt tk σ) (by exact (pa_cons (pv 0) pa_nil)))))
        (fun a oe cls d pn hz hf => pss_when fun ⟨h1, h2⟩ => by
          subst h1 h2
          exact pss_one (ps_if (PW.pt (pw_or (pt_not (pt_val (pe_callB (call_isE T.xc hz hf) rfl T.isi (by decide +kernel) (pa_cons (pv 3) (pa_cons (pe_glob (v := .ref C) rfl T.gF rfl) pa_nil)))))
            (pw_or1 (pt_not (pt_val (pe_callB (call_isE T.xc hz hf) rfl T.isi (by decide +kernel) (pa_cons (pv 3) (pa_cons (pe_bltn (v := .ty "ValueError") rfl T.ve (by decide +kernel) rfl) pa_nil)))))))) (pss_one (ps_ret pe_bl)) pss_nil)))
    (pss_cons (ps_if (pt_cmpR op_isN (pv 2) pe_non (nomark _)) (pss_one (ps_ret (pe_or (pe_cmpR op_isN (pv 1) pe_non (nomark _)) (pe_one (pe_cmpR op_gt (pv 1) pe_int (nomark _)))))) pss_nil)
    (pss_one (ps_ret (pe_and (pe_cmpR op_notN (pv 1) pe_non (nomark _)) (pe_and (pe_cmpR op_le (pv 1) pe_int (nomark _))
      (pe_and (pe_cmpR op_eq (pe_call GW hr14 rfl mW kW bW .nil pass0 (pa_cons (pv 2) pa_nil)) (pv 0) (nomark _)) (pe_one (pe_cmpR op_eq (pe_call GS hr14 rfl mS kS bS .nil pass0 (pa_cons (pv 2) pa_nil)) (pv 0) (nomark _)))))))))))  , ?_⟩
  refine ⟨_, rfl, l, rfl, hl, fun v H1 s1 hv => ?_⟩
  dsimp only [tSeq, tNext, tAsg, gName, tC]
  refine ⟨_, rfl, _, rfl, .inl ⟨l, rfl, by omega, fun hno H2 s2 => ?_, fun fo hfo p H2 s2 hp => ?_⟩⟩
  · -- refused
    refine ⟨true, T.eC, fun _ a ha => ⟨⟨rfl, rfl⟩, ?_⟩, fun q => Bool.noConfusion q⟩
    refine st_if (b := false) ?_ (fun z => Bool.noConfusion z) (fun _ => ?_)
    · refine ans_or (ans_not (b := true) fun Q1 q1 => ?_) (ans_not (b := true) fun Q1 q1 => ?_)
      · exact ⟨_, rfl, _, _, true, rfl, fun u h => h, kit_self, true, rfl, q1⟩
      · exact ⟨_, rfl, _, _, true, rfl, fun u h => h, T.iV, true, rfl, q1⟩
    dsimp only [tSeq, tNext]
    refine st_if (b := true) (fun Q1 q1 => ⟨_, rfl, rfl, _, rfl, q1⟩) (fun _ => ?_) (fun z => Bool.noConfusion z)
    rcases hv with ⟨rfl, _⟩ | ⟨n, rfl, h35, hsz⟩
    · refine ⟨_, rfl, rfl, true, rfl, ?_⟩
      rw [if_pos rfl]
      exact kQ _ (s1.trans s2)
    · refine ⟨_, rfl, rfl, false, rfl, ?_⟩
      rw [if_neg Bool.false_ne_true]
      refine ⟨_, rfl, _, _, rfl, rfl, ?_⟩
      have hn : (24 : Int) < ((n : Nat) : Int) := by
        by_cases h : n ≤ 24
        · obtain ⟨f, hf⟩ := readP_of hsz h35 h
          rw [hno] at hf
          cases hf
        · omega
      show Q (.bl (decide ((24 : Int) < ((n : Nat) : Int)))) H2
      rw [decide_eq_true hn]
      exact kQ _ (s1.trans s2)
  · -- read
    obtain ⟨r1, r2, r3⟩ := readP_some hfo
    have r4 := readP_no hfo
    have r5 := readP_deep hfo
    have htl : (txt fo).length ≤ 500 := by rw [← r2]; omega
    refine st_if (b := false) (fun Q1 q1 => ⟨_, rfl, rfl, _, rfl, q1⟩) (fun z => Bool.noConfusion z) (fun _ => ?_)
    rcases hv with ⟨_, hno⟩ | ⟨n, rfl, h35, hsz⟩
    · exact absurd ⟨r4, r1⟩ (hno _)
    have hn := (r1.det _ _ hsz).1
    subst hn
    have hp2 := hp.same newOf_le
    refine ⟨_, rfl, rfl, true, rfl, ?_⟩
    rw [if_pos rfl]
    refine ⟨_, rfl, _, _, rfl, rfl, true, congrArg V.bl (decide_eq_true (by omega)), ?_⟩
    rw [if_pos rfl]
    refine ⟨_, rfl, p, fo, rfl, hp2, by omega, htl, fun H3 s3 => ⟨_, rfl, rfl, true, congrArg V.bl (decide_eq_true (by rw [r2])), ?_⟩⟩
    rw [if_pos rfl]
    refine ⟨_, rfl, p, fo, rfl, hp2.same s3, by omega, htl, fun H4 s4 => ⟨_, rfl, rfl, ?_⟩⟩
    have e : decide (V.str (S (txt fo)) = V.str (S l)) = true := decide_eq_true (by rw [← r2])
    show Q (.bl (decide (V.str (S (txt fo)) = V.str (S l)))) H4
    rw [e]
    exact kQ _ (((s1.trans s2).trans s3).trans s4)
/-! ## 53. _law_spoiled -/
def spSp : Sp := fun vs H Q _ => ∃ (l : List Nat) (nh : Nat), vs = [.str (S l), .int (nh : Nat)] ∧ l.length ≤ 150 ∧ ∀ l' : List Nat, l'.length ≤ 200 → ∀ H', Same H H' → Q (.str (S l')) H'
theorem scSp : FnScope ["_law_text", "_law_number_here", "_law_way", "_law_at", "_law_sign", "_law_some"] ["_law_text", "_law_number_here"] (defScope sSpoiled) := ⟨rfl, rfl, rfl, by decide +kernel, rfl, by decide +kernel, by decide +kernel⟩
theorem any_ix {α : Type} (xs : List α) (n : Nat) (hn : 0 < n) (hl : xs.length = n) (z : Int) : ∃ c, atI xs (z % (n : Int)) = some c ∧ c ∈ xs := by
  have z0 := Int.emod_nonneg z (show (n : Int) ≠ 0 by omega)
  have z1 := Int.emod_lt_of_pos z (show (0 : Int) < (n : Int) by omega)
  generalize z % (n : Int) = y at z0 z1
  obtain ⟨j, rfl⟩ := Int.eq_ofNat_of_zero_le z0
  have hj : j < xs.length := by omega
  exact ⟨xs[j], atI_nat (List.getElem?_eq_getElem hj), List.getElem_mem hj⟩
theorem ok_spoiled {f : Addr} {fd : FuncData} (F : Fun K "_law_spoiled" "_law_spoiled" sSpoiled f fd) (T : Cs K mg CC C) : FnOk P w K mg base CX0 1 f fd ["_law_text", "_law_number_here"] spSp := by
  refine F.ok scSp (fun vs H Q E h => ?_) (fun cdv A outer s H vs Q E hr h => ?_)
  · obtain ⟨l, n, rfl, _⟩ := h
    rfl
  obtain ⟨l, nh, rfl, hl, kQ⟩ := h
  refine ⟨_, pss_cons (ps_set (i := 2) scSp.nd rfl (.inl rfl) (pe_op op_mod (pv 1) pe_int))
    (pss_cons (ps_set (i := 3) scSp.nd rfl (.inl rfl) (pe_op op_mod (pe_op op_fdiv (pv 1) pe_int) (pe_op op_add (pe_callB call_len_str rfl T.len PySem.boot_len (pa_cons (pv 0) pa_nil)) pe_int)))
    (pss_cons (ps_set (i := 4) scSp.nd rfl (.inl rfl) (pe_ix ix_str pe_str (pe_op op_mod (pe_op op_fdiv (pv 1) pe_int) pe_int) (fun _ _ => rfl)))
    (pss_cons (ps_if (pt_cmpR op_eq (pv 2) pe_int (nomark _)) (pss_one (ps_ret (pe_op op_add_str (pe_slice sl_str (pv 0) po_none (po_some (pv 3))) (pe_slice sl_str (pv 0) (po_some (pe_op op_add (pv 3) pe_int)) po_none)))) pss_nil)
    (pss_cons (ps_if (pt_cmpR op_eq (pv 2) pe_int (nomark _)) (pss_one (ps_ret (pe_op op_add_str (pe_op op_add_str (pe_slice sl_str (pv 0) po_none (po_some (pv 3))) (pv 4)) (pe_slice sl_str (pv 0) (po_some (pe_op op_add (pv 3) pe_int)) po_none)))) pss_nil)
    (pss_cons (ps_if (PW.pt (pw_and (pt_cmpR op_eq (pv 2) pe_int (nomark _)) (pw_and1 (pt_cmpR op_eq (pe_op op_mod (pe_op op_fdiv (pv 1) pe_int) pe_int) pe_int (nomark _)))))
      (pss_cons (ps_set (i := 5) scSp.nd rfl (.inl rfl) (pe_lst (pa_cons pe_str (pa_cons pe_str (pa_cons pe_str (pa_cons pe_str (pa_cons pe_str (pa_cons pe_str (pa_cons pe_str (pa_cons pe_str (pa_cons pe_str (pa_cons pe_str pa_nil))))))))))))
      (pss_one (ps_ret (pe_ix ix_list (pv 5) (pe_op op_mod (pe_op op_fdiv (pv 1) pe_int) pe_int) (fun _ _ => rfl))))) pss_nil)
    (pss_one (ps_ret (pe_op op_add_str (pe_op op_add_str (pe_slice sl_str (pv 0) po_none (po_some (pv 3))) (pv 4)) (pe_slice sl_str (pv 0) (po_some (pv 3)) po_none))))))))), ?_⟩
  have hl2 : (S l).length ≤ sizeLine := Slen_le (by omega)
  have hlpos : (0 : Int) < (((S l).length : Nat) : Int) + 1 := by omega
  refine ⟨_, rfl, _, _, rfl, rfl, (by show (0 : Int) < 5; decide), ?_⟩
  refine ⟨_, rfl, _, _, rfl, rfl, ⟨by decide, by decide⟩, _, rfl, S l, rfl, hl2, _, _, rfl, rfl, _, _, rfl, rfl, hlpos, ?_⟩
  have z0 := Int.emod_nonneg (((nh : Nat) : Int) / 5) (show (((S l).length : Nat) : Int) + 1 ≠ 0 by omega)
  have z1 := Int.emod_lt_of_pos (((nh : Nat) : Int) / 5) hlpos
  dsimp only [gName, tSeq, tNext]
  generalize (((nh : Nat) : Int) / 5) % ((((S l).length : Nat) : Int) + 1) = z at z0 z1
  obtain ⟨at', rfl⟩ := Int.eq_ofNat_of_zero_le z0
  rw [S_len] at z1
  obtain ⟨c, hc, _⟩ := any_ix (Str.ofString "ab12309 ()) (xA-+]\n").cps.toList 19 (by decide) (by decide +kernel) (((nh : Nat) : Int) / 500)
  refine ⟨_, rfl, _, _, rfl, rfl, ⟨by decide, by decide⟩, _, _, rfl, rfl, (by show (0 : Int) < 19; decide), _, _, c, rfl, rfl, (by decide +kernel), hc, ?_⟩
  dsimp only [gName, tSeq, tNext]
  have cT : cutS (S l) none (some ((at' : Nat) : Int)) = S (l.take at') := cut_to l at'
  have cF : cutS (S l) (some ((at' : Nat) : Int)) none = S (l.drop at') := cut_from l at'
  have cF1 : cutS (S l) (some (((at' : Nat) : Int) + 1)) none = S (l.drop (at' + 1)) := by
    rw [show ((at' : Nat) : Int) + 1 = ((at' + 1 : Nat) : Int) by omega]
    exact cut_from l (at' + 1)
  have lT : (l.take at').length ≤ 150 := Nat.le_trans (List.length_take_le _ _) (by omega)
  have lF : (l.drop at').length ≤ 150 := by rw [List.length_drop]; omega
  have lF1 : (l.drop (at' + 1)).length ≤ 150 := by rw [List.length_drop]; omega
  have lTF : (l.take at').length + (l.drop at').length ≤ 150 := by rw [List.length_take, List.length_drop]; omega
  have lTF1 : (l.take at').length + (l.drop (at' + 1)).length ≤ 150 := by rw [List.length_take, List.length_drop]; omega
  refine st_if (b := decide (V.int (((nh : Nat) : Int) % 5) = V.int 0)) (fun Q1 q1 => ⟨_, rfl, rfl, _, rfl, q1⟩) (fun _ => ?_) (fun _ => ?_)
  · refine ⟨_, rfl, _, rfl, _, rfl, S l, rfl, hl2, _, rfl, _, rfl, _, _, rfl, rfl, _, rfl, S l, rfl, hl2, _, _, rfl, rfl, ?_, ?_⟩
    · rw [cT, cF1, S_len, S_len]
      exact sz_le (by omega)
    · rw [cT, cF1, S_app (l.take at')]
      exact kQ _ (by rw [List.length_append]; omega) H (Same.refl _)
  dsimp only [tSeq, tNext]
  refine st_if (b := decide (V.int (((nh : Nat) : Int) % 5) = V.int 1)) (fun Q1 q1 => ⟨_, rfl, rfl, _, rfl, q1⟩) (fun _ => ?_) (fun _ => ?_)
  · refine ⟨_, rfl, _, rfl, _, rfl, S l, rfl, hl2, _, rfl, _, _, rfl, rfl, ?_, _, rfl, _, rfl, _, _, rfl, rfl, _, rfl, S l, rfl, hl2, _, _, rfl, rfl, ?_, ?_⟩
    · rw [cT, S_len]
      exact sz_le (by show _ + 1 ≤ _; omega)
    · rw [cT, cF1]
      show (S (l.take at') ++ S [c]).length + _ ≤ _
      rw [S_app (l.take at'), S_len, S_len, List.length_append]
      exact sz_le (by show _ + 1 + _ ≤ _; omega)
    · rw [cT, cF1]
      show Q (.str (S (l.take at') ++ S [c] ++ S (l.drop (at' + 1)))) H
      rw [S_app (l.take at'), S_app (l.take at' ++ [c])]
      exact kQ _ (by rw [List.length_append, List.length_append]; show _ + 1 + _ ≤ _; omega) H (Same.refl _)
  dsimp only [tSeq, tNext]
  refine st_if (b := decide (V.int (((nh : Nat) : Int) % 5) = V.int 2) && decide (V.int (((nh : Nat) : Int) / 5 % 3) = V.int 0)) ?_ (fun _ => ?_) (fun _ => ?_)
  · refine ans_and2 (fun Q1 q1 => ⟨_, rfl, rfl, _, rfl, q1⟩) (fun Q1 q1 => ⟨_, rfl, _, _, rfl, rfl, ⟨by decide, by decide⟩, _, _, rfl, rfl, (by show (0 : Int) < 3; decide), rfl, _, rfl, q1⟩)
  · refine ⟨(by show 10 ≤ sizeLine; decide), fun p hp => ?_⟩
    have sp := same_new hp (.lst ((["a24", "a25", "(a b)12", "(a b)13", "(a2 b)8", "(a2 b)8 c", "((a)2)12", "a99", "a100", "(a12)2 b"].map Str.ofString).map V.str))
    obtain ⟨v, hv, hm⟩ := any_ix ((["a24", "a25", "(a b)12", "(a b)13", "(a2 b)8", "(a2 b)8 c", "((a)2)12", "a99", "a100", "(a12)2 b"].map Str.ofString).map V.str) 10 (by decide) rfl (((nh : Nat) : Int) / 15)
    obtain ⟨z, hz, rfl⟩ := List.mem_map.mp hm
    have hzl : z.length ≤ 200 := by
      have := List.all_eq_true.mp (show ((["a24", "a25", "(a b)12", "(a b)13", "(a2 b)8", "(a2 b)8 c", "((a)2)12", "a99", "a100", "(a12)2 b"].map Str.ofString).all fun z => decide (z.length ≤ 200)) = true by decide +kernel) z hz
      exact of_decide_eq_true this
    refine ⟨_, rfl, _, rfl, _, _, rfl, rfl, ⟨by decide, by decide⟩, _, _, rfl, rfl, (by show (0 : Int) < 10; decide), p, _, _, _, rfl, rfl, SqL.of upd_same, hv, ?_⟩
    have := kQ z.cps.toList (by rw [← S_len, S_tl]; exact hzl) _ sp
    rw [S_tl] at this
    exact this
  · refine ⟨_, rfl, _, rfl, _, rfl, S l, rfl, hl2, _, rfl, _, _, rfl, rfl, ?_, _, rfl, _, rfl, _, rfl, S l, rfl, hl2, _, _, rfl, rfl, ?_, ?_⟩
    · rw [cT, S_len]
      exact sz_le (by show _ + 1 ≤ _; omega)
    · rw [cT, cF]
      show (S (l.take at') ++ S [c]).length + _ ≤ _
      rw [S_app (l.take at'), S_len, S_len, List.length_append]
      exact sz_le (by show _ + 1 + _ ≤ _; omega)
    · rw [cT, cF]
      show Q (.str (S (l.take at') ++ S [c] ++ S (l.drop at'))) H
      rw [S_app (l.take at'), S_app (l.take at' ++ [c])]
      exact kQ _ (by rw [List.length_append, List.length_append]; show _ + 1 + _ ≤ _; omega) H (Same.refl _)
end
end K32
namespace K32
open PySem L2
open TL (numL joinL)
open NumText (digitsVal AllDigits)
section
variable {P : Program} {w : World} {K : PySem.W.Frag} {mg : Str → Option Value} {base : Heap} {CC C : Addr}
/-! ## 54. _law_no_text -/
def spNt (K : PySem.W.Frag) : Sp := fun vs H Q _ => ∃ (x : V) (t : Value), vs = [x] ∧ TyX K H x t ∧ PySem.W.kitOne K t (.type "str") = some false ∧ ∀ H', Same H H' → Q (.bl true) H'
theorem scNt : FnScope ["_law_thing"] ["_law_thing"] (defScope sNoText) := ⟨rfl, rfl, rfl, by decide +kernel, rfl, by decide +kernel, by decide +kernel⟩
theorem ok_noText {f gR : Addr} {fd gdR : FuncData} (F : Fun K "_law_no_text" "_law_no_text" sNoText f fd) (T : Cs K mg CC C)
    (GR : FnOk P w K mg base (L2.CX P w) 28 gR gdR ["text"] (spRf K C)) (bR : Binds K gdR ["text"] []) (kR : PySem.W.keepIn K (.ref gR) = true) (mR : mg "read_fold" = some (.ref gR)) : FnOk P w K mg base CX0 29 f fd ["_law_thing"] (spNt K) := by
  refine F.ok scNt (fun vs H Q E h => ?_) (fun cdv A outer s H vs Q E hr h => ?_)
  · obtain ⟨x, t, rfl, _⟩ := h
    rfl
  obtain ⟨x, t, rfl, ht, hk, kQ⟩ := h
  refine ⟨_, pss_cons (ps_try_only (tb := fun W => tDrop (tCallS (spRf K C) (WE W) (tCons (tVar 0) tNil))) (ts := fun _ _ _ => tRet (tC (.bl true))) (Wout := fun _ _ _ _ => False) rfl rfl ⟨rfl, by decide, Or.inl T.gF⟩ takes0
      (fun W pn xe tk _ => pss_one (ps_expr (pe_callS GR hr rfl mR kR bR (fun σ => passAt tk σ) (by exact (pa_cons (pv 0) pa_nil)))))
      (fun _ _ _ _ _ _ _ => pss_one (ps_ret pe_bl)))
    (pss_one (ps_ret pe_bl)), ?_⟩
  refine ⟨_, rfl, _, rfl, .inr ⟨t, ht, hk, fun H2 s2 => ⟨true, T.eF, fun _ a ha => ?_, fun q => Bool.noConfusion q⟩⟩⟩
  exact kQ H2 s2
/-! ## 55. law -/
def spLaw (K : PySem.W.Frag) : Sp := fun vs H Q _ => ∃ (a : Addr) (ns : List Int), vs = [.ref a] ∧ SqL K H a (ns.map V.int) ∧ ns.length ≤ 63 ∧ ∀ H', Q (.bl true) H'
theorem scLaw : FnScope ["_law_script", "_law_text", "_law_cell", "_law_number_here"] ["_law_script"] (defScope sLaw) := ⟨rfl, rfl, rfl, by decide +kernel, rfl, by decide +kernel, by decide +kernel⟩
theorem cutV_to (xs : List V) (k : Nat) : cutV xs none (some (k : Int)) = xs.take k := by
  show (xs.drop 0).take (HT.sIx xs.length xs.length (some (k : Int)) - 0) = xs.take k
  rw [HT.sIx_nat, List.drop_zero, Nat.sub_zero]
  refine List.take_eq_take_iff.mpr ?_
  omega
theorem no_kit {a : String} (h : kitB a "str" = some false) : PySem.W.kitOne K (.type a) (.type "str") = some false := kit_ty h
theorem ok_law {f gW gD gR gN gS gT : Addr} {fd gdW gdD gdR gdN gdS gdT : FuncData} (F : Fun K "law" "law" sLaw f fd) (T : Cs K mg CC C)
    (GW : FnOk P w K mg base CX0 14 gW gdW ["_law_fold_here"] (spSh 13)) (bW : Binds K gdW ["_law_fold_here"] []) (kW : PySem.W.keepIn K (.ref gW) = true) (mW : mg "_law_shown" = some (.ref gW))
    (GD : FnOk P w K mg base CX0 10 gD gdD ["_law_script", "_law_at", "_law_most"] (spDr K)) (bD : Binds K gdD ["_law_script", "_law_at", "_law_most"] []) (kD : PySem.W.keepIn K (.ref gD) = true) (mD : mg "_law_drawn" = some (.ref gD))
    (GR : FnOk P w K mg base CX0 29 gR gdR ["_law_text"] spRi) (bR : Binds K gdR ["_law_text"] []) (kR : PySem.W.keepIn K (.ref gR) = true) (mR : mg "_law_right" = some (.ref gR))
    (GN : FnOk P w K mg base CX0 1 gN gdN ["_law_cell"] spNum) (bN : Binds K gdN ["_law_cell"] []) (kN : PySem.W.keepIn K (.ref gN) = true) (mN : mg "_law_number" = some (.ref gN))
    (GS : FnOk P w K mg base CX0 1 gS gdS ["_law_text", "_law_number_here"] spSp) (bS : Binds K gdS ["_law_text", "_law_number_here"] []) (kS : PySem.W.keepIn K (.ref gS) = true) (mS : mg "_law_spoiled" = some (.ref gS))
    (GT : FnOk P w K mg base CX0 29 gT gdT ["_law_thing"] (spNt K)) (bT : Binds K gdT ["_law_thing"] []) (kT : PySem.W.keepIn K (.ref gT) = true) (mT : mg "_law_no_text" = some (.ref gT)) : FnOk P w K mg base CX0 30 f fd ["_law_script"] (spLaw K) := by
  refine F.ok scLaw (fun vs H Q E h => ?_) (fun cdv A outer s H vs Q E hr h => ?_)
  · obtain ⟨a, ns, rfl, _⟩ := h
    rfl
  obtain ⟨a, ns, rfl, hs, hns, kQ⟩ := h
  have hr1 : Room 1 _ := hr.mono (by decide)
  have hr10 : Room 10 _ := hr.mono (by decide)
  have hr14 : Room 14 _ := hr.mono (by decide)
  refine ⟨_, pss_cons (ps_set (i := 1) scLaw.nd rfl (.inl rfl) (pe_call GW hr14 rfl mW kW bW .nil pass0 (pa_cons (pe_call GD hr10 rfl mD kD bD .nil pass0 (pa_cons (pv 0) (pa_cons pe_int (pa_cons pe_int pa_nil)))) pa_nil)))
    (pss_cons (ps_if (pt_not (pt_val (pe_call GR hr rfl mR kR bR .nil pass0 (pa_cons (pv 1) pa_nil)))) (pss_one (ps_ret pe_bl)) pss_nil)
    (pss_cons (ps_for PassesOwn.never rfl (pi_list (pe_op op_cat (pe_slice sl_list (pv 0) po_none (po_some pe_int)) (pe_lst (pa_cons pe_int pa_nil)))) (pg_name (i := 2) scLaw.nd rfl (.inl rfl))
      (pss_cons (ps_set (i := 3) scLaw.nd rfl (.inl rfl) (pe_call GN hr1 rfl mN kN bN .nil pass0 (pa_cons (pv 2) pa_nil)))
      (pss_cons (ps_if (pt_not (pt_val (pe_call GR hr rfl mR kR bR .nil pass0 (pa_cons (pe_call GS hr1 rfl mS kS bS .nil pass0 (pa_cons (pv 1) (pa_cons (pv 3) pa_nil))) pa_nil)))) (pss_one (ps_ret pe_bl)) pss_nil)
      (pss_one (ps_if (pt_not (pt_val (pe_call GT hr rfl mT kT bT .nil pass0 (pa_cons (pe_ix ix_list (pe_lst (pa_cons pe_non (pa_cons pe_int (pa_cons (pe_lst (pa_cons pe_str pa_nil)) (pa_cons (pe_tup (pa_cons pe_str (pa_cons pe_str (pa_cons pe_int pa_nil))))
        (pa_cons (pe_lst (pa_cons (pe_tup (pa_cons pe_str (pa_cons pe_str (pa_cons pe_int pa_nil)))) pa_nil)) (pa_cons pe_bl pa_nil))))))) (pe_op op_mod (pv 3) pe_int) (fun _ _ => rfl)) pa_nil)))) (pss_one (ps_ret pe_bl)) pss_nil)))))
    (pss_one (ps_ret pe_bl)))), ?_⟩
  refine ⟨_, rfl, a, ns, rfl, hs, hns, fun fo q H1 s1 hq hg hn hsz hd => ?_⟩
  obtain ⟨g1, g2⟩ := len_good fo hg hn
  refine ⟨q, fo, rfl, hq, by omega, by omega, fun H2 s2 => ?_⟩
  have hlen : (txt fo).length ≤ 150 := by omega
  generalize txt fo = l at hlen
  dsimp only [tSeq, tNext, gName]
  refine st_ifH (b := !true) (P := fun H' => Same H2 H') ?_ (fun z => Bool.noConfusion z) (fun _ H3 s3 => ?_)
  · intro Q1 q1
    exact ⟨_, rfl, l, rfl, by omega, fun H3 s3 => ⟨true, rfl, q1 _ s3⟩⟩
  refine ⟨_, rfl, _, rfl, a, _, rfl, ((s1.trans s2).trans s3).seq hs, fun p1 hp1 => ?_⟩
  rw [show cutV (ns.map V.int) none (some 60) = (ns.take 60).map V.int from (cutV_to _ 60).trans (List.map_take ..).symm]
  have z1 := same_new hp1 (.lst ((ns.take 60).map V.int))
  refine ⟨(by show 1 ≤ sizeLine; decide), fun p2 hp2 => ?_⟩
  have z2 := same_new hp2 (.lst [.int 2])
  refine ⟨p1, p2, _, _, rfl, rfl, z2 _ _ upd_same, upd_same, ?_, fun p3 hp3 => ?_⟩
  · rw [List.length_map, List.length_take]
    exact sz_le (by show min 60 ns.length + 1 ≤ 100000; omega)
  generalize upd (upd H3 p1 (.lst ((ns.take 60).map V.int))) p2 (.lst [.int 2]) = H4 at hp3
  have hzs : (ns.take 60).map V.int ++ [.int 2] = (ns.take 60 ++ [2]).map V.int := by rw [List.map_append] <;> rfl
  rw [hzs]
  refine ⟨p3, rfl, ⟨_, SqL.of upd_same⟩, for_list (K := K) (a := p3) (xs := (ns.take 60 ++ [2]).map V.int) (fun i σ H' => ∃ u2 u3 : Option V, σ = [some (.ref a), some (.str (S l)), u2, u3] ∧ H' p3 = some (.lst ((ns.take 60 ++ [2]).map V.int)))
    ⟨none, none, rfl, upd_same⟩ (fun i σ H' _ ⟨_, _, _, e⟩ => SqL.of e) ?_ ?_⟩
  · rintro i x σ H' hxi ⟨u2, u3, rfl, hp⟩
    obtain ⟨v, rfl⟩ : ∃ v : Int, x = .int v := by
      rw [List.getElem?_map] at hxi
      cases e : (ns.take 60 ++ [2])[i]? with
      | none => rw [e] at hxi; cases hxi
      | some v => rw [e] at hxi; exact ⟨v, (Option.some.inj hxi).symm⟩
    refine ⟨_, rfl, v, rfl, fun nh hnh => ?_⟩
    dsimp only [tSeq, tNext, gName]
    refine st_ifH (b := !true) (P := fun H'' => Same H' H'') ?_ (fun z => Bool.noConfusion z) (fun _ H5 s5 => ?_)
    · intro Q1 q1
      exact ⟨_, rfl, _, rfl, l, nh, rfl, hlen, fun l' hl' H5 s5 => ⟨l', rfl, hl', fun H6 s6 => ⟨true, rfl, q1 _ (s5.trans s6)⟩⟩⟩
    dsimp only [tSeq, tNext, gName]
    refine st_ifH (b := !true) (P := fun H'' => Same H5 H'') ?_ (fun z => Bool.noConfusion z) (fun _ H6 s6 => ⟨_, _, rfl, s6 _ _ (s5 _ _ hp)⟩)
    intro Q1 q1
    refine ⟨(by show 1 ≤ sizeLine; decide), fun a1 ha1 => ⟨(by show 3 ≤ sizeLine; decide), fun a2 ha2 => ⟨(by show 3 ≤ sizeLine; decide), fun a3 ha3 => ⟨(by show 1 ≤ sizeLine; decide), fun a4 ha4 => ⟨(by show 6 ≤ sizeLine; decide), fun a5 ha5 => ?_⟩⟩⟩⟩⟩
    have y1 := same_new ha1 (.lst [.str "a"])
    have y2 := same_new ha2 (.tup [.str "run", .str "a", .int 1])
    have y3 := same_new ha3 (.tup [.str "run", .str "a", .int 1])
    have y4 := same_new ha4 (.lst [.ref a3])
    have y5 := same_new ha5 (.lst [.non, .int 5, .ref a1, .ref a2, .ref a4, .bl true])
    obtain ⟨x, hx, hm⟩ := any_ix [V.non, .int 5, .ref a1, .ref a2, .ref a4, .bl true] 6 (by decide) rfl ((nh : Nat) : Int)
    refine ⟨_, rfl, _, _, rfl, rfl, (by show (0 : Int) < 6; decide), a5, _, _, x, rfl, rfl, SqL.of upd_same, hx, ?_⟩
    have e1 := y5 _ _ (y4 _ _ (y3 _ _ (y2 _ _ (upd_same (H := H5) (a := a1) (o := .lst [.str "a"])))))
    have e2 := y5 _ _ (y4 _ _ (y3 _ _ (upd_same (H := upd H5 a1 (.lst [.str "a"])) (a := a2) (o := .tup [.str "run", .str "a", .int 1]))))
    have e4 := y5 _ _ (upd_same (H := upd (upd (upd H5 a1 (.lst [.str "a"])) a2 (.tup [.str "run", .str "a", .int 1])) a3 (.tup [.str "run", .str "a", .int 1])) (a := a4) (o := .lst [.ref a3]))
    refine Exists.elim (?_ : ∃ t, TyX K _ x t ∧ PySem.W.kitOne K t (.type "str") = some false) fun t h => ⟨x, t, rfl, h.1, h.2, fun H7 s7 => ⟨true, rfl, q1 H7 (((((y1.trans y2).trans y3).trans y4).trans y5).trans s7)⟩⟩
    simp only [List.mem_cons, List.not_mem_nil, or_false] at hm
    rcases hm with rfl | rfl | rfl | rfl | rfl | rfl
    · exact ⟨_, .base .non, no_kit (by decide +kernel)⟩
    · exact ⟨_, .base (.int 5), no_kit (by decide +kernel)⟩
    · exact ⟨_, .base (.lst e1), no_kit (by decide +kernel)⟩
    · exact ⟨_, .base (.tup e2), no_kit (by decide +kernel)⟩
    · exact ⟨_, .base (.lst e4), no_kit (by decide +kernel)⟩
    · exact ⟨_, .base (.bl true), no_kit (by decide +kernel)⟩
  · rintro σ H' ⟨u2, u3, rfl, hp⟩
    exact kQ H'
end
end K32
namespace K32
open PySem L2
/-! ## 60. the end -/
theorem kit_ve {K : PySem.W.Frag} {C : Addr} (h : PySem.W.subIn K (.ref C) (.type "ValueError") = some true) : PySem.W.kitOne K (.ref C) (.type "ValueError") = some true := by
  unfold PySem.W.kitOne
  rw [if_neg (by simp)]
  unfold PySem.W.kitCls
  show (if PySem.W.kitMeta "ValueError" = true then PySem.W.subIn K (.ref C) (.type "ValueError") else none) = some true
  rw [if_pos (by decide +kernel)]
  exact h
theorem all_mk {l : PySem.W.OpenLaw} {w : World} {K : PySem.W.Frag} {h : Heap} {mg : Str → Option Value} {fa C CC : Addr} (X : K.In h) (G : h.Ns mainGlobals mg) (hfa : mg "law" = some (.ref fa))
    {tL tD tK tM : Tok}
    {f0 f1 f2 f3 f4 f5 f6 f7 f8 f9 f10 f11 f12 f13 f14 f15 f16 f17 f18 f19 : Addr}
    {od0 an0 od1 an1 od2 an2 od3 an3 od4 an4 od5 an5 od6 an6 od7 an7 od8 an8 od9 an9 od10 an10 od11 an11 od12 an12 od13 an13 od14 an14 od15 an15 od16 an16 od17 an17 od18 an18 od19 an19 : Option Addr} {sl0 sl1 sl2 sl3 sl4 sl5 sl6 sl7 sl8 sl9 sl10 sl11 sl12 sl13 sl14 sl15 sl16 sl17 sl18 sl19 : Array (Option Value)} {oc0 kV0 dc0 pm0 cd0 ct0 oc1 kV1 dc1 pm1 cd1 ct1 oc2 kV2 dc2 pm2 cd2 ct2 oc3 kV3 dc3 pm3 cd3 ct3 oc4 kV4 dc4 pm4 cd4 ct4 oc5 kV5 dc5 pm5 cd5 ct5 oc6 kV6 dc6 pm6 cd6 ct6 oc7 kV7 dc7 pm7 cd7 ct7 oc8 kV8 dc8 pm8 cd8 ct8 oc9 kV9 dc9 pm9 cd9 ct9 oc10 kV10 dc10 pm10 cd10 ct10 oc11 kV11 dc11 pm11 cd11 ct11 oc12 kV12 dc12 pm12 cd12 ct12 oc13 kV13 dc13 pm13 cd13 ct13 oc14 kV14 dc14 pm14 cd14 ct14 oc15 kV15 dc15 pm15 cd15 ct15 oc16 kV16 dc16 pm16 cd16 ct16 oc17 kV17 dc17 pm17 cd17 ct17 oc18 kV18 dc18 pm18 cd18 ct18 oc19 kV19 dc19 pm19 cd19 ct19 : Value}
    (aC : PySem.W.nsIn K mainGlobals "CarpetError" = some (some (.ref CC)))
    (aF : PySem.W.nsIn K mainGlobals "NoFold" = some (some (.ref C)))
    (aL : PySem.W.nsIn K mainGlobals "LETTERS" = some (some (.str "abcdefghijklmnopqrstuvwxyz" tL)))
    (aD : PySem.W.nsIn K mainGlobals "FIGURES" = some (some (.str "0123456789" tD)))
    (aK : PySem.W.nsIn K mainGlobals "MOST_KNOTS" = some (some (.int 24 tK)))
    (aM : PySem.W.nsIn K mainGlobals "MOST_DEEP" = some (some (.int 12 tM)))
    (xF : PySem.W.excIn K C [.type "ValueError", .type "Exception", .type "BaseException", .type "object"] "ValueError.__new__" = true)
    (kF : PySem.W.keepIn K (.ref C) = true)
    (bF : PySem.W.subIn K (.ref C) (.type "BaseException") = some true)
    (tF : PySem.W.typeIn K (.ref C) = some (.type "type"))
    (hF : PySem.W.hasDictIn K C = true)
    (sF : PySem.W.subIn K (.ref C) (.ref C) = some true)
    (sC : PySem.W.subIn K (.ref C) (.ref CC) = some true)
    (bC : PySem.W.subIn K (.ref CC) (.type "BaseException") = some true)
    (hC : PySem.W.hasDictIn K CC = true)
    (tC : PySem.W.typeIn K (.ref CC) = some (.type "type"))
    (eX : ExcC K C)
    (iV : PySem.W.subIn K (.ref C) (.type "ValueError") = some true)
    (a0 : PySem.W.nsIn K mainGlobals "shown_count" = some (some (.ref f0)))
    (l0 : K.lookup f0 = some ⟨oc0, od0, .func (PySem.W.fnOf "shown_count" "shown_count" (defArgs sShownCount) (defBody sShownCount) (defScope sShownCount) .none kV0 dc0 pm0 an0 cd0 ct0), sl0⟩)
    (c0 : PySem.W.codeIn K cd0 "shown_count" = true)
    (k0 : PySem.W.keepIn K (.ref f0) = true)
    (a1 : PySem.W.nsIn K mainGlobals "shown_fold" = some (some (.ref f1)))
    (l1 : K.lookup f1 = some ⟨oc1, od1, .func (PySem.W.fnOf "shown_fold" "shown_fold" (defArgs sShownFold) (defBody sShownFold) (defScope sShownFold) .none kV1 dc1 pm1 an1 cd1 ct1), sl1⟩)
    (c1 : PySem.W.codeIn K cd1 "shown_fold" = true)
    (k1 : PySem.W.keepIn K (.ref f1) = true)
    (a2 : PySem.W.nsIn K mainGlobals "count_at" = some (some (.ref f2)))
    (l2 : K.lookup f2 = some ⟨oc2, od2, .func (PySem.W.fnOf "count_at" "count_at" (defArgs sCountAt) (defBody sCountAt) (defScope sCountAt) .none kV2 dc2 pm2 an2 cd2 ct2), sl2⟩)
    (c2 : PySem.W.codeIn K cd2 "count_at" = true)
    (k2 : PySem.W.keepIn K (.ref f2) = true)
    (a3 : PySem.W.nsIn K mainGlobals "part_at" = some (some (.ref f3)))
    (l3 : K.lookup f3 = some ⟨oc3, od3, .func (PySem.W.fnOf "part_at" "part_at" (defArgs sPartAt) (defBody sPartAt) (defScope sPartAt) .none kV3 dc3 pm3 an3 cd3 ct3), sl3⟩)
    (c3 : PySem.W.codeIn K cd3 "part_at" = true)
    (k3 : PySem.W.keepIn K (.ref f3) = true)
    (a4 : PySem.W.nsIn K mainGlobals "parts_at" = some (some (.ref f4)))
    (l4 : K.lookup f4 = some ⟨oc4, od4, .func (PySem.W.fnOf "parts_at" "parts_at" (defArgs sPartsAt) (defBody sPartsAt) (defScope sPartsAt) .none kV4 dc4 pm4 an4 cd4 ct4), sl4⟩)
    (c4 : PySem.W.codeIn K cd4 "parts_at" = true)
    (k4 : PySem.W.keepIn K (.ref f4) = true)
    (a5 : PySem.W.nsIn K mainGlobals "size_of" = some (some (.ref f5)))
    (l5 : K.lookup f5 = some ⟨oc5, od5, .func (PySem.W.fnOf "size_of" "size_of" (defArgs sSizeOf) (defBody sSizeOf) (defScope sSizeOf) .none kV5 dc5 pm5 an5 cd5 ct5), sl5⟩)
    (c5 : PySem.W.codeIn K cd5 "size_of" = true)
    (k5 : PySem.W.keepIn K (.ref f5) = true)
    (a6 : PySem.W.nsIn K mainGlobals "read_fold" = some (some (.ref f6)))
    (l6 : K.lookup f6 = some ⟨oc6, od6, .func (PySem.W.fnOf "read_fold" "read_fold" (defArgs sReadFold) (defBody sReadFold) (defScope sReadFold) .none kV6 dc6 pm6 an6 cd6 ct6), sl6⟩)
    (c6 : PySem.W.codeIn K cd6 "read_fold" = true)
    (k6 : PySem.W.keepIn K (.ref f6) = true)
    (a7 : PySem.W.nsIn K mainGlobals "_law_cell_at" = some (some (.ref f7)))
    (l7 : K.lookup f7 = some ⟨oc7, od7, .func (PySem.W.fnOf "_law_cell_at" "_law_cell_at" (defArgs sCellAt) (defBody sCellAt) (defScope sCellAt) .none kV7 dc7 pm7 an7 cd7 ct7), sl7⟩)
    (c7 : PySem.W.codeIn K cd7 "_law_cell_at" = true)
    (k7 : PySem.W.keepIn K (.ref f7) = true)
    (a8 : PySem.W.nsIn K mainGlobals "_law_number" = some (some (.ref f8)))
    (l8 : K.lookup f8 = some ⟨oc8, od8, .func (PySem.W.fnOf "_law_number" "_law_number" (defArgs sNumber) (defBody sNumber) (defScope sNumber) .none kV8 dc8 pm8 an8 cd8 ct8), sl8⟩)
    (c8 : PySem.W.codeIn K cd8 "_law_number" = true)
    (k8 : PySem.W.keepIn K (.ref f8) = true)
    (a9 : PySem.W.nsIn K mainGlobals "_law_fold" = some (some (.ref f9)))
    (l9 : K.lookup f9 = some ⟨oc9, od9, .func (PySem.W.fnOf "_law_fold" "_law_fold" (defArgs sFold) (defBody sFold) (defScope sFold) .none kV9 dc9 pm9 an9 cd9 ct9), sl9⟩)
    (c9 : PySem.W.codeIn K cd9 "_law_fold" = true)
    (k9 : PySem.W.keepIn K (.ref f9) = true)
    (a10 : PySem.W.nsIn K mainGlobals "_law_unfolded" = some (some (.ref f10)))
    (l10 : K.lookup f10 = some ⟨oc10, od10, .func (PySem.W.fnOf "_law_unfolded" "_law_unfolded" (defArgs sUnfolded) (defBody sUnfolded) (defScope sUnfolded) .none kV10 dc10 pm10 an10 cd10 ct10), sl10⟩)
    (c10 : PySem.W.codeIn K cd10 "_law_unfolded" = true)
    (k10 : PySem.W.keepIn K (.ref f10) = true)
    (a11 : PySem.W.nsIn K mainGlobals "_law_drawn" = some (some (.ref f11)))
    (l11 : K.lookup f11 = some ⟨oc11, od11, .func (PySem.W.fnOf "_law_drawn" "_law_drawn" (defArgs sDrawn) (defBody sDrawn) (defScope sDrawn) .none kV11 dc11 pm11 an11 cd11 ct11), sl11⟩)
    (c11 : PySem.W.codeIn K cd11 "_law_drawn" = true)
    (k11 : PySem.W.keepIn K (.ref f11) = true)
    (a12 : PySem.W.nsIn K mainGlobals "_law_shown" = some (some (.ref f12)))
    (l12 : K.lookup f12 = some ⟨oc12, od12, .func (PySem.W.fnOf "_law_shown" "_law_shown" (defArgs sShown) (defBody sShown) (defScope sShown) .none kV12 dc12 pm12 an12 cd12 ct12), sl12⟩)
    (c12 : PySem.W.codeIn K cd12 "_law_shown" = true)
    (k12 : PySem.W.keepIn K (.ref f12) = true)
    (a13 : PySem.W.nsIn K mainGlobals "_law_count" = some (some (.ref f13)))
    (l13 : K.lookup f13 = some ⟨oc13, od13, .func (PySem.W.fnOf "_law_count" "_law_count" (defArgs sCount) (defBody sCount) (defScope sCount) .none kV13 dc13 pm13 an13 cd13 ct13), sl13⟩)
    (c13 : PySem.W.codeIn K cd13 "_law_count" = true)
    (k13 : PySem.W.keepIn K (.ref f13) = true)
    (a14 : PySem.W.nsIn K mainGlobals "_law_flat" = some (some (.ref f14)))
    (l14 : K.lookup f14 = some ⟨oc14, od14, .func (PySem.W.fnOf "_law_flat" "_law_flat" (defArgs sFlat) (defBody sFlat) (defScope sFlat) .none kV14 dc14 pm14 an14 cd14 ct14), sl14⟩)
    (c14 : PySem.W.codeIn K cd14 "_law_flat" = true)
    (k14 : PySem.W.keepIn K (.ref f14) = true)
    (a15 : PySem.W.nsIn K mainGlobals "_law_size" = some (some (.ref f15)))
    (l15 : K.lookup f15 = some ⟨oc15, od15, .func (PySem.W.fnOf "_law_size" "_law_size" (defArgs sSize) (defBody sSize) (defScope sSize) .none kV15 dc15 pm15 an15 cd15 ct15), sl15⟩)
    (c15 : PySem.W.codeIn K cd15 "_law_size" = true)
    (k15 : PySem.W.keepIn K (.ref f15) = true)
    (a16 : PySem.W.nsIn K mainGlobals "_law_right" = some (some (.ref f16)))
    (l16 : K.lookup f16 = some ⟨oc16, od16, .func (PySem.W.fnOf "_law_right" "_law_right" (defArgs sRight) (defBody sRight) (defScope sRight) .none kV16 dc16 pm16 an16 cd16 ct16), sl16⟩)
    (c16 : PySem.W.codeIn K cd16 "_law_right" = true)
    (k16 : PySem.W.keepIn K (.ref f16) = true)
    (a17 : PySem.W.nsIn K mainGlobals "_law_spoiled" = some (some (.ref f17)))
    (l17 : K.lookup f17 = some ⟨oc17, od17, .func (PySem.W.fnOf "_law_spoiled" "_law_spoiled" (defArgs sSpoiled) (defBody sSpoiled) (defScope sSpoiled) .none kV17 dc17 pm17 an17 cd17 ct17), sl17⟩)
    (c17 : PySem.W.codeIn K cd17 "_law_spoiled" = true)
    (k17 : PySem.W.keepIn K (.ref f17) = true)
    (a18 : PySem.W.nsIn K mainGlobals "_law_no_text" = some (some (.ref f18)))
    (l18 : K.lookup f18 = some ⟨oc18, od18, .func (PySem.W.fnOf "_law_no_text" "_law_no_text" (defArgs sNoText) (defBody sNoText) (defScope sNoText) .none kV18 dc18 pm18 an18 cd18 ct18), sl18⟩)
    (c18 : PySem.W.codeIn K cd18 "_law_no_text" = true)
    (k18 : PySem.W.keepIn K (.ref f18) = true)
    (a19 : PySem.W.nsIn K mainGlobals "law" = some (some (.ref f19)))
    (l19 : K.lookup f19 = some ⟨oc19, od19, .func (PySem.W.fnOf "law" "law" (defArgs sLaw) (defBody sLaw) (defScope sLaw) .none kV19 dc19 pm19 an19 cd19 ct19), sl19⟩)
    (c19 : PySem.W.codeIn K cd19 "law" = true)
    (k19 : PySem.W.keepIn K (.ref f19) = true)
    (z0 : PySem.W.nsIn K mainGlobals "len" = some none)
    (z1 : PySem.W.nsIn K mainGlobals "int" = some none)
    (z2 : PySem.W.nsIn K mainGlobals "str" = some none)
    (z3 : PySem.W.nsIn K mainGlobals "isinstance" = some none)
    (z4 : PySem.W.nsIn K mainGlobals "range" = some none)
    (z5 : PySem.W.nsIn K mainGlobals "min" = some none)
    (z6 : PySem.W.nsIn K mainGlobals "max" = some none)
    (z7 : PySem.W.nsIn K mainGlobals "ValueError" = some none)
    : ∃ fd : FuncData, (∀ (s : Shared) (v : Value), BindsTo s fd ⟨[v], []⟩ [("_law_script", v)]) ∧ ∀ base : Heap, K.In base → base.Ns mainGlobals mg → FnOk l.prog w K mg base CX0 30 fa fd ["_law_script"] (spLaw K) := by
  have e := hfa.symm.trans (PySem.W.mg_of X G a19)
  cases e
  have T : Cs K mg CC C :=
    { gC := PySem.W.mg_of X G aC, gF := PySem.W.mg_of X G aF, xF := xF, kF := kF, bF := bF, tF := tF, eC := PySem.W.exm_ref bC hC tC sC, eF := PySem.W.exm_ref bF hF tF sF, xc := eX, iV := kit_ve iV,
      gL := ⟨tL, PySem.W.mg_of X G aL⟩, gD := ⟨tD, PySem.W.mg_of X G aD⟩, gK := ⟨tK, PySem.W.mg_of X G aK⟩, gM := ⟨tM, PySem.W.mg_of X G aM⟩,
      len := PySem.W.mg_none_of X G z0, int := PySem.W.mg_none_of X G z1, str := PySem.W.mg_none_of X G z2, isi := PySem.W.mg_none_of X G z3, range := PySem.W.mg_none_of X G z4, min := PySem.W.mg_none_of X G z5, max := PySem.W.mg_none_of X G z6, ve := PySem.W.mg_none_of X G z7 }
  have F0 := fun_mk (st := sShownCount) l0 c0 k0
  have b0 := F0.binds (ps := ["count"]) fun _ _ _ _ _ _ us hl => match us, hl with | [_], _ => rfl
  have m0 := PySem.W.mg_of X G a0
  have F1 := fun_mk (st := sShownFold) l1 c1 k1
  have b1 := F1.binds (ps := ["fold"]) fun _ _ _ _ _ _ us hl => match us, hl with | [_], _ => rfl
  have m1 := PySem.W.mg_of X G a1
  have F2 := fun_mk (st := sCountAt) l2 c2 k2
  have b2 := F2.binds (ps := ["text", "at"]) fun _ _ _ _ _ _ us hl => match us, hl with | [_, _], _ => rfl
  have m2 := PySem.W.mg_of X G a2
  have F3 := fun_mk (st := sPartAt) l3 c3 k3
  have b3 := F3.binds (ps := ["text", "at", "deep"]) fun _ _ _ _ _ _ us hl => match us, hl with | [_, _, _], _ => rfl
  have m3 := PySem.W.mg_of X G a3
  have F4 := fun_mk (st := sPartsAt) l4 c4 k4
  have b4 := F4.binds (ps := ["text", "at", "deep"]) fun _ _ _ _ _ _ us hl => match us, hl with | [_, _, _], _ => rfl
  have m4 := PySem.W.mg_of X G a4
  have F5 := fun_mk (st := sSizeOf) l5 c5 k5
  have b5 := F5.binds (ps := ["fold"]) fun _ _ _ _ _ _ us hl => match us, hl with | [_], _ => rfl
  have m5 := PySem.W.mg_of X G a5
  have F6 := fun_mk (st := sReadFold) l6 c6 k6
  have b6 := F6.binds (ps := ["text"]) fun _ _ _ _ _ _ us hl => match us, hl with | [_], _ => rfl
  have m6 := PySem.W.mg_of X G a6
  have F7 := fun_mk (st := sCellAt) l7 c7 k7
  have b7 := F7.binds (ps := ["_law_script", "_law_k"]) fun _ _ _ _ _ _ us hl => match us, hl with | [_, _], _ => rfl
  have m7 := PySem.W.mg_of X G a7
  have F8 := fun_mk (st := sNumber) l8 c8 k8
  have b8 := F8.binds (ps := ["_law_cell"]) fun _ _ _ _ _ _ us hl => match us, hl with | [_], _ => rfl
  have m8 := PySem.W.mg_of X G a8
  have F9 := fun_mk (st := sFold) l9 c9 k9
  have b9 := F9.binds (ps := ["_law_cells", "_law_at", "_law_room", "_law_deep"]) fun _ _ _ _ _ _ us hl => match us, hl with | [_, _, _, _], _ => rfl
  have m9 := PySem.W.mg_of X G a9
  have F10 := fun_mk (st := sUnfolded) l10 c10 k10
  have b10 := F10.binds (ps := ["_law_fold_here"]) fun _ _ _ _ _ _ us hl => match us, hl with | [_], _ => rfl
  have m10 := PySem.W.mg_of X G a10
  have F11 := fun_mk (st := sDrawn) l11 c11 k11
  have b11 := F11.binds (ps := ["_law_script", "_law_at", "_law_most"]) fun _ _ _ _ _ _ us hl => match us, hl with | [_, _, _], _ => rfl
  have m11 := PySem.W.mg_of X G a11
  have F12 := fun_mk (st := sShown) l12 c12 k12
  have b12 := F12.binds (ps := ["_law_fold_here"]) fun _ _ _ _ _ _ us hl => match us, hl with | [_], _ => rfl
  have m12 := PySem.W.mg_of X G a12
  have F13 := fun_mk (st := sCount) l13 c13 k13
  have b13 := F13.binds (ps := ["_law_word", "_law_least"]) fun _ _ _ _ _ _ us hl => match us, hl with | [_, _], _ => rfl
  have m13 := PySem.W.mg_of X G a13
  have F14 := fun_mk (st := sFlat) l14 c14 k14
  have b14 := F14.binds (ps := ["_law_text"]) fun _ _ _ _ _ _ us hl => match us, hl with | [_], _ => rfl
  have m14 := PySem.W.mg_of X G a14
  have F15 := fun_mk (st := sSize) l15 c15 k15
  have b15 := F15.binds (ps := ["_law_text"]) fun _ _ _ _ _ _ us hl => match us, hl with | [_], _ => rfl
  have m15 := PySem.W.mg_of X G a15
  have F16 := fun_mk (st := sRight) l16 c16 k16
  have b16 := F16.binds (ps := ["_law_text"]) fun _ _ _ _ _ _ us hl => match us, hl with | [_], _ => rfl
  have m16 := PySem.W.mg_of X G a16
  have F17 := fun_mk (st := sSpoiled) l17 c17 k17
  have b17 := F17.binds (ps := ["_law_text", "_law_number_here"]) fun _ _ _ _ _ _ us hl => match us, hl with | [_, _], _ => rfl
  have m17 := PySem.W.mg_of X G a17
  have F18 := fun_mk (st := sNoText) l18 c18 k18
  have b18 := F18.binds (ps := ["_law_thing"]) fun _ _ _ _ _ _ us hl => match us, hl with | [_], _ => rfl
  have m18 := PySem.W.mg_of X G a18
  have F19 := fun_mk (st := sLaw) l19 c19 k19
  have b19 := F19.binds (ps := ["_law_script"]) fun _ _ _ _ _ _ us hl => match us, hl with | [_], _ => rfl
  have m19 := PySem.W.mg_of X G a19
  refine ⟨PySem.W.fnOf "law" "law" (defArgs sLaw) (defBody sLaw) (defScope sLaw) .none kV19 dc19 pm19 an19 cd19 ct19, fun s v => .of_eq rfl, fun base _ _ => ?_⟩
  have gSc : FnOk l.prog w K mg base CX0 1 f0 _ ["count"] spSc := ok_shownCount F0 T
  have gSh := shown_all F1 T b1 m1 gSc b0 k0 m0 13
  have gP := (parse_both (P := l.prog) (w := w) (base := base) T F3 F4 F2 b3 b4 b2 m3 m4 m2 12).2
  have gO := size_all (P := l.prog) (w := w) (base := base) F5 T b5 m5 13
  have gR := ok_readFold F6 T gP b4 k4 m4 gO b5 k5 m5
  have gCell : FnOk l.prog w K mg base CX0 1 f7 _ ["_law_script", "_law_k"] (spCell K) := ok_cellAt F7 T
  have gN : FnOk l.prog w K mg base CX0 1 f8 _ ["_law_cell"] spNum := ok_number F8 T
  have gU := unfolded_all (P := l.prog) (w := w) (base := base) F10 T b10 m10 4
  have gF := fold_all F9 T b9 m9 gN b8 k8 m8 gU b10 k10 m10 3 (by decide)
  have gD := ok_drawn F11 T gN b8 k8 m8 gCell b7 k7 m7 gF b9 k9 m9
  have gW := lawShown_all (P := l.prog) (w := w) (base := base) F12 T b12 m12 13
  have gCt : FnOk l.prog w K mg base CX0 1 f13 _ ["_law_word", "_law_least"] spLc := ok_lawCount F13 T
  have gFl := ok_lawFlat F14 T gCt b13 k13 m13
  have gZ := ok_lawSize F15 T gCt b13 k13 m13 gFl b14 k14 m14
  have gRi := ok_right F16 T gZ b15 k15 m15 gR b6 k6 m6 gW b12 k12 m12 gSh b1 k1 m1
  have gSp : FnOk l.prog w K mg base CX0 1 f17 _ ["_law_text", "_law_number_here"] spSp := ok_spoiled F17 T
  have gNt := ok_noText F18 T gR b6 k6 m6
  exact ok_law F19 T gW b12 k12 m12 gD b11 k11 m11 gRi b16 k16 m16 gN b8 k8 m8 gSp b17 k17 m17 gNt b18 k18 m18
end K32
open PySem PySem.W PyProof.Rows
set_option maxRecDepth 100000 in
set_option maxHeartbeats 0 in
theorem PySem.Challenge.cw_carpetkin_k32_texts_of_no_fold_holds : PySem.Challenge.rw_carpetkin_k32_texts_of_no_fold.Holds := by
  w_on; o_law; k_head; (case hw => w_witness2)
  k_fill
  refine L2.walk_of (l := PySem.Challenge.rw_carpetkin_k32_texts_of_no_fold) (n := 63) (k := 30) (x := "_law_script") (CX := fun _ => L2.CX0) (sp := fun w => K32.spLaw _) rfl (by decide) rfl ⟨rfl, by decide, by decide⟩ (fun w h Y => PySem.W.kIn_of Y) ?F (fun _ _ a ns hl _ hS => ⟨a, ns, rfl, hS, hl, fun _ => rfl⟩) fun _ _ _ _ _ z => z
  case F =>
    intro w mg fa h KX G hmg
    refine' K32.all_mk KX G hmg ?aC ?aF ?aL ?aD ?aK ?aM ?xF ?kF ?bF ?tF ?hF ?sF ?sC ?bC ?hC ?tC ?eX ?iV ?a0 ?l0 ?c0 ?k0 ?a1 ?l1 ?c1 ?k1 ?a2 ?l2 ?c2 ?k2 ?a3 ?l3 ?c3 ?k3 ?a4 ?l4 ?c4 ?k4 ?a5 ?l5 ?c5 ?k5 ?a6 ?l6 ?c6 ?k6 ?a7 ?l7 ?c7 ?k7 ?a8 ?l8 ?c8 ?k8 ?a9 ?l9 ?c9 ?k9 ?a10 ?l10 ?c10 ?k10 ?a11 ?l11 ?c11 ?k11 ?a12 ?l12 ?c12 ?k12 ?a13 ?l13 ?c13 ?k13 ?a14 ?l14 ?c14 ?k14 ?a15 ?l15 ?c15 ?k15 ?a16 ?l16 ?c16 ?k16 ?a17 ?l17 ?c17 ?k17 ?a18 ?l18 ?c18 ?k18 ?a19 ?l19 ?c19 ?k19 ?z0 ?z1 ?z2 ?z3 ?z4 ?z5 ?z6 ?z7
    (case aC => k_is)
    (case aF => k_is)
    (case aL => k_is)
    (case aD => k_is)
    (case aK => k_is)
    (case aM => k_is)
    (case xF => k_exc)
    (case kF => k_is)
    (case bF => k_is)
    (case tF => k_is)
    (case hF => k_is)
    (case sF => first | rfl | k_is)
    (case sC => k_is)
    (case bC => k_is)
    (case hC => k_is)
    (case tC => k_is)
    (case eX => exact ⟨by k_is, by k_is, by k_is, by k_is, by k_is, by k_is, by k_is, by k_is⟩)
    (case iV => k_is)
    (case a0 => k_is)
    (case l0 => k_is)
    (case c0 => k_is)
    (case k0 => k_is)
    (case a1 => k_is)
    (case l1 => k_is)
    (case c1 => k_is)
    (case k1 => k_is)
    (case a2 => k_is)
    (case l2 => k_is)
    (case c2 => k_is)
    (case k2 => k_is)
    (case a3 => k_is)
    (case l3 => k_is)
    (case c3 => k_is)
    (case k3 => k_is)
    (case a4 => k_is)
    (case l4 => k_is)
    (case c4 => k_is)
    (case k4 => k_is)
    (case a5 => k_is)
    (case l5 => k_is)
    (case c5 => k_is)
    (case k5 => k_is)
    (case a6 => k_is)
    (case l6 => k_is)
    (case c6 => k_is)
    (case k6 => k_is)
    (case a7 => k_is)
    (case l7 => k_is)
    (case c7 => k_is)
    (case k7 => k_is)
    (case a8 => k_is)
    (case l8 => k_is)
    (case c8 => k_is)
    (case k8 => k_is)
    (case a9 => k_is)
    (case l9 => k_is)
    (case c9 => k_is)
    (case k9 => k_is)
    (case a10 => k_is)
    (case l10 => k_is)
    (case c10 => k_is)
    (case k10 => k_is)
    (case a11 => k_is)
    (case l11 => k_is)
    (case c11 => k_is)
    (case k11 => k_is)
    (case a12 => k_is)
    (case l12 => k_is)
    (case c12 => k_is)
    (case k12 => k_is)
    (case a13 => k_is)
    (case l13 => k_is)
    (case c13 => k_is)
    (case k13 => k_is)
    (case a14 => k_is)
    (case l14 => k_is)
    (case c14 => k_is)
    (case k14 => k_is)
    (case a15 => k_is)
    (case l15 => k_is)
    (case c15 => k_is)
    (case k15 => k_is)
    (case a16 => k_is)
    (case l16 => k_is)
    (case c16 => k_is)
    (case k16 => k_is)
    (case a17 => k_is)
    (case l17 => k_is)
    (case c17 => k_is)
    (case k17 => k_is)
    (case a18 => k_is)
    (case l18 => k_is)
    (case c18 => k_is)
    (case k18 => k_is)
    (case a19 => k_is)
    (case l19 => k_is)
    (case c19 => k_is)
    (case k19 => k_is)
    (case z0 => k_is)
    (case z1 => k_is)
    (case z2 => k_is)
    (case z3 => k_is)
    (case z4 => k_is)
    (case z5 => k_is)
    (case z6 => k_is)
    (case z7 => k_is)
