import PyProof.Rows.All
import Wide.All
import OpenK.AllK
import Wide.FinOn
import HandS.Base
import HandS.Call
import HandS.List
import HandS.Text
import KE.IntTextLaws
import HandS.ForMost
import HandS.ForExc
import HandS.Walk
import HandS.More
import HandS.IsInst
import HandS.CallSlots
import HandS.Codes
import PySem.Challenge.RW_lotsight_k22_whole_no_other_words
set_option Elab.async false
set_option linter.all false
set_option maxRecDepth 100000
set_option maxHeartbeats 4000000
/-! M1: the plain law: terms, the words that write them, the reader as a Lean function, and what the walk asks. No program here. -/
namespace K22
open PySem
abbrev BIG : Int := 1000000000000000000000000000000
abbrev lets : Str := "abcdefghijklmnopqrstuvwxyz"
abbrev figs : Str := "0123456789"
abbrev said : List Str := ["draw", "set", "see", "if", "else", "end", "repeat", "ask"]
/-! ### words -/
def allOf (w s : Str) : Bool := w.cps.toList.all (fun c => decide (c ∈ s.cps.toList)) && !decide (w = Str.ofString "")
def isName (w : Str) : Bool := decide (w.length ≤ 8) && (allOf w lets && !decide (w ∈ said))
def val (w : Str) : Nat := NumText.digitsVal w.cps.toList
def isNum (w : Str) : Bool := decide (w.length ≤ 31) && (allOf w figs && (!(decide (w.cps.toList.head? = some 48) && decide (1 < w.length)) && decide (val w ≤ 1000000000000000000000000000000)))
def wat (ws : List Str) (i : Nat) : Str := ws.getD i (Str.ofString "")
/-! ### terms -/
inductive Bop where
  | add | sub | mul | less | same | both | any
  deriving DecidableEq
def Bop.nm : Bop → Str
  | .add => "add" | .sub => "sub" | .mul => "mul" | .less => "less" | .same => "same" | .both => "both" | .any => "any"
def Bop.sg : Bop → Str
  | .add => "+" | .sub => "-" | .mul => "*" | .less => "<" | .same => "=" | .both => "&" | .any => "|"
def bopOf (w : Str) : Option Bop :=
  if w = Str.ofString "+" then some .add else if w = Str.ofString "-" then some .sub else if w = Str.ofString "*" then some .mul else if w = Str.ofString "<" then some .less
  else if w = Str.ofString "=" then some .same else if w = Str.ofString "&" then some .both else if w = Str.ofString "|" then some .any else none
inductive Tm where
  | num (n : Int)
  | name (w : Str)
  | nott (t : Tm)
  | bin (o : Bop) (t u : Tm)
  | pick (t u v : Tm)
def Tm.deep : Tm → Nat
  | .num _ => 1
  | .name _ => 1
  | .nott t => t.deep + 1
  | .bin _ t u => max t.deep u.deep + 1
  | .pick t u v => max (max t.deep u.deep) v.deep + 1
def Tm.many : Tm → Nat
  | .num _ => 1
  | .name _ => 1
  | .nott t => 1 + t.many
  | .bin _ t u => 1 + (t.many + u.many)
  | .pick t u v => 1 + (t.many + (u.many + v.many))
def Tm.ok : Tm → Prop
  | .num n => -BIG ≤ n ∧ n ≤ BIG
  | .name w => isName w = true
  | .nott t => t.ok
  | .bin _ t u => t.ok ∧ u.ok
  | .pick t u v => t.ok ∧ u.ok ∧ v.ok
def numS (n : Int) : Str := Str.ofString (toString n)
def numWords (n : Int) : List Str := if n < 0 then [Str.ofString "-", numS (-n)] else [numS n]
def Tm.words : Tm → List Str
  | .num n => numWords n
  | .name w => [w]
  | .nott t => Str.ofString "!" :: t.words
  | .bin o t u => Str.ofString "(" :: (t.words ++ o.sg :: (u.words ++ [Str.ofString ")"]))
  | .pick t u v => Str.ofString "(" :: (t.words ++ Str.ofString "?" :: (u.words ++ Str.ofString ":" :: (v.words ++ [Str.ofString ")"])))
/-! ### the reader -/
def numAt (ws : List Str) (i : Nat) : Option (Int × Nat) :=
  if wat ws i = Str.ofString "-" then (if isNum (wat ws (i + 1)) = true then some (-(val (wat ws (i + 1)) : Int), i + 2) else none)
  else if isNum (wat ws i) = true then some ((val (wat ws i) : Int), i + 1) else none
def due (ws : List Str) (i : Nat) (x : Str) : Option Nat := if wat ws i = x then some (i + 1) else none
def brack (p : Nat → Option (Tm × Nat)) (ws : List Str) (i : Nat) : Option (Tm × Nat) :=
  match p i with
  | none => none
  | some (one, s) =>
    if wat ws s = Str.ofString "?" then
      match p (s + 1) with
      | none => none
      | some (two, s2) =>
        if wat ws s2 = Str.ofString ":" then
          match p (s2 + 1) with
          | none => none
          | some (three, s3) => if wat ws s3 = Str.ofString ")" then some (.pick one two three, s3 + 1) else none
        else none
    else match bopOf (wat ws s) with
      | none => none
      | some o => match p (s + 1) with
        | none => none
        | some (two, s2) => if wat ws s2 = Str.ofString ")" then some (.bin o one two, s2 + 1) else none
def parse (ws : List Str) : Nat → Nat → Option (Tm × Nat)
  | 0, _ => none
  | d + 1, i =>
    if wat ws i = Str.ofString "!" then (match parse ws d (i + 1) with | none => none | some (t, s) => some (.nott t, s))
    else if wat ws i = Str.ofString "(" then brack (parse ws d) ws (i + 1)
    else if isName (wat ws i) = true then some (.name (wat ws i), i + 1)
    else match numAt ws i with | none => none | some (n, s) => some (.num n, s)
/-- what the law's walk asks of a term and the words -/
inductive Rd (ws : List Str) : Nat → Tm → Nat → Nat → Prop
  | name {d i : Nat} {w : Str} : ws[i]? = some w → isName w = true → Rd ws (d + 1) (.name w) i (i + 1)
  | num {d i : Nat} {n : Int} : 0 ≤ n → n ≤ BIG → ws[i]? = some (numS n) → Rd ws (d + 1) (.num n) i (i + 1)
  | neg {d i : Nat} {n : Int} : 0 ≤ n → n ≤ BIG → ws[i]? = some (Str.ofString "-") → ws[i + 1]? = some (numS n) → Rd ws (d + 1) (.num (-n)) i (i + 2)
  | nott {d i s : Nat} {t : Tm} : ws[i]? = some (Str.ofString "!") → Rd ws d t (i + 1) s → Rd ws (d + 1) (.nott t) i s
  | bin {d i s s2 : Nat} {o : Bop} {t u : Tm} : ws[i]? = some (Str.ofString "(") → Rd ws d t (i + 1) s → ws[s]? = some o.sg → Rd ws d u (s + 1) s2 → ws[s2]? = some (Str.ofString ")") → Rd ws (d + 1) (.bin o t u) i (s2 + 1)
  | pick {d i s s2 s3 : Nat} {t u v : Tm} : ws[i]? = some (Str.ofString "(") → Rd ws d t (i + 1) s → ws[s]? = some (Str.ofString "?") → Rd ws d u (s + 1) s2 → ws[s2]? = some (Str.ofString ":") → Rd ws d v (s2 + 1) s3 →
      ws[s3]? = some (Str.ofString ")") → Rd ws (d + 1) (.pick t u v) i (s3 + 1)
/-! ### lemmas about texts -/
theorem tls (s : String) : (Str.ofString s).cps.toList = s.toList.map Char.toNat := TL.tl_ofString s
theorem wat_some {ws : List Str} {i : Nat} {x : Str} (h : wat ws i = x) (hx : x ≠ Str.ofString "") : ws[i]? = some x := by
  unfold wat at h
  rw [List.getD_eq_getElem?_getD] at h
  cases e : ws[i]? with
  | none =>
    rw [e] at h
    exact absurd h.symm hx
  | some y =>
    rw [e] at h
    exact congrArg some h
theorem wat_of {ws : List Str} {i : Nat} {x : Str} (h : ws[i]? = some x) : wat ws i = x := by
  unfold wat
  rw [List.getD_eq_getElem?_getD, h]
  rfl
theorem wat_ge {ws : List Str} {i : Nat} (h : ws.length ≤ i) : wat ws i = Str.ofString "" := by
  unfold wat
  rw [List.getD_eq_getElem?_getD, List.getElem?_eq_none h]
  rfl
theorem bopOf_sg {w : Str} {o : Bop} (h : bopOf w = some o) : w = o.sg := by
  unfold bopOf at h
  repeat' split at h
  all_goals first
    | (cases h; assumption)
    | cases h
theorem bopOf_of (o : Bop) : bopOf o.sg = some o := by cases o <;> decide +kernel
theorem sg_ne (o : Bop) : o.sg ≠ Str.ofString "" := by cases o <;> decide +kernel
theorem sg_nq (o : Bop) : o.sg ≠ Str.ofString "?" := by cases o <;> decide +kernel
theorem allOf_ne {w s : Str} (h : allOf w s = true) : w ≠ Str.ofString "" := by
  unfold allOf at h
  rw [Bool.and_eq_true] at h
  have := h.2
  intro e
  rw [decide_eq_true e] at this
  exact Bool.noConfusion this
theorem allOf_mem {w s : Str} (h : allOf w s = true) : ∀ c ∈ w.cps.toList, c ∈ s.cps.toList := by
  unfold allOf at h
  rw [Bool.and_eq_true, List.all_eq_true] at h
  exact fun c hc => of_decide_eq_true (h.1 c hc)
theorem lets_mem {c : Nat} (h : c ∈ lets.cps.toList) : 97 ≤ c ∧ c ≤ 122 := by
  rw [show lets.cps.toList = (List.range 26).map (· + 97) by decide +kernel] at h
  obtain ⟨a, h1, rfl⟩ := List.mem_map.mp h
  have := List.mem_range.mp h1
  omega
theorem figs_eq : figs.cps.toList = (List.range 10).map (· + 48) := by decide +kernel
theorem figs_mem {c : Nat} (h : c ∈ figs.cps.toList) : 48 ≤ c ∧ c ≤ 57 := by
  rw [figs_eq] at h
  obtain ⟨a, h1, rfl⟩ := List.mem_map.mp h
  have := List.mem_range.mp h1
  omega
theorem mem_figs {c : Nat} (h : 48 ≤ c ∧ c ≤ 57) : c ∈ figs.cps.toList := by
  rw [figs_eq]
  exact List.mem_map.mpr ⟨c - 48, List.mem_range.mpr (by omega), by omega⟩
theorem isName_all {w : Str} (h : isName w = true) : allOf w lets = true := by
  unfold isName at h
  rw [Bool.and_eq_true, Bool.and_eq_true] at h
  exact h.2.1
theorem isName_len {w : Str} (h : isName w = true) : w.length ≤ 8 := by
  unfold isName at h
  rw [Bool.and_eq_true, Bool.and_eq_true] at h
  exact of_decide_eq_true h.1
theorem isName_said {w : Str} (h : isName w = true) : w ∉ said := by
  unfold isName at h
  rw [Bool.and_eq_true, Bool.and_eq_true] at h
  intro e
  have := h.2.2
  rw [decide_eq_true e] at this
  exact Bool.noConfusion this
theorem isNum_parts {w : Str} (h : isNum w = true) : w.length ≤ 31 ∧ allOf w figs = true ∧ ¬ (w.cps.toList.head? = some 48 ∧ 1 < w.length) ∧ val w ≤ 1000000000000000000000000000000 := by
  unfold isNum at h
  rw [Bool.and_eq_true, Bool.and_eq_true, Bool.and_eq_true] at h
  obtain ⟨h1, h2, h3, h4⟩ := h
  refine ⟨of_decide_eq_true h1, h2, fun ⟨a, b⟩ => ?_, of_decide_eq_true h4⟩
  rw [decide_eq_true a, decide_eq_true b] at h3
  exact Bool.noConfusion h3
theorem isNum_of {w : Str} (h1 : w.length ≤ 31) (h2 : allOf w figs = true) (h3 : ¬ (w.cps.toList.head? = some 48 ∧ 1 < w.length)) (h4 : val w ≤ 1000000000000000000000000000000) : isNum w = true := by
  unfold isNum
  rw [decide_eq_true h1, h2, decide_eq_true h4]
  have : (decide (w.cps.toList.head? = some 48) && decide (1 < w.length)) = false := by
    cases hx : (decide (w.cps.toList.head? = some 48) && decide (1 < w.length)) with
    | false => rfl
    | true =>
      rw [Bool.and_eq_true] at hx
      exact absurd ⟨of_decide_eq_true hx.1, of_decide_eq_true hx.2⟩ h3
  rw [this]
  rfl
theorem digits_of {w : Str} (h : allOf w figs = true) : NumText.AllDigits w.cps.toList := fun c hc => figs_mem (allOf_mem h c hc)
theorem tl_ne {w : Str} (h : w ≠ Str.ofString "") : w.cps.toList ≠ [] := fun e => h (TL.ext_tl (by show w.cps.toList = _; rw [e]; decide +kernel))
theorem int_word {w : Str} (h : allOf w figs = true) (hl : w.length ≤ 640) : intText? w = some ((val w : Nat) : Int) :=
  intText_digits (digits_of h) (tl_ne (allOf_ne h)) (by omega)
/-- digits without a leading nought are the signs of their number -/
theorem numL_back : ∀ (n : Nat) (cs : List Nat), cs.length = n → NumText.AllDigits cs → cs ≠ [] → ¬ (cs.head? = some 48 ∧ 1 < cs.length) → TL.numL (NumText.digitsVal cs) = cs ∧ (1 < cs.length → 1 ≤ NumText.digitsVal cs) := by
  intro n
  induction n with
  | zero =>
    intro cs hl _ hne
    exact absurd (List.length_eq_zero_iff.mp hl) hne
  | succ n ih =>
    intro cs hl hd hne hz
    obtain ⟨ini, c, rfl⟩ : ∃ ini c, cs = ini ++ [c] := ⟨cs.dropLast, cs.getLast hne, (List.dropLast_concat_getLast hne).symm⟩
    have hc := hd c (by simp)
    have e : NumText.digitsVal (ini ++ [c]) = NumText.digitsVal ini * 10 + (c - 48) := by
      unfold NumText.digitsVal
      rw [List.foldl_append]
      rfl
    cases ini with
    | nil =>
      rw [e]
      refine ⟨?_, fun h => absurd h (by simp)⟩
      have e0 : NumText.digitsVal [] * 10 + (c - 48) = c - 48 := by
        show 0 * 10 + (c - 48) = c - 48
        omega
      rw [e0, TL.numL_lt (by omega)]
      show [48 + (c - 48)] = [c]
      rw [show 48 + (c - 48) = c by omega]
    | cons a r =>
      have h0 : a ≠ 48 := fun h => hz ⟨by rw [h]; rfl, by simp⟩
      have ha := hd a (by simp)
      have q := ih (a :: r) (by simpa using hl) (fun x hx => hd x (by simp at hx ⊢; rcases hx with h | h; exact .inl h; exact .inr (.inl h))) (by simp) (fun h => h0 (by have := h.1; simpa using this))
      have h1 : 1 ≤ NumText.digitsVal (a :: r) := by
        cases r with
        | nil =>
          show 1 ≤ 0 * 10 + (a - 48)
          omega
        | cons b r => exact q.2 (by simp)
      rw [e, TL.numL_step (by omega)]
      refine ⟨?_, fun _ => by omega⟩
      rw [show (NumText.digitsVal (a :: r) * 10 + (c - 48)) / 10 = NumText.digitsVal (a :: r) by omega, show 48 + (NumText.digitsVal (a :: r) * 10 + (c - 48)) % 10 = c by omega, q.1]
theorem tl_numS (n : Nat) : (numS (n : Int)).cps.toList = TL.numL n := TL.tl_num n
theorem isNum_back {w : Str} (h : isNum w = true) : w = numS ((val w : Nat) : Int) := by
  obtain ⟨h1, h2, h3, h4⟩ := isNum_parts h
  refine TL.ext_tl ?_
  show w.cps.toList = (numS ((val w : Nat) : Int)).cps.toList
  rw [tl_numS]
  exact (numL_back _ _ rfl (digits_of h2) (tl_ne (allOf_ne h2)) (fun z => h3 ⟨z.1, by rw [TL.len_tl]; exact z.2⟩)).1.symm
theorem numL_head {n : Nat} (h : (TL.numL n).head? = some 48) : n = 0 := by
  induction n using Nat.strongRecOn with
  | _ n ih =>
    by_cases c : n < 10
    · rw [TL.numL_lt c] at h
      simp at h
      omega
    · rw [TL.numL_step (by omega), List.head?_append] at h
      cases e : (TL.numL (n / 10)).head? with
      | none => exact absurd (List.head?_eq_none_iff.mp e) (TL.numL_ne _)
      | some x =>
        rw [e] at h
        have hx : x = 48 := by simpa using h
        have := ih (n / 10) (by omega) (by rw [e, hx])
        omega
theorem isNum_numS {n : Nat} (h : n ≤ 1000000000000000000000000000000) : isNum (numS (n : Int)) = true := by
  have hl : (numS (n : Int)).length = (TL.numL n).length := by rw [TL.len_tl]; show (numS (n : Int)).cps.toList.length = _; rw [tl_numS]
  refine isNum_of ?_ ?_ ?_ ?_
  · rw [hl]
    exact TL.numL_len (by decide) (Nat.lt_of_le_of_lt h (by decide))
  · unfold allOf
    rw [Bool.and_eq_true, List.all_eq_true]
    refine ⟨fun c hc => decide_eq_true (mem_figs ?_), ?_⟩
    · rw [tl_numS] at hc
      exact TL.numL_digits n c hc
    · rw [decide_eq_false]
      · rfl
      · intro e
        have := congrArg (fun x : Str => x.cps.toList) e
        simp only [tl_numS] at this
        exact TL.numL_ne n (this.trans (by decide +kernel))
  · rintro ⟨h1, h2⟩
    rw [tl_numS] at h1
    have e := numL_head h1
    rw [hl, e, TL.numL_lt (by decide)] at h2
    exact absurd h2 (by decide)
  · unfold val
    rw [tl_numS, TL.numL_val]
    exact h
theorem val_numS (n : Nat) : val (numS (n : Int)) = n := by
  unfold val
  rw [tl_numS, TL.numL_val]
/-- a text with a first sign -/
theorem figs_not {w : Str} (h : allOf w figs = true) {x : String} {c : Nat} (hc : (Str.ofString x).cps.toList.head? = some c) (hn : ¬ (48 ≤ c ∧ c ≤ 57)) : w ≠ Str.ofString x := fun e => by
  subst e
  exact hn (figs_mem (allOf_mem h c (List.mem_of_head? hc)))
theorem lets_not {w : Str} (h : allOf w lets = true) {x : String} {c : Nat} (hc : (Str.ofString x).cps.toList.head? = some c) (hn : ¬ (97 ≤ c ∧ c ≤ 122)) : w ≠ Str.ofString x := fun e => by
  subst e
  exact hn (lets_mem (allOf_mem h c (List.mem_of_head? hc)))
theorem name_not_num {w : Str} (h : allOf w figs = true) : isName w = false := by
  cases e : isName w with
  | false => rfl
  | true =>
    have h2 := isName_all e
    have hne := tl_ne (allOf_ne h)
    cases hw : w.cps.toList with
    | nil => exact absurd hw hne
    | cons c r =>
      have a := figs_mem (allOf_mem h c (by rw [hw]; simp))
      have b := lets_mem (allOf_mem h2 c (by rw [hw]; simp))
      omega
/-! ### soundness -/
theorem numAt_rd {ws : List Str} {d i s : Nat} {n : Int} (h : numAt ws i = some (n, s)) : Rd ws (d + 1) (.num n) i s := by
  unfold numAt at h
  split at h
  · rename_i h1
    split at h
    · rename_i h2
      cases h
      refine .neg (Int.natCast_nonneg _) (Int.ofNat_le.mpr (isNum_parts h2).2.2.2) (wat_some h1 (by decide +kernel)) ?_
      rw [← isNum_back h2]
      exact wat_some rfl (allOf_ne (isNum_parts h2).2.1)
    · cases h
  · split at h
    · rename_i h2
      cases h
      refine .num (Int.natCast_nonneg _) (Int.ofNat_le.mpr (isNum_parts h2).2.2.2) ?_
      rw [← isNum_back h2]
      exact wat_some rfl (allOf_ne (isNum_parts h2).2.1)
    · cases h
theorem parse_rd {ws : List Str} : ∀ (d i : Nat) (t : Tm) (s : Nat), parse ws d i = some (t, s) → Rd ws d t i s
  | 0, _, _, _, h => by cases h
  | d + 1, i, t, s, h => by
    have ih := parse_rd (ws := ws) d
    rw [parse] at h
    split at h
    · rename_i h1
      cases e : parse ws d (i + 1) with
      | none => rw [e] at h; cases h
      | some r =>
        rw [e] at h
        cases h
        exact .nott (wat_some h1 (by decide +kernel)) (ih _ _ _ e)
    · split at h
      · rename_i h1
        have w1 := wat_some h1 (by decide +kernel)
        unfold brack at h
        cases e : parse ws d (i + 1) with
        | none => rw [e] at h; cases h
        | some r =>
          obtain ⟨one, s1⟩ := r
          rw [e] at h
          simp only at h
          split at h
          · rename_i h2
            have w2 := wat_some h2 (by decide +kernel)
            cases e2 : parse ws d (s1 + 1) with
            | none => rw [e2] at h; cases h
            | some r =>
              obtain ⟨two, s2⟩ := r
              rw [e2] at h
              simp only at h
              split at h
              · rename_i h3
                have w3 := wat_some h3 (by decide +kernel)
                cases e3 : parse ws d (s2 + 1) with
                | none => rw [e3] at h; cases h
                | some r =>
                  obtain ⟨three, s3⟩ := r
                  rw [e3] at h
                  simp only at h
                  split at h
                  · rename_i h4
                    cases h
                    exact .pick w1 (ih _ _ _ e) w2 (ih _ _ _ e2) w3 (ih _ _ _ e3) (wat_some h4 (by decide +kernel))
                  · cases h
              · cases h
          · cases eo : bopOf (wat ws s1) with
            | none => rw [eo] at h; cases h
            | some o =>
              rw [eo] at h
              simp only at h
              cases e2 : parse ws d (s1 + 1) with
              | none => rw [e2] at h; cases h
              | some r =>
                obtain ⟨two, s2⟩ := r
                rw [e2] at h
                simp only at h
                split at h
                · rename_i h4
                  cases h
                  exact .bin w1 (ih _ _ _ e) (wat_some (bopOf_sg eo) (sg_ne o)) (ih _ _ _ e2) (wat_some h4 (by decide +kernel))
                · cases h
      · split at h
        · rename_i h1
          cases h
          exact .name (wat_some rfl (allOf_ne (isName_all h1))) h1
        · cases e : numAt ws i with
          | none => rw [e] at h; cases h
          | some r =>
            rw [e] at h
            cases h
            exact numAt_rd e
/-! ### completeness -/
def At (ws : List Str) (i : Nat) (l : List Str) : Prop := ∃ post, ws.drop i = l ++ post
theorem At.hd {ws : List Str} {i : Nat} {x : Str} {l : List Str} (h : At ws i (x :: l)) : wat ws i = x := by
  obtain ⟨post, e⟩ := h
  refine wat_of ?_
  have := List.getElem?_drop (xs := ws) (i := i) (j := 0)
  rw [e] at this
  exact this.symm
theorem At.tl {ws : List Str} {i : Nat} {x : Str} {l : List Str} (h : At ws i (x :: l)) : At ws (i + 1) l := by
  obtain ⟨post, e⟩ := h
  refine ⟨post, ?_⟩
  rw [← List.drop_drop, e]
  rfl
theorem At.left {ws : List Str} {i : Nat} {l r : List Str} (h : At ws i (l ++ r)) : At ws i l := by
  obtain ⟨post, e⟩ := h
  exact ⟨r ++ post, by rw [e, List.append_assoc]⟩
theorem At.right {ws : List Str} {i : Nat} {l r : List Str} (h : At ws i (l ++ r)) : At ws (i + l.length) r := by
  obtain ⟨post, e⟩ := h
  refine ⟨post, ?_⟩
  rw [← List.drop_drop, e, List.append_assoc, List.drop_left]
theorem sg_all (o : Bop) (x : Str) (h : x = o.sg) : x ≠ Str.ofString "?" := by subst h; exact sg_nq o
theorem numS_ne {n : Int} (h0 : 0 ≤ n) (h1 : n ≤ BIG) : isNum (numS n) = true ∧ ((val (numS n) : Nat) : Int) = n := by
  obtain ⟨m, rfl⟩ := Int.eq_ofNat_of_zero_le h0
  refine ⟨isNum_numS (by exact Int.ofNat_le.mp h1), ?_⟩
  show ((val (numS (m : Int)) : Nat) : Int) = (m : Int)
  rw [val_numS]
theorem parse_num {ws : List Str} {d i : Nat} {n : Int} (h0 : -BIG ≤ n) (h1 : n ≤ BIG) (h : At ws i (numWords n)) : parse ws (d + 1) i = some (.num n, i + (numWords n).length) := by
  unfold numWords at h ⊢
  split at h
  · rename_i hn
    rw [if_pos hn]
    have w1 := h.hd
    have w2 := h.tl.hd
    obtain ⟨q1, q2⟩ := numS_ne (n := -n) (by omega) (by omega)
    have e : numAt ws i = some (n, i + 2) := by
      unfold numAt
      rw [if_pos w1, w2, if_pos q1, q2, Int.neg_neg]
    rw [parse, w1, if_neg (by decide +kernel), if_neg (by decide +kernel), if_neg (by decide +kernel), e]
    rfl
  · rename_i hn
    rw [if_neg hn]
    have w1 := h.hd
    obtain ⟨q1, q2⟩ := numS_ne (n := n) (by omega) (by omega)
    have qa := (isNum_parts q1).2.1
    have e : numAt ws i = some (n, i + 1) := by
      unfold numAt
      rw [w1, if_neg (figs_not qa (c := 45) (by decide +kernel) (by decide)), if_pos q1, q2]
    rw [parse, w1, if_neg (figs_not qa (c := 33) (by decide +kernel) (by decide)), if_neg (figs_not qa (c := 40) (by decide +kernel) (by decide)), name_not_num qa, if_neg Bool.false_ne_true, e]
    rfl
theorem parse_words {ws : List Str} : ∀ (t : Tm) (d i : Nat), t.ok → t.deep ≤ d → At ws i t.words → parse ws d i = some (t, i + t.words.length)
  | .num n, d, i, hok, hd, h => by
    cases d with
    | zero => exact absurd hd (by simp [Tm.deep])
    | succ d => exact parse_num hok.1 hok.2 h
  | .name w, d, i, hok, hd, h => by
    cases d with
    | zero => exact absurd hd (by simp [Tm.deep])
    | succ d =>
      have hok : isName w = true := hok
      have qa := isName_all hok
      have w1 : wat ws i = w := At.hd (l := []) h
      rw [parse, w1, if_neg (lets_not qa (c := 33) (by decide +kernel) (by decide)), if_neg (lets_not qa (c := 40) (by decide +kernel) (by decide)), if_pos hok]
      rfl
  | .nott t, d, i, hok, hd, h => by
    cases d with
    | zero => exact absurd hd (by simp [Tm.deep])
    | succ d =>
      have h : At ws i (Str.ofString "!" :: t.words) := h
      have ih := parse_words t d (i + 1) hok (by simp only [Tm.deep] at hd; omega) h.tl
      rw [parse, if_pos h.hd, ih]
      simp only [Tm.words, List.length_cons]
      congr 2
      omega
  | .bin o t u, d, i, hok, hd, h => by
    cases d with
    | zero => exact absurd hd (by simp [Tm.deep])
    | succ d =>
      simp only [Tm.deep] at hd
      have h : At ws i (Str.ofString "(" :: (t.words ++ o.sg :: (u.words ++ [Str.ofString ")"]))) := h
      have h1 := h.tl
      have ih := parse_words t d (i + 1) hok.1 (by omega) h1.left
      have h2 := h1.right
      have ih2 := parse_words u d (i + 1 + t.words.length + 1) hok.2 (by omega) h2.tl.left
      have h3 := h2.tl.right
      rw [parse, h.hd, if_neg (by decide +kernel), if_pos rfl]
      unfold brack
      rw [ih]
      simp only
      rw [h2.hd, if_neg (sg_nq o), bopOf_of]
      simp only
      rw [ih2]
      simp only
      rw [if_pos h3.hd]
      simp only [Tm.words, List.length_cons, List.length_append, List.length_nil]
      congr 2
      omega
  | .pick t u v, d, i, hok, hd, h => by
    cases d with
    | zero => exact absurd hd (by simp [Tm.deep])
    | succ d =>
      simp only [Tm.deep] at hd
      have h : At ws i (Str.ofString "(" :: (t.words ++ Str.ofString "?" :: (u.words ++ Str.ofString ":" :: (v.words ++ [Str.ofString ")"])))) := h
      have h1 := h.tl
      have ih := parse_words t d (i + 1) hok.1 (by omega) h1.left
      have h2 := h1.right
      have ih2 := parse_words u d (i + 1 + t.words.length + 1) hok.2.1 (by omega) h2.tl.left
      have h3 := h2.tl.right
      have ih3 := parse_words v d (i + 1 + t.words.length + 1 + u.words.length + 1) hok.2.2 (by omega) h3.tl.left
      have h4 := h3.tl.right
      rw [parse, h.hd, if_neg (by decide +kernel), if_pos rfl]
      unfold brack
      rw [ih]
      simp only
      rw [if_pos h2.hd, ih2]
      simp only
      rw [if_pos h3.hd, ih3]
      simp only
      rw [if_pos h4.hd]
      simp only [Tm.words, List.length_cons, List.length_append, List.length_nil]
      congr 2
      omega
/-- words that were left as they are tell their term -/
theorem parse_all {t : Tm} {d : Nat} (hok : t.ok) (hd : t.deep ≤ d) : parse t.words d 0 = some (t, t.words.length) := by
  have h : At t.words 0 t.words := ⟨[], by simp⟩
  have e := parse_words t d 0 hok hd h
  rw [Nat.zero_add] at e
  exact e
theorem deep_pos (t : Tm) : 1 ≤ t.deep := by cases t <;> simp [Tm.deep]
theorem words_le : ∀ t : Tm, t.words.length ≤ 4 * t.many
  | .num n => by
    show (numWords n).length ≤ 4 * 1
    unfold numWords
    split <;> simp
  | .name w => by simp [Tm.words, Tm.many]
  | .nott t => by
    have := words_le t
    simp only [Tm.words, Tm.many, List.length_cons]
    omega
  | .bin o t u => by
    have := words_le t
    have := words_le u
    simp only [Tm.words, Tm.many, List.length_cons, List.length_append, List.length_nil]
    omega
  | .pick t u v => by
    have := words_le t
    have := words_le u
    have := words_le v
    simp only [Tm.words, Tm.many, List.length_cons, List.length_append, List.length_nil]
    omega
end K22
/-! F0: the text by places, terms and words in the heap, what the top has left, lemmas about loops. -/
namespace K22
open PySem L2
/-! ### the text -/
def top (i : Nat) : Stmt := PySem.Challenge.pw_lotsight_k22_whole_no_other_words.main.body.getD i (.Pass ⟨0, 0, 0, 0⟩)
abbrev sPieces : Stmt := top 5
abbrev sAll : Stmt := top 13
abbrev sName : Stmt := top 14
abbrev sNumber : Stmt := top 15
abbrev sWat : Stmt := top 16
abbrev sNumAt : Stmt := top 17
abbrev sDue : Stmt := top 18
abbrev sBrack : Stmt := top 19
abbrev sTermAt : Stmt := top 20
abbrev sTermOf : Stmt := top 21
abbrev sCell : Stmt := top 23
abbrev sValue : Stmt := top 24
abbrev sLName : Stmt := top 25
abbrev sLeaf : Stmt := top 26
abbrev sOp : Stmt := top 27
abbrev sMany : Stmt := top 28
abbrev sWords : Stmt := top 29
abbrev sLWords : Stmt := top 30
abbrev sOver : Stmt := top 31
abbrev sGrown : Stmt := top 32
abbrev sOdd : Stmt := top 33
abbrev sSpoiled : Stmt := top 34
abbrev sLStop : Stmt := top 35
abbrev sDues : Stmt := top 36
abbrev sStop : Stmt := top 37
abbrev sManyIn : Stmt := top 38
abbrev sLaw : Stmt := top 39
/-! ### terms in the heap -/
abbrev st (x : String) : V := V.str (Str.ofString x)
inductive TmAt (H : Hp) : V → Tm → Prop
  | num {a : Addr} {n : Int} : H a = some (.tup [st "num", .int n]) → TmAt H (.ref a) (.num n)
  | name {a : Addr} {w : Str} : H a = some (.tup [st "name", .str w]) → TmAt H (.ref a) (.name w)
  | nott {a : Addr} {v : V} {t : Tm} : H a = some (.tup [st "not", v]) → TmAt H v t → TmAt H (.ref a) (.nott t)
  | bin {a : Addr} {v u : V} {o : Bop} {t r : Tm} : H a = some (.tup [.str o.nm, v, u]) → TmAt H v t → TmAt H u r → TmAt H (.ref a) (.bin o t r)
  | pick {a : Addr} {v u w : V} {t r q : Tm} : H a = some (.tup [st "pick", v, u, w]) → TmAt H v t → TmAt H u r → TmAt H w q → TmAt H (.ref a) (.pick t r q)
theorem TmAt.mono {H H' : Hp} (e : Same H H') {v : V} {t : Tm} (h : TmAt H v t) : TmAt H' v t := by
  induction h with
  | num h => exact .num (e _ _ h)
  | name h => exact .name (e _ _ h)
  | nott h _ i => exact .nott (e _ _ h) i
  | bin h _ _ i j => exact .bin (e _ _ h) i j
  | pick h _ _ _ i j k => exact .pick (e _ _ h) i j k
/-- a text of bounded size, of signs that are signs -/
abbrev Wd (x : Str) : Prop := x.length ≤ 1000 ∧ PyData.strOk x = true
def Wok (ws : List Str) : Prop := ws.length ≤ 2000 ∧ ∀ w ∈ ws, Wd w
theorem Wok.wat {ws : List Str} (h : Wok ws) (i : Nat) : (wat ws i).length ≤ 1000 := by
  by_cases c : i < ws.length
  · have e : K22.wat ws i = ws[i] := wat_of (List.getElem?_eq_getElem c)
    rw [e]
    exact (h.2 _ (List.getElem_mem c)).1
  · rw [wat_ge (by omega)]
    decide
theorem small {n : Nat} (h : n ≤ 8000) : n ≤ sizeLine := Nat.le_trans h (by decide)
theorem small' {n : Nat} (h : n ≤ 8000) : n < sizeLine := Nat.lt_of_le_of_lt h (by decide)
theorem same_new {H : Hp} {p : Addr} (h : H p = none) (o : HO) : Same H (upd H p o) := fun b u q => by rw [upd_ne (ne_of_none q h)]; exact q
theorem Same.upd {H H' : Hp} (e : Same H H') {p : Addr} (h : H' p = none) (o : HO) : Same H (upd H' p o) := e.trans (same_new h o)
theorem Same.seqT {K : PySem.W.Frag} {H H' : Hp} {a : Addr} {xs : List V} (e : Same H H') (h : SqT K H a xs) : SqT K H' a xs := by
  rcases h with (h | ⟨o, h⟩) | h
  · exact .inl (.inl (e _ _ h))
  · exact .inl (.inr ⟨o, e _ _ h⟩)
  · exact .inr h
theorem Same.dp {H H' : Hp} {a : Addr} {p : Addr} {o : HO} (e : Same H H') (h : H p = some o) (h' : H' a = none) : p ≠ a := ne_of_none (e _ _ h) h'
/-! ### comparisons of texts -/
theorem dec_str (x y : Str) : decide (V.str x = V.str y) = decide (x = y) := by
  by_cases e : x = y
  · subst e; simp
  · rw [decide_eq_false e, decide_eq_false (fun h => e (V.str.inj h))]
theorem inV_str (x : Str) : ∀ l : List Str, inV (.str x) (l.map V.str) = decide (x ∈ l)
  | [] => by simp [inV]
  | y :: l => by
    have ih := inV_str x l
    unfold inV at ih ⊢
    rw [List.map_cons, List.any_cons, ih]
    show ((y == x) || decide (x ∈ l)) = decide (x ∈ y :: l)
    by_cases e : y = x
    · subst e; simp
    · have : (y == x) = false := by simpa using e
      rw [this, Bool.false_or]
      simp only [List.mem_cons]
      by_cases m : x ∈ l
      · simp [m]
      · have e2 : ¬ x = y := fun z => e z.symm
        simp [m, e2]
theorem flat_strs : ∀ l : List Str, (l.map V.str).all flatV = true
  | [] => rfl
  | _ :: l => by rw [List.map_cons, List.all_cons, flat_strs l]; rfl
theorem wd_of {x : Str} (h : x.length ≤ 1000) (h2 : ∀ c ∈ x.cps.toList, c < 1114112) : Wd x := by
  refine ⟨h, ?_⟩
  unfold PyData.strOk
  rw [Array.all_eq_true_iff_forall_mem]
  exact fun c hc => decide_eq_true (h2 c (Array.mem_toList_iff.mpr hc))
theorem wd_name {x : Str} (h : isName x = true) : Wd x := wd_of (Nat.le_trans (isName_len h) (by decide)) fun c hc => Nat.lt_of_le_of_lt (lets_mem (allOf_mem (isName_all h) c hc)).2 (by decide)
theorem wd_num {n : Nat} (h : n < 10 ^ 40) : Wd (numS (n : Int)) := by
  refine wd_of ?_ fun c hc => ?_
  · rw [TL.len_tl]
    show (numS (n : Int)).cps.toList.length ≤ 1000
    rw [tl_numS]
    exact Nat.le_trans (TL.numL_len (by decide) h) (by decide)
  · rw [tl_numS] at hc
    exact Nat.lt_of_le_of_lt (TL.numL_digits n c hc).2 (by decide)
theorem wd_int {n : Int} (h0 : 0 ≤ n) (h1 : n ≤ BIG) : Wd (numS n) := by
  obtain ⟨m, rfl⟩ := Int.eq_ofNat_of_zero_le h0
  exact wd_num (Nat.lt_of_le_of_lt (Int.ofNat_le.mp h1) (by decide +kernel))
/-- the words of a term -/
theorem wd_words : ∀ t : Tm, t.ok → ∀ x ∈ t.words, Wd x
  | .num n, hok, x, hx => by
    have hok : -BIG ≤ n ∧ n ≤ BIG := hok
    have hx : x ∈ numWords n := hx
    unfold numWords at hx
    split at hx
    · simp only [List.mem_cons, List.not_mem_nil, or_false] at hx
      rcases hx with rfl | rfl
      · decide +kernel
      · exact wd_int (by omega) (by omega)
    · simp only [List.mem_cons, List.not_mem_nil, or_false] at hx
      subst hx
      exact wd_int (by omega) (by omega)
  | .name w, hok, x, hx => by
    have hx : x ∈ [w] := hx
    rw [List.mem_singleton.mp hx]
    exact wd_name hok
  | .nott t, hok, x, hx => by
    simp only [Tm.words, List.mem_cons] at hx
    rcases hx with rfl | hx
    · decide +kernel
    · exact wd_words t hok x hx
  | .bin o t u, hok, x, hx => by
    simp only [Tm.words, List.mem_cons, List.mem_append, List.not_mem_nil, or_false] at hx
    rcases hx with rfl | hx | rfl | hx | rfl
    · decide +kernel
    · exact wd_words t hok.1 x hx
    · cases o <;> decide +kernel
    · exact wd_words u hok.2 x hx
    · decide +kernel
  | .pick t u v, hok, x, hx => by
    simp only [Tm.words, List.mem_cons, List.mem_append, List.not_mem_nil, or_false] at hx
    rcases hx with rfl | hx | rfl | hx | rfl | hx | rfl
    · decide +kernel
    · exact wd_words t hok.1 x hx
    · decide +kernel
    · exact wd_words u hok.2.1 x hx
    · decide +kernel
    · exact wd_words v hok.2.2 x hx
    · decide +kernel
/-! ### == of lists of words -/
theorem eqv_strs : ∀ xs ys : List Str, PyData.eqvAll (xs.map PyData.str) (ys.map PyData.str) = decide (xs = ys)
  | [], [] => by simp [PyData.eqvAll]
  | [], y :: ys => by simp [PyData.eqvAll]
  | x :: xs, [] => by simp [PyData.eqvAll]
  | x :: xs, y :: ys => by
    rw [List.map_cons, List.map_cons, PyData.eqvAll, eqv_strs xs ys, PyData.eqv]
    by_cases e : x = y
    · subst e
      by_cases m : xs = ys
      · simp [m]
      · simp [m]
    · have : (x == y) = false := by simpa using e
      rw [this, Bool.false_and, decide_eq_false (fun z => e (List.cons.inj z).1)]
theorem dpAll_strs {K : PySem.W.Frag} {H : Hp} : ∀ xs : List Str, DpAll K H (xs.map V.str) (xs.map PyData.str)
  | [] => .nil
  | x :: xs => .cons (.str x) (dpAll_strs xs)
theorem depth_strs : ∀ xs : List Str, PyData.depthAll (xs.map PyData.str) = 0
  | [] => rfl
  | x :: xs => by rw [List.map_cons, PyData.depthAll, depth_strs xs]; rfl
theorem can_strs : ∀ {xs : List Str}, (∀ x ∈ xs, Wd x) → PyData.canLayAll0 (xs.map PyData.str) = true
  | [], _ => rfl
  | x :: xs, h => by
    rw [List.map_cons, PyData.canLayAll0, can_strs (fun y hy => h y (List.mem_cons_of_mem _ hy)), Bool.and_true]
    exact (h x (List.mem_cons_self ..)).2
theorem shaped_strs {xs : List Str} (h : ∀ x ∈ xs, Wd x) : SeqAt.shaped (.list (xs.map PyData.str)) = true := by
  unfold SeqAt.shaped
  rw [Bool.and_eq_true]
  refine ⟨can_strs h, decide_eq_true ?_⟩
  rw [PyData.depth, depth_strs]
  decide
theorem eq_words {K : PySem.W.Frag} {H : Hp} {a b : Addr} {xs ys : List Str} {Q : VK} (ha : SqL K H a (xs.map V.str)) (hb : SqL K H b (ys.map V.str)) (hx : ∀ x ∈ xs, Wd x) (hy : ∀ y ∈ ys, Wd y) (q : Q (.bl (decide (xs = ys))) H) :
    rEqD K (.ref a) (.ref b) H Q := ⟨.list (xs.map PyData.str), .list (ys.map PyData.str), .lst ha (dpAll_strs xs), .lst hb (dpAll_strs ys), shaped_strs hx, shaped_strs hy, by
      show Q (.bl (PyData.eqvAll (xs.map PyData.str) (ys.map PyData.str))) H
      rw [eqv_strs]
      exact q⟩
theorem ne_words {K : PySem.W.Frag} {H : Hp} {a b : Addr} {xs ys : List Str} {Q : VK} (ha : SqL K H a (xs.map V.str)) (hb : SqL K H b (ys.map V.str)) (hx : ∀ x ∈ xs, Wd x) (hy : ∀ y ∈ ys, Wd y) (q : Q (.bl (!decide (xs = ys))) H) :
    rNeD K (.ref a) (.ref b) H Q := ⟨.list (xs.map PyData.str), .list (ys.map PyData.str), .lst ha (dpAll_strs xs), .lst hb (dpAll_strs ys), shaped_strs hx, shaped_strs hy, by
      show Q (.bl (!PyData.eqvAll (xs.map PyData.str) (ys.map PyData.str))) H
      rw [eqv_strs]
      exact q⟩
/-! ### what the top has left -/
structure Bt (mg : Str → Option Value) : Prop where
  len : mg "len" = none
  int : mg "int" = none
  sum : mg "sum" = none
  range : mg "range" = none
  str : mg "str" = none
  tuple : mg "tuple" = none
  list : mg "list" = none
  max : mg "max" = none
  abs : mg "abs" = none
  isi : mg "isinstance" = none
  all : mg "all" = none
  bool : mg "bool" = none
/-- the constants of the program; aS: where SAID stands, aM: MARKS, C: the class NoTerm -/
structure Cn (K : PySem.W.Frag) (w : World) (mg : Str → Option Value) (C aS aM : Addr) : Prop where
  big : ∃ t, mg "BIG" = some (.int BIG t)
  lets : ∃ t, mg "LETTERS" = some (.str lets t)
  figs : ∃ t, mg "FIGURES" = some (.str figs t)
  said : mg "SAID" = some (.ref aS)
  saidT : ∀ H, SqT K H aS (K22.said.map V.str)
  marks : mg "MARKS" = some (.ref aM)
  marksD : ∃ es n, KDict K w aM es n
  marksY : ∀ o : Bop, ∃ t, PySem.W.nsIn K aM o.sg = some (some (.str o.nm t))
  marksN : ∀ x : Str, bopOf x = none → PySem.W.nsIn K aM x = some none
  deepest : ∃ t, mg "DEEPEST" = some (.int 12 t)
  most : ∃ t, mg "MOST" = some (.int 200 t)
  noterm : mg "NoTerm" = some (.ref C)
  xP : PySem.W.excIn K C [.type "ValueError", .type "Exception", .type "BaseException", .type "object"] "ValueError.__new__" = true
  kP : PySem.W.keepIn K (.ref C) = true
  bP : PySem.W.subIn K (.ref C) (.type "BaseException") = some true
  tP : PySem.W.typeIn K (.ref C) = some (.type "type")
  eP : PySem.W.exmOne K (.ref C) (.ref C) = some true
/-! ### a comprehension that maps -/
theorem lc_map {J : It} {G : Hp → Prop} {xs : List V} (w : Walk J xs.length G (YAt xs)) {te : TE} {j : Nat} {σ : St} {H1 : Hp} {D : Addr} {Qd : Hp → Prop} (ys : List V) (hlen : ys.length = xs.length) (hsz : xs.length ≤ 8000) (hD : H1 D = none)
    (hG : ∀ H, Same H1 H → G H)
    (hs : ∀ (i : Nat) (x y : V) (H : Hp) (Q : VK), xs[i]? = some x → ys[i]? = some y → Same H1 H → (∀ H', Same H H' → Q y H') → te ((σ.set j none).set j (some x)) H Q)
    (hd : ∀ H, Same H1 H → H D = some (.lst ys) → Qd H) :
    ∃ W : Nat → Nat → Hp → Prop, (∃ m, W 0 m (upd H1 D (.lst []))) ∧ ∀ i m H, W i m H →
      (J.stop i H ∧ Qd H) ∨ (J.go i H ∧ ∃ Nx : Hp → Prop, (∀ H', Nx H' → ∃ m', m' < m ∧ W (i + 1) m' H') ∧ ∀ x H', J.yld i H x H' → gName j x (wipe σ [j]) H' fun σ2 H2 => wipe σ2 [j] = wipe σ [j] ∧ tYes σ2 H2 fun b H3 =>
        if b = true then te σ2 H3 fun y H4 => ∃ acc, H4 D = some (.lst acc) ∧ acc.length < sizeLine ∧ Nx (upd H4 D (.lst (acc ++ [y]))) else Nx H3) := by
  refine lc_it w (fun i H => Same H1 H ∧ H D = some (.lst (ys.take i))) ⟨same_new hD _, upd_same⟩ (fun i H _ h => hG H h.1) (fun i x H H' hi h y => ?_) (fun H h => hd H h.1 ?_)
  · obtain ⟨e, hx⟩ := y
    subst e
    obtain ⟨hS, hA⟩ := h
    have hy : ys[i]? = some (ys[i]'(by omega)) := List.getElem?_eq_getElem (by omega)
    refine ⟨?_, ?_⟩
    · show (((σ.set j none).set j (some x)).set j none) = σ.set j none
      rw [List.set_set, List.set_set]
    · unfold tYes
      dsimp only
      rw [if_pos rfl]
      refine hs i x _ H' _ hx hy hS fun H2 hS2 => ?_
      refine ⟨_, hS2 _ _ hA, ?_, ?_, ?_⟩
      · rw [List.length_take]
        exact small' (by omega)
      · exact fun b o q => by
          rw [upd_ne (ne_of_none q hD)]
          exact hS2 _ _ (hS b o q)
      · rw [upd_same, List.take_add_one, hy]
        rfl
  · rw [h.2, ← hlen, List.take_length]
/-- .. by its reading over a list that stands -/
theorem lcL {K : PySem.W.Frag} {te tl : TE} {j : Nat} {σ : St} {H : Hp} {Q : VK} (h : tl σ H fun v H1 => ∃ (a : Addr) (xs ys : List V), v = .ref a ∧ SqL K H1 a xs ∧ ys.length = xs.length ∧ xs.length ≤ 8000 ∧
      (∀ (i : Nat) (x y : V) (H' : Hp) (Q : VK), xs[i]? = some x → ys[i]? = some y → Same H1 H' → (∀ H2, Same H' H2 → Q y H2) → te ((σ.set j none).set j (some x)) H' Q) ∧
      ∀ (D : Addr) (H' : Hp), H1 D = none → Same H1 H' → H' D = some (.lst ys) → Q (.ref D) H')
    (mono : ∀ R R' : VK, (∀ v H', R v H' → R' v H') → tl σ H R → tl σ H R') : tLc (iList K tl) (gName j) tYes te [j] σ H Q := by
  refine mono _ _ (fun v H1 q => ?_) h
  obtain ⟨a, xs, ys, e, hx, hlen, hsz, hs, hd⟩ := q
  exact ⟨a, e, ⟨xs, hx⟩, fun D hD => lc_map (walk_list (K := K)) ys hlen hsz hD (fun H' e => e.seq hx) hs (fun H' e q => hd D H' hD e q)⟩
end K22
/-! F1: all_of, is_name, is_number, word_at. -/
namespace K22
open PySem L2
section
variable {P : Program} {w : World} {K : PySem.W.Frag} {mg : Str → Option Value} {base : Heap} {C aS aM : Addr}
/-! ### all_of -/
def spAll : Sp := fun vs H Q _ => ∃ x s : Str, vs = [.str x, .str s] ∧ Q (.bl (allOf x s)) H
theorem scAll : FnScope ["word", "signs", "sign"] ["word", "signs"] (defScope sAll) := ⟨rfl, rfl, rfl, by decide +kernel, rfl, by decide +kernel, by decide +kernel⟩
theorem ok_all {f : Addr} {fd : FuncData} (F : Fun K "all_of" "all_of" sAll f fd) : FnOk P w K mg base CX0 1 f fd ["word", "signs"] spAll := by
  refine F.ok scAll (fun vs H Q E h => ?_) (fun cdv A outer s H vs Q E hr h => ?_)
  · obtain ⟨x, s, rfl, _⟩ := h
    rfl
  obtain ⟨x, z, rfl, q⟩ := h
  refine ⟨_, pss_cons (ps_for PassesOwn.never rfl (pi_str (pv 0)) (pg_name (i := 2) scAll.nd rfl (.inl rfl))
    (pss_one (ps_if (pt_cmpR op_notIn_sign (pv 2) (pv 1) rfl) (pss_one (ps_ret pe_bl)) pss_nil)))
    (pss_one (ps_ret (pe_cmpR op_ne (pv 0) pe_str (nomark _)))), ?_⟩
  refine ⟨_, rfl, x, rfl, ?_⟩
  refine for_it walk_str (fun i σ H' => (∃ v, σ = [some (.str x), some (.str z), v]) ∧ H' = H ∧ ∀ c ∈ x.cps.toList.take i, c ∈ z.cps.toList) ⟨⟨_, rfl⟩, rfl, by simp⟩ (fun _ _ _ _ _ => trivial) ?_ ?_
  · rintro i v σ H1 H2 hi ⟨⟨u, rfl⟩, rfl, ha⟩ ⟨rfl, c, hc, rfl⟩
    refine ⟨_, rfl, _, rfl, c, z, rfl, rfl, _, rfl, ?_⟩
    refine ite2 (fun h => ?_) (fun h => ?_)
    · have hn : c ∉ z.cps.toList := by
        intro m
        rw [decide_eq_true m] at h
        exact Bool.noConfusion h
      have e : allOf x z = false := by
        unfold allOf
        have : x.cps.toList.all (fun c => decide (c ∈ z.cps.toList)) = false := by
          rw [List.all_eq_false]
          refine ⟨c, ?_, by simpa using hn⟩
          have hc' : x.cps.toList[i]? = some c := by simpa using hc
          exact List.mem_of_getElem? hc'
        rw [this]
        rfl
      rw [e] at q
      exact q
    · have hm : c ∈ z.cps.toList := by
        by_cases m : c ∈ z.cps.toList
        · exact m
        · rw [decide_eq_false m] at h
          exact absurd rfl h
      refine ⟨⟨_, rfl⟩, rfl, ?_⟩
      have hc' : x.cps.toList[i]? = some c := by simpa using hc
      rw [List.take_add_one, hc']
      intro d hd
      rcases List.mem_append.mp hd with hd | hd
      · exact ha d hd
      · have : d = c := by simpa using hd
        rw [this]
        exact hm
  · rintro σ H1 ⟨⟨u, rfl⟩, rfl, ha⟩
    refine ⟨_, rfl, rfl, ?_⟩
    have e : (!decide (V.str x = V.str "")) = allOf x z := by
      rw [dec_str]
      unfold allOf
      have : x.cps.toList.all (fun c => decide (c ∈ z.cps.toList)) = true := by
        rw [List.all_eq_true]
        intro c hc
        refine decide_eq_true (ha c ?_)
        have : x.cps.toList.take x.cps.size = x.cps.toList := List.take_of_length_le (by simp)
        rw [this]
        exact hc
      rw [this, Bool.true_and]
    rw [← e] at q
    exact q
/-! ### is_name -/
def spName : Sp := fun vs H Q _ => ∃ x : Str, vs = [.str x] ∧ x.length ≤ 1000 ∧ Q (.bl (isName x)) H
theorem scName : FnScope ["word"] ["word"] (defScope sName) := ⟨rfl, rfl, rfl, by decide +kernel, rfl, by decide +kernel, by decide +kernel⟩
theorem ok_name {f g : Addr} {fd gd : FuncData} (F : Fun K "is_name" "is_name" sName f fd) (T : Bt mg) (c : Cn K w mg C aS aM)
    (GA : FnOk P w K mg base CX0 1 g gd ["word", "signs"] spAll) (bA : Binds K gd ["word", "signs"] []) (kA : PySem.W.keepIn K (.ref g) = true) (mA : mg "all_of" = some (.ref g)) :
    FnOk P w K mg base CX0 2 f fd ["word"] spName := by
  refine F.ok scName (fun vs H Q E h => ?_) (fun cdv A outer s H vs Q E hr h => ?_)
  · obtain ⟨x, rfl, _⟩ := h
    rfl
  obtain ⟨x, rfl, hx, q⟩ := h
  obtain ⟨tl, hl⟩ := c.lets
  refine ⟨_, pss_one (ps_ret (pe_and (pe_cmpR op_le (pe_callB call_len_str (by rfl) T.len PySem.boot_len (pa_cons (pv 0) pa_nil)) pe_int (nomark _))
    (pe_and (pe_call GA hr (by rfl) mA kA bA .nil pass0 (pa_cons (pv 0) (pa_cons (pe_glob (v := .str K22.lets) rfl hl ⟨_, rfl⟩) pa_nil)))
    (pe_one (pe_cmpR op_notIn_seq (pv 0) (pe_glob (v := .ref aS) rfl c.said rfl) rfl))))), ?_⟩
  refine ⟨_, rfl, x, rfl, small (by omega), _, _, rfl, rfl, _, rfl, ?_⟩
  have e : isName x = (decide ((x.length : Int) ≤ 8) && (allOf x lets && !decide (x ∈ said))) := by
    unfold isName
    have : decide (x.length ≤ 8) = decide ((x.length : Int) ≤ 8) := decide_eq_decide.mpr (by omega)
    rw [this]
  rw [e] at q
  refine ite2 (fun h => ?_) (fun h => ?_)
  · rw [h, Bool.true_and] at q
    refine ⟨_, rfl, x, K22.lets, rfl, _, rfl, ?_⟩
    refine ite2 (fun h => ?_) (fun h => ?_)
    · rw [h, Bool.true_and] at q
      refine ⟨_, rfl, aS, _, rfl, .inr (c.saidT _), rfl, flat_strs _, ?_⟩
      rw [inV_str]
      exact q
    · rw [Bool.eq_false_iff.mpr h, Bool.false_and] at q
      exact q
  · rw [Bool.eq_false_iff.mpr h, Bool.false_and] at q
    exact q
/-! ### is_number -/
def spNumber : Sp := fun vs H Q _ => ∃ x : Str, vs = [.str x] ∧ x.length ≤ 1000 ∧ Q (.bl (isNum x)) H
theorem scNumber : FnScope ["word"] ["word"] (defScope sNumber) := ⟨rfl, rfl, rfl, by decide +kernel, rfl, by decide +kernel, by decide +kernel⟩
theorem ok_number {f g : Addr} {fd gd : FuncData} (F : Fun K "is_number" "is_number" sNumber f fd) (T : Bt mg) (c : Cn K w mg C aS aM)
    (GA : FnOk P w K mg base CX0 1 g gd ["word", "signs"] spAll) (bA : Binds K gd ["word", "signs"] []) (kA : PySem.W.keepIn K (.ref g) = true) (mA : mg "all_of" = some (.ref g)) :
    FnOk P w K mg base CX0 2 f fd ["word"] spNumber := by
  refine F.ok scNumber (fun vs H Q E h => ?_) (fun cdv A outer s H vs Q E hr h => ?_)
  · obtain ⟨x, rfl, _⟩ := h
    rfl
  obtain ⟨x, rfl, hx, q⟩ := h
  obtain ⟨tf, hf⟩ := c.figs
  obtain ⟨tb, hb⟩ := c.big
  refine ⟨_, pss_cons (ps_if (PW.pt (pw_or (pt_cmpR op_gt (pe_callB call_len_str (by rfl) T.len PySem.boot_len (pa_cons (pv 0) pa_nil)) pe_int (nomark _))
      (pw_or1 (pt_not (pt_val (pe_call GA hr (by rfl) mA kA bA .nil pass0 (pa_cons (pv 0) (pa_cons (pe_glob (v := .str K22.figs) rfl hf ⟨_, rfl⟩) pa_nil)))))))) (pss_one (ps_ret pe_bl)) pss_nil)
    (pss_cons (ps_if (PW.pt (pw_and (pt_cmpR op_eq (pe_ix ix_str (pv 0) pe_int (fun _ _ => rfl)) pe_str (nomark _)) (pw_and1 (pt_cmpR op_gt (pe_callB call_len_str (by rfl) T.len PySem.boot_len (pa_cons (pv 0) pa_nil)) pe_int (nomark _))))) (pss_one (ps_ret pe_bl)) pss_nil)
    (pss_one (ps_ret (pe_cmpR op_le (pe_callTy call_int_str (by rfl) T.int (by decide +kernel) (pa_cons (pv 0) pa_nil)) (pe_glob (v := .int BIG) rfl hb ⟨_, rfl⟩) (nomark _))))), ?_⟩
  refine ⟨_, rfl, x, rfl, small (by omega), _, _, rfl, rfl, _, rfl, ?_⟩
  have no : ∀ {p : Prop}, (isNum x = true → p) → ¬ p → isNum x = false := fun h n => Bool.eq_false_iff.mpr fun e => n (h e)
  refine ite2 (fun h => ?_) (fun h => ?_)
  · have h : (x.length : Int) > 31 := of_decide_eq_true h
    have e : isNum x = false := no (p := x.length ≤ 31) (fun e => (isNum_parts e).1) (by omega)
    rw [e] at q
    exact q
  · have hl : ¬ (x.length : Int) > 31 := fun z => h (decide_eq_true z)
    refine ⟨_, rfl, x, K22.figs, rfl, _, rfl, ?_⟩
    refine ite2 (fun h => ?_) (fun h => ?_)
    · have e : isNum x = false := no (p := allOf x figs = true) (fun e => (isNum_parts e).2.1) (by intro z; rw [z] at h; exact Bool.noConfusion h)
      rw [e] at q
      exact q
    · have ha : allOf x figs = true := by
        cases e : allOf x figs with
        | true => rfl
        | false =>
          rw [e] at h
          exact absurd rfl h
      have hne := tl_ne (allOf_ne ha)
      obtain ⟨d, r, hd⟩ : ∃ d r, x.cps.toList = d :: r := by
        cases e : x.cps.toList with
        | nil => exact absurd e hne
        | cons d r => exact ⟨d, r, rfl⟩
      have h0 : atI x.cps.toList ((0 : Nat) : Int) = some d := atI_nat (by rw [hd]; rfl)
      have hz : decide (V.str ⟨#[d]⟩ = V.str "0") = decide (x.cps.toList.head? = some 48) := by
        rw [dec_str, hd]
        refine decide_eq_decide.mpr ⟨fun e => ?_, fun e => ?_⟩
        · have := congrArg (fun y : Str => y.cps.toList) e
          rw [tls] at this
          have : [d] = [48] := this
          rw [List.head?_cons, List.head_eq_of_cons_eq this]
        · have e : d = 48 := Option.some.inj e
          subst e
          decide +kernel
      refine ⟨_, rfl, x, 0, d, rfl, rfl, small (by omega), h0, rfl, _, rfl, ?_⟩
      have last : ¬ (x.cps.toList.head? = some 48 ∧ 1 < x.length) → Q (.bl (decide (((val x : Nat) : Int) ≤ BIG))) H := fun hn => by
        have e : isNum x = decide (((val x : Nat) : Int) ≤ BIG) := by
          by_cases hv : val x ≤ 1000000000000000000000000000000
          · rw [isNum_of (by omega) ha hn hv, decide_eq_true (show ((val x : Nat) : Int) ≤ BIG by show ((val x : Nat) : Int) ≤ 1000000000000000000000000000000; omega)]
          · rw [no (p := val x ≤ 1000000000000000000000000000000) (fun e => (isNum_parts e).2.2.2) hv, decide_eq_false (show ¬ ((val x : Nat) : Int) ≤ BIG by show ¬ ((val x : Nat) : Int) ≤ 1000000000000000000000000000000; omega)]
        rw [e] at q
        exact q
      have go : ¬ (x.cps.toList.head? = some 48 ∧ 1 < x.length) → ∃ v, [some (V.str x)][0]? = some (some v) ∧ ∃ a n, [v] = [V.str a] ∧ PySem.intText? a = some n ∧ a.length ≤ 640 ∧
          ∃ i j, V.int n = V.int i ∧ V.int BIG = V.int j ∧ Q (.bl (decide (i ≤ j))) H := fun hn =>
        ⟨_, rfl, x, _, rfl, int_word ha (by omega), by omega, _, _, rfl, rfl, last hn⟩
      refine ite2 (fun h => ?_) (fun h => ?_)
      · rw [hz] at h
        refine ⟨_, rfl, x, rfl, small (by omega), _, _, rfl, rfl, _, rfl, ?_⟩
        refine ite2 (fun h2 => ?_) (fun h2 => ?_)
        · have h2 : (x.length : Int) > 1 := of_decide_eq_true h2
          have e : isNum x = false := no (p := ¬ (x.cps.toList.head? = some 48 ∧ 1 < x.length)) (fun e => (isNum_parts e).2.2.1) (fun z => z ⟨of_decide_eq_true h, by omega⟩)
          rw [e] at q
          exact q
        · have h2 : ¬ (x.length : Int) > 1 := fun z => h2 (decide_eq_true z)
          exact go fun z => h2 (by omega)
      · rw [hz] at h
        exact go fun z => h (decide_eq_true z.1)
/-! ### word_at -/
def spWat (K : PySem.W.Frag) : Sp := fun vs H Q _ => ∃ (a : Addr) (ws : List Str) (i : Nat), vs = [.ref a, .int (i : Int)] ∧ SqL K H a (ws.map V.str) ∧ Q (.str (wat ws i)) H
theorem scWat : FnScope ["words", "at"] ["words", "at"] (defScope sWat) := ⟨rfl, rfl, rfl, by decide +kernel, rfl, by decide +kernel, by decide +kernel⟩
theorem ok_wat {f : Addr} {fd : FuncData} (F : Fun K "word_at" "word_at" sWat f fd) (T : Bt mg) : FnOk P w K mg base CX0 1 f fd ["words", "at"] (spWat K) := by
  refine F.ok scWat (fun vs H Q E h => ?_) (fun cdv A outer s H vs Q E hr h => ?_)
  · obtain ⟨a, ws, i, rfl, _⟩ := h
    rfl
  obtain ⟨a, ws, i, rfl, hS, q⟩ := h
  refine ⟨_, pss_cons (ps_if (pt_cmpR op_lt (pv 1) (pe_callB call_len_seq (by rfl) T.len PySem.boot_len (pa_cons (pv 0) pa_nil)) (nomark _)) (pss_one (ps_ret (pe_ix ix_list (pv 0) (pv 1) (fun _ _ => rfl)))) pss_nil)
    (pss_one (ps_ret pe_str)), ?_⟩
  refine ⟨_, rfl, _, rfl, a, _, rfl, .inl hS, _, _, rfl, rfl, _, rfl, ?_⟩
  refine ite2 (fun h => ?_) (fun h => ?_)
  · have h : (i : Int) < (((ws.map V.str).length : Nat) : Int) := of_decide_eq_true h
    rw [List.length_map] at h
    have hi : i < ws.length := by omega
    have e : wat ws i = ws[i] := wat_of (List.getElem?_eq_getElem hi)
    rw [e] at q
    exact ⟨_, rfl, _, rfl, a, _, _, _, rfl, rfl, hS, atI_nat (by rw [List.getElem?_map, List.getElem?_eq_getElem hi]; rfl), q⟩
  · have h : ¬ (i : Int) < (((ws.map V.str).length : Nat) : Int) := fun z => h (decide_eq_true z)
    rw [List.length_map] at h
    rw [wat_ge (by omega)] at q
    exact q
end
end K22
/-! F2: number_at, place_behind; what is called, in one piece. -/
namespace K22
open PySem L2
/-- a def as its callers see it -/
structure Dn (P : Program) (w : World) (K : PySem.W.Frag) (mg : Str → Option Value) (base : Heap) (CX : CXT) (k : Nat) (x : Str) (f : Addr) (fd : FuncData) (ps : List Str) (sp : Sp) : Prop where
  ok : FnOk P w K mg base CX k f fd ps sp
  b : Binds K fd ps []
  kp : PySem.W.keepIn K (.ref f) = true
  m : mg x = some (.ref f)
section
variable {X : Cx} {CX : CXT} {k j : Nat} {f : Addr} {fd : FuncData} {ps : List Str} {sp : Sp} {E : XK} {x : Str} {p pos : Pos} {e : Expr} {es : List Expr} {t : TA}
theorem pe_d (D : Dn X.prog X.w X.K X.mg X.base CX0 k x f fd ps sp) (hr : Room j X.A) (hk : k ≤ j) (hg : Gl X x)
    (ha : PA X (e :: es) t) (hdb : (x == ("__debug__" : Str)) = false := by decide) (he : starEach (e :: es) X.env = (false, eval e X.env) :: starEach es X.env := by rfl) (hpl : (backTo pos (starEach es X.env)).any (·.1) = false := by rfl) :
    PE X (.Call (.Name x p) (e :: es) [] pos) (tCall sp [] E0 t) := pe_call D.ok (hr.mono hk) hg D.m D.kp D.b .nil pass0 ha hdb he hpl
theorem pe_dx (D : Dn X.prog X.w X.K X.mg X.base CX k x f fd ps sp) (hr : Room j X.A) (hk : k ≤ j) (hx : Passes CX X E) (hg : Gl X x)
    (ha : PA X (e :: es) t) (hdb : (x == ("__debug__" : Str)) = false := by decide) (he : starEach (e :: es) X.env = (false, eval e X.env) :: starEach es X.env := by rfl) (hpl : (backTo pos (starEach es X.env)).any (·.1) = false := by rfl) :
    PE X (.Call (.Name x p) (e :: es) [] pos) (tCall sp [] E t) := pe_call D.ok (hr.mono hk) hg D.m D.kp D.b .nil hx ha hdb he hpl
end
section
variable {P : Program} {w : World} {K : PySem.W.Frag} {mg : Str → Option Value} {base : Heap} {C aS aM : Addr}
/-! ### number_at -/
def spNumAt (K : PySem.W.Frag) (C : Addr) : Sp := fun vs H Q E => ∃ (a : Addr) (ws : List Str) (i : Nat), vs = [.ref a, .int (i : Int)] ∧ SqL K H a (ws.map V.str) ∧ Wok ws ∧
  (∀ n s, numAt ws i = some (n, s) → ∀ p, H p = none → Q (.ref p) (upd H p (.tup [.int n, .int (s : Int)]))) ∧ (numAt ws i = none → E (.ref C) none H)
theorem scNumAt : FnScope ["words", "at"] ["words", "at"] (defScope sNumAt) := ⟨rfl, rfl, rfl, by decide +kernel, rfl, by decide +kernel, by decide +kernel⟩
/-- int of the word at a place -/
theorem at_word {ws : List Str} {i : Nat} (h : isNum (wat ws i) = true) : atI (ws.map V.str) ((i : Nat) : Int) = some (.str (wat ws i)) := by
  refine atI_nat ?_
  have e := wat_some (ws := ws) (i := i) rfl (allOf_ne (isNum_parts h).2.1)
  rw [List.getElem?_map, e]
  rfl
theorem ok_numAt {f fW fN : Addr} {fd dW dN : FuncData} (F : Fun K "number_at" "number_at" sNumAt f fd) (T : Bt mg) (c : Cn K w mg C aS aM)
    (W : Dn P w K mg base CX0 1 "word_at" fW dW ["words", "at"] (spWat K)) (N : Dn P w K mg base CX0 2 "is_number" fN dN ["word"] spNumber) :
    FnOk P w K mg base (L2.CX P w) 3 f fd ["words", "at"] (spNumAt K C) := by
  refine F.okX scNumAt (fun vs H Q E h => ?_) (fun cdv A outer s H vs Q E hr h => ?_)
  · obtain ⟨a, ws, i, rfl, _⟩ := h
    rfl
  obtain ⟨a, ws, i, rfl, hS, hW, q, qE⟩ := h
  refine ⟨_, pss_cons (ps_if (pt_cmpR op_eq (pe_d W hr (by decide) (by rfl) (pa_cons (pv 0) (pa_cons (pv 1) pa_nil))) pe_str (nomark _))
      (pss_cons (ps_if (pt_not (pt_val (pe_d N hr (by decide) (by rfl) (pa_cons (pe_d W hr (by decide) (by rfl) (pa_cons (pv 0) (pa_cons (pe_op op_add (pv 1) pe_int) pa_nil))) pa_nil))))
        (pss_one (ps_raise rfl (takes_of rfl rfl rfl rfl) (pmk_own PySem.F.excBase_ValueError c.xP c.noterm c.kP (raises_own c.bP c.tP) rfl))) pss_nil)
      (pss_one (ps_ret (pe_tup (pa_cons (pe_un un_neg (pe_callTy call_int_str (by rfl) T.int (by decide +kernel) (pa_cons (pe_ix ix_list (pv 0) (pe_op op_add (pv 1) pe_int) (fun _ _ => rfl)) pa_nil))) (pa_cons (pe_op op_add (pv 1) pe_int) pa_nil)))))) pss_nil)
    (pss_cons (ps_if (pt_not (pt_val (pe_d N hr (by decide) (by rfl) (pa_cons (pe_d W hr (by decide) (by rfl) (pa_cons (pv 0) (pa_cons (pv 1) pa_nil))) pa_nil))))
        (pss_one (ps_raise rfl (takes_of rfl rfl rfl rfl) (pmk_own PySem.F.excBase_ValueError c.xP c.noterm c.kP (raises_own c.bP c.tP) rfl))) pss_nil)
    (pss_one (ps_ret (pe_tup (pa_cons (pe_callTy call_int_str (by rfl) T.int (by decide +kernel) (pa_cons (pe_ix ix_list (pv 0) (pv 1) (fun _ _ => rfl)) pa_nil)) (pa_cons (pe_op op_add (pv 1) pe_int) pa_nil)))))), ?_⟩
  refine ⟨_, rfl, _, rfl, a, ws, i, rfl, hS, rfl, _, rfl, ?_⟩
  rw [dec_str]
  refine ite2 (fun h => ?_) (fun h => ?_)
  · have h : wat ws i = Str.ofString "-" := of_decide_eq_true h
    refine ⟨_, rfl, _, rfl, _, _, rfl, rfl, a, ws, i + 1, rfl, hS, _, rfl, hW.wat _, _, rfl, ?_⟩
    refine ite2 (fun h2 => ?_) (fun h2 => ?_)
    · refine qE ?_
      unfold numAt
      rw [if_pos h]
      cases e : isNum (wat ws (i + 1)) with
      | false => rfl
      | true =>
        rw [e] at h2
        exact Bool.noConfusion h2
    · have e : isNum (wat ws (i + 1)) = true := by
        cases e : isNum (wat ws (i + 1)) with
        | true => rfl
        | false =>
          rw [e] at h2
          exact absurd rfl h2
      refine ⟨_, rfl, _, rfl, _, _, rfl, rfl, a, _, _, _, rfl, rfl, hS, at_word e, _, _, rfl, int_word (isNum_parts e).2.1 (Nat.le_trans (isNum_parts e).1 (by decide)), Nat.le_trans (isNum_parts e).1 (by decide),
        _, rfl, _, rfl, _, _, rfl, rfl, by show 2 ≤ sizeLine; decide, fun p hp => q _ _ ?_ p hp⟩
      unfold numAt
      rw [if_pos h, if_pos e]
  · have h : ¬ wat ws i = Str.ofString "-" := fun z => h (decide_eq_true z)
    refine ⟨_, rfl, _, rfl, a, ws, i, rfl, hS, _, rfl, hW.wat _, _, rfl, ?_⟩
    refine ite2 (fun h2 => ?_) (fun h2 => ?_)
    · refine qE ?_
      unfold numAt
      rw [if_neg h]
      cases e : isNum (wat ws i) with
      | false => rfl
      | true =>
        rw [e] at h2
        exact Bool.noConfusion h2
    · have e : isNum (wat ws i) = true := by
        cases e : isNum (wat ws i) with
        | true => rfl
        | false =>
          rw [e] at h2
          exact absurd rfl h2
      refine ⟨_, rfl, _, rfl, a, _, _, _, rfl, rfl, hS, at_word e, _, _, rfl, int_word (isNum_parts e).2.1 (Nat.le_trans (isNum_parts e).1 (by decide)), Nat.le_trans (isNum_parts e).1 (by decide),
        _, rfl, _, _, rfl, rfl, by show 2 ≤ sizeLine; decide, fun p hp => q _ _ ?_ p hp⟩
      unfold numAt
      rw [if_neg h, if_pos e]
/-! ### place_behind -/
def spDue (K : PySem.W.Frag) (C : Addr) : Sp := fun vs H Q E => ∃ (a : Addr) (ws : List Str) (i : Nat) (x : Str), vs = [.ref a, .int (i : Int), .str x] ∧ SqL K H a (ws.map V.str) ∧
  (wat ws i = x → Q (.int ((i + 1 : Nat) : Int)) H) ∧ (wat ws i ≠ x → E (.ref C) none H)
theorem scDue : FnScope ["words", "at", "due"] ["words", "at", "due"] (defScope sDue) := ⟨rfl, rfl, rfl, by decide +kernel, rfl, by decide +kernel, by decide +kernel⟩
theorem ok_due {f fW : Addr} {fd dW : FuncData} (F : Fun K "place_behind" "place_behind" sDue f fd) (c : Cn K w mg C aS aM)
    (W : Dn P w K mg base CX0 1 "word_at" fW dW ["words", "at"] (spWat K)) : FnOk P w K mg base (L2.CX P w) 2 f fd ["words", "at", "due"] (spDue K C) := by
  refine F.okX scDue (fun vs H Q E h => ?_) (fun cdv A outer s H vs Q E hr h => ?_)
  · obtain ⟨a, ws, i, x, rfl, _⟩ := h
    rfl
  obtain ⟨a, ws, i, x, rfl, hS, q, qE⟩ := h
  refine ⟨_, pss_cons (ps_if (pt_cmpR op_ne (pe_d W hr (by decide) (by rfl) (pa_cons (pv 0) (pa_cons (pv 1) pa_nil))) (pv 2) (nomark _))
        (pss_one (ps_raise rfl (takes_of rfl rfl rfl rfl) (pmk_own PySem.F.excBase_ValueError c.xP c.noterm c.kP (raises_own c.bP c.tP) rfl))) pss_nil)
    (pss_one (ps_ret (pe_op op_add (pv 1) pe_int))), ?_⟩
  refine ⟨_, rfl, _, rfl, a, ws, i, rfl, hS, _, rfl, rfl, _, rfl, ?_⟩
  rw [dec_str]
  refine ite2 (fun h => ?_) (fun h => ?_)
  · refine qE fun z => ?_
    rw [decide_eq_true z] at h
    exact Bool.noConfusion h
  · refine ⟨_, rfl, _, _, rfl, rfl, q ?_⟩
    by_cases z : wat ws i = x
    · exact z
    · rw [decide_eq_false z] at h
      exact absurd rfl h
end
end K22
/-! F3: bracket_at, term_at. -/
namespace K22
open PySem L2
section
variable {P : Program} {w : World} {K : PySem.W.Frag} {mg : Str → Option Value} {base : Heap} {C aS aM : Addr}
/-- the reader's promise, the place's reader being p -/
def spRead (K : PySem.W.Frag) (C : Addr) (p : List Str → Nat → Nat → Option (Tm × Nat)) (n : Nat) : Sp := fun vs H Q E => ∃ (a : Addr) (ws : List Str) (i d : Nat), vs = [.ref a, .int (i : Int), .int (d : Int)] ∧ SqL K H a (ws.map V.str) ∧ Wok ws ∧ d < n ∧
  (∀ t s, p ws d i = some (t, s) → ∀ (v : V) (r : Addr) (H' : Hp), Same H H' → TmAt H' v t → H' r = some (.tup [v, .int (s : Int)]) → Q (.ref r) H') ∧ (p ws d i = none → ∀ H', Same H H' → E (.ref C) none H')
abbrev spBr (K : PySem.W.Frag) (C : Addr) (n : Nat) : Sp := spRead K C (fun ws d i => brack (parse ws d) ws i) n
abbrev spTa (K : PySem.W.Frag) (C : Addr) (n : Nat) : Sp := spRead K C parse n
theorem scBr : FnScope ["words", "at", "deep", "one", "stop", "mark", "two", "three"] ["words", "at", "deep"] (defScope sBrack) := ⟨rfl, rfl, rfl, by decide +kernel, rfl, by decide +kernel, by decide +kernel⟩
theorem scTa : FnScope ["words", "at", "deep", "word", "part", "stop", "number"] ["words", "at", "deep"] (defScope sTermAt) := ⟨rfl, rfl, rfl, by decide +kernel, rfl, by decide +kernel, by decide +kernel⟩
theorem ok_br {n k : Nat} {f fW fD fT : Addr} {fd dW dD dT : FuncData} (hk : 4 ≤ k) (F : Fun K "bracket_at" "bracket_at" sBrack f fd) (c : Cn K w mg C aS aM)
    (W : Dn P w K mg base CX0 1 "word_at" fW dW ["words", "at"] (spWat K)) (D : Dn P w K mg base (L2.CX P w) 2 "place_behind" fD dD ["words", "at", "due"] (spDue K C))
    (G : Dn P w K mg base (L2.CX P w) k "term_at" fT dT ["words", "at", "deep"] (spTa K C n)) :
    FnOk P w K mg base (L2.CX P w) (k + 1) f fd ["words", "at", "deep"] (spBr K C n) := by
  refine F.okX scBr (fun vs H Q E h => ?_) (fun cdv A outer s H vs Q E hr h => ?_)
  · obtain ⟨a, ws, i, d, rfl, _⟩ := h
    rfl
  obtain ⟨a, ws, i, d, rfl, hS, hW, hd, q, qE⟩ := h
  obtain ⟨es, n0, KD⟩ := c.marksD
  refine ⟨_, pss_cons (ps_asg (pe_dx G hr (by omega) (passes_call (takes_of rfl rfl rfl rfl) (fun _ _ _ _ h => h)) (by rfl) (pa_cons (pv 0) (pa_cons (pv 1) (pa_cons (pv 2) pa_nil))))
      (pg_tup rfl (pgs_cons (pg_name (i := 3) scBr.nd rfl (.inl rfl)) (pgs_cons (pg_name (i := 4) scBr.nd rfl (.inl rfl)) pgs_nil))))
    (pss_cons (ps_set (i := 5) scBr.nd rfl (.inl rfl) (pe_d W hr (by omega) (by rfl) (pa_cons (pv 0) (pa_cons (pv 4) pa_nil))))
    (pss_cons (ps_if (pt_cmpR op_eq (pv 5) pe_str (nomark _))
      (pss_cons (ps_asg (pe_dx G hr (by omega) (passes_call (takes_of rfl rfl rfl rfl) (fun _ _ _ _ h => h)) (by rfl) (pa_cons (pv 0) (pa_cons (pe_op op_add (pv 4) pe_int) (pa_cons (pv 2) pa_nil))))
        (pg_tup rfl (pgs_cons (pg_name (i := 6) scBr.nd rfl (.inl rfl)) (pgs_cons (pg_name (i := 4) scBr.nd rfl (.inl rfl)) pgs_nil))))
      (pss_cons (ps_asg (pe_dx G hr (by omega) (passes_call (takes_of rfl rfl rfl rfl) (fun _ _ _ _ h => h)) (by rfl) (pa_cons (pv 0) (pa_cons (pe_dx D hr (by omega) (passes_call (takes_of rfl rfl rfl rfl) (fun _ _ _ _ h => h)) (by rfl) (pa_cons (pv 0) (pa_cons (pv 4) (pa_cons pe_str pa_nil)))) (pa_cons (pv 2) pa_nil))))
        (pg_tup rfl (pgs_cons (pg_name (i := 7) scBr.nd rfl (.inl rfl)) (pgs_cons (pg_name (i := 4) scBr.nd rfl (.inl rfl)) pgs_nil))))
      (pss_one (ps_ret (pe_tup (pa_cons (pe_tup (pa_cons pe_str (pa_cons (pv 3) (pa_cons (pv 6) (pa_cons (pv 7) pa_nil)))))
        (pa_cons (pe_dx D hr (by omega) (passes_call (takes_of rfl rfl rfl rfl) (fun _ _ _ _ h => h)) (by rfl) (pa_cons (pv 0) (pa_cons (pv 4) (pa_cons pe_str pa_nil)))) pa_nil))))))) pss_nil)
    (pss_cons (ps_if (pt_cmpR (op_notIn_kd KD) (pv 5) (pe_glob (v := .ref aM) rfl c.marks rfl) rfl) (pss_one (ps_raise rfl (takes_of rfl rfl rfl rfl) (pmk_own PySem.F.excBase_ValueError c.xP c.noterm c.kP (raises_own c.bP c.tP) rfl))) pss_nil)
    (pss_cons (ps_asg (pe_dx G hr (by omega) (passes_call (takes_of rfl rfl rfl rfl) (fun _ _ _ _ h => h)) (by rfl) (pa_cons (pv 0) (pa_cons (pe_op op_add (pv 4) pe_int) (pa_cons (pv 2) pa_nil))))
        (pg_tup rfl (pgs_cons (pg_name (i := 6) scBr.nd rfl (.inl rfl)) (pgs_cons (pg_name (i := 4) scBr.nd rfl (.inl rfl)) pgs_nil))))
    (pss_one (ps_ret (pe_tup (pa_cons (pe_tup (pa_cons (pe_ix ix_kdict (pe_glob (v := .ref aM) rfl c.marks rfl) (pv 5) (fun _ _ => rfl)) (pa_cons (pv 3) (pa_cons (pv 6) pa_nil))))
        (pa_cons (pe_dx D hr (by omega) (passes_call (takes_of rfl rfl rfl rfl) (fun _ _ _ _ h => h)) (by rfl) (pa_cons (pv 0) (pa_cons (pv 4) (pa_cons pe_str pa_nil)))) pa_nil))))))))), ?_⟩
  refine ⟨_, rfl, _, rfl, _, rfl, a, ws, i, d, rfl, hS, hW, hd, fun t s e1 v r H1 g1 tm1 hr1 => ?_, fun e1 H1 g1 => qE (by show brack (parse ws d) ws i = none; unfold brack; rw [e1]) H1 g1⟩
  refine ⟨r, _, rfl, .inl (.inl hr1), rfl, _, _, rfl, _, _, rfl, rfl, ?_⟩
  refine ⟨_, rfl, _, rfl, a, ws, s, rfl, g1.seq hS, ?_⟩
  refine ⟨_, rfl, rfl, _, rfl, ?_⟩
  rw [dec_str]
  refine ite2 (fun h => ?_) (fun h => ?_)
  · have h : wat ws s = Str.ofString "?" := of_decide_eq_true h
    refine ⟨_, rfl, _, rfl, _, _, rfl, rfl, _, rfl, a, ws, s + 1, d, rfl, g1.seq hS, hW, hd, fun t2 s2 e2 v2 r2 H2 g2 tm2 hr2 => ?_, fun e2 H2 g2 => qE (by show brack (parse ws d) ws i = none; unfold brack; rw [e1]; simp only; rw [if_pos h, e2]) H2 (g1.trans g2)⟩
    refine ⟨r2, _, rfl, .inl (.inl hr2), rfl, _, _, rfl, _, _, rfl, rfl, ?_⟩
    have g12 := g1.trans g2
    refine ⟨_, rfl, _, rfl, _, rfl, a, ws, s2, _, rfl, g12.seq hS, fun h3 => ?_, fun h3 => qE (by show brack (parse ws d) ws i = none; unfold brack; rw [e1]; simp only; rw [if_pos h, e2]; simp only; rw [if_neg h3]) H2 g12⟩
    refine ⟨_, rfl, a, ws, s2 + 1, d, rfl, g12.seq hS, hW, hd, fun t3 s3 e3 v3 r3 H3 g3 tm3 hr3 => ?_, fun e3 H3 g3 => qE (by show brack (parse ws d) ws i = none; unfold brack; rw [e1]; simp only; rw [if_pos h, e2]; simp only; rw [if_pos h3, e3]) H3 (g12.trans g3)⟩
    refine ⟨r3, _, rfl, .inl (.inl hr3), rfl, _, _, rfl, _, _, rfl, rfl, ?_⟩
    have g13 := g12.trans g3
    refine ⟨_, rfl, _, rfl, _, rfl, by show 4 ≤ sizeLine; decide, fun p hp => ?_⟩
    have g14 := g13.trans (same_new hp (.tup [st "pick", v, v2, v3]))
    refine ⟨_, rfl, _, rfl, a, ws, s3, _, rfl, g14.seq hS, fun h4 => ?_, fun h4 => qE (by show brack (parse ws d) ws i = none; unfold brack; rw [e1]; simp only; rw [if_pos h, e2]; simp only; rw [if_pos h3, e3]; simp only; rw [if_neg h4]) _ g14⟩
    refine ⟨by show 2 ≤ sizeLine; decide, fun p2 hp2 => ?_⟩
    have gp := same_new hp (.tup [st "pick", v, v2, v3])
    have gp2 := same_new hp2 (.tup [.ref p, .int ((s3 + 1 : Nat) : Int)])
    refine q (.pick t t2 t3) (s3 + 1) ?_ (.ref p) p2 _ (g14.trans gp2) (.pick (gp2 _ _ upd_same) ?_ ?_ ?_) upd_same
    · show brack (parse ws d) ws i = some (.pick t t2 t3, s3 + 1)
      unfold brack
      rw [e1]
      simp only
      rw [if_pos h, e2]
      simp only
      rw [if_pos h3, e3]
      simp only
      rw [if_pos h4]
    · exact (((tm1.mono g2).mono g3).mono gp).mono gp2
    · exact ((tm2.mono g3).mono gp).mono gp2
    · exact (tm3.mono gp).mono gp2
  · have h : ¬ wat ws s = Str.ofString "?" := fun z => h (decide_eq_true z)
    cases eo : bopOf (wat ws s) with
    | none =>
      refine ⟨_, rfl, wat ws s, _, rfl, rfl, c.marksN _ eo, _, rfl, ?_⟩
      refine iteT ?_
      refine qE ?_ H1 g1
      show brack (parse ws d) ws i = none
      unfold brack
      rw [e1]
      simp only
      rw [if_neg h, eo]
    | some o =>
      have es' := bopOf_sg eo
      obtain ⟨tk, hY⟩ := c.marksY o
      rw [← es'] at hY
      refine ⟨_, rfl, wat ws s, _, rfl, rfl, hY, _, rfl, ?_⟩
      refine iteF ?_
      refine ⟨_, rfl, _, rfl, _, _, rfl, rfl, _, rfl, a, ws, s + 1, d, rfl, g1.seq hS, hW, hd, fun t2 s2 e2 v2 r2 H2 g2 tm2 hr2 => ?_, fun e2 H2 g2 => qE (by show brack (parse ws d) ws i = none; unfold brack; rw [e1]; simp only; rw [if_neg h, eo]; simp only; rw [e2]) H2 (g1.trans g2)⟩
      refine ⟨r2, _, rfl, .inl (.inl hr2), rfl, _, _, rfl, _, _, rfl, rfl, ?_⟩
      have g12 := g1.trans g2
      refine ⟨_, rfl, aM, wat ws s, .str o.nm, rfl, rfl, ⟨es, n0, _, KD.at_, KD.lit, hY, ⟨_, rfl⟩⟩, _, rfl, _, rfl, by show 3 ≤ sizeLine; decide, fun p hp => ?_⟩
      have gp := same_new hp (.tup [.str o.nm, v, v2])
      have g14 := g12.trans gp
      refine ⟨_, rfl, _, rfl, a, ws, s2, _, rfl, g14.seq hS, fun h4 => ?_, fun h4 => qE (by show brack (parse ws d) ws i = none; unfold brack; rw [e1]; simp only; rw [if_neg h, eo]; simp only; rw [e2]; simp only; rw [if_neg h4]) _ g14⟩
      refine ⟨by show 2 ≤ sizeLine; decide, fun p2 hp2 => ?_⟩
      have gp2 := same_new hp2 (.tup [.ref p, .int ((s2 + 1 : Nat) : Int)])
      refine q (.bin o t t2) (s2 + 1) ?_ (.ref p) p2 _ (g14.trans gp2) (.bin (gp2 _ _ upd_same) ?_ ?_) upd_same
      · show brack (parse ws d) ws i = some (.bin o t t2, s2 + 1)
        unfold brack
        rw [e1]
        simp only
        rw [if_neg h, eo]
        simp only
        rw [e2]
        simp only
        rw [if_pos h4]
      · exact ((tm1.mono g2).mono gp).mono gp2
      · exact (tm2.mono gp).mono gp2
theorem ok_ta {n k : Nat} {f fW fN fA fB fT : Addr} {fd dW dN dA dB dT : FuncData} (hk : 4 ≤ k) (F : Fun K "term_at" "term_at" sTermAt f fd) (c : Cn K w mg C aS aM)
    (W : Dn P w K mg base CX0 1 "word_at" fW dW ["words", "at"] (spWat K)) (N : Dn P w K mg base CX0 2 "is_name" fN dN ["word"] spName) (NA : Dn P w K mg base (L2.CX P w) 3 "number_at" fA dA ["words", "at"] (spNumAt K C))
    (B : Dn P w K mg base (L2.CX P w) (k + 1) "bracket_at" fB dB ["words", "at", "deep"] (spBr K C n)) (G : Dn P w K mg base (L2.CX P w) k "term_at" fT dT ["words", "at", "deep"] (spTa K C n)) :
    FnOk P w K mg base (L2.CX P w) (k + 2) f fd ["words", "at", "deep"] (spTa K C (n + 1)) := by
  refine F.okX scTa (fun vs H Q E h => ?_) (fun cdv A outer s H vs Q E hr h => ?_)
  · obtain ⟨a, ws, i, d, rfl, _⟩ := h
    rfl
  obtain ⟨a, ws, i, d, rfl, hS, hW, hd, q, qE⟩ := h
  refine ⟨_, pss_cons (ps_if (pt_cmpR op_eq (pv 2) pe_int (nomark _)) (pss_one (ps_raise rfl (takes_of rfl rfl rfl rfl) (pmk_own PySem.F.excBase_ValueError c.xP c.noterm c.kP (raises_own c.bP c.tP) rfl))) pss_nil)
    (pss_cons (ps_set (i := 3) scTa.nd rfl (.inl rfl) (pe_d W hr (by omega) (by rfl) (pa_cons (pv 0) (pa_cons (pv 1) pa_nil))))
    (pss_cons (ps_if (pt_cmpR op_eq (pv 3) pe_str (nomark _))
      (pss_cons (ps_asg (pe_dx G hr (by omega) (passes_call (takes_of rfl rfl rfl rfl) (fun _ _ _ _ h => h)) (by rfl) (pa_cons (pv 0) (pa_cons (pe_op op_add (pv 1) pe_int) (pa_cons (pe_op op_sub (pv 2) pe_int) pa_nil))))
        (pg_tup rfl (pgs_cons (pg_name (i := 4) scTa.nd rfl (.inl rfl)) (pgs_cons (pg_name (i := 5) scTa.nd rfl (.inl rfl)) pgs_nil))))
      (pss_one (ps_ret (pe_tup (pa_cons (pe_tup (pa_cons pe_str (pa_cons (pv 4) pa_nil))) (pa_cons (pv 5) pa_nil)))))) pss_nil)
    (pss_cons (ps_if (pt_cmpR op_eq (pv 3) pe_str (nomark _))
      (pss_one (ps_ret (pe_dx B hr (by omega) (passes_call (takes_of rfl rfl rfl rfl) (fun _ _ _ _ h => h)) (by rfl) (pa_cons (pv 0) (pa_cons (pe_op op_add (pv 1) pe_int) (pa_cons (pe_op op_sub (pv 2) pe_int) pa_nil)))))) pss_nil)
    (pss_cons (ps_if (pt_val (pe_d N hr (by omega) (by rfl) (pa_cons (pv 3) pa_nil)))
      (pss_one (ps_ret (pe_tup (pa_cons (pe_tup (pa_cons pe_str (pa_cons (pv 3) pa_nil))) (pa_cons (pe_op op_add (pv 1) pe_int) pa_nil))))) pss_nil)
    (pss_cons (ps_asg (pe_dx NA hr (by omega) (passes_call (takes_of rfl rfl rfl rfl) (fun _ _ _ _ h => h)) (by rfl) (pa_cons (pv 0) (pa_cons (pv 1) pa_nil)))
        (pg_tup rfl (pgs_cons (pg_name (i := 6) scTa.nd rfl (.inl rfl)) (pgs_cons (pg_name (i := 5) scTa.nd rfl (.inl rfl)) pgs_nil))))
    (pss_one (ps_ret (pe_tup (pa_cons (pe_tup (pa_cons pe_str (pa_cons (pv 6) pa_nil))) (pa_cons (pv 5) pa_nil)))))))))), ?_⟩
  refine ⟨_, rfl, rfl, _, rfl, ?_⟩
  refine ite2 (fun h => ?_) (fun h => ?_)
  · have e : (d : Int) = 0 := V.int.inj (of_decide_eq_true h)
    have e0 : d = 0 := by omega
    subst e0
    exact qE rfl H (Same.refl H)
  · obtain ⟨m, rfl⟩ : ∃ m, d = m + 1 := by
      cases d with
      | zero => exact absurd (decide_eq_true rfl) h
      | succ m => exact ⟨m, rfl⟩
    have em : (((m + 1 : Nat) : Int) - 1) = (m : Int) := by omega
    refine ⟨_, rfl, _, rfl, a, ws, i, rfl, hS, ?_⟩
    refine ⟨_, rfl, rfl, _, rfl, ?_⟩
    rw [dec_str]
    refine ite2 (fun h1 => ?_) (fun h1 => ?_)
    · have h1 : wat ws i = Str.ofString "!" := of_decide_eq_true h1
      refine ⟨_, rfl, _, rfl, _, _, rfl, rfl, _, rfl, _, _, rfl, rfl, a, ws, i + 1, m, by rw [← em]; rfl, hS, hW, by omega, fun t s e1 v r H1 g1 tm1 hr1 => ?_, fun e1 H1 g1 => qE (by rw [parse, if_pos h1, e1]) H1 g1⟩
      refine ⟨r, _, rfl, .inl (.inl hr1), rfl, _, _, rfl, _, _, rfl, rfl, ?_⟩
      refine ⟨_, rfl, by show 2 ≤ sizeLine; decide, fun p hp => ?_⟩
      have gp := same_new hp (.tup [st "not", v])
      refine ⟨_, rfl, by show 2 ≤ sizeLine; decide, fun p2 hp2 => ?_⟩
      have gp2 := same_new hp2 (.tup [.ref p, .int (s : Int)])
      refine q (.nott t) s ?_ (.ref p) p2 _ ((g1.trans gp).trans gp2) (.nott (gp2 _ _ upd_same) ((tm1.mono gp).mono gp2)) upd_same
      rw [parse, if_pos h1, e1]
    · have h1 : ¬ wat ws i = Str.ofString "!" := fun z => h1 (decide_eq_true z)
      refine ⟨_, rfl, rfl, _, rfl, ?_⟩
      rw [dec_str]
      refine ite2 (fun h2 => ?_) (fun h2 => ?_)
      · have h2 : wat ws i = Str.ofString "(" := of_decide_eq_true h2
        have e : parse ws (m + 1) i = brack (parse ws m) ws (i + 1) := by rw [parse, if_neg h1, if_pos h2]
        refine ⟨_, rfl, _, rfl, _, _, rfl, rfl, _, rfl, _, _, rfl, rfl, a, ws, i + 1, m, by rw [← em]; rfl, hS, hW, by omega, fun t s e1 => q t s (by rw [e]; exact e1), fun e1 => qE (by rw [e]; exact e1)⟩
      · have h2 : ¬ wat ws i = Str.ofString "(" := fun z => h2 (decide_eq_true z)
        refine ⟨_, rfl, wat ws i, rfl, hW.wat i, _, rfl, ?_⟩
        refine ite2 (fun h3 => ?_) (fun h3 => ?_)
        · refine ⟨_, rfl, by show 2 ≤ sizeLine; decide, fun p hp => ?_⟩
          have gp := same_new hp (.tup [st "name", .str (wat ws i)])
          refine ⟨_, rfl, _, _, rfl, rfl, by show 2 ≤ sizeLine; decide, fun p2 hp2 => ?_⟩
          have gp2 := same_new hp2 (.tup [.ref p, .int ((i + 1 : Nat) : Int)])
          refine q (.name (wat ws i)) (i + 1) ?_ (.ref p) p2 _ (gp.trans gp2) (.name (gp2 _ _ upd_same)) upd_same
          rw [parse, if_neg h1, if_neg h2, if_pos h3]
        · refine ⟨_, rfl, _, rfl, a, ws, i, rfl, hS, hW, fun n0 s e1 r hr1 => ?_, fun e1 => qE (by rw [parse, if_neg h1, if_neg h2, if_neg h3, e1]) H (Same.refl H)⟩
          have g1 := same_new hr1 (.tup [.int n0, .int (s : Int)])
          refine ⟨r, _, rfl, .inl (.inl upd_same), rfl, _, _, rfl, _, _, rfl, rfl, ?_⟩
          refine ⟨_, rfl, by show 2 ≤ sizeLine; decide, fun p hp => ?_⟩
          have gp := same_new hp (.tup [st "num", .int n0])
          refine ⟨_, rfl, by show 2 ≤ sizeLine; decide, fun p2 hp2 => ?_⟩
          have gp2 := same_new hp2 (.tup [.ref p, .int (s : Int)])
          refine q (.num n0) s ?_ (.ref p) p2 _ ((g1.trans gp).trans gp2) (.num (gp2 _ _ upd_same)) upd_same
          rw [parse, if_neg h1, if_neg h2, if_neg h3, e1]
/-- nothing is asked at no depth -/
theorem none_left {p : List Str → Nat → Nat → Option (Tm × Nat)} {k : Nat} {f : Addr} {fd : FuncData} : FnOk P w K mg base (L2.CX P w) k f fd ["words", "at", "deep"] (spRead K C p 0) := by
  have no : ∀ vs H Q E, ¬ spRead K C p 0 vs H Q E := fun vs H Q E h => by
    obtain ⟨a, ws, i, d, _, _, _, h1, _⟩ := h
    omega
  exact ⟨fun vs H Q E h => absurd h (no vs H Q E), fun A outer s H args us vs Q E _ _ _ _ h => absurd h (no vs H Q E)⟩
theorem both {fT fB fW fD fN fA : Addr} {dT dB dW dD dN dA : FuncData} (FT : Fun K "term_at" "term_at" sTermAt fT dT) (bT : Binds K dT ["words", "at", "deep"] []) (mT : mg "term_at" = some (.ref fT))
    (FB : Fun K "bracket_at" "bracket_at" sBrack fB dB) (bB : Binds K dB ["words", "at", "deep"] []) (mB : mg "bracket_at" = some (.ref fB)) (c : Cn K w mg C aS aM)
    (W : Dn P w K mg base CX0 1 "word_at" fW dW ["words", "at"] (spWat K)) (D : Dn P w K mg base (L2.CX P w) 2 "place_behind" fD dD ["words", "at", "due"] (spDue K C))
    (N : Dn P w K mg base CX0 2 "is_name" fN dN ["word"] spName) (NA : Dn P w K mg base (L2.CX P w) 3 "number_at" fA dA ["words", "at"] (spNumAt K C)) :
    ∀ n : Nat, Dn P w K mg base (L2.CX P w) (2 * n + 4) "term_at" fT dT ["words", "at", "deep"] (spTa K C n)
  | 0 => ⟨none_left, bT, FT.kp, mT⟩
  | n + 1 => by
    have G := both FT bT mT FB bB mB c W D N NA n
    have B : Dn P w K mg base (L2.CX P w) (2 * n + 4 + 1) "bracket_at" fB dB ["words", "at", "deep"] (spBr K C n) := ⟨ok_br (by omega) FB c W D G, bB, FB.kp, mB⟩
    exact ⟨ok_ta (by omega) FT c W N NA B G, bT, FT.kp, mT⟩
end
end K22
/-! F4: pieces_in (and the law's own twin of it), term_of. -/
namespace K22
open PySem L2
/-! ### a term's parts -/
def Tm.opn : Tm → Str
  | .num _ => "num"
  | .name _ => "name"
  | .nott _ => "not"
  | .bin o _ _ => o.nm
  | .pick _ _ _ => "pick"
def Tm.kids : Tm → List Tm
  | .num _ => []
  | .name _ => []
  | .nott t => [t]
  | .bin _ t u => [t, u]
  | .pick t u v => [t, u, v]
def Tm.isLeaf : Tm → Bool
  | .num _ => true
  | .name _ => true
  | _ => false
theorem nm_leaf (o : Bop) : decide (o.nm = Str.ofString "num") = false ∧ decide (o.nm = Str.ofString "name") = false := by cases o <;> decide +kernel
theorem opn_leaf (t : Tm) : (decide (t.opn = Str.ofString "num") || decide (t.opn = Str.ofString "name")) = t.isLeaf := by
  cases t with
  | num n =>
    show (decide (Str.ofString "num" = Str.ofString "num") || decide (Str.ofString "num" = Str.ofString "name")) = true
    decide +kernel
  | name w =>
    show (decide (Str.ofString "name" = Str.ofString "num") || decide (Str.ofString "name" = Str.ofString "name")) = true
    decide +kernel
  | nott t =>
    show (decide (Str.ofString "not" = Str.ofString "num") || decide (Str.ofString "not" = Str.ofString "name")) = false
    decide +kernel
  | bin o t u =>
    show (decide (o.nm = _) || decide (o.nm = _)) = false
    rw [(nm_leaf o).1, (nm_leaf o).2]
    rfl
  | pick t u v =>
    show (decide (Str.ofString "pick" = Str.ofString "num") || decide (Str.ofString "pick" = Str.ofString "name")) = false
    decide +kernel
theorem leaf_many {t : Tm} (h : t.isLeaf = true) : t.many = 1 := by
  cases t with
  | num n => rfl
  | name w => rfl
  | _ => cases h
theorem kids_many {t : Tm} (h : t.isLeaf = false) : ((t.many : Nat) : Int) = 1 + (t.kids.map fun k => ((k.many : Nat) : Int)).sum := by
  cases t with
  | num n => cases h
  | name w => cases h
  | nott t =>
    simp only [Tm.many, Tm.kids, List.map_cons, List.map_nil, List.sum_cons, List.sum_nil]
    omega
  | bin o t u =>
    simp only [Tm.many, Tm.kids, List.map_cons, List.map_nil, List.sum_cons, List.sum_nil]
    omega
  | pick t u v =>
    simp only [Tm.many, Tm.kids, List.map_cons, List.map_nil, List.sum_cons, List.sum_nil]
    omega
theorem kids_deep {t k : Tm} (h : k ∈ t.kids) : k.deep + 1 ≤ t.deep := by
  cases t with
  | num n => simp [Tm.kids] at h
  | name w => simp [Tm.kids] at h
  | nott t =>
    simp only [Tm.kids, List.mem_cons, List.not_mem_nil, or_false] at h
    subst h
    simp [Tm.deep]
  | bin o t u =>
    simp only [Tm.kids, List.mem_cons, List.not_mem_nil, or_false] at h
    simp only [Tm.deep]
    rcases h with rfl | rfl <;> omega
  | pick t u v =>
    simp only [Tm.kids, List.mem_cons, List.not_mem_nil, or_false] at h
    simp only [Tm.deep]
    rcases h with rfl | rfl | rfl <;> omega
theorem kids_len (t : Tm) : t.kids.length ≤ 3 := by cases t <;> simp [Tm.kids]
theorem kids_pos {t : Tm} (h : t.isLeaf = false) : 1 ≤ t.kids.length := by
  cases t with
  | num n => cases h
  | name w => cases h
  | _ => simp [Tm.kids]
theorem TmAt.view {H : Hp} {v : V} {t : Tm} (h : TmAt H v t) : ∃ (a : Addr) (vs : List V), v = .ref a ∧ H a = some (.tup (.str t.opn :: vs)) ∧ (t.isLeaf = false → vs.length = t.kids.length ∧ ∀ (i : Nat) (x : V) (k : Tm), vs[i]? = some x → t.kids[i]? = some k → TmAt H x k) := by
  cases h with
  | num h => exact ⟨_, _, rfl, h, fun e => nomatch e⟩
  | name h => exact ⟨_, _, rfl, h, fun e => nomatch e⟩
  | nott h h1 =>
    refine ⟨_, _, rfl, h, fun _ => ⟨rfl, fun i x k hx hk => ?_⟩⟩
    match i, hx, hk with
    | 0, hx, hk => cases hx; cases hk; exact h1
  | bin h h1 h2 =>
    refine ⟨_, _, rfl, h, fun _ => ⟨rfl, fun i x k hx hk => ?_⟩⟩
    match i, hx, hk with
    | 0, hx, hk => cases hx; cases hk; exact h1
    | 1, hx, hk => cases hx; cases hk; exact h2
  | pick h h1 h2 h3 =>
    refine ⟨_, _, rfl, h, fun _ => ⟨rfl, fun i x k hx hk => ?_⟩⟩
    match i, hx, hk with
    | 0, hx, hk => cases hx; cases hk; exact h1
    | 1, hx, hk => cases hx; cases hk; exact h2
    | 2, hx, hk => cases hx; cases hk; exact h3
theorem cut_tail (x : V) (vs : List V) : cutV (x :: vs) (some 1) none = vs := by
  unfold cutV
  have e1 : HT.sIx (x :: vs).length 0 (some 1) = 1 := (HT.sIx_nat _ 0 1).trans (by rw [List.length_cons]; omega)
  have e2 : HT.sIx (x :: vs).length (x :: vs).length none = vs.length + 1 := rfl
  rw [e1, e2, List.drop_succ_cons, List.drop_zero, Nat.add_sub_cancel, List.take_length]
theorem cut_not (x : V) (vs : List V) : ¬ (HT.sIx (x :: vs).length 0 (some 1) = 0 ∧ HT.sIx (x :: vs).length (x :: vs).length none = (x :: vs).length) := by
  intro ⟨h, _⟩
  have e1 : HT.sIx (x :: vs).length 0 (some 1) = 1 := (HT.sIx_nat _ 0 1).trans (by rw [List.length_cons]; omega)
  rw [e1] at h
  exact absurd h (by decide)
theorem rd_deep {ws : List Str} {d i s : Nat} {t : Tm} (h : Rd ws d t i s) : t.deep ≤ d := by
  induction h with
  | name _ _ => exact Nat.succ_le_succ (Nat.zero_le _)
  | num _ _ _ => exact Nat.succ_le_succ (Nat.zero_le _)
  | neg _ _ _ _ => exact Nat.succ_le_succ (Nat.zero_le _)
  | nott _ _ i => exact Nat.succ_le_succ i
  | bin _ _ _ _ _ i j => simp only [Tm.deep]; omega
  | pick _ _ _ _ _ _ _ i j k => simp only [Tm.deep]; omega
section
variable {P : Program} {w : World} {K : PySem.W.Frag} {mg : Str → Option Value} {base : Heap} {C aS aM : Addr}
def spPieces (n : Nat) : Sp := fun vs H Q _ => ∃ (v : V) (t : Tm), vs = [v] ∧ TmAt H v t ∧ t.deep ≤ n ∧ ∀ H', Same H H' → Q (.int (t.many : Int)) H'
theorem pieces_none {k : Nat} {f : Addr} {fd : FuncData} : FnOk P w K mg base CX0 k f fd ["term"] (spPieces 0) := by
  have no : ∀ vs H Q E, ¬ spPieces 0 vs H Q E := fun vs H Q E h => by
    obtain ⟨v, t, _, _, h1, _⟩ := h
    have := deep_pos t
    omega
  exact ⟨fun vs H Q E h => absurd h (no vs H Q E), fun A outer s H args us vs Q E _ _ _ _ h => absurd h (no vs H Q E)⟩
theorem scPieces : FnScope ["term", "part"] ["term"] (defScope sPieces) := ⟨rfl, rfl, rfl, by decide +kernel, rfl, by decide +kernel, by decide +kernel⟩
theorem ok_Pieces {n : Nat} {f g : Addr} {fd gd : FuncData} (F : Fun K "pieces_in" "pieces_in" sPieces f fd) (T : Bt mg) (G : Dn P w K mg base CX0 n "pieces_in" g gd ["term"] (spPieces n)) :
    FnOk P w K mg base CX0 (n + 1) f fd ["term"] (spPieces (n + 1)) := by
  refine F.ok scPieces (fun vs H Q E h => ?_) (fun cdv A outer s H vs Q E hr h => ?_)
  · obtain ⟨v, t, rfl, _⟩ := h
    rfl
  obtain ⟨v, t, rfl, hT, hd, q⟩ := h
  obtain ⟨a, vs, rfl, hA, hK⟩ := hT.view
  refine ⟨_, pss_cons (ps_if (PW.pt (pw_or (pt_cmpR op_eq (pe_ix ix_tup (pv 0) pe_int (fun _ _ => rfl)) pe_str (nomark _)) (pw_or1 (pt_cmpR op_eq (pe_ix ix_tup (pv 0) pe_int (fun _ _ => rfl)) pe_str (nomark _))))) (pss_one (ps_ret pe_int)) pss_nil)
    (pss_one (ps_ret (pe_op op_add pe_int (pe_callB (cr_sum rfl) (by rfl) T.sum (by decide +kernel) (pa_cons (pe_lc (own := [("part", 1)]) (g := gName 1) (tt := tYes) rfl scPieces.nd
      (pi_tup (pe_slice sl_tup (pv 0) (po_some pe_int) po_none)) (blkOk_by (own := [("part", 1)]) (N := ["term", "part"]) (sc := defScope sPieces) (by decide +kernel)) (fun _ _ _ _ _ => pg_name (i := 1) scPieces.nd rfl (.inl rfl)) (fun _ _ _ _ _ => pts_nil)
      (fun _ _ _ _ _ => pe_d G hr (Nat.le_refl _) (by rfl) (pa_cons (pv 1) pa_nil))) pa_nil))))), ?_⟩
  have h0 : atI (V.str t.opn :: vs) ((0 : Nat) : Int) = some (V.str t.opn) := atI_nat rfl
  refine ⟨_, rfl, a, _, 0, _, rfl, rfl, SqT.of hA, h0, rfl, _, rfl, ?_⟩
  rw [dec_str]
  have ret : t.isLeaf = true → Q (.int 1) H := fun e => by
    have := q H (Same.refl H)
    rw [leaf_many e] at this
    exact this
  refine ite2 (fun h => ?_) (fun h => ?_)
  · refine iteT (ret ?_)
    rw [← opn_leaf, h]
    rfl
  · refine ⟨_, rfl, a, _, 0, _, rfl, rfl, SqT.of hA, h0, rfl, _, rfl, ?_⟩
    rw [dec_str]
    refine ite2 (fun h2 => ?_) (fun h2 => ?_)
    · refine ret ?_
      rw [← opn_leaf, h2, Bool.or_true]
    · have hl : t.isLeaf = false := by
        rw [← opn_leaf, Bool.eq_false_iff.mpr h, Bool.eq_false_iff.mpr h2]
        rfl
      obtain ⟨hlen, hkid⟩ := hK hl
      have h3 := kids_len t
      refine ⟨_, rfl, 1, rfl, a, _, rfl, SqT.of hA, cut_not _ _, fun p hp => ?_⟩
      rw [cut_tail]
      have gp := same_new hp (.tup vs)
      refine ⟨p, rfl, ⟨_, SqT.of upd_same⟩, fun D hD => lc_map (walk_tup (K := K) (xs := vs)) ((t.kids.map fun k => ((k.many : Nat) : Int)).map V.int) (by rw [List.length_map, List.length_map, hlen]) (by omega) hD (fun H' e => SqT.of (e _ _ upd_same)) ?_ (fun H' e hl' => ?_)⟩
      · intro i x y H' Q' hx hy e q'
        have hi : i < t.kids.length := by rw [← hlen]; exact (List.getElem?_eq_some_iff.mp hx).1
        have hk : t.kids[i]? = some t.kids[i] := List.getElem?_eq_getElem hi
        have hy2 : y = V.int ((t.kids[i].many : Nat) : Int) := by
          rw [List.getElem?_map, List.getElem?_map, hk] at hy
          exact (Option.some.inj hy).symm
        subst hy2
        have hd2 := kids_deep (List.getElem_mem hi)
        exact ⟨x, rfl, x, _, rfl, ((hkid i x _ hx hk).mono gp).mono e, by omega, fun H2 e2 => q' H2 e2⟩
      · refine ⟨D, _, rfl, SqL.of hl', _, _, rfl, rfl, ?_⟩
        have := q H' (gp.trans e)
        rw [kids_many hl] at this
        exact this
theorem all_Pieces {f : Addr} {fd : FuncData} (F : Fun K "pieces_in" "pieces_in" sPieces f fd) (T : Bt mg) (b : Binds K fd ["term"] []) (m : mg "pieces_in" = some (.ref f)) : ∀ n : Nat, Dn P w K mg base CX0 n "pieces_in" f fd ["term"] (spPieces n)
  | 0 => ⟨pieces_none, b, F.kp, m⟩
  | n + 1 => ⟨ok_Pieces F T (all_Pieces F T b m n), b, F.kp, m⟩
theorem scManyIn : FnScope ["term", "part"] ["term"] (defScope sManyIn) := ⟨rfl, rfl, rfl, by decide +kernel, rfl, by decide +kernel, by decide +kernel⟩
theorem ok_ManyIn {n : Nat} {f g : Addr} {fd gd : FuncData} (F : Fun K "_law_many_in" "_law_many_in" sManyIn f fd) (T : Bt mg) (G : Dn P w K mg base CX0 n "_law_many_in" g gd ["term"] (spPieces n)) :
    FnOk P w K mg base CX0 (n + 1) f fd ["term"] (spPieces (n + 1)) := by
  refine F.ok scManyIn (fun vs H Q E h => ?_) (fun cdv A outer s H vs Q E hr h => ?_)
  · obtain ⟨v, t, rfl, _⟩ := h
    rfl
  obtain ⟨v, t, rfl, hT, hd, q⟩ := h
  obtain ⟨a, vs, rfl, hA, hK⟩ := hT.view
  refine ⟨_, pss_cons (ps_if (PW.pt (pw_or (pt_cmpR op_eq (pe_ix ix_tup (pv 0) pe_int (fun _ _ => rfl)) pe_str (nomark _)) (pw_or1 (pt_cmpR op_eq (pe_ix ix_tup (pv 0) pe_int (fun _ _ => rfl)) pe_str (nomark _))))) (pss_one (ps_ret pe_int)) pss_nil)
    (pss_one (ps_ret (pe_op op_add pe_int (pe_callB (cr_sum rfl) (by rfl) T.sum (by decide +kernel) (pa_cons (pe_lc (own := [("part", 1)]) (g := gName 1) (tt := tYes) rfl scManyIn.nd
      (pi_tup (pe_slice sl_tup (pv 0) (po_some pe_int) po_none)) (blkOk_by (own := [("part", 1)]) (N := ["term", "part"]) (sc := defScope sManyIn) (by decide +kernel)) (fun _ _ _ _ _ => pg_name (i := 1) scManyIn.nd rfl (.inl rfl)) (fun _ _ _ _ _ => pts_nil)
      (fun _ _ _ _ _ => pe_d G hr (Nat.le_refl _) (by rfl) (pa_cons (pv 1) pa_nil))) pa_nil))))), ?_⟩
  have h0 : atI (V.str t.opn :: vs) ((0 : Nat) : Int) = some (V.str t.opn) := atI_nat rfl
  refine ⟨_, rfl, a, _, 0, _, rfl, rfl, SqT.of hA, h0, rfl, _, rfl, ?_⟩
  rw [dec_str]
  have ret : t.isLeaf = true → Q (.int 1) H := fun e => by
    have := q H (Same.refl H)
    rw [leaf_many e] at this
    exact this
  refine ite2 (fun h => ?_) (fun h => ?_)
  · refine iteT (ret ?_)
    rw [← opn_leaf, h]
    rfl
  · refine ⟨_, rfl, a, _, 0, _, rfl, rfl, SqT.of hA, h0, rfl, _, rfl, ?_⟩
    rw [dec_str]
    refine ite2 (fun h2 => ?_) (fun h2 => ?_)
    · refine ret ?_
      rw [← opn_leaf, h2, Bool.or_true]
    · have hl : t.isLeaf = false := by
        rw [← opn_leaf, Bool.eq_false_iff.mpr h, Bool.eq_false_iff.mpr h2]
        rfl
      obtain ⟨hlen, hkid⟩ := hK hl
      have h3 := kids_len t
      refine ⟨_, rfl, 1, rfl, a, _, rfl, SqT.of hA, cut_not _ _, fun p hp => ?_⟩
      rw [cut_tail]
      have gp := same_new hp (.tup vs)
      refine ⟨p, rfl, ⟨_, SqT.of upd_same⟩, fun D hD => lc_map (walk_tup (K := K) (xs := vs)) ((t.kids.map fun k => ((k.many : Nat) : Int)).map V.int) (by rw [List.length_map, List.length_map, hlen]) (by omega) hD (fun H' e => SqT.of (e _ _ upd_same)) ?_ (fun H' e hl' => ?_)⟩
      · intro i x y H' Q' hx hy e q'
        have hi : i < t.kids.length := by rw [← hlen]; exact (List.getElem?_eq_some_iff.mp hx).1
        have hk : t.kids[i]? = some t.kids[i] := List.getElem?_eq_getElem hi
        have hy2 : y = V.int ((t.kids[i].many : Nat) : Int) := by
          rw [List.getElem?_map, List.getElem?_map, hk] at hy
          exact (Option.some.inj hy).symm
        subst hy2
        have hd2 := kids_deep (List.getElem_mem hi)
        exact ⟨x, rfl, x, _, rfl, ((hkid i x _ hx hk).mono gp).mono e, by omega, fun H2 e2 => q' H2 e2⟩
      · refine ⟨D, _, rfl, SqL.of hl', _, _, rfl, rfl, ?_⟩
        have := q H' (gp.trans e)
        rw [kids_many hl] at this
        exact this
theorem all_ManyIn {f : Addr} {fd : FuncData} (F : Fun K "_law_many_in" "_law_many_in" sManyIn f fd) (T : Bt mg) (b : Binds K fd ["term"] []) (m : mg "_law_many_in" = some (.ref f)) : ∀ n : Nat, Dn P w K mg base CX0 n "_law_many_in" f fd ["term"] (spPieces n)
  | 0 => ⟨pieces_none, b, F.kp, m⟩
  | n + 1 => ⟨ok_ManyIn F T (all_ManyIn F T b m n), b, F.kp, m⟩
/-! ### term_of -/
def spTermOf (K : PySem.W.Frag) (C : Addr) : Sp := fun vs H Q E => ∃ (a : Addr) (ws : List Str), vs = [.ref a] ∧ SqL K H a (ws.map V.str) ∧ Wok ws ∧
  (∀ t, parse ws 12 0 = some (t, ws.length) → t.many ≤ 200 → ∀ v H', Same H H' → TmAt H' v t → Q v H') ∧ ((∀ t, parse ws 12 0 = some (t, ws.length) → ¬ t.many ≤ 200) → ∀ H', Same H H' → E (.ref C) none H')
theorem scTermOf : FnScope ["words", "term", "stop"] ["words"] (defScope sTermOf) := ⟨rfl, rfl, rfl, by decide +kernel, rfl, by decide +kernel, by decide +kernel⟩
theorem ok_termOf {f fT fP : Addr} {fd dT dP : FuncData} (F : Fun K "term_of" "term_of" sTermOf f fd) (T : Bt mg) (c : Cn K w mg C aS aM)
    (G : Dn P w K mg base (L2.CX P w) 30 "term_at" fT dT ["words", "at", "deep"] (spTa K C 13)) (PI : Dn P w K mg base CX0 12 "pieces_in" fP dP ["term"] (spPieces 12)) :
    FnOk P w K mg base (L2.CX P w) 31 f fd ["words"] (spTermOf K C) := by
  refine F.okX scTermOf (fun vs H Q E h => ?_) (fun cdv A outer s H vs Q E hr h => ?_)
  · obtain ⟨a, ws, rfl, _⟩ := h
    rfl
  obtain ⟨a, ws, rfl, hS, hW, q, qE⟩ := h
  obtain ⟨td, hd⟩ := c.deepest
  obtain ⟨tm, hm⟩ := c.most
  refine ⟨_, pss_cons (ps_asg (pe_dx G hr (by decide) (passes_call (takes_of rfl rfl rfl rfl) (fun _ _ _ _ h => h)) (by rfl) (pa_cons (pv 0) (pa_cons pe_int (pa_cons (pe_glob (v := .int 12) rfl hd ⟨_, rfl⟩) pa_nil))))
      (pg_tup rfl (pgs_cons (pg_name (i := 1) scTermOf.nd rfl (.inl rfl)) (pgs_cons (pg_name (i := 2) scTermOf.nd rfl (.inl rfl)) pgs_nil))))
    (pss_cons (ps_if (PW.pt (pw_or (pt_cmpR op_ne (pv 2) (pe_callB call_len_seq (by rfl) T.len PySem.boot_len (pa_cons (pv 0) pa_nil)) (nomark _))
      (pw_or1 (pt_cmpR op_gt (pe_d PI hr (by decide) (by rfl) (pa_cons (pv 1) pa_nil)) (pe_glob (v := .int 200) rfl hm ⟨_, rfl⟩) (nomark _)))))
      (pss_one (ps_raise rfl (takes_of rfl rfl rfl rfl) (pmk_own PySem.F.excBase_ValueError c.xP c.noterm c.kP (raises_own c.bP c.tP) rfl))) pss_nil)
    (pss_one (ps_ret (pv 1)))), ?_⟩
  refine ⟨_, rfl, a, ws, 0, 12, rfl, hS, hW, by decide, fun t s e1 v r H1 g1 tm1 hr1 => ?_, fun e1 H1 g1 => qE (fun t e => by rw [e1] at e; cases e) H1 g1⟩
  refine ⟨r, _, rfl, .inl (.inl hr1), rfl, _, _, rfl, _, _, rfl, rfl, ?_⟩
  have ed : decide (V.int (s : Int) = V.int (((ws.map V.str).length : Nat) : Int)) = decide (s = ws.length) := by
    rw [List.length_map]
    refine decide_eq_decide.mpr ⟨fun e => ?_, fun e => by rw [e]⟩
    have := V.int.inj e
    omega
  refine ⟨_, rfl, _, rfl, a, _, rfl, .inl (g1.seq hS), rfl, _, rfl, ?_⟩
  rw [ed]
  refine ite2 (fun h => ?_) (fun h => ?_)
  · refine iteT ?_
    refine qE (fun t2 e2 => ?_) H1 g1
    rw [e1] at e2
    have : s = ws.length := by
      have := Option.some.inj e2
      exact (Prod.mk.inj this).2
    rw [decide_eq_true this] at h
    exact Bool.noConfusion h
  · have h : s = ws.length := by
      by_cases z : s = ws.length
      · exact z
      · rw [decide_eq_false z] at h
        exact absurd rfl h
    subst h
    refine ⟨_, rfl, v, t, rfl, tm1, rd_deep (parse_rd _ _ _ _ e1), fun H2 g2 => ?_⟩
    refine ⟨_, _, rfl, rfl, _, rfl, ?_⟩
    refine ite2 (fun h => ?_) (fun h => ?_)
    · have h : ((t.many : Nat) : Int) > 200 := of_decide_eq_true h
      refine qE (fun t2 e2 => ?_) H2 (g1.trans g2)
      rw [e1] at e2
      have : t = t2 := (Prod.mk.inj (Option.some.inj e2)).1
      subst this
      omega
    · have h : ¬ ((t.many : Nat) : Int) > 200 := fun z => h (decide_eq_true z)
      exact ⟨_, rfl, q t e1 (by omega) v H2 (g1.trans g2) (tm1.mono g2)⟩
end
end K22
/-! L1: the law's numbers and names. -/
namespace K22
open PySem L2
/-! ### displays of texts -/
def strsOf : List Expr → Option (List Str)
  | [] => some []
  | .Constant (.str x) _ _ :: es => (strsOf es).map (x :: ·)
  | _ :: _ => none
def tStrs (xs : List Str) : TA := fun _ H Q => Q (xs.map V.str) H
theorem pa_strs {X : Cx} : ∀ {es : List Expr} {xs : List Str}, strsOf es = some xs → PA X es (tStrs xs)
  | [], xs, h => by
    cases h
    exact pa_nil
  | .Constant (.str x) j pos :: es, xs, h => by
    have h' : (strsOf es).map (x :: ·) = some xs := h
    cases e : strsOf es with
    | none => rw [e] at h'; cases h'
    | some ys =>
      rw [e] at h'
      cases h'
      exact pa_cons pe_str (pa_strs e)
section
variable {P : Program} {w : World} {K : PySem.W.Frag} {mg : Str → Option Value} {base : Heap} {C aS aM : Addr}
/-! ### cells -/
def spCell (K : PySem.W.Frag) : Sp := fun vs H Q _ => ∃ (a : Addr) (ns : List Int) (k : Nat), vs = [.ref a, .int (k : Int)] ∧ SqL K H a (ns.map V.int) ∧ ∀ c : Int, Q (.int c) H
theorem scCell : FnScope ["script", "k"] ["script", "k"] (defScope sCell) := ⟨rfl, rfl, rfl, by decide +kernel, rfl, by decide +kernel, by decide +kernel⟩
theorem ok_cell {f : Addr} {fd : FuncData} (F : Fun K "_law_cell_at" "_law_cell_at" sCell f fd) (T : Bt mg) : FnOk P w K mg base CX0 1 f fd ["script", "k"] (spCell K) := by
  refine F.ok scCell (fun vs H Q E h => ?_) (fun cdv A outer s H vs Q E hr h => ?_)
  · obtain ⟨a, ns, k, rfl, _⟩ := h
    rfl
  obtain ⟨a, ns, k, rfl, hS, q⟩ := h
  refine ⟨_, pss_cons (ps_if (pt_cmpR op_lt (pv 1) (pe_callB call_len_seq (by rfl) T.len PySem.boot_len (pa_cons (pv 0) pa_nil)) (nomark _))
      (pss_one (ps_ret (pe_op op_mod (pe_ix ix_list (pv 0) (pv 1) (fun _ _ => rfl)) (pe_op op_pow pe_int pe_int)))) pss_nil)
    (pss_one (ps_ret pe_int)), ?_⟩
  refine ⟨_, rfl, _, rfl, a, _, rfl, .inl hS, _, _, rfl, rfl, _, rfl, ?_⟩
  refine ite2 (fun h => ?_) (fun h => q 0)
  have h : (k : Int) < (((ns.map V.int).length : Nat) : Int) := of_decide_eq_true h
  rw [List.length_map] at h
  have hk : k < ns.length := by omega
  exact ⟨_, rfl, _, rfl, a, _, _, _, rfl, rfl, hS, atI_nat (by rw [List.getElem?_map, List.getElem?_eq_getElem hk]; rfl), _, _, rfl, rfl, ⟨by decide, by decide, by decide⟩, _, _, rfl, rfl, (by show (0 : Int) < (10 : Int) ^ (60 : Int).toNat; decide +kernel), q _⟩
/-! ### values -/
def spValue : Sp := fun vs H Q _ => ∃ c : Int, vs = [.int c] ∧ ∀ n : Int, -BIG ≤ n → n ≤ BIG → Q (.int n) H
theorem scValue : FnScope ["cell", "way"] ["cell"] (defScope sValue) := ⟨rfl, rfl, rfl, by decide +kernel, rfl, by decide +kernel, by decide +kernel⟩
theorem ten30 : (10 : Int) ^ (30 : Int).toNat = 1000000000000000000000000000000 := by decide +kernel
theorem ok_value {f : Addr} {fd : FuncData} (F : Fun K "_law_value" "_law_value" sValue f fd) : FnOk P w K mg base CX0 1 f fd ["cell"] spValue := by
  refine F.ok scValue (fun vs H Q E h => ?_) (fun cdv A outer s H vs Q E hr h => ?_)
  · obtain ⟨c, rfl, _⟩ := h
    rfl
  obtain ⟨c, rfl, q⟩ := h
  refine ⟨_, pss_cons (ps_set (i := 1) scValue.nd rfl (.inl rfl) (pe_op op_mod (pv 0) pe_int))
    (pss_cons (ps_set (i := 0) scValue.nd rfl (.inl rfl) (pe_op op_fdiv (pv 0) pe_int))
    (pss_cons (ps_if (pt_cmpR op_eq (pv 1) pe_int (nomark _)) (pss_one (ps_ret (pe_op op_sub (pe_op op_mod (pv 0) pe_int) pe_int))) pss_nil)
    (pss_cons (ps_if (pt_cmpR op_eq (pv 1) pe_int (nomark _)) (pss_one (ps_ret (pe_op op_sub (pe_op op_pow pe_int pe_int) (pe_op op_mod (pv 0) pe_int)))) pss_nil)
    (pss_cons (ps_if (pt_cmpR op_eq (pv 1) pe_int (nomark _)) (pss_one (ps_ret (pe_op op_sub (pe_op op_mod (pv 0) pe_int) (pe_op op_pow pe_int pe_int)))) pss_nil)
    (pss_one (ps_ret (pe_op op_sub (pe_op op_mod (pv 0) (pe_op op_add (pe_op op_mul pe_int (pe_op op_pow pe_int pe_int)) pe_int)) (pe_op op_pow pe_int pe_int)))))))), ?_⟩
  refine ⟨_, rfl, _, _, rfl, rfl, (by show (0 : Int) < 5; decide), ?_⟩
  refine ⟨_, rfl, _, _, rfl, rfl, ⟨by decide, by decide⟩, ?_⟩
  refine ⟨_, rfl, rfl, _, rfl, ?_⟩
  refine ite2 (fun h => ?_) (fun h => ?_)
  · refine ⟨_, rfl, _, _, rfl, rfl, (by show (0 : Int) < 7; decide), _, _, rfl, rfl, q _ ?_ ?_⟩
    · show -1000000000000000000000000000000 ≤ c / 5 % 7 - 3
      omega
    · show c / 5 % 7 - 3 ≤ 1000000000000000000000000000000
      omega
  refine ⟨_, rfl, rfl, _, rfl, ?_⟩
  refine ite2 (fun h => ?_) (fun h => ?_)
  · refine ⟨_, _, rfl, rfl, ⟨by decide, by decide, by decide⟩, _, rfl, _, _, rfl, rfl, (by show (0 : Int) < 3; decide), _, _, rfl, rfl, q _ ?_ ?_⟩
    · show -1000000000000000000000000000000 ≤ (10 : Int) ^ (30 : Int).toNat - c / 5 % 3
      rw [ten30]
      omega
    · show (10 : Int) ^ (30 : Int).toNat - c / 5 % 3 ≤ 1000000000000000000000000000000
      rw [ten30]
      omega
  refine ⟨_, rfl, rfl, _, rfl, ?_⟩
  refine ite2 (fun h => ?_) (fun h => ?_)
  · refine ⟨_, rfl, _, _, rfl, rfl, (by show (0 : Int) < 3; decide), _, _, rfl, rfl, ⟨by decide, by decide, by decide⟩, _, _, rfl, rfl, q _ ?_ ?_⟩
    · show -1000000000000000000000000000000 ≤ c / 5 % 3 - (10 : Int) ^ (30 : Int).toNat
      rw [ten30]
      omega
    · show c / 5 % 3 - (10 : Int) ^ (30 : Int).toNat ≤ 1000000000000000000000000000000
      rw [ten30]
      omega
  refine ⟨_, rfl, _, _, rfl, rfl, ⟨by decide, by decide, by decide⟩, _, _, rfl, rfl, .inl ⟨by decide, by decide⟩, _, _, rfl, rfl, _, _, rfl, rfl, (by show (0 : Int) < 2 * (10 : Int) ^ (30 : Int).toNat + 1; rw [ten30]; decide), _, _, rfl, rfl, ⟨by decide, by decide, by decide⟩, _, _, rfl, rfl, q _ ?_ ?_⟩
  · show -1000000000000000000000000000000 ≤ c / 5 % (2 * (10 : Int) ^ (30 : Int).toNat + 1) - (10 : Int) ^ (30 : Int).toNat
    rw [ten30]
    omega
  · show c / 5 % (2 * (10 : Int) ^ (30 : Int).toNat + 1) - (10 : Int) ^ (30 : Int).toNat ≤ 1000000000000000000000000000000
    rw [ten30]
    omega
/-! ### ops -/
abbrev opTexts : List Str := ["not", "add", "sub", "mul", "less", "same", "both", "any", "pick", "", "", "", "", "", ""]
def spOp : Sp := fun vs H Q _ => ∃ n : Int, vs = [.int n] ∧ 0 ≤ n ∧ n < 15 ∧ ∀ o H', Same H H' → o ∈ opTexts → Q (.str o) H'
theorem scOp : FnScope ["n"] ["n"] (defScope sOp) := ⟨rfl, rfl, rfl, by decide +kernel, rfl, by decide +kernel, by decide +kernel⟩
theorem atI_strs {xs : List Str} {i : Int} (h0 : 0 ≤ i) (h1 : i < (xs.length : Int)) : ∃ x, x ∈ xs ∧ xs[i.toNat]? = some x ∧ atI (xs.map V.str) i = some (.str x) := by
  have hi : i.toNat < xs.length := by omega
  refine ⟨xs[i.toNat], List.getElem_mem hi, List.getElem?_eq_getElem hi, ?_⟩
  have e : i = ((i.toNat : Nat) : Int) := by omega
  have q : atI (xs.map V.str) ((i.toNat : Nat) : Int) = some (.str xs[i.toNat]) := atI_nat (by rw [List.getElem?_map, List.getElem?_eq_getElem hi]; rfl)
  rw [← e] at q
  exact q
theorem ok_op {f : Addr} {fd : FuncData} (F : Fun K "_law_op" "_law_op" sOp f fd) : FnOk P w K mg base CX0 1 f fd ["n"] spOp := by
  refine F.ok scOp (fun vs H Q E h => ?_) (fun cdv A outer s H vs Q E hr h => ?_)
  · obtain ⟨n, rfl, _⟩ := h
    rfl
  obtain ⟨n, rfl, h0, h1, q⟩ := h
  refine ⟨_, pss_one (ps_ret (pe_ix ix_list (pe_lst (pa_strs (xs := opTexts) (by rfl))) (pv 0) (fun _ _ => rfl))), ?_⟩
  obtain ⟨o, ho, _, ha⟩ := atI_strs (xs := opTexts) h0 h1
  exact ⟨by show 15 ≤ sizeLine; decide, fun p hp => ⟨_, rfl, p, _, n, _, rfl, rfl, SqL.of upd_same, ha, q o _ (same_new hp _) ho⟩⟩
def manyOf (o : Str) : Int := if o = Str.ofString "" then 0 else if o = Str.ofString "not" then 1 else 2 + (if o = Str.ofString "pick" then 1 else 0)
def spMany : Sp := fun vs H Q _ => ∃ o : Str, vs = [.str o] ∧ Q (.int (manyOf o)) H
theorem scMany : FnScope ["op"] ["op"] (defScope sMany) := ⟨rfl, rfl, rfl, by decide +kernel, rfl, by decide +kernel, by decide +kernel⟩
theorem ok_many {f : Addr} {fd : FuncData} (F : Fun K "_law_many" "_law_many" sMany f fd) (T : Bt mg) : FnOk P w K mg base CX0 1 f fd ["op"] spMany := by
  refine F.ok scMany (fun vs H Q E h => ?_) (fun cdv A outer s H vs Q E hr h => ?_)
  · obtain ⟨o, rfl, _⟩ := h
    rfl
  obtain ⟨o, rfl, q⟩ := h
  refine ⟨_, pss_cons (ps_if (PW.pt (pw_or (pt_cmpR op_eq (pv 0) pe_str (nomark _)) (pw_or1 (pt_cmpR op_eq (pv 0) pe_str (nomark _)))))
      (pss_one (ps_ret (pe_callTy call_int1 (by rfl) T.int (by decide +kernel) (pa_cons (pe_cmpR op_eq (pv 0) pe_str (nomark _)) pa_nil)))) pss_nil)
    (pss_one (ps_ret (pe_op op_add pe_int (pe_callTy call_int1 (by rfl) T.int (by decide +kernel) (pa_cons (pe_cmpR op_eq (pv 0) pe_str (nomark _)) pa_nil))))), ?_⟩
  refine ⟨_, rfl, rfl, _, rfl, ?_⟩
  rw [dec_str]
  unfold manyOf at q
  refine ite2 (fun h => iteT ?_) (fun h => ?_)
  · have h : o = Str.ofString "" := of_decide_eq_true h
    rw [if_pos h] at q
    refine ⟨_, rfl, rfl, .inr ⟨_, rfl, ?_⟩⟩
    rw [dec_str, h]
    exact q
  · have h : ¬ o = Str.ofString "" := fun z => h (decide_eq_true z)
    rw [if_neg h] at q
    refine ⟨_, rfl, rfl, _, rfl, ?_⟩
    rw [dec_str]
    refine ite2 (fun h => ?_) (fun h => ?_)
    · have h : o = Str.ofString "not" := of_decide_eq_true h
      rw [if_pos h] at q
      refine ⟨_, rfl, rfl, .inr ⟨_, rfl, ?_⟩⟩
      rw [dec_str, decide_eq_true h]
      exact q
    · have h : ¬ o = Str.ofString "not" := fun z => h (decide_eq_true z)
      rw [if_neg h] at q
      refine ⟨_, rfl, rfl, .inr ⟨_, rfl, _, _, rfl, rfl, ?_⟩⟩
      rw [dec_str]
      by_cases z : o = Str.ofString "pick"
      · rw [if_pos z] at q
        rw [decide_eq_true z]
        exact q
      · rw [if_neg z] at q
        rw [decide_eq_false z]
        exact q
end
end K22
/-! L2: the law's names, its leaves. -/
namespace K22
open PySem L2
/-! ### the name as a function -/
abbrev fixed : List Str := ["x", "y", "n", "total", "rain"]
def lsize (base : Int) : Nat := (base % 8 + 1).toNat
def lplace (base : Int) : Int := base / 8 % (base % 8 + 1)
def lstep (base n : Int) : Int := n % 5 % (4 + base / 64 % 2)
def letter (i : Int) : Nat := lets.cps.toList.getD i.toNat 97
def lgo (base n : Int) : Nat → Str × Int
  | 0 => (Str.ofString "", base / 64)
  | i + 1 => ((lgo base n i).1 ++ ⟨#[letter (((lgo base n i).2 + (if (i : Int) = lplace base then lstep base n else 0)) % 26)]⟩, (lgo base n i).2 / 26)
def lcut (n : Int) (x : Str) : Str := if n % 5 = 4 then cutS (x ++ Str.ofString "q") none (some 8) else x
def lfix (x : Str) : Str := if x ∈ said then Str.ofString "q" ++ cutS x (some 1) none else x
def lname (base n : Int) : Str := if base / 64 % 4 = 3 then fixed.getD (n % 5).toNat (Str.ofString "x") else lfix (lcut n (lgo base n (lsize base)).1)
def Small (x : Str) : Prop := ∀ c ∈ x.cps.toList, 97 ≤ c ∧ c ≤ 122
theorem lets_list : lets.cps.toList = (List.range 26).map (· + 97) := by decide +kernel
theorem letter_at {i : Int} (h0 : 0 ≤ i) (h1 : i < 26) : lets.cps.toList[i.toNat]? = some (letter i) ∧ 97 ≤ letter i ∧ letter i ≤ 122 := by
  have hl : lets.cps.toList.length = 26 := by decide +kernel
  have hi : i.toNat < lets.cps.toList.length := by omega
  have e : lets.cps.toList[i.toNat]? = some (letter i) := by
    unfold letter
    rw [List.getD_eq_getElem?_getD, List.getElem?_eq_getElem hi]
    rfl
  exact ⟨e, lets_mem (List.mem_of_getElem? e)⟩
theorem lets_at {i : Int} (h0 : 0 ≤ i) (h1 : i < 26) : atI lets.cps.toList i = some (letter i) := by
  have q : atI lets.cps.toList ((i.toNat : Nat) : Int) = some (letter i) := atI_nat (letter_at h0 h1).1
  have e : ((i.toNat : Nat) : Int) = i := by omega
  rw [e] at q
  exact q
theorem lgo_small (base n : Int) : ∀ i, Small (lgo base n i).1 ∧ (lgo base n i).1.length = i
  | 0 => by
    refine ⟨fun c hc => ?_, ?_⟩
    · have e : (Str.ofString "").cps.toList = [] := by decide +kernel
      rw [show (lgo base n 0).1 = Str.ofString "" from rfl, e] at hc
      cases hc
    · show (Str.ofString "").length = 0
      decide +kernel
  | i + 1 => by
    obtain ⟨h1, h2⟩ := lgo_small base n i
    have hm := Int.emod_nonneg ((lgo base n i).2 + (if (i : Int) = lplace base then lstep base n else 0)) (show (26 : Int) ≠ 0 by decide)
    have hx := Int.emod_lt_of_pos ((lgo base n i).2 + (if (i : Int) = lplace base then lstep base n else 0)) (show (0 : Int) < 26 by decide)
    refine ⟨fun c hc => ?_, ?_⟩
    · have e : (lgo base n (i + 1)).1.cps.toList = (lgo base n i).1.cps.toList ++ [letter (((lgo base n i).2 + (if (i : Int) = lplace base then lstep base n else 0)) % 26)] := TL.tl_append _ _
      rw [e] at hc
      rcases List.mem_append.mp hc with hc | hc
      · exact h1 c hc
      · rw [List.mem_singleton.mp hc]
        exact (letter_at hm hx).2
    · rw [TL.len_tl, show TL.tl (lgo base n (i + 1)).1 = TL.tl (lgo base n i).1 ++ [letter (((lgo base n i).2 + (if (i : Int) = lplace base then lstep base n else 0)) % 26)] from TL.tl_append _ _, List.length_append, ← TL.len_tl, h2]
      rfl
theorem tl_cut (x : Str) (lo hi : Option Int) : (cutS x lo hi).cps.toList = (x.cps.toList.drop (HT.sIx x.length 0 lo)).take (HT.sIx x.length x.length hi - HT.sIx x.length 0 lo) := rfl
theorem small_q : Small (Str.ofString "q") := by
  intro c hc
  have e : (Str.ofString "q").cps.toList = [113] := by decide +kernel
  rw [e] at hc
  rw [List.mem_singleton.mp hc]
  decide
theorem small_app {x y : Str} (h1 : Small x) (h2 : Small y) : Small (x ++ y) := fun c hc => by
  rw [show (x ++ y).cps.toList = x.cps.toList ++ y.cps.toList from TL.tl_append x y] at hc
  rcases List.mem_append.mp hc with hc | hc
  · exact h1 c hc
  · exact h2 c hc
theorem small_cut {x : Str} (h : Small x) (lo hi : Option Int) : Small (cutS x lo hi) := fun c hc => by
  rw [tl_cut] at hc
  exact h c (List.mem_of_mem_drop (List.mem_of_mem_take hc))
theorem len_app (x y : Str) : (x ++ y).length = x.length + y.length := by
  rw [TL.len_tl, TL.tl_append, List.length_append, ← TL.len_tl, ← TL.len_tl]
theorem lcut_ok {n : Int} {x : Str} (h : Small x) (h1 : 1 ≤ x.length) (h8 : x.length ≤ 8) : Small (lcut n x) ∧ 1 ≤ (lcut n x).length ∧ (lcut n x).length ≤ 8 := by
  unfold lcut
  split
  · refine ⟨small_cut (small_app h small_q) _ _, ?_⟩
    have hl : (x ++ Str.ofString "q").length = x.length + 1 := by
      rw [len_app]
      rfl
    have e2 : HT.sIx (x ++ Str.ofString "q").length (x ++ Str.ofString "q").length (some 8) = min 8 (x.length + 1) := (HT.sIx_nat _ _ 8).trans (by rw [hl])
    have e : (cutS (x ++ Str.ofString "q") none (some 8)).length = min 8 (x.length + 1) := by
      rw [TL.len_tl]
      show (cutS (x ++ Str.ofString "q") none (some 8)).cps.toList.length = _
      rw [tl_cut, e2, List.length_take, List.length_drop]
      show min (min 8 (x.length + 1) - 0) ((TL.tl (x ++ Str.ofString "q")).length - 0) = _
      rw [← TL.len_tl, hl]
      omega
    rw [e]
    omega
  · exact ⟨h, h1, h8⟩
theorem lfix_ok {x : Str} (h : Small x) (h1 : 1 ≤ x.length) (h8 : x.length ≤ 8) : Small (lfix x) ∧ 1 ≤ (lfix x).length ∧ (lfix x).length ≤ 8 ∧ lfix x ∉ said := by
  unfold lfix
  split
  · have e1 : HT.sIx x.length 0 (some 1) = 1 := (HT.sIx_nat _ 0 1).trans (by omega)
    have hc : (cutS x (some 1) none).length = x.length - 1 := by
      rw [TL.len_tl]
      show (cutS x (some 1) none).cps.toList.length = _
      rw [tl_cut, e1, List.length_take, List.length_drop]
      show min (x.length - 1) ((TL.tl x).length - 1) = _
      rw [← TL.len_tl]
      omega
    have hl : (Str.ofString "q" ++ cutS x (some 1) none).length = x.length := by
      rw [len_app, hc]
      show 1 + (x.length - 1) = x.length
      omega
    refine ⟨small_app small_q (small_cut h _ _), by omega, by omega, fun m => ?_⟩
    have hd : (Str.ofString "q" ++ cutS x (some 1) none).cps.toList.head? = some 113 := by
      rw [show (Str.ofString "q" ++ cutS x (some 1) none).cps.toList = (Str.ofString "q").cps.toList ++ (cutS x (some 1) none).cps.toList from TL.tl_append _ _, show (Str.ofString "q").cps.toList = [113] by decide +kernel]
      rfl
    have no : ∀ y ∈ said, ¬ y.cps.toList.head? = some 113 := by decide +kernel
    exact no _ m hd
  · rename_i hn
    exact ⟨h, h1, h8, hn⟩
theorem isName_of {x : Str} (h : Small x) (h1 : 1 ≤ x.length) (h8 : x.length ≤ 8) (hn : x ∉ said) : isName x = true := by
  unfold isName
  rw [decide_eq_true h8, decide_eq_false hn, Bool.true_and, Bool.not_false, Bool.and_true]
  unfold allOf
  rw [Bool.and_eq_true, List.all_eq_true]
  refine ⟨fun c hc => decide_eq_true ?_, ?_⟩
  · have q := h c hc
    rw [lets_list]
    exact List.mem_map.mpr ⟨c - 97, List.mem_range.mpr (by omega), by omega⟩
  · rw [decide_eq_false]
    · rfl
    · intro e
      subst e
      exact absurd h1 (by decide +kernel)
theorem lsize_ok (base : Int) : 1 ≤ lsize base ∧ lsize base ≤ 8 ∧ ((lsize base : Nat) : Int) = base % 8 + 1 := by
  unfold lsize
  omega
theorem lname_ok (base n : Int) : isName (lname base n) = true := by
  unfold lname
  split
  · have h : (n % 5).toNat < 5 := by omega
    have all : ∀ i, i < 5 → isName (fixed.getD i (Str.ofString "x")) = true := by decide +kernel
    exact all _ h
  · obtain ⟨h1, h2⟩ := lgo_small base n (lsize base)
    obtain ⟨s1, s2, _⟩ := lsize_ok base
    obtain ⟨c1, c2, c3⟩ := lcut_ok (n := n) h1 (by omega) (by omega)
    obtain ⟨f1, f2, f3, f4⟩ := lfix_ok c1 c2 c3
    exact isName_of f1 f2 f3 f4
section
variable {P : Program} {w : World} {K : PySem.W.Frag} {mg : Str → Option Value} {base : Heap} {C aS aM : Addr}
def spLName : Sp := fun vs H Q _ => ∃ b n : Int, vs = [.int b, .int n] ∧ ∀ H', Same H H' → Q (.str (lname b n)) H'
theorem scLName : FnScope ["base", "n", "size", "at", "rest", "found", "k", "step"] ["base", "n"] (defScope sLName) := ⟨rfl, rfl, rfl, by decide +kernel, rfl, by decide +kernel, by decide +kernel⟩
theorem dec_int (i j : Int) : decide (V.int i = V.int j) = decide (i = j) := decide_eq_decide.mpr ⟨fun e => V.int.inj e, fun e => by rw [e]⟩
theorem ok_lname {f : Addr} {fd : FuncData} (F : Fun K "_law_name" "_law_name" sLName f fd) (T : Bt mg) : FnOk P w K mg base CX0 1 f fd ["base", "n"] spLName := by
  refine F.ok scLName (fun vs H Q E h => ?_) (fun cdv A outer s H vs Q E hr h => ?_)
  · obtain ⟨b, n, rfl, _⟩ := h
    rfl
  obtain ⟨b, n, rfl, q⟩ := h
  refine ⟨_, pss_cons (ps_if (pt_cmpR op_eq (pe_op op_mod (pe_op op_fdiv (pv 0) pe_int) pe_int) pe_int (nomark _)) (pss_one (ps_ret (pe_ix ix_list (pe_lst (pa_strs (xs := fixed) (by rfl))) (pe_op op_mod (pv 1) pe_int) (fun _ _ => rfl)))) pss_nil)
    (pss_cons (ps_set (i := 2) scLName.nd rfl (.inl rfl) (pe_op op_add (pe_op op_mod (pv 0) pe_int) pe_int))
    (pss_cons (ps_set (i := 3) scLName.nd rfl (.inl rfl) (pe_op op_mod (pe_op op_fdiv (pv 0) pe_int) (pv 2)))
    (pss_cons (ps_set (i := 4) scLName.nd rfl (.inl rfl) (pe_op op_fdiv (pv 0) pe_int))
    (pss_cons (ps_set (i := 5) scLName.nd rfl (.inl rfl) pe_str)
    (pss_cons (ps_for PassesOwn.never rfl (pi_range1 (by rfl) T.range (pa_cons (pv 2) pa_nil)) (pg_name (i := 6) scLName.nd rfl (.inl rfl))
      (pss_cons (ps_set (i := 7) scLName.nd rfl (.inl rfl) pe_int)
      (C8.pss_cut (ps_if (pt_cmpR op_eq (pv 6) (pv 3) (nomark _)) (pss_one (ps_set (i := 7) scLName.nd rfl (.inl rfl) (pe_op op_mod (pe_op op_mod (pv 1) pe_int) (pe_op op_add pe_int (pe_op op_mod (pe_op op_fdiv (pv 0) pe_int) pe_int))))) pss_nil)
      (pss_cons (ps_set (i := 5) scLName.nd rfl (.inl rfl) (pe_op op_add_str (pv 5) (pe_ix ix_str pe_str (pe_op op_mod (pe_op op_add (pv 4) (pv 7)) pe_int) (fun _ _ => rfl))))
      (pss_one (ps_set (i := 4) scLName.nd rfl (.inl rfl) (pe_op op_fdiv (pv 4) pe_int)))))))
    (C8.pss_cut (ps_if (pt_cmpR op_eq (pe_op op_mod (pv 1) pe_int) pe_int (nomark _)) (pss_one (ps_set (i := 5) scLName.nd rfl (.inl rfl) (pe_slice sl_str (pe_op op_add_str (pv 5) pe_str) po_none (po_some pe_int)))) pss_nil)
    (pss_cons (ps_if (pt_cmpR op_in_seq (pv 5) (pe_lst (pa_strs (xs := said) (by rfl))) rfl) (pss_one (ps_set (i := 5) scLName.nd rfl (.inl rfl) (pe_op op_add_str pe_str (pe_slice sl_str (pv 5) (po_some pe_int) po_none)))) pss_nil)
    (pss_one (ps_ret (pv 5)))))))))), ?_⟩
  refine ⟨_, rfl, _, _, rfl, rfl, ⟨by decide, by decide⟩, _, _, rfl, rfl, (by show (0 : Int) < 4; decide), rfl, _, rfl, ?_⟩
  rw [dec_int]
  refine ite2 (fun h => ?_) (fun h => ?_)
  · have h : b / 64 % 4 = 3 := of_decide_eq_true h
    refine ⟨by show 5 ≤ sizeLine; decide, fun p hp => ?_⟩
    obtain ⟨x, hx, hx2, ha⟩ := atI_strs (xs := fixed) (i := n % 5) (by omega) (by show n % 5 < 5; omega)
    have e : lname b n = x := by
      unfold lname
      rw [if_pos h, List.getD_eq_getElem?_getD, hx2]
      rfl
    refine ⟨_, rfl, _, _, rfl, rfl, (by show (0 : Int) < 5; decide), p, _, _, _, rfl, rfl, SqL.of upd_same, ha, ?_⟩
    rw [← e]
    exact q _ (same_new hp _)
  have h : ¬ b / 64 % 4 = 3 := fun z => h (decide_eq_true z)
  obtain ⟨s1, s2, s3⟩ := lsize_ok b
  refine ⟨_, rfl, _, _, rfl, rfl, (by show (0 : Int) < 8; decide), _, _, rfl, rfl, ?_⟩
  refine ⟨_, rfl, _, _, rfl, rfl, ⟨by decide, by decide⟩, _, rfl, _, _, rfl, rfl, (by show (0 : Int) < b % 8 + 1; omega), ?_⟩
  refine ⟨_, rfl, _, _, rfl, rfl, ⟨by decide, by decide⟩, ?_⟩
  -- found = ''
  refine ⟨_, rfl, _, rfl, by omega, by omega, ?_⟩
  refine for_range (lo := 0) (n := (b % 8 + 1).toNat) (fun i σ H' => H' = H ∧ ∃ k st, σ = [some (.int b), some (.int n), some (.int (b % 8 + 1)), some (.int (b / 8 % (b % 8 + 1))), some (.int (lgo b n i).2), some (.str (lgo b n i).1), k, st]) ⟨rfl, _, _, rfl⟩ ?_ ?_
  · rintro i σ H1 hi ⟨rfl, k, st0, rfl⟩
    have hi8 : i < 8 := by
      have : (b % 8 + 1).toNat = lsize b := rfl
      omega
    -- step = 0
    refine ⟨fun σ' H' => H' = H1 ∧ σ' = [some (.int b), some (.int n), some (.int (b % 8 + 1)), some (.int (b / 8 % (b % 8 + 1))), some (.int (lgo b n i).2), some (.str (lgo b n i).1), some (.int (0 + (i : Int))), some (.int (if (i : Int) = lplace b then lstep b n else 0))], ?_, ?_⟩
    · refine ⟨_, rfl, _, rfl, rfl, _, rfl, ?_⟩
      rw [dec_int]
      refine ite2 (fun h => ?_) (fun h => ?_)
      · have h : (0 + (i : Int)) = b / 8 % (b % 8 + 1) := of_decide_eq_true h
        refine ⟨_, rfl, _, _, rfl, rfl, (by show (0 : Int) < 5; decide), _, rfl, _, _, rfl, rfl, ⟨by decide, by decide⟩, _, _, rfl, rfl, (by show (0 : Int) < 2; decide), _, _, rfl, rfl, _, _, rfl, rfl, (by show (0 : Int) < 4 + b / 64 % 2; omega), rfl, ?_⟩
        rw [if_pos (show (i : Int) = lplace b by unfold lplace; omega)]
        rfl
      · have h : ¬ (0 + (i : Int)) = b / 8 % (b % 8 + 1) := fun z => h (decide_eq_true z)
        refine ⟨rfl, ?_⟩
        rw [if_neg (show ¬ (i : Int) = lplace b by unfold lplace; omega)]
        rfl
    · rintro σ' H' ⟨rfl, rfl⟩
      obtain ⟨_, hlen⟩ := lgo_small b n i
      have ha := lets_at (i := ((lgo b n i).2 + (if (i : Int) = lplace b then lstep b n else 0)) % 26) (by omega) (by omega)
      refine ⟨_, rfl, _, rfl, _, rfl, _, _, rfl, rfl, _, _, rfl, rfl, (by show (0 : Int) < 26; decide), _, _, _, rfl, rfl, (by show lets.length ≤ sizeLine; decide +kernel), ha, _, _, rfl, rfl, (by rw [hlen]; exact small (by show i + 1 ≤ 8000; omega)), ?_⟩
      exact ⟨_, rfl, _, _, rfl, rfl, ⟨by decide, by decide⟩, rfl, _, _, rfl⟩
  · rintro σ H1 ⟨rfl, k, st0, rfl⟩
    have e0 : (b % 8 + 1).toNat = lsize b := rfl
    rw [e0]
    obtain ⟨h1, h2⟩ := lgo_small b n (lsize b)
    obtain ⟨c1, c2, c3⟩ := lcut_ok (n := n) h1 (by omega) (by omega)
    refine ⟨fun σ' H' => H' = H1 ∧ σ' = [some (.int b), some (.int n), some (.int (b % 8 + 1)), some (.int (b / 8 % (b % 8 + 1))), some (.int (lgo b n (lsize b)).2), some (.str (lcut n (lgo b n (lsize b)).1)), k, st0], ?_, ?_⟩
    · refine ⟨_, rfl, _, _, rfl, rfl, (by show (0 : Int) < 5; decide), rfl, _, rfl, ?_⟩
      rw [dec_int]
      unfold lcut
      refine ite2 (fun h => ?_) (fun h => ?_)
      · have h : n % 5 = 4 := of_decide_eq_true h
        refine ⟨_, rfl, _, _, rfl, rfl, (by rw [h2]; exact small (by show lsize b + 1 ≤ 8000; omega)), _, rfl, _, rfl, (by rw [len_app, h2]; exact small (by show lsize b + 1 ≤ 8000; omega)), rfl, ?_⟩
        rw [if_pos h]
        rfl
      · have h : ¬ n % 5 = 4 := fun z => h (decide_eq_true z)
        refine ⟨rfl, ?_⟩
        rw [if_neg h]
    · rintro σ' H' ⟨rfl, rfl⟩
      have e : lname b n = lfix (lcut n (lgo b n (lsize b)).1) := by
        unfold lname
        rw [if_neg h]
      refine ⟨_, rfl, by show 8 ≤ sizeLine; decide, fun p hp => ?_⟩
      refine ⟨p, _, rfl, .inl (SqL.of upd_same), rfl, flat_strs _, _, rfl, ?_⟩
      rw [inV_str]
      unfold lfix at e
      refine ite2 (fun h => ?_) (fun h => ?_)
      · rw [if_pos (of_decide_eq_true h)] at e
        refine ⟨_, rfl, _, rfl, _, rfl, small (by omega), _, _, rfl, rfl, ?_, ?_⟩
        · have := cutS_length (lcut n (lgo b n (lsize b)).1) (some 1) none
          exact small (by show 1 + _ ≤ 8000; omega)
        · refine ⟨_, rfl, ?_⟩
          rw [← e]
          exact q _ (same_new hp _)
      · rw [if_neg (fun z => h (decide_eq_true z))] at e
        refine ⟨_, rfl, ?_⟩
        rw [← e]
        exact q _ (same_new hp _)
end
end K22
/-! L3: leaves, words of leaves, words of ops. -/
namespace K22
open PySem L2
section
variable {P : Program} {w : World} {K : PySem.W.Frag} {mg : Str → Option Value} {base : Heap} {C aS aM : Addr}
/-! ### leaves -/
def spLeaf : Sp := fun vs H Q _ => ∃ c k b : Int, vs = [.int c, .int k, .int b] ∧ ∀ v t H', Same H H' → TmAt H' v t → t.ok → t.isLeaf = true → Q v H'
theorem scLeaf : FnScope ["cell", "k", "base", "way"] ["cell", "k", "base"] (defScope sLeaf) := ⟨rfl, rfl, rfl, by decide +kernel, rfl, by decide +kernel, by decide +kernel⟩
theorem ok_leaf {f fN fV : Addr} {fd dN dV : FuncData} (F : Fun K "_law_leaf" "_law_leaf" sLeaf f fd) (N : Dn P w K mg base CX0 1 "_law_name" fN dN ["base", "n"] spLName) (V : Dn P w K mg base CX0 1 "_law_value" fV dV ["cell"] spValue) :
    FnOk P w K mg base CX0 2 f fd ["cell", "k", "base"] spLeaf := by
  refine F.ok scLeaf (fun vs H Q E h => ?_) (fun cdv A outer s H vs Q E hr h => ?_)
  · obtain ⟨c, k, b, rfl, _⟩ := h
    rfl
  obtain ⟨c, k, b, rfl, q⟩ := h
  refine ⟨_, pss_cons (ps_set (i := 3) scLeaf.nd rfl (.inl rfl) (pe_op op_mod (pv 0) pe_int))
    (pss_cons (ps_set (i := 0) scLeaf.nd rfl (.inl rfl) (pe_op op_fdiv (pv 0) pe_int))
    (pss_cons (ps_if (pt_cmpR op_lt (pv 3) pe_int (nomark _)) (pss_one (ps_ret (pe_tup (pa_cons pe_str (pa_cons (pe_d N hr (by decide) (by rfl) (pa_cons (pv 2) (pa_cons (pe_op op_add (pv 0) (pv 1)) pa_nil))) pa_nil))))) pss_nil)
    (pss_cons (ps_if (pt_cmpR op_eq (pv 3) pe_int (nomark _)) (pss_one (ps_ret (pe_tup (pa_cons pe_str (pa_cons (pe_op op_sub (pe_op op_mod (pe_op op_add (pv 0) (pv 1)) pe_int) pe_int) pa_nil))))) pss_nil)
    (pss_one (ps_ret (pe_tup (pa_cons pe_str (pa_cons (pe_d V hr (by decide) (by rfl) (pa_cons (pv 0) pa_nil)) pa_nil)))))))), ?_⟩
  refine ⟨_, rfl, _, _, rfl, rfl, (by show (0 : Int) < 4; decide), ?_⟩
  refine ⟨_, rfl, _, _, rfl, rfl, ⟨by decide, by decide⟩, ?_⟩
  refine ⟨_, rfl, _, _, rfl, rfl, _, rfl, ?_⟩
  refine ite2 (fun h => ?_) (fun h => ?_)
  · refine ⟨_, rfl, _, rfl, _, rfl, _, _, rfl, rfl, b, c / 4 + k, rfl, fun H1 g1 => ⟨by show 2 ≤ sizeLine; decide, fun p hp => ?_⟩⟩
    exact q (.ref p) (.name (lname b (c / 4 + k))) _ (g1.trans (same_new hp _)) (.name upd_same) (lname_ok _ _) rfl
  refine ⟨_, rfl, rfl, _, rfl, ?_⟩
  refine ite2 (fun h => ?_) (fun h => ?_)
  · refine ⟨_, rfl, _, rfl, _, _, rfl, rfl, _, _, rfl, rfl, (by show (0 : Int) < 7; decide), _, _, rfl, rfl, by show 2 ≤ sizeLine; decide, fun p hp => ?_⟩
    refine q (.ref p) (.num ((c / 4 + k) % 7 - 3)) _ (same_new hp _) (.num upd_same) ⟨?_, ?_⟩ rfl
    · show -1000000000000000000000000000000 ≤ (c / 4 + k) % 7 - 3
      omega
    · show (c / 4 + k) % 7 - 3 ≤ 1000000000000000000000000000000
      omega
  · refine ⟨_, rfl, c / 4, rfl, fun n h1 h2 => ⟨by show 2 ≤ sizeLine; decide, fun p hp => ?_⟩⟩
    exact q (.ref p) (.num n) _ (same_new hp _) (.num upd_same) ⟨h1, h2⟩ rfl
/-! ### words of a leaf -/
/-- a new list of words at p -/
def Wds (H H' : Hp) (p : Addr) (ws : List Str) : Prop := Same H H' ∧ H p = none ∧ H' p = some (.lst (ws.map V.str))
def spLWords : Sp := fun vs H Q _ => ∃ (v : V) (t : Tm), vs = [v] ∧ TmAt H v t ∧ t.ok ∧ t.isLeaf = true ∧ ∀ p H', Wds H H' p t.words → Q (.ref p) H'
theorem scLWords : FnScope ["leaf"] ["leaf"] (defScope sLWords) := ⟨rfl, rfl, rfl, by decide +kernel, rfl, by decide +kernel, by decide +kernel⟩
theorem big_bits {n : Int} (h1 : -BIG ≤ n) (h2 : n ≤ BIG) : n.natAbs.log2 < 1920 := by
  have h : n.natAbs ≤ 1000000000000000000000000000000 := by
    have h1 : -1000000000000000000000000000000 ≤ n := h1
    have h2 : n ≤ 1000000000000000000000000000000 := h2
    omega
  by_cases z : n.natAbs = 0
  · rw [z]
    decide
  · exact (Nat.log2_lt z).mpr (Nat.lt_of_le_of_lt h (by decide +kernel))
theorem ok_lwords {f : Addr} {fd : FuncData} (F : Fun K "_law_leaf_words" "_law_leaf_words" sLWords f fd) (T : Bt mg) : FnOk P w K mg base CX0 1 f fd ["leaf"] spLWords := by
  refine F.ok scLWords (fun vs H Q E h => ?_) (fun cdv A outer s H vs Q E hr h => ?_)
  · obtain ⟨v, t, rfl, _⟩ := h
    rfl
  obtain ⟨v, t, rfl, hT, hok, hl, q⟩ := h
  refine ⟨_, pss_cons (ps_if (pt_cmpR op_eq (pe_ix ix_tup (pv 0) pe_int (fun _ _ => rfl)) pe_str (nomark _)) (pss_one (ps_ret (pe_lst (pa_cons (pe_ix ix_tup (pv 0) pe_int (fun _ _ => rfl)) pa_nil)))) pss_nil)
    (pss_cons (ps_if (pt_cmpR op_lt (pe_ix ix_tup (pv 0) pe_int (fun _ _ => rfl)) pe_int (nomark _))
      (pss_one (ps_ret (pe_lst (pa_cons pe_str (pa_cons (pe_callTy call_str_int (by rfl) T.str (by decide +kernel) (pa_cons (pe_un un_neg (pe_ix ix_tup (pv 0) pe_int (fun _ _ => rfl))) pa_nil)) pa_nil))))) pss_nil)
    (pss_one (ps_ret (pe_lst (pa_cons (pe_callTy call_str_int (by rfl) T.str (by decide +kernel) (pa_cons (pe_ix ix_tup (pv 0) pe_int (fun _ _ => rfl)) pa_nil)) pa_nil))))), ?_⟩
  cases hT with
  | @name a x hA =>
    have h0 : atI [st "name", V.str x] ((0 : Nat) : Int) = some (st "name") := atI_nat rfl
    have h1 : atI [st "name", V.str x] ((1 : Nat) : Int) = some (V.str x) := atI_nat rfl
    refine ⟨_, rfl, a, _, 0, _, rfl, rfl, SqT.of hA, h0, rfl, _, rfl, iteT ?_⟩
    exact ⟨_, rfl, a, _, 1, _, rfl, rfl, SqT.of hA, h1, by show 1 ≤ sizeLine; decide, fun p hp => q p _ ⟨same_new hp _, hp, upd_same⟩⟩
  | @num a n hA =>
    have h0 : atI [st "num", V.int n] ((0 : Nat) : Int) = some (st "num") := atI_nat rfl
    have h1 : atI [st "num", V.int n] ((1 : Nat) : Int) = some (V.int n) := atI_nat rfl
    have hf : decide (st "num" = V.str (Str.ofString "name")) = false := by decide +kernel
    have hok : -BIG ≤ n ∧ n ≤ BIG := hok
    refine ⟨_, rfl, a, _, 0, _, rfl, rfl, SqT.of hA, h0, rfl, _, rfl, ?_⟩
    rw [hf]
    refine iteF ?_
    refine ⟨_, rfl, a, _, 1, _, rfl, rfl, SqT.of hA, h1, _, _, rfl, rfl, _, rfl, ?_⟩
    refine ite2 (fun h => ?_) (fun h => ?_)
    · have h : n < 0 := of_decide_eq_true h
      refine ⟨_, rfl, a, _, 1, _, rfl, rfl, SqT.of hA, h1, _, rfl, _, rfl, big_bits (by omega) (by omega), by show 2 ≤ sizeLine; decide, fun p hp => q p _ ⟨same_new hp _, hp, ?_⟩⟩
      show upd H p _ p = some (.lst ((numWords n).map V.str))
      unfold numWords
      rw [if_pos h, upd_same]
      rfl
    · have h : ¬ n < 0 := fun z => h (decide_eq_true z)
      refine ⟨_, rfl, a, _, 1, _, rfl, rfl, SqT.of hA, h1, _, rfl, big_bits hok.1 hok.2, by show 1 ≤ sizeLine; decide, fun p hp => q p _ ⟨same_new hp _, hp, ?_⟩⟩
      show upd H p _ p = some (.lst ((numWords n).map V.str))
      unfold numWords
      rw [if_neg h, upd_same]
      rfl
  | nott _ _ => cases hl
  | bin _ _ _ => cases hl
  | pick _ _ _ _ => cases hl
/-! ### words of an op -/
inductive Jw : Str → List (List Str) → List Str → Prop
  | nott (a : List Str) : Jw "not" [a] (Str.ofString "!" :: a)
  | bin (o : Bop) (a b : List Str) : Jw o.nm [a, b] (Str.ofString "(" :: (a ++ o.sg :: (b ++ [Str.ofString ")"])))
  | pick (a b c : List Str) : Jw "pick" [a, b, c] (Str.ofString "(" :: (a ++ Str.ofString "?" :: (b ++ Str.ofString ":" :: (c ++ [Str.ofString ")"]))))
/-- lists of words at addresses -/
def WlAt (H : Hp) (xs : List V) (wl : List (List Str)) : Prop := xs.length = wl.length ∧ ∀ (i : Nat) (x : V) (ws : List Str), xs[i]? = some x → wl[i]? = some ws → ∃ p, x = .ref p ∧ H p = some (.lst (ws.map V.str))
def spWords (K : PySem.W.Frag) : Sp := fun vs H Q _ => ∃ (o : Str) (a : Addr) (xs : List V) (wl : List (List Str)) (ws : List Str), vs = [.str o, .ref a] ∧ SqL K H a xs ∧ WlAt H xs wl ∧ Jw o wl ws ∧ ws.length ≤ 2000 ∧ ∀ p H', Wds H H' p ws → Q (.ref p) H'
theorem scWords : FnScope ["op", "parts", "some"] ["op", "parts"] (defScope sWords) := ⟨rfl, rfl, rfl, by decide +kernel, rfl, by decide +kernel, by decide +kernel⟩
def someKV : List (Key × V) := [(.inr "add", st "+"), (.inr "sub", st "-"), (.inr "mul", st "*"), (.inr "less", st "<"), (.inr "same", st "="), (.inr "both", st "&"), (.inr "any", st "|")]
theorem some_at (o : Bop) : valV (mergeK [] someKV) (.inr o.nm) = some (.str o.sg) := by cases o <;> decide +kernel
theorem some_get {H : Hp} {pd : Addr} (o : Bop) (hd : H pd = some (.dK (mergeK [] someKV))) : DGet H pd (.str o.nm) (some (.str o.sg)) := by
  have z := DGet.k (k := Sum.inr o.nm) hd
  rw [some_at] at z
  exact z
theorem nm_not (o : Bop) : decide (o.nm = Str.ofString "not") = false ∧ decide (o.nm = Str.ofString "pick") = false := by cases o <;> decide +kernel
/-- one + of two lists of words -/
theorem cat_words {H : Hp} {l b : Addr} {xs ys : List Str} {Q : VK} (h1 : H l = some (.lst (xs.map V.str))) (h2 : H b = some (.lst (ys.map V.str))) (hz : xs.length + ys.length ≤ 4000) (q : ∀ p, H p = none → Q (.ref p) (upd H p (.lst ((xs ++ ys).map V.str)))) :
    rCat (.ref l) (.ref b) H Q := ⟨l, b, _, _, rfl, rfl, h1, h2, by rw [List.length_map, List.length_map]; exact small (by omega), fun p hp => by rw [← List.map_append]; exact q p hp⟩
theorem wl_get {H : Hp} {xs : List V} {wl : List (List Str)} (h : WlAt H xs wl) {i : Nat} {ws : List Str} (e : wl[i]? = some ws) : ∃ p, xs[i]? = some (.ref p) ∧ H p = some (.lst (ws.map V.str)) := by
  have hi : i < wl.length := (List.getElem?_eq_some_iff.mp e).1
  have hx : xs[i]? = some (xs[i]'(by rw [h.1]; exact hi)) := List.getElem?_eq_getElem _
  obtain ⟨p, e1, e2⟩ := h.2 i _ ws hx e
  exact ⟨p, by rw [hx, e1], e2⟩
theorem ok_words {f : Addr} {fd : FuncData} (F : Fun K "_law_words" "_law_words" sWords f fd) : FnOk P w K mg base CX0 1 f fd ["op", "parts"] (spWords K) := by
  refine F.ok scWords (fun vs H Q E h => ?_) (fun cdv A outer s H vs Q E hr h => ?_)
  · obtain ⟨o, a, xs, wl, ws, rfl, _⟩ := h
    rfl
  obtain ⟨o, a, xs, wl, ws, rfl, hS, hW, hJ, hz, q⟩ := h
  refine ⟨_, pss_cons (ps_if (pt_cmpR op_eq (pv 0) pe_str (nomark _)) (pss_one (ps_ret (pe_op op_cat (pe_lst (pa_cons pe_str pa_nil)) (pe_ix ix_list (pv 1) pe_int (fun _ _ => rfl))))) pss_nil)
    (pss_cons (ps_if (pt_cmpR op_eq (pv 0) pe_str (nomark _)) (pss_one (ps_ret (pe_op op_cat (pe_op op_cat (pe_op op_cat (pe_op op_cat (pe_op op_cat (pe_op op_cat (pe_lst (pa_cons pe_str pa_nil)) (pe_ix ix_list (pv 1) pe_int (fun _ _ => rfl)))
      (pe_lst (pa_cons pe_str pa_nil))) (pe_ix ix_list (pv 1) pe_int (fun _ _ => rfl))) (pe_lst (pa_cons pe_str pa_nil))) (pe_ix ix_list (pv 1) pe_int (fun _ _ => rfl))) (pe_lst (pa_cons pe_str pa_nil))))) pss_nil)
    (pss_cons (ps_set (i := 2) scWords.nd rfl (.inl rfl) (pe_disp (pps_cons pe_str pe_str (pps_cons pe_str pe_str (pps_cons pe_str pe_str (pps_cons pe_str pe_str (pps_cons pe_str pe_str (pps_cons pe_str pe_str (pps_cons pe_str pe_str pps_nil))))))) (by rfl) (by rfl) (fun z => by cases z) (by decide)))
    (pss_one (ps_ret (pe_op op_cat (pe_op op_cat (pe_op op_cat (pe_op op_cat (pe_lst (pa_cons pe_str pa_nil)) (pe_ix ix_list (pv 1) pe_int (fun _ _ => rfl)))
      (pe_lst (pa_cons (pe_dget (hu_of hr) (pv 2) (pv 0) (fun _ _ => rfl)) pa_nil))) (pe_ix ix_list (pv 1) pe_int (fun _ _ => rfl))) (pe_lst (pa_cons pe_str pa_nil))))))), ?_⟩
  cases hJ with
  | nott a0 =>
    obtain ⟨p0, x0, h0⟩ := wl_get hW (i := 0) rfl
    have t0 : atI xs ((0 : Nat) : Int) = some (.ref p0) := atI_nat x0
    simp only [List.length_cons] at hz
    refine ⟨_, rfl, rfl, _, rfl, ?_⟩
    rw [dec_str]
    refine iteT ⟨by show 1 ≤ sizeLine; decide, fun p hp => ?_⟩
    have g1 := same_new hp (.lst [st "!"])
    refine ⟨_, rfl, a, _, 0, _, rfl, rfl, g1.seq hS, t0, cat_words (xs := [Str.ofString "!"]) (ys := a0) upd_same (g1 _ _ h0) (by simp only [List.length_cons, List.length_nil]; omega) fun p2 hp2 => ?_⟩
    exact q p2 _ ⟨g1.trans (same_new hp2 _), g1.free hp2, upd_same⟩
  | pick a0 a1 a2 =>
    obtain ⟨p0, x0, h0⟩ := wl_get hW (i := 0) rfl
    obtain ⟨p1, x1, h1⟩ := wl_get hW (i := 1) rfl
    obtain ⟨p2, x2, h2⟩ := wl_get hW (i := 2) rfl
    have t0 : atI xs ((0 : Nat) : Int) = some (.ref p0) := atI_nat x0
    have t1 : atI xs ((1 : Nat) : Int) = some (.ref p1) := atI_nat x1
    have t2 : atI xs ((2 : Nat) : Int) = some (.ref p2) := atI_nat x2
    simp only [List.length_cons, List.length_append, List.length_nil] at hz
    have hn : decide (Str.ofString "pick" = Str.ofString "not") = false := by decide +kernel
    refine ⟨_, rfl, rfl, _, rfl, ?_⟩
    rw [dec_str, hn]
    refine iteF ?_
    refine ⟨_, rfl, rfl, _, rfl, ?_⟩
    rw [dec_str]
    refine iteT ?_
    refine ⟨by show 1 ≤ sizeLine; decide, fun q0 hq0 => ?_⟩
    have g0 := same_new hq0 (.lst [st "("])
    refine ⟨_, rfl, a, _, 0, _, rfl, rfl, g0.seq hS, t0, cat_words (xs := [Str.ofString "("]) (ys := a0) upd_same (g0 _ _ h0) (by simp only [List.length_cons, List.length_nil]; omega) fun q1 hq1 => ?_⟩
    have g1 := g0.trans (same_new hq1 (.lst (([Str.ofString "("] ++ a0).map V.str)))
    refine ⟨by show 1 ≤ sizeLine; decide, fun q2 hq2 => ?_⟩
    have n2 := same_new hq2 (.lst [st "?"])
    have g2 := g1.trans n2
    refine cat_words (xs := [Str.ofString "("] ++ a0) (ys := [Str.ofString "?"]) (n2 _ _ upd_same) upd_same (by simp only [List.length_cons, List.length_append, List.length_nil]; omega) fun q3 hq3 => ?_
    have g3 := g2.trans (same_new hq3 (.lst (([Str.ofString "("] ++ a0 ++ [Str.ofString "?"]).map V.str)))
    refine ⟨_, rfl, a, _, 1, _, rfl, rfl, g3.seq hS, t1, cat_words (xs := [Str.ofString "("] ++ a0 ++ [Str.ofString "?"]) (ys := a1) upd_same (g3 _ _ h1) (by simp only [List.length_cons, List.length_append, List.length_nil]; omega) fun q4 hq4 => ?_⟩
    have g4 := g3.trans (same_new hq4 (.lst (([Str.ofString "("] ++ a0 ++ [Str.ofString "?"] ++ a1).map V.str)))
    refine ⟨by show 1 ≤ sizeLine; decide, fun q5 hq5 => ?_⟩
    have n5 := same_new hq5 (.lst [st ":"])
    have g5 := g4.trans n5
    refine cat_words (xs := [Str.ofString "("] ++ a0 ++ [Str.ofString "?"] ++ a1) (ys := [Str.ofString ":"]) (n5 _ _ upd_same) upd_same (by simp only [List.length_cons, List.length_append, List.length_nil]; omega) fun q6 hq6 => ?_
    have g6 := g5.trans (same_new hq6 (.lst (([Str.ofString "("] ++ a0 ++ [Str.ofString "?"] ++ a1 ++ [Str.ofString ":"]).map V.str)))
    refine ⟨_, rfl, a, _, 2, _, rfl, rfl, g6.seq hS, t2, cat_words (xs := [Str.ofString "("] ++ a0 ++ [Str.ofString "?"] ++ a1 ++ [Str.ofString ":"]) (ys := a2) upd_same (g6 _ _ h2) (by simp only [List.length_cons, List.length_append, List.length_nil]; omega) fun q7 hq7 => ?_⟩
    have g7 := g6.trans (same_new hq7 (.lst (([Str.ofString "("] ++ a0 ++ [Str.ofString "?"] ++ a1 ++ [Str.ofString ":"] ++ a2).map V.str)))
    refine ⟨by show 1 ≤ sizeLine; decide, fun q8 hq8 => ?_⟩
    have n8 := same_new hq8 (.lst [st ")"])
    have g8 := g7.trans n8
    refine cat_words (xs := [Str.ofString "("] ++ a0 ++ [Str.ofString "?"] ++ a1 ++ [Str.ofString ":"] ++ a2) (ys := [Str.ofString ")"]) (n8 _ _ upd_same) upd_same (by simp only [List.length_cons, List.length_append, List.length_nil]; omega) fun q9 hq9 => ?_
    refine q q9 _ ⟨g8.trans (same_new hq9 _), g8.free hq9, ?_⟩
    rw [upd_same]
    simp only [List.append_assoc, List.cons_append, List.nil_append]
  | bin o a0 a1 =>
    obtain ⟨p0, x0, h0⟩ := wl_get hW (i := 0) rfl
    obtain ⟨p1, x1, h1⟩ := wl_get hW (i := 1) rfl
    have t0 : atI xs ((0 : Nat) : Int) = some (.ref p0) := atI_nat x0
    have t1 : atI xs ((1 : Nat) : Int) = some (.ref p1) := atI_nat x1
    simp only [List.length_cons, List.length_append, List.length_nil] at hz
    refine ⟨_, rfl, rfl, _, rfl, ?_⟩
    rw [dec_str, (nm_not o).1]
    refine iteF ?_
    refine ⟨_, rfl, rfl, _, rfl, ?_⟩
    rw [dec_str, (nm_not o).2]
    refine iteF ?_
    refine fun pd hpd => ⟨upd_same, someKV, rfl, by decide, ?_⟩
    rw [upd_upd]
    have gd := same_new hpd (.dK (mergeK [] someKV))
    refine ⟨by show 1 ≤ sizeLine; decide, fun q0 hq0 => ?_⟩
    have n0 := same_new hq0 (.lst [st "("])
    have g0 := gd.trans n0
    refine ⟨_, rfl, a, _, 0, _, rfl, rfl, g0.seq hS, t0, cat_words (xs := [Str.ofString "("]) (ys := a0) upd_same (g0 _ _ h0) (by simp only [List.length_cons, List.length_nil]; omega) fun q1 hq1 => ?_⟩
    have n1 := same_new hq1 (.lst (([Str.ofString "("] ++ a0).map V.str))
    have g1 := g0.trans n1
    have hg := some_get o (n1 _ _ (n0 _ _ (upd_same (H := H) (a := pd) (o := .dK (mergeK [] someKV)))))
    refine ⟨_, rfl, _, rfl, pd, _, rfl, hg, by show 1 ≤ sizeLine; decide, fun q2 hq2 => ?_⟩
    have n2 := same_new hq2 (.lst [.str o.sg])
    have g2 := g1.trans n2
    refine cat_words (xs := [Str.ofString "("] ++ a0) (ys := [o.sg]) (n2 _ _ upd_same) upd_same (by simp only [List.length_cons, List.length_append, List.length_nil]; omega) fun q3 hq3 => ?_
    have g3 := g2.trans (same_new hq3 (.lst (([Str.ofString "("] ++ a0 ++ [o.sg]).map V.str)))
    refine ⟨_, rfl, a, _, 1, _, rfl, rfl, g3.seq hS, t1, cat_words (xs := [Str.ofString "("] ++ a0 ++ [o.sg]) (ys := a1) upd_same (g3 _ _ h1) (by simp only [List.length_cons, List.length_append, List.length_nil]; omega) fun q4 hq4 => ?_⟩
    have g4 := g3.trans (same_new hq4 (.lst (([Str.ofString "("] ++ a0 ++ [o.sg] ++ a1).map V.str)))
    refine ⟨by show 1 ≤ sizeLine; decide, fun q5 hq5 => ?_⟩
    have n5 := same_new hq5 (.lst [st ")"])
    have g5 := g4.trans n5
    refine cat_words (xs := [Str.ofString "("] ++ a0 ++ [o.sg] ++ a1) (ys := [Str.ofString ")"]) (n5 _ _ upd_same) upd_same (by simp only [List.length_cons, List.length_append, List.length_nil]; omega) fun q6 hq6 => ?_
    refine q q6 _ ⟨g5.trans (same_new hq6 _), g5.free hq6, ?_⟩
    rw [upd_same]
    simp only [List.append_assoc, List.cons_append, List.nil_append]
end
end K22
/-! L4: a term over others, odd words, spoiled words. -/
namespace K22
open PySem L2
/-! ### items of the pile -/
/-- an item: the term, its depth, its pieces, its words (the list at wl) -/
def ItW (H : Hp) (v : V) (t : Tm) (wl : Addr) : Prop := ∃ (a : Addr) (tv : V), v = .ref a ∧ H a = some (.tup [tv, .int (t.deep : Int), .int (t.many : Int), .ref wl]) ∧ TmAt H tv t ∧ H wl = some (.lst (t.words.map V.str))
inductive Its (H : Hp) : List V → List Tm → List V → List Addr → Prop
  | nil : Its H [] [] [] []
  | cons {a wl : Addr} {t : Tm} {tv : V} {xs tvs : List V} {ts : List Tm} {wls : List Addr} : H a = some (.tup [tv, .int (t.deep : Int), .int (t.many : Int), .ref wl]) → TmAt H tv t → H wl = some (.lst (t.words.map V.str)) → Its H xs ts tvs wls →
      Its H (.ref a :: xs) (t :: ts) (tv :: tvs) (wl :: wls)
theorem Its.mono {H H' : Hp} (e : Same H H') {xs tvs : List V} {ts : List Tm} {wls : List Addr} (h : Its H xs ts tvs wls) : Its H' xs ts tvs wls := by
  induction h with
  | nil => exact .nil
  | cons h1 h2 h3 _ ih => exact .cons (e _ _ h1) (h2.mono e) (e _ _ h3) ih
theorem Its.len {H : Hp} {xs tvs : List V} {ts : List Tm} {wls : List Addr} (h : Its H xs ts tvs wls) : ts.length = xs.length ∧ tvs.length = xs.length ∧ wls.length = xs.length := by
  induction h with
  | nil => exact ⟨rfl, rfl, rfl⟩
  | cons _ _ _ _ ih =>
    simp only [List.length_cons]
    omega
theorem Its.get {H : Hp} {xs tvs : List V} {ts : List Tm} {wls : List Addr} (h : Its H xs ts tvs wls) : ∀ {i : Nat} {x : V}, xs[i]? = some x → ∃ (a wl : Addr) (t : Tm) (tv : V), x = .ref a ∧ ts[i]? = some t ∧ tvs[i]? = some tv ∧ wls[i]? = some wl ∧
    H a = some (.tup [tv, .int (t.deep : Int), .int (t.many : Int), .ref wl]) ∧ TmAt H tv t ∧ H wl = some (.lst (t.words.map V.str)) := by
  induction h with
  | nil => intro i x hx; simp at hx
  | cons h1 h2 h3 _ ih =>
    intro i x hx
    cases i with
    | zero =>
      have hx := Option.some.inj hx
      exact ⟨_, _, _, _, hx.symm, rfl, rfl, rfl, h1, h2, h3⟩
    | succ i => exact ih (by simpa using hx)
theorem Its.of {H : Hp} : ∀ {xs : List V} {ts : List Tm}, xs.length = ts.length → (∀ (i : Nat) (x : V) (t : Tm), xs[i]? = some x → ts[i]? = some t → ∃ wl, ItW H x t wl) → ∃ tvs wls, Its H xs ts tvs wls
  | [], [], _, _ => ⟨_, _, .nil⟩
  | x :: xs, t :: ts, hl, h => by
    obtain ⟨wl, a, tv, rfl, h1, h2, h3⟩ := h 0 _ _ rfl rfl
    obtain ⟨tvs, wls, ih⟩ := Its.of (H := H) (xs := xs) (ts := ts) (by simpa using hl) (fun i x t hx ht => h (i + 1) x t (by simpa using hx) (by simpa using ht))
    exact ⟨_, _, .cons h1 h2 h3 ih⟩
/-- a term over others -/
inductive Ov : Str → List Tm → Tm → Prop
  | nott (t : Tm) : Ov "not" [t] (.nott t)
  | bin (o : Bop) (t u : Tm) : Ov o.nm [t, u] (.bin o t u)
  | pick (t u v : Tm) : Ov "pick" [t, u, v] (.pick t u v)
theorem Ov.deep {o : Str} {ts : List Tm} {t : Tm} (h : Ov o ts t) {m : Int} (h1 : m ∈ ts.map fun k => ((k.deep : Nat) : Int)) (h2 : ∀ y, (y ∈ ts.map fun k => ((k.deep : Nat) : Int)) → y ≤ m) : 1 + m = ((t.deep : Nat) : Int) := by
  cases h with
  | nott t =>
    simp only [List.map_cons, List.map_nil, List.mem_cons, List.not_mem_nil, or_false] at h1
    simp only [Tm.deep]
    omega
  | bin o t u =>
    have a := h2 t.deep (by simp)
    have b := h2 u.deep (by simp)
    simp only [List.map_cons, List.map_nil, List.mem_cons, List.not_mem_nil, or_false] at h1
    simp only [Tm.deep]
    omega
  | pick t u v =>
    have a := h2 t.deep (by simp)
    have b := h2 u.deep (by simp)
    have c := h2 v.deep (by simp)
    simp only [List.map_cons, List.map_nil, List.mem_cons, List.not_mem_nil, or_false] at h1
    simp only [Tm.deep]
    omega
theorem Ov.many {o : Str} {ts : List Tm} {t : Tm} (h : Ov o ts t) : 1 + (ts.map fun k => ((k.many : Nat) : Int)).sum = ((t.many : Nat) : Int) := by
  cases h with
  | nott t => exact (kids_many (t := .nott t) rfl).symm
  | bin o t u => exact (kids_many (t := .bin o t u) rfl).symm
  | pick t u v => exact (kids_many (t := .pick t u v) rfl).symm
theorem Ov.words {o : Str} {ts : List Tm} {t : Tm} (h : Ov o ts t) : Jw o (ts.map Tm.words) t.words := by
  cases h with
  | nott t => exact .nott _
  | bin o t u => exact .bin _ _ _
  | pick t u v => exact .pick _ _ _
theorem Ov.pos {o : Str} {ts : List Tm} {t : Tm} (h : Ov o ts t) : 0 < ts.length ∧ ts.length ≤ 3 := by cases h <;> simp
theorem Ov.at {H : Hp} {o : Str} {ts : List Tm} {t : Tm} {xs tvs : List V} {wls : List Addr} {a : Addr} (h : Ov o ts t) (I : Its H xs ts tvs wls) (e : H a = some (.tup (.str o :: tvs))) : TmAt H (.ref a) t := by
  cases h with
  | nott t =>
    cases I with
    | cons _ h1 _ I =>
      cases I
      exact .nott e h1
  | bin o t u =>
    cases I with
    | cons _ h1 _ I =>
      cases I with
      | cons _ h2 _ I =>
        cases I
        exact .bin e h1 h2
  | pick t u v =>
    cases I with
    | cons _ h1 _ I =>
      cases I with
      | cons _ h2 _ I =>
        cases I with
        | cons _ h3 _ I =>
          cases I
          exact .pick e h1 h2 h3
section
variable {P : Program} {w : World} {K : PySem.W.Frag} {mg : Str → Option Value} {base : Heap} {C aS aM : Addr}
/-- [part[j] for part in parts] -/
theorem lc_item {K : PySem.W.Frag} {a : Addr} {xs ys : List V} {j jj : Nat} {σ : St} {H1 : Hp} {D : Addr} {Qd : Hp → Prop} (hj : j < σ.length) (hS : SqL K H1 a xs) (hlen : ys.length = xs.length) (hsz : xs.length ≤ 8000) (hD : H1 D = none)
    (hi : ∀ (i : Nat) (x y : V), xs[i]? = some x → ys[i]? = some y → ∃ (b : Addr) (us : List V), x = .ref b ∧ H1 b = some (.tup us) ∧ us[jj]? = some y)
    (hd : ∀ H, Same H1 H → H D = some (.lst ys) → Qd H) :
    ∃ W : Nat → Nat → Hp → Prop, (∃ m, W 0 m (upd H1 D (.lst []))) ∧ ∀ i m H, W i m H →
      ((Itl K a).stop i H ∧ Qd H) ∨ ((Itl K a).go i H ∧ ∃ Nx : Hp → Prop, (∀ H', Nx H' → ∃ m', m' < m ∧ W (i + 1) m' H') ∧ ∀ x H', (Itl K a).yld i H x H' → gName j x (wipe σ [j]) H' fun σ2 H2 => wipe σ2 [j] = wipe σ [j] ∧ tYes σ2 H2 fun b H3 =>
        if b = true then tOp (rIxT K) (tVar j) (tC (.int (jj : Int))) σ2 H3 fun y H4 => ∃ acc, H4 D = some (.lst acc) ∧ acc.length < sizeLine ∧ Nx (upd H4 D (.lst (acc ++ [y]))) else Nx H3) := by
  refine lc_map (walk_list (K := K)) ys hlen hsz hD (fun H' e => e.seq hS) (fun i x y H' Q' hx hy e q' => ?_) hd
  obtain ⟨b, us, rfl, hb, hu⟩ := hi i x y hx hy
  have hs : ((σ.set j none).set j (some (V.ref b)))[j]? = some (some (V.ref b)) := by
    rw [List.getElem?_set_self]
    rw [List.length_set]
    exact hj
  exact ⟨_, hs, b, us, (jj : Int), y, rfl, rfl, SqT.of (e _ _ hb), atI_nat hu, q' H' (Same.refl H')⟩
/-! ### _law_over -/
def spOver (K : PySem.W.Frag) : Sp := fun vs H Q _ => ∃ (o : Str) (a : Addr) (xs tvs : List V) (ts : List Tm) (wls : List Addr) (t : Tm), vs = [.str o, .ref a] ∧ SqL K H a xs ∧ Its H xs ts tvs wls ∧ Ov o ts t ∧ t.words.length ≤ 2000 ∧
  ∀ v wl H', Same H H' → H wl = none → ItW H' v t wl → Q v H'
theorem scOver : FnScope ["op", "parts", "term", "deep", "many", "part"] ["op", "parts"] (defScope sOver) := ⟨rfl, rfl, rfl, by decide +kernel, rfl, by decide +kernel, by decide +kernel⟩
theorem ok_over {f fW : Addr} {fd dW : FuncData} (F : Fun K "_law_over" "_law_over" sOver f fd) (T : Bt mg) (W : Dn P w K mg base CX0 1 "_law_words" fW dW ["op", "parts"] (spWords K)) :
    FnOk P w K mg base CX0 2 f fd ["op", "parts"] (spOver K) := by
  refine F.ok scOver (fun vs H Q E h => ?_) (fun cdv A outer s H vs Q E hr h => ?_)
  · obtain ⟨o, a, xs, tvs, ts, wls, t, rfl, _⟩ := h
    rfl
  obtain ⟨o, a, xs, tvs, ts, wls, t, rfl, hS, hI, hO, hz, q⟩ := h
  obtain ⟨l1, l2, l3⟩ := hI.len
  obtain ⟨p1, p2⟩ := hO.pos
  refine ⟨_, pss_cons (ps_set (i := 2) scOver.nd rfl (.inl rfl) (pe_op op_catT (pe_tup (pa_cons (pv 0) pa_nil)) (pe_callTy call_tuple_of (by rfl) T.tuple (by decide +kernel) (pa_cons
      (pe_lc (own := [("part", 5)]) (g := gName 5) (tt := tYes) (te := tOp (rIxT K) (tVar 5) (tC (.int 0))) rfl scOver.nd (pi_list (pv 1)) (blkOk_by (own := [("part", 5)]) (N := ["op", "parts", "term", "deep", "many", "part"]) (sc := defScope sOver) (by decide +kernel)) (fun _ _ _ _ _ => pg_name (i := 5) scOver.nd rfl (.inl rfl)) (fun _ _ _ _ _ => pts_nil)
        (fun _ _ _ _ _ => pe_ix ix_tup (pv 5) pe_int (fun _ _ => rfl))) pa_nil))))
    (pss_cons (ps_set (i := 3) scOver.nd rfl (.inl rfl) (pe_op op_add pe_int (pe_callB (cr_max rfl) (by rfl) T.max (by decide +kernel) (pa_cons
      (pe_lc (own := [("part", 5)]) (g := gName 5) (tt := tYes) (te := tOp (rIxT K) (tVar 5) (tC (.int 1))) rfl scOver.nd (pi_list (pv 1)) (blkOk_by (own := [("part", 5)]) (N := ["op", "parts", "term", "deep", "many", "part"]) (sc := defScope sOver) (by decide +kernel)) (fun _ _ _ _ _ => pg_name (i := 5) scOver.nd rfl (.inl rfl)) (fun _ _ _ _ _ => pts_nil)
        (fun _ _ _ _ _ => pe_ix ix_tup (pv 5) pe_int (fun _ _ => rfl))) pa_nil))))
    (pss_cons (ps_set (i := 4) scOver.nd rfl (.inl rfl) (pe_op op_add pe_int (pe_callB (cr_sum rfl) (by rfl) T.sum (by decide +kernel) (pa_cons
      (pe_lc (own := [("part", 5)]) (g := gName 5) (tt := tYes) (te := tOp (rIxT K) (tVar 5) (tC (.int 2))) rfl scOver.nd (pi_list (pv 1)) (blkOk_by (own := [("part", 5)]) (N := ["op", "parts", "term", "deep", "many", "part"]) (sc := defScope sOver) (by decide +kernel)) (fun _ _ _ _ _ => pg_name (i := 5) scOver.nd rfl (.inl rfl)) (fun _ _ _ _ _ => pts_nil)
        (fun _ _ _ _ _ => pe_ix ix_tup (pv 5) pe_int (fun _ _ => rfl))) pa_nil))))
    (pss_one (ps_ret (pe_tup (pa_cons (pv 2) (pa_cons (pv 3) (pa_cons (pv 4) (pa_cons (pe_d W hr (by decide) (by rfl) (pa_cons (pv 0) (pa_cons
      (pe_lc (own := [("part", 5)]) (g := gName 5) (tt := tYes) (te := tOp (rIxT K) (tVar 5) (tC (.int 3))) rfl scOver.nd (pi_list (pv 1)) (blkOk_by (own := [("part", 5)]) (N := ["op", "parts", "term", "deep", "many", "part"]) (sc := defScope sOver) (by decide +kernel)) (fun _ _ _ _ _ => pg_name (i := 5) scOver.nd rfl (.inl rfl)) (fun _ _ _ _ _ => pts_nil)
        (fun _ _ _ _ _ => pe_ix ix_tup (pv 5) pe_int (fun _ _ => rfl))) pa_nil))) pa_nil))))))))), ?_⟩
  have hx8 : xs.length ≤ 8000 := by omega
  refine ⟨_, rfl, by show 1 ≤ sizeLine; decide, fun q0 hq0 => ?_⟩
  have g0 := same_new hq0 (.tup [.str o])
  have I0 := hI.mono g0
  refine ⟨_, rfl, a, rfl, ⟨_, g0.seq hS⟩, fun D hD => lc_item (jj := 0) (ys := tvs) (by show 5 < 6; decide) (g0.seq hS) l2 hx8 hD (fun i x y hx hy => ?_) (fun H1 e1 hl1 => ?_)⟩
  · obtain ⟨b, wl, t', tv, rfl, _, h2, _, h4, _⟩ := I0.get hx
    rw [h2] at hy
    cases hy
    exact ⟨b, _, rfl, h4, rfl⟩
  refine ⟨D, _, rfl, .inl ⟨SqL.of hl1, fun q1 hq1 => ?_⟩⟩
  have n1 := same_new hq1 (.tup tvs)
  have g1 := (g0.trans e1).trans n1
  refine ⟨q0, q1, [.str o], tvs, rfl, rfl, SqT.of (n1 _ _ (e1 _ _ upd_same)), SqT.of upd_same, by simp, ?_, fun z => ?_, fun _ q2 hq2 => ?_⟩
  · exact small (by show 1 + tvs.length ≤ 8000; omega)
  · rw [z] at l2
    exact absurd l2 (by show ¬ 0 = xs.length; omega)
  have n2 := same_new hq2 (.tup ([V.str o] ++ tvs))
  have g2 := g1.trans n2
  have I2 := hI.mono g2
  have T2 : TmAt _ (.ref q2) t := hO.at I2 upd_same
  -- deep
  refine ⟨_, rfl, a, rfl, ⟨_, g2.seq hS⟩, fun D2 hD2 => lc_item (jj := 1) (ys := (ts.map fun k => ((k.deep : Nat) : Int)).map V.int) (by show 5 < 6; decide) (g2.seq hS) (by rw [List.length_map, List.length_map, l1]) hx8 hD2 (fun i x y hx hy => ?_) (fun H3 e3 hl3 => ?_)⟩
  · obtain ⟨b, wl, t', tv, rfl, h1, _, _, h4, _⟩ := I2.get hx
    rw [List.getElem?_map, List.getElem?_map, h1] at hy
    cases hy
    exact ⟨b, _, rfl, h4, rfl⟩
  refine ⟨D2, _, rfl, SqL.of hl3, by rw [List.length_map]; exact p1, fun m hm hle => ⟨_, _, rfl, rfl, ?_⟩⟩
  have em := hO.deep hm hle
  have g3 := g2.trans e3
  have I3 := hI.mono g3
  -- many
  refine ⟨_, rfl, a, rfl, ⟨_, g3.seq hS⟩, fun D4 hD4 => lc_item (jj := 2) (ys := (ts.map fun k => ((k.many : Nat) : Int)).map V.int) (by show 5 < 6; decide) (g3.seq hS) (by rw [List.length_map, List.length_map, l1]) hx8 hD4 (fun i x y hx hy => ?_) (fun H4 e4 hl4 => ?_)⟩
  · obtain ⟨b, wl, t', tv, rfl, h1, _, _, h4, _⟩ := I3.get hx
    rw [List.getElem?_map, List.getElem?_map, h1] at hy
    cases hy
    exact ⟨b, _, rfl, h4, rfl⟩
  refine ⟨D4, _, rfl, SqL.of hl4, _, _, rfl, rfl, ?_⟩
  have g4 := g3.trans e4
  have I4 := hI.mono g4
  -- the tuple
  refine ⟨_, rfl, _, rfl, _, rfl, _, rfl, _, rfl, a, rfl, ⟨_, g4.seq hS⟩, fun D5 hD5 => lc_item (jj := 3) (ys := wls.map V.ref) (by show 5 < 6; decide) (g4.seq hS) (by rw [List.length_map, l3]) hx8 hD5 (fun i x y hx hy => ?_) (fun H5 e5 hl5 => ?_)⟩
  · obtain ⟨b, wl, t', tv, rfl, _, _, h3, h4, _⟩ := I4.get hx
    rw [List.getElem?_map, h3] at hy
    cases hy
    exact ⟨b, _, rfl, h4, rfl⟩
  have g5 := g4.trans e5
  have I5 := hI.mono g5
  refine ⟨o, D5, wls.map V.ref, ts.map Tm.words, t.words, rfl, SqL.of hl5, ⟨by rw [List.length_map, List.length_map, l3, l1], fun i x ws hx hw => ?_⟩, hO.words, hz, fun pw H6 hw6 => ⟨by show 4 ≤ sizeLine; decide, fun pr hpr => ?_⟩⟩
  · have hi : i < xs.length := by
      have := (List.getElem?_eq_some_iff.mp hx).1
      rw [List.length_map, l3] at this
      exact this
    obtain ⟨b, wl, t', tv, _, h1, _, h3, _, _, h7⟩ := I5.get (List.getElem?_eq_getElem hi)
    rw [List.getElem?_map, h3] at hx
    rw [List.getElem?_map, h1] at hw
    cases hx
    cases hw
    exact ⟨wl, rfl, h7⟩
  obtain ⟨s6, f6, w6⟩ := hw6
  have nr := same_new hpr (.tup [.ref q2, .int (1 + m), .int (1 + (ts.map fun k => ((k.many : Nat) : Int)).sum), .ref pw])
  refine q (.ref pr) pw _ ((g5.trans s6).trans nr) (g5.free f6) ⟨pr, .ref q2, rfl, ?_, ((((T2.mono e3).mono e4).mono e5).mono s6).mono nr, nr _ _ w6⟩
  rw [← em, ← hO.many]
  exact upd_same
end
end K22
/-! L5: odd words, spoiled words. -/
namespace K22
open PySem L2
abbrev oddA : List Str := ["!", "(", ")", "?", ":", "+", "-", "*", "<", "=", "&", "|", "x", "abcdefgh", "0", "7"]
abbrev oddC : List Str := ["A", "x1", "1x", "+1", "-1"]
def oddB : List Str := [numS ((10 : Int) ^ (30 : Int).toNat), "", " ", "00", "01", numS ((10 : Int) ^ (30 : Int).toNat + 1), "abcdefghi", "set", "ask"]
theorem ten_log : ((10 : Int) ^ (30 : Int).toNat).natAbs.log2 < 1920 ∧ ((10 : Int) ^ (30 : Int).toNat + 1).natAbs.log2 < 1920 := by decide +kernel
theorem odd_ok : ∀ x ∈ oddA ++ oddB ++ oddC, Wd x := by
  intro x hx
  rw [List.mem_append, List.mem_append] at hx
  rcases hx with (hx | hx) | hx
  · have : ∀ y ∈ oddA, Wd y := by decide +kernel
    exact this x hx
  · have h1 : Wd (numS ((10 : Int) ^ (30 : Int).toNat)) := by
      rw [ten30]
      exact wd_num (n := 1000000000000000000000000000000) (by decide +kernel)
    have h2 : Wd (numS ((10 : Int) ^ (30 : Int).toNat + 1)) := by
      rw [ten30]
      exact wd_num (n := 1000000000000000000000000000001) (by decide +kernel)
    have h3 : ∀ y ∈ (["", " ", "00", "01", "abcdefghi", "set", "ask"] : List Str), Wd y := by decide +kernel
    unfold oddB at hx
    simp only [List.mem_cons, List.not_mem_nil, or_false] at hx h3
    rcases hx with rfl | h | h | h | h | rfl | h | h | h
    · exact h1
    · exact h3 x (.inl h)
    · exact h3 x (.inr (.inl h))
    · exact h3 x (.inr (.inr (.inl h)))
    · exact h3 x (.inr (.inr (.inr (.inl h))))
    · exact h2
    · exact h3 x (.inr (.inr (.inr (.inr (.inl h)))))
    · exact h3 x (.inr (.inr (.inr (.inr (.inr (.inl h))))))
    · exact h3 x (.inr (.inr (.inr (.inr (.inr (.inr h))))))
  · have : ∀ y ∈ oddC, Wd y := by decide +kernel
    exact this x hx
section
variable {P : Program} {w : World} {K : PySem.W.Frag} {mg : Str → Option Value} {base : Heap} {C aS aM : Addr}
def spOdd : Sp := fun vs H Q _ => ∃ n : Int, vs = [.int n] ∧ ∀ x H', Same H H' → Wd x → Q (.str x) H'
theorem scOdd : FnScope ["n", "some"] ["n"] (defScope sOdd) := ⟨rfl, rfl, rfl, by decide +kernel, rfl, by decide +kernel, by decide +kernel⟩
theorem ok_odd {f : Addr} {fd : FuncData} (F : Fun K "_law_odd" "_law_odd" sOdd f fd) (T : Bt mg) : FnOk P w K mg base CX0 1 f fd ["n"] spOdd := by
  refine F.ok scOdd (fun vs H Q E h => ?_) (fun cdv A outer s H vs Q E hr h => ?_)
  · obtain ⟨n, rfl, _⟩ := h
    rfl
  obtain ⟨n, rfl, q⟩ := h
  refine ⟨_, pss_cons (ps_set (i := 1) scOdd.nd rfl (.inl rfl) (pe_lst (pa_strs (xs := oddA) (by rfl))))
    (pss_cons (ps_set (i := 1) scOdd.nd rfl (.inl rfl) (pe_op op_cat (pv 1) (pe_lst (pa_cons (pe_callTy call_str_int (by rfl) T.str (by decide +kernel) (pa_cons (pe_op op_pow pe_int pe_int) pa_nil)) (pa_cons pe_str (pa_cons pe_str (pa_cons pe_str (pa_cons pe_str
      (pa_cons (pe_callTy call_str_int (by rfl) T.str (by decide +kernel) (pa_cons (pe_op op_add (pe_op op_pow pe_int pe_int) pe_int) pa_nil)) (pa_strs (xs := ["abcdefghi", "set", "ask"]) (by rfl)))))))))))
    (pss_cons (ps_set (i := 1) scOdd.nd rfl (.inl rfl) (pe_op op_cat (pv 1) (pe_lst (pa_strs (xs := oddC) (by rfl)))))
    (pss_one (ps_ret (pe_ix ix_list (pv 1) (pe_op op_mod (pv 0) pe_int) (fun _ _ => rfl)))))), ?_⟩
  refine ⟨by show 16 ≤ sizeLine; decide, fun p hp => ?_⟩
  have g1 := same_new hp (.lst (oddA.map V.str))
  refine ⟨_, rfl, _, _, rfl, rfl, ⟨by decide, by decide, by decide⟩, _, rfl, ten_log.1, _, _, rfl, rfl, ⟨by decide, by decide, by decide⟩, _, _, rfl, rfl, _, rfl, ten_log.2, by show 9 ≤ sizeLine; decide, fun p2 hp2 => ?_⟩
  have n2 := same_new hp2 (.lst (oddB.map V.str))
  refine cat_words (xs := oddA) (ys := oddB) (n2 _ _ upd_same) upd_same (by show 16 + 9 ≤ 4000; decide) fun p3 hp3 => ?_
  have n3 := same_new hp3 (.lst ((oddA ++ oddB).map V.str))
  refine ⟨_, rfl, by show 5 ≤ sizeLine; decide, fun p4 hp4 => ?_⟩
  have n4 := same_new hp4 (.lst (oddC.map V.str))
  refine cat_words (xs := oddA ++ oddB) (ys := oddC) (n4 _ _ upd_same) upd_same (by show 25 + 5 ≤ 4000; decide) fun p5 hp5 => ?_
  have n5 := same_new hp5 (.lst ((oddA ++ oddB ++ oddC).map V.str))
  obtain ⟨x, hx, _, ha⟩ := atI_strs (xs := oddA ++ oddB ++ oddC) (i := n % 30) (by omega) (by show n % 30 < 30; omega)
  exact ⟨_, rfl, _, rfl, _, _, rfl, rfl, (by show (0 : Int) < 30; decide), p5, _, _, _, rfl, rfl, SqL.of upd_same, ha, q x _ ((((g1.trans n2).trans n3).trans n4).trans n5) (odd_ok x hx)⟩
/-! ### spoiled words -/
theorem cut_words (ws : List Str) (lo hi : Option Int) : ∃ us : List Str, cutV (ws.map V.str) lo hi = us.map V.str ∧ us.length ≤ ws.length ∧ ∀ x ∈ us, x ∈ ws := by
  refine ⟨(ws.drop (HT.sIx ws.length 0 lo)).take (HT.sIx ws.length ws.length hi - HT.sIx ws.length 0 lo), ?_, ?_, fun x hx => List.mem_of_mem_drop (List.mem_of_mem_take hx)⟩
  · unfold cutV
    rw [List.length_map, List.map_take, List.map_drop]
  · rw [List.length_take, List.length_drop]
    omega
def spSpoiled (K : PySem.W.Frag) : Sp := fun vs H Q _ => ∃ (a : Addr) (ws : List Str) (c : Int), vs = [.ref a, .int c] ∧ SqL K H a (ws.map V.str) ∧ ws.length ≤ 900 ∧ (∀ x ∈ ws, Wd x) ∧ ∀ p us H', Wds H H' p us → Wok us → Q (.ref p) H'
theorem scSpoiled : FnScope ["words", "cell", "at", "way"] ["words", "cell"] (defScope sSpoiled) := ⟨rfl, rfl, rfl, by decide +kernel, rfl, by decide +kernel, by decide +kernel⟩
theorem ok_spoiled {f fO : Addr} {fd dO : FuncData} (F : Fun K "_law_spoiled" "_law_spoiled" sSpoiled f fd) (T : Bt mg) (O : Dn P w K mg base CX0 1 "_law_odd" fO dO ["n"] spOdd) :
    FnOk P w K mg base CX0 2 f fd ["words", "cell"] (spSpoiled K) := by
  refine F.ok scSpoiled (fun vs H Q E h => ?_) (fun cdv A outer s H vs Q E hr h => ?_)
  · obtain ⟨a, ws, c, rfl, _⟩ := h
    rfl
  obtain ⟨a, ws, c, rfl, hS, hl, hw, q⟩ := h
  refine ⟨_, pss_cons (ps_set (i := 2) scSpoiled.nd rfl (.inl rfl) (pe_op op_mod (pe_op op_fdiv (pv 1) pe_int) (pe_op op_add (pe_callB call_len_seq (by rfl) T.len PySem.boot_len (pa_cons (pv 0) pa_nil)) pe_int)))
    (pss_cons (ps_set (i := 3) scSpoiled.nd rfl (.inl rfl) (pe_op op_mod (pv 1) pe_int))
    (pss_cons (ps_if (pt_cmpR op_eq (pv 3) pe_int (nomark _)) (pss_one (ps_ret (pe_callTy call_list_of (by rfl) T.list (by decide +kernel) (pa_cons (pv 0) pa_nil)))) pss_nil)
    (pss_cons (ps_if (pt_cmpR op_eq (pv 3) pe_int (nomark _)) (pss_one (ps_ret (pe_op op_cat (pe_slice sl_list (pv 0) po_none (po_some (pv 2))) (pe_slice sl_list (pv 0) (po_some (pe_op op_add (pv 2) pe_int)) po_none)))) pss_nil)
    (pss_cons (ps_if (pt_cmpR op_eq (pv 3) pe_int (nomark _)) (pss_one (ps_ret (pe_op op_cat (pe_op op_cat (pe_slice sl_list (pv 0) po_none (po_some (pv 2))) (pe_lst (pa_cons (pe_d O hr (by decide) (by rfl) (pa_cons (pe_op op_fdiv (pv 1) pe_int) pa_nil)) pa_nil))) (pe_slice sl_list (pv 0) (po_some (pe_op op_add (pv 2) pe_int)) po_none)))) pss_nil)
    (pss_one (ps_ret (pe_op op_cat (pe_op op_cat (pe_slice sl_list (pv 0) po_none (po_some (pv 2))) (pe_lst (pa_cons (pe_d O hr (by decide) (by rfl) (pa_cons (pe_op op_fdiv (pv 1) pe_int) pa_nil)) pa_nil))) (pe_slice sl_list (pv 0) (po_some (pv 2)) po_none)))))))), ?_⟩
  refine ⟨_, rfl, _, _, rfl, rfl, ⟨by decide, by decide⟩, _, rfl, a, _, rfl, .inl hS, _, _, rfl, rfl, _, _, rfl, rfl, (by show (0 : Int) < (((ws.map V.str).length : Nat) : Int) + 1; omega), ?_⟩
  refine ⟨_, rfl, _, _, rfl, rfl, (by show (0 : Int) < 4; decide), ?_⟩
  refine ⟨_, rfl, rfl, _, rfl, ?_⟩
  refine ite2 (fun h => ?_) (fun h => ?_)
  · exact ⟨_, rfl, a, _, rfl, .inl hS, fun l hl2 => q l ws _ ⟨same_new hl2 _, hl2, upd_same⟩ ⟨by omega, hw⟩⟩
  refine ⟨_, rfl, rfl, _, rfl, ?_⟩
  obtain ⟨u1, e1, l1, m1⟩ := cut_words ws none (some (c / 120 % ((((ws.map V.str).length : Nat) : Int) + 1)))
  obtain ⟨u2, e2, l2, m2⟩ := cut_words ws (some (c / 120 % ((((ws.map V.str).length : Nat) : Int) + 1) + 1)) none
  obtain ⟨u3, e3, l3, m3⟩ := cut_words ws (some (c / 120 % ((((ws.map V.str).length : Nat) : Int) + 1))) none
  have fin : ∀ (p : Addr) (us : List Str) (H' : Hp), Wds H H' p us → us.length ≤ 2000 → (∀ x ∈ us, x ∈ ws ∨ Wd x) → Q (.ref p) H' := fun p us H' h1 h2 h3 => q p us H' h1 ⟨h2, fun x hx => (h3 x hx).elim (fun m => hw x m) id⟩
  refine ite2 (fun h => ?_) (fun h => ?_)
  · refine ⟨_, rfl, _, rfl, _, rfl, a, _, rfl, hS, fun p hp => ?_⟩
    rw [e1]
    have n1 := same_new hp (.lst (u1.map V.str))
    refine ⟨_, rfl, _, rfl, _, _, rfl, rfl, _, rfl, a, _, rfl, n1.seq hS, fun p2 hp2 => ?_⟩
    rw [e2]
    have n2 := same_new hp2 (.lst (u2.map V.str))
    refine cat_words (xs := u1) (ys := u2) (n2 _ _ upd_same) upd_same (by omega) fun p3 hp3 => ?_
    refine fin p3 (u1 ++ u2) _ ⟨(n1.trans n2).trans (same_new hp3 _), (n1.trans n2).free hp3, upd_same⟩ (by rw [List.length_append]; omega) (fun x hx => .inl ?_)
    rcases List.mem_append.mp hx with hx | hx
    · exact m1 x hx
    · exact m2 x hx
  refine ⟨_, rfl, rfl, _, rfl, ?_⟩
  refine ite2 (fun h => ?_) (fun h => ?_)
  · refine ⟨_, rfl, _, rfl, _, rfl, a, _, rfl, hS, fun p hp => ?_⟩
    rw [e1]
    have n1 := same_new hp (.lst (u1.map V.str))
    refine ⟨_, rfl, _, _, rfl, rfl, ⟨by decide, by decide⟩, _, rfl, fun y H1 s1 hy => ⟨by show 1 ≤ sizeLine; decide, fun p2 hp2 => ?_⟩⟩
    have n2 := same_new hp2 (.lst [V.str y])
    refine cat_words (xs := u1) (ys := [y]) (n2 _ _ (s1 _ _ upd_same)) upd_same (by simp only [List.length_cons, List.length_nil]; omega) fun p3 hp3 => ?_
    have n3 := same_new hp3 (.lst ((u1 ++ [y]).map V.str))
    have g3 := ((n1.trans s1).trans n2).trans n3
    refine ⟨_, rfl, _, rfl, _, _, rfl, rfl, _, rfl, a, _, rfl, g3.seq hS, fun p4 hp4 => ?_⟩
    rw [e2]
    have n4 := same_new hp4 (.lst (u2.map V.str))
    refine cat_words (xs := u1 ++ [y]) (ys := u2) (n4 _ _ upd_same) upd_same (by simp only [List.length_append, List.length_cons, List.length_nil]; omega) fun p5 hp5 => ?_
    refine fin p5 (u1 ++ [y] ++ u2) _ ⟨(g3.trans n4).trans (same_new hp5 _), (g3.trans n4).free hp5, upd_same⟩ (by simp only [List.length_append, List.length_cons, List.length_nil]; omega) (fun x hx => ?_)
    rw [List.mem_append, List.mem_append] at hx
    rcases hx with (hx | hx) | hx
    · exact .inl (m1 x hx)
    · exact .inr (by rw [List.mem_singleton.mp hx]; exact hy)
    · exact .inl (m2 x hx)
  · refine ⟨_, rfl, _, rfl, _, rfl, a, _, rfl, hS, fun p hp => ?_⟩
    rw [e1]
    have n1 := same_new hp (.lst (u1.map V.str))
    refine ⟨_, rfl, _, _, rfl, rfl, ⟨by decide, by decide⟩, _, rfl, fun y H1 s1 hy => ⟨by show 1 ≤ sizeLine; decide, fun p2 hp2 => ?_⟩⟩
    have n2 := same_new hp2 (.lst [V.str y])
    refine cat_words (xs := u1) (ys := [y]) (n2 _ _ (s1 _ _ upd_same)) upd_same (by simp only [List.length_cons, List.length_nil]; omega) fun p3 hp3 => ?_
    have n3 := same_new hp3 (.lst ((u1 ++ [y]).map V.str))
    have g3 := ((n1.trans s1).trans n2).trans n3
    refine ⟨_, rfl, _, rfl, _, rfl, a, _, rfl, g3.seq hS, fun p4 hp4 => ?_⟩
    rw [e3]
    have n4 := same_new hp4 (.lst (u3.map V.str))
    refine cat_words (xs := u1 ++ [y]) (ys := u3) (n4 _ _ upd_same) upd_same (by simp only [List.length_append, List.length_cons, List.length_nil]; omega) fun p5 hp5 => ?_
    refine fin p5 (u1 ++ [y] ++ u3) _ ⟨(g3.trans n4).trans (same_new hp5 _), (g3.trans n4).free hp5, upd_same⟩ (by simp only [List.length_append, List.length_cons, List.length_nil]; omega) (fun x hx => ?_)
    rw [List.mem_append, List.mem_append] at hx
    rcases hx with (hx | hx) | hx
    · exact .inl (m1 x hx)
    · exact .inr (by rw [List.mem_singleton.mp hx]; exact hy)
    · exact .inl (m3 x hx)
end
end K22
/-! L6: the law's walk: dues, the stop of a leaf. -/
namespace K22
open PySem L2
/-! ### slices of one word -/
theorem cut_one {ws : List Str} {i : Nat} {x : Str} (h : ws[i]? = some x) : cutV (ws.map V.str) (some (i : Int)) (some ((i : Int) + 1)) = [x].map V.str := by
  have hi : i < ws.length := (List.getElem?_eq_some_iff.mp h).1
  unfold cutV
  have e1 : HT.sIx (ws.map V.str).length 0 (some (i : Int)) = i := (HT.sIx_nat _ 0 i).trans (by rw [List.length_map]; omega)
  have e2 : HT.sIx (ws.map V.str).length (ws.map V.str).length (some ((i : Int) + 1)) = i + 1 := (HT.sIx_nat _ _ (i + 1)).trans (by rw [List.length_map]; omega)
  rw [e1, e2, ← List.map_drop, show i + 1 - i = 1 by omega, ← List.map_take]
  have e : (ws.drop i).take 1 = [x] := by
    rw [List.drop_eq_getElem_cons hi]
    have : ws[i] = x := by
      have := List.getElem?_eq_getElem hi
      rw [h] at this
      exact (Option.some.inj this).symm
    rw [this]
    rfl
  rw [e]
/-- words[at:at + 1] -/
theorem slice_one {K : PySem.W.Frag} {H : Hp} {a : Addr} {ws : List Str} {i : Nat} {x : Str} {Q : VK} (hS : SqL K H a (ws.map V.str)) (h : ws[i]? = some x) (q : ∀ p, H p = none → Q (.ref p) (upd H p (.lst ([x].map V.str)))) :
    rSlL K (.ref a) (some (i : Int)) (some ((i : Int) + 1)) H Q := ⟨a, _, rfl, hS, fun p hp => by rw [cut_one h]; exact q p hp⟩
theorem eqO {x y : Str} : decide ([x] = [y]) = decide (x = y) := decide_eq_decide.mpr ⟨fun e => (List.cons.inj e).1, fun e => by rw [e]⟩
theorem wd1 {x : Str} (h : Wd x) : ∀ y ∈ [x], Wd y := fun y hy => by
  rw [List.mem_singleton.mp hy]
  exact h
theorem Wok.at {ws : List Str} (h : Wok ws) {i : Nat} {x : Str} (e : ws[i]? = some x) : Wd x := h.2 x (List.mem_of_getElem? e)
/-! ### dues -/
def duesOf : Tm → List Str
  | .nott _ => ["!", ""]
  | .bin o _ _ => ["(", o.sg, ")"]
  | .pick _ _ _ => ["(", "?", ":", ")"]
  | _ => []
theorem duesKV_in (o : Bop) : (valV (mergeK [] someKV) (.inr o.nm)).isSome = true := by rw [some_at]; rfl
section
variable {P : Program} {w : World} {K : PySem.W.Frag} {mg : Str → Option Value} {base : Heap} {C aS aM : Addr}
def spDues : Sp := fun vs H Q _ => ∃ (v : V) (t : Tm), vs = [v] ∧ TmAt H v t ∧ t.isLeaf = false ∧ ∀ p H', Wds H H' p (duesOf t) → Q (.ref p) H'
theorem scDues : FnScope ["term", "some"] ["term"] (defScope sDues) := ⟨rfl, rfl, rfl, by decide +kernel, rfl, by decide +kernel, by decide +kernel⟩
theorem ok_dues {f : Addr} {fd : FuncData} (F : Fun K "_law_dues" "_law_dues" sDues f fd) (T : Bt mg) : FnOk P w K mg base CX0 1 f fd ["term"] spDues := by
  refine F.ok scDues (fun vs H Q E h => ?_) (fun cdv A outer s H vs Q E hr h => ?_)
  · obtain ⟨v, t, rfl, _⟩ := h
    rfl
  obtain ⟨v, t, rfl, hT, hl, q⟩ := h
  refine ⟨_, pss_cons (ps_if (PW.pt (pw_and (pt_cmpR op_eq (pe_ix ix_tup (pv 0) pe_int (fun _ _ => rfl)) pe_str (nomark _)) (pw_and1 (pt_cmpR op_eq (pe_callB call_len_seq (by rfl) T.len PySem.boot_len (pa_cons (pv 0) pa_nil)) pe_int (nomark _)))))
      (pss_one (ps_ret (pe_lst (pa_strs (xs := ["!", ""]) (by rfl))))) pss_nil)
    (pss_cons (ps_if (PW.pt (pw_and (pt_cmpR op_eq (pe_ix ix_tup (pv 0) pe_int (fun _ _ => rfl)) pe_str (nomark _)) (pw_and1 (pt_cmpR op_eq (pe_callB call_len_seq (by rfl) T.len PySem.boot_len (pa_cons (pv 0) pa_nil)) pe_int (nomark _)))))
      (pss_one (ps_ret (pe_lst (pa_strs (xs := ["(", "?", ":", ")"]) (by rfl))))) pss_nil)
    (pss_cons (ps_set (i := 1) scDues.nd rfl (.inl rfl) (pe_disp (pps_cons pe_str pe_str (pps_cons pe_str pe_str (pps_cons pe_str pe_str (pps_cons pe_str pe_str (pps_cons pe_str pe_str (pps_cons pe_str pe_str (pps_cons pe_str pe_str pps_nil))))))) (by rfl) (by rfl) (fun z => by cases z) (by decide)))
    (pss_cons (ps_if (PW.pt (pw_and (pt_cmp (pc_din (hu_of hr) (pe_ix ix_tup (pv 0) pe_int (fun _ _ => rfl)) (pv 1))) (pw_and1 (pt_cmpR op_eq (pe_callB call_len_seq (by rfl) T.len PySem.boot_len (pa_cons (pv 0) pa_nil)) pe_int (nomark _)))))
      (pss_one (ps_ret (pe_lst (pa_cons pe_str (pa_cons (pe_dget (hu_of hr) (pv 1) (pe_ix ix_tup (pv 0) pe_int (fun _ _ => rfl)) (fun _ _ => rfl)) (pa_cons pe_str pa_nil)))))) pss_nil)
    (pss_one (ps_ret (pe_lst pa_nil)))))), ?_⟩
  cases hT with
  | name _ => cases hl
  | num _ => cases hl
  | @nott a v t hA hv =>
    have h0 : atI [st "not", v] ((0 : Nat) : Int) = some (st "not") := atI_nat rfl
    refine ⟨_, rfl, a, _, 0, _, rfl, rfl, SqT.of hA, h0, rfl, _, rfl, iteT ?_⟩
    refine ⟨_, rfl, a, _, rfl, .inr (SqT.of hA), rfl, _, rfl, iteT ?_⟩
    exact ⟨by show 2 ≤ sizeLine; decide, fun p hp => q p _ ⟨same_new hp _, hp, upd_same⟩⟩
  | @pick a v u x t r z hA hv hu hx =>
    have h0 : atI [st "pick", v, u, x] ((0 : Nat) : Int) = some (st "pick") := atI_nat rfl
    have hn : decide (st "pick" = V.str (Str.ofString "not")) = false := by decide +kernel
    refine ⟨_, rfl, a, _, 0, _, rfl, rfl, SqT.of hA, h0, rfl, _, rfl, ?_⟩
    rw [hn]
    refine iteF (iteF ?_)
    refine ⟨_, rfl, a, _, 0, _, rfl, rfl, SqT.of hA, h0, rfl, _, rfl, iteT ?_⟩
    refine ⟨_, rfl, a, _, rfl, .inr (SqT.of hA), rfl, _, rfl, iteT ?_⟩
    exact ⟨by show 4 ≤ sizeLine; decide, fun p hp => q p _ ⟨same_new hp _, hp, upd_same⟩⟩
  | @bin a v u o t r hA hv hu =>
    have h0 : atI [V.str o.nm, v, u] ((0 : Nat) : Int) = some (V.str o.nm) := atI_nat rfl
    refine ⟨_, rfl, a, _, 0, _, rfl, rfl, SqT.of hA, h0, rfl, _, rfl, ?_⟩
    rw [dec_str, (nm_not o).1]
    refine iteF (iteF ?_)
    refine ⟨_, rfl, a, _, 0, _, rfl, rfl, SqT.of hA, h0, rfl, _, rfl, ?_⟩
    rw [dec_str, (nm_not o).2]
    refine iteF (iteF ?_)
    refine fun pd hpd => ⟨upd_same, someKV, rfl, by decide, ?_⟩
    rw [upd_upd]
    have gd := same_new hpd (.dK (mergeK [] someKV))
    have hg := some_get o (upd_same (H := H) (a := pd) (o := .dK (mergeK [] someKV)))
    refine ⟨_, rfl, a, _, 0, _, rfl, rfl, SqT.of (gd _ _ hA), h0, _, rfl, pd, _, rfl, hg, _, rfl, iteT ?_⟩
    refine ⟨_, rfl, a, _, rfl, .inr (SqT.of (gd _ _ hA)), rfl, _, rfl, iteT ?_⟩
    refine ⟨_, rfl, _, rfl, a, _, 0, _, rfl, rfl, SqT.of (gd _ _ hA), h0, pd, _, rfl, hg, by show 3 ≤ sizeLine; decide, fun p hp => ?_⟩
    exact q p _ ⟨gd.trans (same_new hp _), gd.free hp, upd_same⟩
/-! ### the stop of a leaf -/
def spLStop (K : PySem.W.Frag) : Sp := fun vs H Q _ => ∃ (v : V) (t : Tm) (a : Addr) (ws : List Str) (i s d : Nat), vs = [v, .ref a, .int (i : Int)] ∧ TmAt H v t ∧ t.isLeaf = true ∧ SqL K H a (ws.map V.str) ∧ Wok ws ∧ Rd ws d t i s ∧ ∀ H', Same H H' → Q (.int (s : Int)) H'
theorem scLStop : FnScope ["term", "words", "at", "good", "sign", "letter"] ["term", "words", "at"] (defScope sLStop) := ⟨rfl, rfl, rfl, by decide +kernel, rfl, by decide +kernel, by decide +kernel⟩
/-- the signs of a text -/
def signs (z : Str) : List V := z.cps.toList.map fun c => V.str ⟨#[c]⟩
theorem signs_len (z : Str) : (signs z).length = z.length := by simp [signs, Str.length]
theorem walk_signs (z : Str) : Walk (L2.Its z) (signs z).length (fun _ => True) (YAt (signs z)) := by
  have e : (signs z).length = z.cps.size := by simp [signs]
  rw [e]
  refine walk_str.mono (fun _ h => h) (fun i H x H' hi _ h => ?_)
  obtain ⟨e1, c, hc, hv⟩ := h
  refine ⟨e1, ?_⟩
  have hc' : z.cps.toList[i]? = some c := by simpa using hc
  unfold signs
  rw [List.getElem?_map, hc', hv]
  rfl
theorem all_true (n : Nat) : (List.replicate n true).all id = true := by
  rw [List.all_eq_true]
  intro x hx
  exact (List.mem_replicate.mp hx).2
theorem ty_str {K : PySem.W.Frag} : PySem.W.kitOne K (.type "str") (.type "str") = some true := kit_ty (by decide +kernel)
theorem ty_int {K : PySem.W.Frag} : PySem.W.kitOne K (.type "int") (.type "int") = some true := kit_ty (by decide +kernel)
theorem ty_bool {K : PySem.W.Frag} : PySem.W.kitOne K (.type "int") (.type "bool") = some false := kit_ty (by decide +kernel)
theorem ty_tup {K : PySem.W.Frag} : PySem.W.kitOne K (.type "tuple") (.type "tuple") = some true := kit_ty (by decide +kernel)
theorem name_pos {x : Str} (h : isName x = true) : 1 ≤ x.length := by
  have := tl_ne (allOf_ne (isName_all h))
  rw [TL.len_tl]
  cases e : TL.tl x with
  | nil => exact absurd e this
  | cons c r => simp
theorem neg_num {d : Nat} {n : Int} {ws : List Str} {i s : Nat} (h : Rd ws d (.num n) i s) : -BIG ≤ n ∧ n ≤ BIG ∧ ((0 ≤ n ∧ ws[i]? = some (numS n) ∧ s = i + 1) ∨ (n ≤ 0 ∧ ws[i]? = some (Str.ofString "-") ∧ ws[i + 1]? = some (numS (-n)) ∧ s = i + 2)) := by
  generalize ht : Tm.num n = t at h
  cases h with
  | num h1 h2 h3 =>
    cases ht
    have h2' : n ≤ 1000000000000000000000000000000 := h2
    exact ⟨by show -1000000000000000000000000000000 ≤ n; omega, h2, .inl ⟨h1, h3, rfl⟩⟩
  | @neg d i m h1 h2 h3 h4 =>
    cases ht
    have h2' : m ≤ 1000000000000000000000000000000 := h2
    exact ⟨by show -1000000000000000000000000000000 ≤ -m; omega, by show -m ≤ 1000000000000000000000000000000; omega, .inr ⟨by omega, h3, by rw [Int.neg_neg]; exact h4, rfl⟩⟩
  | name _ _ => cases ht
  | nott _ _ => cases ht
  | bin _ _ _ _ _ => cases ht
  | pick _ _ _ _ _ _ _ => cases ht
theorem rd_name {d : Nat} {x : Str} {ws : List Str} {i s : Nat} (h : Rd ws d (.name x) i s) : ws[i]? = some x ∧ isName x = true ∧ s = i + 1 := by
  cases h with
  | name h1 h2 => exact ⟨h1, h2, rfl⟩
theorem ok_lstop {f : Addr} {fd : FuncData} (F : Fun K "_law_leaf_stop" "_law_leaf_stop" sLStop f fd) (T : Bt mg) : FnOk P w K mg base CX0 1 f fd ["term", "words", "at"] (spLStop K) := by
  refine F.ok scLStop (fun vs H Q E h => ?_) (fun cdv A outer s H vs Q E hr h => ?_)
  · obtain ⟨v, t, a, ws, i, s, d, rfl, _⟩ := h
    rfl
  obtain ⟨v, t, a, ws, i, e, d, rfl, hT, hl, hS, hW, hR, q⟩ := h
  refine ⟨_, pss_cons (ps_if (pt_cmpR op_ne (pe_callB call_len_seq (by rfl) T.len PySem.boot_len (pa_cons (pv 0) pa_nil)) pe_int (nomark _)) (pss_one (ps_ret (pe_un un_neg pe_int))) pss_nil)
    (pss_cons (ps_if (pt_cmpR op_eq (pe_ix ix_tup (pv 0) pe_int (fun _ _ => rfl)) pe_str (nomark _))
      (pss_cons (ps_set (i := 3) scLStop.nd rfl (.inl rfl) (pe_and (pe_callB call_isi (by rfl) T.isi (by decide +kernel) (pa_cons (pe_ix ix_tup (pv 0) pe_int (fun _ _ => rfl)) (pa_cons (pe_bltn (v := .ty "str") (by rfl) T.str PyProof.Rows.boot_str rfl) pa_nil)))
        (pe_and (pe_chain op_lt op_le pe_int (pe_callB call_len_str (by rfl) T.len PySem.boot_len (pa_cons (pe_ix ix_tup (pv 0) pe_int (fun _ _ => rfl)) pa_nil)) pe_int)
        (pe_one (pe_cmpR (op_eqD hr.units) (pe_slice sl_list (pv 1) (po_some (pv 2)) (po_some (pe_op op_add (pv 2) pe_int))) (pe_lst (pa_cons (pe_ix ix_tup (pv 0) pe_int (fun _ _ => rfl)) pa_nil)) (nomark _))))))
      (pss_cons (ps_if (pt_cmpR op_in_seq (pe_ix ix_tup (pv 0) pe_int (fun _ _ => rfl)) (pe_lst (pa_strs (xs := said) (by rfl))) rfl) (pss_one (ps_set (i := 3) scLStop.nd rfl (.inl rfl) pe_bl)) pss_nil)
      (pss_cons (ps_for PassesOwn.never rfl (pi_list (pe_slice sl_list (pv 1) (po_some (pv 2)) (po_some (pe_op op_add (pv 2) pe_int)))) (pg_name (i := 4) scLStop.nd rfl (.inl rfl))
        (pss_one (ps_set (i := 3) scLStop.nd rfl (.inl rfl) (pe_and (pv 3) (pe_one (pe_callB (cr_all rfl) (by rfl) T.all (by decide +kernel) (pa_cons
          (pe_lc (own := [("letter", 5)]) (g := gName 5) (tt := tYes) rfl scLStop.nd (pi_str (pv 4)) (blkOk_by (own := [("letter", 5)]) (N := ["term", "words", "at", "good", "sign", "letter"]) (sc := defScope sLStop) (by decide +kernel)) (fun _ _ _ _ _ => pg_name (i := 5) scLStop.nd rfl (.inl rfl)) (fun _ _ _ _ _ => pts_nil)
            (fun _ _ _ _ _ => pe_cmpR op_in_sign (pv 5) pe_str rfl)) pa_nil)))))))
      (pss_one (ps_ret (pe_ifExp (pt_val (pv 3)) (pe_op op_add (pv 2) pe_int) (pe_un un_neg pe_int))))))) pss_nil)
    (pss_cons (ps_if (PW.pt (pw_or (pt_not (pt_val (pe_callB call_isi (by rfl) T.isi (by decide +kernel) (pa_cons (pe_ix ix_tup (pv 0) pe_int (fun _ _ => rfl)) (pa_cons (pe_bltn (v := .ty "int") (by rfl) T.int PyProof.Rows.boot_int rfl) pa_nil)))))
      (pw_or (pt_val (pe_callB call_isi (by rfl) T.isi (by decide +kernel) (pa_cons (pe_ix ix_tup (pv 0) pe_int (fun _ _ => rfl)) (pa_cons (pe_bltn (v := .ty "bool") (by rfl) T.bool PyProof.Rows.boot_bool rfl) pa_nil))))
      (pw_or1 (pt_cmpR op_gt (pe_callB call_abs (by rfl) T.abs (by decide +kernel) (pa_cons (pe_ix ix_tup (pv 0) pe_int (fun _ _ => rfl)) pa_nil)) (pe_op op_pow pe_int pe_int) (nomark _)))))) (pss_one (ps_ret (pe_un un_neg pe_int))) pss_nil)
    (pss_cons (ps_if (PW.pt (pw_and (pt_cmpR (op_eqD hr.units) (pe_slice sl_list (pv 1) (po_some (pv 2)) (po_some (pe_op op_add (pv 2) pe_int))) (pe_lst (pa_strs (xs := ["-"]) (by rfl))) (nomark _)) (pw_and1 (pt_cmpR op_le (pe_ix ix_tup (pv 0) pe_int (fun _ _ => rfl)) pe_int (nomark _)))))
      (pss_one (ps_ret (pe_ifExp (pt_cmpR (op_eqD hr.units) (pe_slice sl_list (pv 1) (po_some (pe_op op_add (pv 2) pe_int)) (po_some (pe_op op_add (pv 2) pe_int))) (pe_lst (pa_cons (pe_callTy call_str_int (by rfl) T.str (by decide +kernel) (pa_cons (pe_un un_neg (pe_ix ix_tup (pv 0) pe_int (fun _ _ => rfl))) pa_nil)) pa_nil)) (nomark _))
        (pe_op op_add (pv 2) pe_int) (pe_un un_neg pe_int)))) pss_nil)
    (pss_one (ps_ret (pe_ifExp (PW.pt (pw_and (pt_cmpR (op_eqD hr.units) (pe_slice sl_list (pv 1) (po_some (pv 2)) (po_some (pe_op op_add (pv 2) pe_int))) (pe_lst (pa_cons (pe_callTy call_str_int (by rfl) T.str (by decide +kernel) (pa_cons (pe_ix ix_tup (pv 0) pe_int (fun _ _ => rfl)) pa_nil)) pa_nil)) (nomark _))
      (pw_and1 (pt_cmpR op_ge (pe_ix ix_tup (pv 0) pe_int (fun _ _ => rfl)) pe_int (nomark _))))) (pe_op op_add (pv 2) pe_int) (pe_un un_neg pe_int))))))), ?_⟩
  cases hT with
  | nott _ _ => cases hl
  | bin _ _ _ => cases hl
  | pick _ _ _ _ => cases hl
  | @name b x hA =>
    obtain ⟨hx, hn, rfl⟩ := rd_name hR
    have h0 : atI [st "name", V.str x] ((0 : Nat) : Int) = some (st "name") := atI_nat rfl
    have h1 : atI [st "name", V.str x] ((1 : Nat) : Int) = some (V.str x) := atI_nat rfl
    have wx := hW.at hx
    have p8 := isName_len hn
    have p1 := name_pos hn
    refine ⟨_, rfl, b, _, rfl, .inr (SqT.of hA), rfl, _, rfl, iteF ?_⟩
    refine ⟨_, rfl, b, _, 0, _, rfl, rfl, SqT.of hA, h0, rfl, _, rfl, iteT ?_⟩
    refine ⟨_, rfl, b, _, 1, _, rfl, rfl, SqT.of hA, h1, _, _, _, _, true, rfl, .ty "str", .base (.str x), ty_str, _, rfl, iteT ?_⟩
    refine ⟨_, rfl, b, _, 1, _, rfl, rfl, SqT.of hA, h1, x, rfl, small (by omega), _, _, rfl, rfl, _, rfl, ?_⟩
    refine ite2 (fun z => ?_) (fun z => absurd (decide_eq_true (show (0 : Int) < (x.length : Int) by omega)) z)
    refine ⟨_, _, rfl, rfl, _, rfl, ?_⟩
    refine ite2 (fun z => ?_) (fun z => absurd (decide_eq_true (show (x.length : Int) ≤ 8 by omega)) z)
    refine ⟨_, rfl, _, rfl, _, rfl, _, rfl, _, _, rfl, rfl, _, rfl, slice_one hS hx fun p hp => ?_⟩
    have n1 := same_new hp (.lst ([x].map V.str))
    refine ⟨_, rfl, b, _, 1, _, rfl, rfl, SqT.of (n1 _ _ hA), h1, by show 1 ≤ sizeLine; decide, fun p2 hp2 => ?_⟩
    have n2 := same_new hp2 (.lst ([x].map V.str))
    refine eq_words (xs := [x]) (ys := [x]) (SqL.of (n2 _ _ upd_same)) (SqL.of upd_same) (wd1 wx) (wd1 wx) ?_
    rw [decide_eq_true (rfl : [x] = [x])]
    have g2 := n1.trans n2
    -- no said word
    refine ⟨_, rfl, b, _, 1, _, rfl, rfl, SqT.of (g2 _ _ hA), h1, by show 8 ≤ sizeLine; decide, fun p3 hp3 => ?_⟩
    refine ⟨p3, _, rfl, .inl (SqL.of upd_same), rfl, flat_strs _, _, rfl, ?_⟩
    rw [inV_str]
    refine ite2 (fun z => absurd (of_decide_eq_true z) (isName_said hn)) (fun _ => ?_)
    have g3 := g2.trans (same_new hp3 (.lst (said.map V.str)))
    -- the loop over the one word
    refine ⟨_, rfl, _, rfl, _, rfl, _, rfl, _, _, rfl, rfl, _, rfl, slice_one (g3.seq hS) hx fun p4 hp4 => ?_⟩
    have n4 := same_new hp4 (.lst ([x].map V.str))
    refine ⟨p4, rfl, ⟨_, SqL.of upd_same⟩, for_list (K := K) (a := p4) (xs := [x].map V.str) (fun j σ H' => Same (upd _ p4 (.lst ([x].map V.str))) H' ∧ ∃ u5, σ = [some (.ref b), some (.ref a), some (.int (i : Int)), some (.bl true), u5, none]) ⟨Same.refl _, _, rfl⟩ (fun j σ H' _ h => SqL.of (h.1 _ _ upd_same)) ?_ ?_⟩
    · rintro j y σ H' hy ⟨e1, u5, rfl⟩
      have hy2 : y = V.str x := by
        have := List.mem_of_getElem? hy
        simpa using this
      subst hy2
      refine ⟨_, rfl, true, rfl, iteT ?_⟩
      refine ⟨_, rfl, x, rfl, fun D hD => lc_map (walk_signs x) ((List.replicate x.cps.size true).map V.bl) (by simp [signs]) (by rw [signs_len]; omega) hD (fun _ _ => trivial) (fun k z y H2 Q' hz hy e2 q' => ?_) (fun H2 e2 hl2 => ?_)⟩
      · unfold signs at hz
        rw [List.getElem?_map] at hz
        cases hc : x.cps.toList[k]? with
        | none => rw [hc] at hz; cases hz
        | some c =>
          rw [hc] at hz
          cases hz
          have hm : c ∈ lets.cps.toList := allOf_mem (isName_all hn) c (List.mem_of_getElem? hc)
          have hy2 : y = V.bl true := by
            have := List.mem_of_getElem? hy
            rw [List.map_replicate] at this
            exact (List.mem_replicate.mp this).2
          subst hy2
          refine ⟨_, rfl, c, lets, rfl, rfl, ?_⟩
          rw [decide_eq_true hm]
          exact q' H2 (Same.refl H2)
      · refine ⟨D, _, rfl, SqL.of hl2, ?_⟩
        rw [all_true]
        exact ⟨e1.trans e2, _, rfl⟩
    · rintro σ H' ⟨e1, u5, rfl⟩
      exact ⟨_, rfl, true, rfl, iteT ⟨_, rfl, _, _, rfl, rfl, q H' ((g3.trans n4).trans e1)⟩⟩
  | @num b n hA =>
    obtain ⟨b1, b2, hcase⟩ := neg_num hR
    have h0 : atI [st "num", V.int n] ((0 : Nat) : Int) = some (st "num") := atI_nat rfl
    have h1 : atI [st "num", V.int n] ((1 : Nat) : Int) = some (V.int n) := atI_nat rfl
    have hf : decide (st "num" = V.str (Str.ofString "name")) = false := by decide +kernel
    refine ⟨_, rfl, b, _, rfl, .inr (SqT.of hA), rfl, _, rfl, iteF ?_⟩
    refine ⟨_, rfl, b, _, 0, _, rfl, rfl, SqT.of hA, h0, rfl, _, rfl, ?_⟩
    rw [hf]
    refine iteF ?_
    refine ⟨_, rfl, b, _, 1, _, rfl, rfl, SqT.of hA, h1, _, _, _, _, true, rfl, .ty "int", .base (.int n), ty_int, _, rfl, iteF ?_⟩
    refine ⟨_, rfl, b, _, 1, _, rfl, rfl, SqT.of hA, h1, _, _, _, _, false, rfl, .ty "bool", .base (.int n), ty_bool, _, rfl, iteF ?_⟩
    refine ⟨_, rfl, b, _, 1, _, rfl, rfl, SqT.of hA, h1, n, rfl, _, _, rfl, rfl, ⟨by decide, by decide, by decide⟩, _, _, rfl, rfl, _, rfl, ?_⟩
    refine ite2 (fun z => ?_) (fun _ => ?_)
    · exfalso
      have z : (10 : Int) ^ (30 : Int).toNat < (if n < 0 then -n else n) := of_decide_eq_true z
      rw [ten30] at z
      have b1 : -1000000000000000000000000000000 ≤ n := b1
      have b2 : n ≤ 1000000000000000000000000000000 := b2
      split at z <;> omega
    rcases hcase with ⟨n0, hx, rfl⟩ | ⟨n0, hx, hx2, rfl⟩
    · have wx := hW.at hx
      refine ⟨_, rfl, _, rfl, _, rfl, _, rfl, _, _, rfl, rfl, _, rfl, slice_one hS hx fun p hp => ⟨by show 1 ≤ sizeLine; decide, fun p2 hp2 => ?_⟩⟩
      have m1 := same_new hp (.lst ([numS n].map V.str))
      have m2 := same_new hp2 (.lst ([Str.ofString "-"].map V.str))
      refine eq_words (xs := [numS n]) (ys := [Str.ofString "-"]) (SqL.of (m2 _ _ upd_same)) (SqL.of upd_same) (wd1 wx) (wd1 (by decide +kernel)) ⟨_, rfl, ?_⟩
      have ne : ¬ numS n = Str.ofString "-" := figs_not (isNum_parts (numS_ne n0 b2).1).2.1 (c := 45) (by decide +kernel) (by decide)
      rw [eqO, decide_eq_false ne]
      refine iteF (iteF ?_)
      have g2 := m1.trans m2
      refine ⟨_, rfl, _, rfl, _, rfl, _, rfl, _, _, rfl, rfl, _, rfl, slice_one (g2.seq hS) hx fun p3 hp3 => ?_⟩
      have m3 := same_new hp3 (.lst ([numS n].map V.str))
      have g3 := g2.trans m3
      refine ⟨_, rfl, b, _, 1, _, rfl, rfl, SqT.of (g3 _ _ hA), h1, n, rfl, big_bits b1 b2, by show 1 ≤ sizeLine; decide, fun p4 hp4 => ?_⟩
      have m4 := same_new hp4 (.lst ([numS n].map V.str))
      have g4 := g3.trans m4
      refine eq_words (xs := [numS n]) (ys := [numS n]) (SqL.of (m4 _ _ upd_same)) (SqL.of upd_same) (wd1 wx) (wd1 wx) ⟨_, rfl, ?_⟩
      rw [decide_eq_true (rfl : [numS n] = [numS n])]
      refine iteT ⟨_, rfl, b, _, 1, _, rfl, rfl, SqT.of (g4 _ _ hA), h1, _, _, rfl, rfl, _, rfl, ?_⟩
      refine ite2 (fun _ => ?_) (fun z => absurd (decide_eq_true (show n ≥ 0 from n0)) z)
      exact ⟨_, rfl, _, _, rfl, rfl, q _ g4⟩
    · have wx := hW.at hx
      have wx2 := hW.at hx2
      refine ⟨_, rfl, _, rfl, _, rfl, _, rfl, _, _, rfl, rfl, _, rfl, slice_one hS hx fun p hp => ⟨by show 1 ≤ sizeLine; decide, fun p2 hp2 => ?_⟩⟩
      have m1 := same_new hp (.lst ([Str.ofString "-"].map V.str))
      have m2 := same_new hp2 (.lst ([Str.ofString "-"].map V.str))
      refine eq_words (xs := [Str.ofString "-"]) (ys := [Str.ofString "-"]) (SqL.of (m2 _ _ upd_same)) (SqL.of upd_same) (wd1 wx) (wd1 wx) ⟨_, rfl, ?_⟩
      rw [decide_eq_true (rfl : [Str.ofString "-"] = [Str.ofString "-"])]
      have g2 := m1.trans m2
      refine iteT ⟨_, rfl, b, _, 1, _, rfl, rfl, SqT.of (g2 _ _ hA), h1, _, _, rfl, rfl, _, rfl, ?_⟩
      refine ite2 (fun _ => ?_) (fun z => absurd (decide_eq_true (show n ≤ 0 from n0)) z)
      refine ⟨_, rfl, _, rfl, _, _, rfl, rfl, _, rfl, _, rfl, _, _, rfl, rfl, _, rfl, slice_one (i := i + 1) (g2.seq hS) hx2 fun p3 hp3 => ?_⟩
      have m3 := same_new hp3 (.lst ([numS (-n)].map V.str))
      have g3 := g2.trans m3
      refine ⟨_, rfl, b, _, 1, _, rfl, rfl, SqT.of (g3 _ _ hA), h1, n, rfl, _, rfl, big_bits (n := -n) (by show -1000000000000000000000000000000 ≤ -n; have b2 : n ≤ 1000000000000000000000000000000 := b2; omega) (by show -n ≤ 1000000000000000000000000000000; have b1 : -1000000000000000000000000000000 ≤ n := b1; omega), by show 1 ≤ sizeLine; decide, fun p4 hp4 => ?_⟩
      have m4 := same_new hp4 (.lst ([numS (-n)].map V.str))
      have g4 := g3.trans m4
      refine eq_words (xs := [numS (-n)]) (ys := [numS (-n)]) (SqL.of (m4 _ _ upd_same)) (SqL.of upd_same) (wd1 wx2) (wd1 wx2) ⟨_, rfl, ?_⟩
      rw [decide_eq_true (rfl : [numS (-n)] = [numS (-n)])]
      exact iteT ⟨_, rfl, _, _, rfl, rfl, q _ g4⟩
end
end K22
/-! L7: the law's walk of a term along the words. -/
namespace K22
open PySem L2
/-- parts and what is due behind each of them -/
inductive Wk (ws : List Str) (d : Nat) : List Tm → List Str → Nat → Nat → Prop
  | nil {i : Nat} : Wk ws d [] [] i i
  | skip {i s e : Nat} {t : Tm} {ts : List Tm} {ds : List Str} : Rd ws d t i s → Wk ws d ts ds s e → Wk ws d (t :: ts) (Str.ofString "" :: ds) i e
  | due {i s e : Nat} {t : Tm} {ts : List Tm} {x : Str} {ds : List Str} : Rd ws d t i s → x ≠ Str.ofString "" → ws[s]? = some x → Wk ws d ts ds (s + 1) e → Wk ws d (t :: ts) (x :: ds) i e
theorem Wk.len {ws : List Str} {d i e : Nat} {ts : List Tm} {ds : List Str} (h : Wk ws d ts ds i e) : ds.length = ts.length := by
  induction h with
  | nil => rfl
  | skip _ _ ih => rw [List.length_cons, List.length_cons, ih]
  | due _ _ _ _ ih => rw [List.length_cons, List.length_cons, ih]
theorem rd_wk {ws : List Str} {d i s : Nat} {t : Tm} (h : Rd ws d t i s) (hl : t.isLeaf = false) : ∃ (m : Nat) (x : Str) (ds : List Str), d = m + 1 ∧ duesOf t = x :: ds ∧ ws[i]? = some x ∧ Wk ws m t.kids ds (i + 1) s := by
  cases h with
  | name _ _ => cases hl
  | num _ _ _ => cases hl
  | neg _ _ _ _ => cases hl
  | nott h1 h2 => exact ⟨_, _, _, rfl, rfl, h1, .skip h2 .nil⟩
  | bin h1 h2 h3 h4 h5 => exact ⟨_, _, _, rfl, rfl, h1, .due h2 (sg_ne _) h3 (.due h4 (by decide +kernel) h5 .nil)⟩
  | pick h1 h2 h3 h4 h5 h6 h7 => exact ⟨_, _, _, rfl, rfl, h1, .due h2 (by decide +kernel) h3 (.due h4 (by decide +kernel) h5 (.due h6 (by decide +kernel) h7 .nil))⟩
theorem duesOf_ok {t : Tm} : ∀ x ∈ duesOf t, Wd x := by
  cases t with
  | nott t => exact (by decide +kernel : ∀ x ∈ (["!", ""] : List Str), Wd x)
  | bin o t u =>
    have h : ∀ o : Bop, ∀ x ∈ (["(", o.sg, ")"] : List Str), Wd x := fun o => by cases o <;> decide +kernel
    exact h o
  | pick t u v => exact (by decide +kernel : ∀ x ∈ (["(", "?", ":", ")"] : List Str), Wd x)
  | num n => intro x hx; cases hx
  | name w => intro x hx; cases hx
theorem rd_pos {ws : List Str} {d i s : Nat} {t : Tm} (h : Rd ws d t i s) : ∃ m, d = m + 1 := by cases h <;> exact ⟨_, rfl⟩
section
variable {P : Program} {w : World} {K : PySem.W.Frag} {mg : Str → Option Value} {base : Heap} {C aS aM : Addr}
def spStop (K : PySem.W.Frag) (n : Nat) : Sp := fun vs H Q _ => ∃ (v : V) (t : Tm) (a : Addr) (ws : List Str) (i s d : Nat), vs = [v, .ref a, .int (i : Int), .int (d : Int)] ∧ TmAt H v t ∧ SqL K H a (ws.map V.str) ∧ Wok ws ∧ Rd ws d t i s ∧ d ≤ n ∧ ∀ H', Same H H' → Q (.int (s : Int)) H'
theorem scStop : FnScope ["term", "words", "at", "deep", "dues", "k"] ["term", "words", "at", "deep"] (defScope sStop) := ⟨rfl, rfl, rfl, by decide +kernel, rfl, by decide +kernel, by decide +kernel⟩
theorem stop_none {k : Nat} {f : Addr} {fd : FuncData} : FnOk P w K mg base CX0 k f fd ["term", "words", "at", "deep"] (spStop K 0) := by
  have no : ∀ vs H Q E, ¬ spStop K 0 vs H Q E := fun vs H Q E h => by
    obtain ⟨v, t, a, ws, i, s, d, _, _, _, _, h1, h2, _⟩ := h
    obtain ⟨m, rfl⟩ := rd_pos h1
    omega
  exact ⟨fun vs H Q E h => absurd h (no vs H Q E), fun A outer s H args us vs Q E _ _ _ _ h => absurd h (no vs H Q E)⟩
theorem ok_stop {n : Nat} {f g fL fD : Addr} {fd gd dL dD : FuncData} (F : Fun K "_law_stop" "_law_stop" sStop f fd) (T : Bt mg)
    (L : Dn P w K mg base CX0 1 "_law_leaf_stop" fL dL ["term", "words", "at"] (spLStop K)) (D : Dn P w K mg base CX0 1 "_law_dues" fD dD ["term"] spDues)
    (G : Dn P w K mg base CX0 (n + 1) "_law_stop" g gd ["term", "words", "at", "deep"] (spStop K n)) :
    FnOk P w K mg base CX0 (n + 2) f fd ["term", "words", "at", "deep"] (spStop K (n + 1)) := by
  refine F.ok scStop (fun vs H Q E h => ?_) (fun cdv A outer s H vs Q E hr h => ?_)
  · obtain ⟨v, t, a, ws, i, s, d, rfl, _⟩ := h
    rfl
  obtain ⟨v, t, a, ws, i, e, d, rfl, hT, hS, hW, hR, hd, q⟩ := h
  obtain ⟨b, vs, rfl, hA, hK⟩ := hT.view
  refine ⟨_, pss_cons (ps_if (PW.pt (pw_or (pt_cmpR op_eq (pv 3) pe_int (nomark _)) (pw_or (pt_cmpR op_lt (pv 2) pe_int (nomark _)) (pw_or (pt_not (pt_val (pe_callB call_isi (by rfl) T.isi (by decide +kernel) (pa_cons (pv 0) (pa_cons (pe_bltn (v := .ty "tuple") (by rfl) T.tuple PyProof.Rows.boot_tuple rfl) pa_nil)))))
      (pw_or (pt_cmpR op_lt (pe_callB call_len_seq (by rfl) T.len PySem.boot_len (pa_cons (pv 0) pa_nil)) pe_int (nomark _)) (pw_or1 (pt_not (pt_val (pe_callB call_isi (by rfl) T.isi (by decide +kernel) (pa_cons (pe_ix ix_tup (pv 0) pe_int (fun _ _ => rfl)) (pa_cons (pe_bltn (v := .ty "str") (by rfl) T.str PyProof.Rows.boot_str rfl) pa_nil))))))))))) (pss_one (ps_ret (pe_un un_neg pe_int))) pss_nil)
    (pss_cons (ps_if (PW.pt (pw_or (pt_cmpR op_eq (pe_ix ix_tup (pv 0) pe_int (fun _ _ => rfl)) pe_str (nomark _)) (pw_or1 (pt_cmpR op_eq (pe_ix ix_tup (pv 0) pe_int (fun _ _ => rfl)) pe_str (nomark _)))))
      (pss_one (ps_ret (pe_d L hr (by omega) (by rfl) (pa_cons (pv 0) (pa_cons (pv 1) (pa_cons (pv 2) pa_nil)))))) pss_nil)
    (pss_cons (ps_set (i := 4) scStop.nd rfl (.inl rfl) (pe_d D hr (by omega) (by rfl) (pa_cons (pv 0) pa_nil)))
    (pss_cons (ps_if (PW.pt (pw_or (pt_cmpR (op_eqD hr.units) (pv 4) (pe_lst pa_nil) (nomark _)) (pw_or1 (pt_cmpR (op_neD hr.units) (pe_slice sl_list (pv 1) (po_some (pv 2)) (po_some (pe_op op_add (pv 2) pe_int))) (pe_lst (pa_cons (pe_ix ix_list (pv 4) pe_int (fun _ _ => rfl)) pa_nil)) (nomark _))))) (pss_one (ps_ret (pe_un un_neg pe_int))) pss_nil)
    (pss_cons (ps_set (i := 2) scStop.nd rfl (.inl rfl) (pe_op op_add (pv 2) pe_int))
    (pss_cons (ps_for PassesOwn.never rfl (pi_range2 (by rfl) T.range (pa_cons pe_int (pa_cons (pe_callB call_len_seq (by rfl) T.len PySem.boot_len (pa_cons (pv 0) pa_nil)) pa_nil))) (pg_name (i := 5) scStop.nd rfl (.inl rfl))
      (pss_cons (ps_set (i := 2) scStop.nd rfl (.inl rfl) (pe_d G hr (by omega) (by rfl) (pa_cons (pe_ix ix_tup (pv 0) (pv 5) (fun _ _ => rfl)) (pa_cons (pv 1) (pa_cons (pv 2) (pa_cons (pe_op op_sub (pv 3) pe_int) pa_nil))))))
      (pss_cons (ps_if (pt_cmpR op_lt (pv 2) pe_int (nomark _)) (pss_one (ps_ret (pe_un un_neg pe_int))) pss_nil)
      (pss_one (ps_if (pt_cmpR op_ne (pe_ix ix_list (pv 4) (pv 5) (fun _ _ => rfl)) pe_str (nomark _))
        (pss_cons (ps_if (pt_cmpR (op_neD hr.units) (pe_slice sl_list (pv 1) (po_some (pv 2)) (po_some (pe_op op_add (pv 2) pe_int))) (pe_lst (pa_cons (pe_ix ix_list (pv 4) (pv 5) (fun _ _ => rfl)) pa_nil)) (nomark _)) (pss_one (ps_ret (pe_un un_neg pe_int))) pss_nil)
        (pss_one (ps_set (i := 2) scStop.nd rfl (.inl rfl) (pe_op op_add (pv 2) pe_int)))) pss_nil)))))
    (pss_one (ps_ret (pv 2)))))))), ?_⟩
  obtain ⟨m, rfl⟩ := rd_pos hR
  have h0 : atI (V.str t.opn :: vs) ((0 : Nat) : Int) = some (V.str t.opn) := atI_nat rfl
  have hvs : 1 ≤ vs.length := by
    cases hl : t.isLeaf with
    | false =>
      have := kids_pos hl
      rw [(hK hl).1]
      exact this
    | true =>
      cases hT with
      | num h => rw [h] at hA; cases hA; simp
      | name h => rw [h] at hA; cases hA; simp
      | nott _ _ => cases hl
      | bin _ _ _ => cases hl
      | pick _ _ _ _ => cases hl
  -- the guards
  refine ⟨_, rfl, rfl, _, rfl, ?_⟩
  refine ite2 (fun z => ?_) (fun _ => ?_)
  · have z : (((m + 1 : Nat) : Int)) = 0 := V.int.inj (of_decide_eq_true z)
    omega
  refine ⟨_, rfl, _, _, rfl, rfl, _, rfl, ?_⟩
  refine ite2 (fun z => ?_) (fun _ => ?_)
  · have z : (i : Int) < 0 := of_decide_eq_true z
    omega
  refine ⟨_, rfl, _, _, _, _, true, rfl, .ty "tuple", .base (.tup hA), ty_tup, _, rfl, iteF ?_⟩
  refine ⟨_, rfl, b, _, rfl, .inr (SqT.of hA), _, _, rfl, rfl, _, rfl, ?_⟩
  refine ite2 (fun z => ?_) (fun _ => ?_)
  · have z : (((V.str t.opn :: vs).length : Nat) : Int) < 2 := of_decide_eq_true z
    rw [List.length_cons] at z
    omega
  refine ⟨_, rfl, b, _, 0, _, rfl, rfl, SqT.of hA, h0, _, _, _, _, true, rfl, .ty "str", .base (.str _), ty_str, _, rfl, iteF ?_⟩
  -- a leaf?
  refine ⟨_, rfl, b, _, 0, _, rfl, rfl, SqT.of hA, h0, rfl, _, rfl, ?_⟩
  rw [dec_str]
  have leaf : t.isLeaf = true → spLStop K ([.ref b, .ref a, .int (i : Int)] ++ []) H Q E0 := fun hl => ⟨.ref b, t, a, ws, i, e, m + 1, rfl, hT, hl, hS, hW, hR, q⟩
  refine ite2 (fun h => iteT ⟨_, rfl, _, rfl, _, rfl, leaf (by rw [← opn_leaf, h]; rfl)⟩) (fun h => ?_)
  refine ⟨_, rfl, b, _, 0, _, rfl, rfl, SqT.of hA, h0, rfl, _, rfl, ?_⟩
  rw [dec_str]
  refine ite2 (fun h2 => ⟨_, rfl, _, rfl, _, rfl, leaf (by rw [← opn_leaf, h2, Bool.or_true])⟩) (fun h2 => ?_)
  have hl : t.isLeaf = false := by
    rw [← opn_leaf, Bool.eq_false_iff.mpr h, Bool.eq_false_iff.mpr h2]
    rfl
  obtain ⟨hlen, hkid⟩ := hK hl
  obtain ⟨m', x, ds, em, eD, hx, hWk⟩ := rd_wk hR hl
  have em : m = m' := Nat.succ.inj em
  subst em
  have hds := hWk.len
  have okD : ∀ y ∈ x :: ds, Wd y := by rw [← eD]; exact duesOf_ok
  have h3 := kids_len t
  refine ⟨_, rfl, .ref b, t, rfl, hT, hl, fun pd H1 w1 => ?_⟩
  obtain ⟨g1, f1, d1⟩ := w1
  rw [eD] at d1
  have wx := hW.at hx
  -- dues == []
  refine ⟨_, rfl, by show 0 ≤ sizeLine; decide, fun p hp => ?_⟩
  have n1 := same_new hp (.lst [])
  refine eq_words (xs := x :: ds) (ys := []) (SqL.of (n1 _ _ d1)) (SqL.of upd_same) okD (fun y hy => by cases hy) ⟨_, rfl, ?_⟩
  rw [decide_eq_false (fun z => by cases z)]
  refine iteF ?_
  have g2 := g1.trans n1
  refine ⟨_, rfl, _, rfl, _, rfl, _, rfl, _, _, rfl, rfl, _, rfl, slice_one (g2.seq hS) hx fun p2 hp2 => ?_⟩
  have n2 := same_new hp2 (.lst ([x].map V.str))
  have at0 : atI ((x :: ds).map V.str) ((0 : Nat) : Int) = some (V.str x) := atI_nat rfl
  refine ⟨_, rfl, pd, _, 0, _, rfl, rfl, SqL.of (n2 _ _ (n1 _ _ d1)), at0, by show 1 ≤ sizeLine; decide, fun p3 hp3 => ?_⟩
  have n3 := same_new hp3 (.lst ([x].map V.str))
  refine ne_words (xs := [x]) (ys := [x]) (SqL.of (n3 _ _ upd_same)) (SqL.of upd_same) (wd1 wx) (wd1 wx) ⟨_, rfl, ?_⟩
  rw [decide_eq_true (rfl : [x] = [x])]
  refine iteF ?_
  have g3 := (g2.trans n2).trans n3
  have d3 := n3 _ _ (n2 _ _ (n1 _ _ d1))
  -- at = at + 1
  refine ⟨_, rfl, _, _, rfl, rfl, ?_⟩
  refine ⟨_, rfl, b, _, rfl, .inr (SqT.of (g3 _ _ hA)), 1, _, rfl, ⟨by decide, by decide, ?_, ?_⟩, ?_⟩
  · rw [List.length_cons]
    omega
  · rw [List.length_cons]
    omega
  have eN : ((((V.str t.opn :: vs).length : Nat) : Int) - 1).toNat = t.kids.length := by
    rw [List.length_cons, hlen]
    omega
  rw [eN]
  refine for_range (lo := 1) (n := t.kids.length) (fun j σ H' => Same H H' ∧ H' pd = some (.lst ((x :: ds).map V.str)) ∧ ∃ (i' : Nat) (u5 : Option V), σ = [some (.ref b), some (.ref a), some (.int (i' : Int)), some (.int ((m + 1 : Nat) : Int)), some (.ref pd), u5] ∧ Wk ws m (t.kids.drop j) (ds.drop j) i' e)
    ⟨g3, d3, i + 1, _, rfl, hWk⟩ ?_ ?_
  · rintro j σ H2 hj ⟨e1, ed, i', u5, rfl, wk⟩
    have hk : t.kids[j]? = some t.kids[j] := List.getElem?_eq_getElem hj
    have hv : vs[j]? = some (vs[j]'(by omega)) := List.getElem?_eq_getElem (by omega)
    have hdj : ds[j]? = some (ds[j]'(by omega)) := List.getElem?_eq_getElem (by omega)
    have tk := (hkid j _ _ hv hk).mono e1
    rw [List.drop_eq_getElem_cons hj, List.drop_eq_getElem_cons (show j < ds.length by omega)] at wk
    have ej : (1 + (j : Int)) = ((j + 1 : Nat) : Int) := by omega
    have aT : atI (V.str t.opn :: vs) (1 + (j : Int)) = some (vs[j]'(by omega)) := at_of ej (by rw [List.getElem?_cons_succ]; exact hv)
    have aD : atI ((x :: ds).map V.str) (1 + (j : Int)) = some (V.str (ds[j]'(by omega))) := at_of ej (by rw [List.getElem?_map, List.getElem?_cons_succ, hdj]; rfl)
    have em : (((m + 1 : Nat) : Int) - 1) = (m : Int) := by omega
    refine ⟨_, rfl, _, rfl, b, _, _, _, rfl, rfl, SqT.of (e1 _ _ hA), aT, _, rfl, _, rfl, _, rfl, _, _, rfl, rfl, ?_⟩
    generalize hy : ds[j]'(by omega) = y at wk aD
    generalize hts : t.kids.drop (j + 1) = ts' at wk
    generalize hds2 : ds.drop (j + 1) = ds' at wk
    cases wk with
    | skip r1 wk' =>
      refine ⟨_, _, a, ws, i', _, m, by rw [← em]; rfl, tk, e1.seq hS, hW, r1, by omega, fun H3 e3 => ?_⟩
      have e13 := e1.trans e3
      refine ⟨_, rfl, _, _, rfl, rfl, _, rfl, ?_⟩
      refine ite2 (fun z => ?_) (fun _ => ?_)
      · have z : ((_ : Nat) : Int) < 0 := of_decide_eq_true z
        omega
      refine ⟨_, rfl, _, rfl, pd, _, _, _, rfl, rfl, SqL.of (e3 _ _ ed), aD, rfl, _, rfl, ?_⟩
      rw [dec_str, decide_eq_true rfl]
      exact iteF ⟨e13, e3 _ _ ed, _, _, rfl, wk'⟩
    | due r1 hne hs wk' =>
      refine ⟨_, _, a, ws, i', _, m, by rw [← em]; rfl, tk, e1.seq hS, hW, r1, by omega, fun H3 e3 => ?_⟩
      have e13 := e1.trans e3
      refine ⟨_, rfl, _, _, rfl, rfl, _, rfl, ?_⟩
      refine ite2 (fun z => ?_) (fun _ => ?_)
      · have z : ((_ : Nat) : Int) < 0 := of_decide_eq_true z
        omega
      refine ⟨_, rfl, _, rfl, pd, _, _, _, rfl, rfl, SqL.of (e3 _ _ ed), aD, rfl, _, rfl, ?_⟩
      rw [dec_str, decide_eq_false hne]
      refine iteT ?_
      have wy := hW.at hs
      refine ⟨_, rfl, _, rfl, _, rfl, _, rfl, _, _, rfl, rfl, _, rfl, slice_one (e13.seq hS) hs fun p5 hp5 => ?_⟩
      have n5 := same_new hp5 (.lst ([y].map V.str))
      refine ⟨_, rfl, _, rfl, pd, _, _, _, rfl, rfl, SqL.of (n5 _ _ (e3 _ _ ed)), aD, by show 1 ≤ sizeLine; decide, fun p6 hp6 => ?_⟩
      have n6 := same_new hp6 (.lst ([y].map V.str))
      refine ne_words (xs := [y]) (ys := [y]) (SqL.of (n6 _ _ upd_same)) (SqL.of upd_same) (wd1 wy) (wd1 wy) ⟨_, rfl, ?_⟩
      rw [decide_eq_true (rfl : [y] = [y])]
      refine iteF ?_
      exact ⟨_, rfl, _, _, rfl, rfl, (e13.trans n5).trans n6, n6 _ _ (n5 _ _ (e3 _ _ ed)), _, _, rfl, wk'⟩
  · rintro σ H2 ⟨e1, ed, i', u5, rfl, wk⟩
    rw [List.drop_length, ← hds, List.drop_length] at wk
    cases wk
    exact ⟨_, rfl, q H2 e1⟩
theorem all_stop {f fL fD : Addr} {fd dL dD : FuncData} (F : Fun K "_law_stop" "_law_stop" sStop f fd) (T : Bt mg) (b : Binds K fd ["term", "words", "at", "deep"] []) (m : mg "_law_stop" = some (.ref f))
    (L : Dn P w K mg base CX0 1 "_law_leaf_stop" fL dL ["term", "words", "at"] (spLStop K)) (D : Dn P w K mg base CX0 1 "_law_dues" fD dD ["term"] spDues) : ∀ n : Nat, Dn P w K mg base CX0 (n + 1) "_law_stop" f fd ["term", "words", "at", "deep"] (spStop K n)
  | 0 => ⟨stop_none, b, F.kp, m⟩
  | n + 1 => ⟨ok_stop F T L D (all_stop F T b m L D n), b, F.kp, m⟩
end
end K22
/-! L8: the pile, and the def that grows it. -/
namespace K22
open PySem L2
/-! ### a word between a test and what follows it -/
def tMid (t : TT) : TT := fun σ H Q => ∃ R : Bool → Hp → Prop, t σ H R ∧ ∀ b H', R b H' → Q b H'
theorem pt_mid {X : Cx} {e : Expr} {t : TT} (h : PT X e t) : PT X e (tMid t) := ⟨fun pins s σ H Q I hw => by
  obtain ⟨R, h1, h2⟩ := hw
  refine thn (h.run pins s σ H R I h1) fun b s' q => ?_
  obtain ⟨H', I', q'⟩ := q
  exact ⟨H', I', h2 b H' q'⟩⟩
/-! ### the heap but for the pile's own list -/
def Kp (M : Addr) (H H' : Hp) : Prop := ∀ b o, b ≠ M → H b = some o → H' b = some o
theorem Kp.refl (M : Addr) (H : Hp) : Kp M H H := fun _ _ _ h => h
theorem Kp.trans {M : Addr} {H H1 H2 : Hp} (a : Kp M H H1) (b : Kp M H1 H2) : Kp M H H2 := fun c o n h => b c o n (a c o n h)
theorem Kp.of {M : Addr} {H H' : Hp} (e : Same H H') : Kp M H H' := fun b o _ h => e b o h
theorem Kp.upd {M : Addr} {H : Hp} {o : HO} : Kp M H (upd H M o) := fun b u n h => by rw [upd_ne n]; exact h
theorem Kp.same {M : Addr} {H0 H H' : Hp} (k : Kp M H H') (e : Same H0 H) (n : H0 M = none) : Same H0 H' := fun b o h => k b o (ne_of_none h n) (e b o h)
theorem TmAt.keep {M : Addr} {H H' : Hp} (k : Kp M H H') (hM : ∃ xs, H M = some (.lst xs)) {v : V} {t : Tm} (h : TmAt H v t) : TmAt H' v t := by
  obtain ⟨xs, hM⟩ := hM
  have ne : ∀ {b : Addr} {us : List V}, H b = some (.tup us) → b ≠ M := fun h => ne_of h hM (by intro z; cases z)
  induction h with
  | num h => exact .num (k _ _ (ne h) h)
  | name h => exact .name (k _ _ (ne h) h)
  | nott h _ i => exact .nott (k _ _ (ne h) h) i
  | bin h _ _ i j => exact .bin (k _ _ (ne h) h) i j
  | pick h _ _ _ i j l => exact .pick (k _ _ (ne h) h) i j l
def ItM (H : Hp) (M : Addr) (v : V) (t : Tm) : Prop := ∃ wl, wl ≠ M ∧ ItW H v t wl
theorem ItM.keep {M : Addr} {H H' : Hp} (k : Kp M H H') (hM : ∃ xs, H M = some (.lst xs)) {v : V} {t : Tm} (h : ItM H M v t) : ItM H' M v t := by
  obtain ⟨wl, ne, a, tv, rfl, h1, h2, h3⟩ := h
  obtain ⟨xs, hM'⟩ := hM
  exact ⟨wl, ne, a, tv, rfl, k _ _ (ne_of h1 hM' (by intro z; cases z)) h1, h2.keep k ⟨xs, hM'⟩, k _ _ ne h3⟩
def okT (t : Tm) : Prop := t.ok ∧ t.deep ≤ 12 ∧ t.many ≤ 200
def Pile (H : Hp) (M : Addr) (xs : List V) (ts : List Tm) : Prop := xs.length = ts.length ∧ ∀ (i : Nat) (x : V) (t : Tm), xs[i]? = some x → ts[i]? = some t → okT t ∧ ItM H M x t
theorem Pile.keep {M : Addr} {H H' : Hp} (k : Kp M H H') (hM : ∃ xs, H M = some (.lst xs)) {xs : List V} {ts : List Tm} (h : Pile H M xs ts) : Pile H' M xs ts :=
  ⟨h.1, fun i x t hx ht => ⟨(h.2 i x t hx ht).1, (h.2 i x t hx ht).2.keep k hM⟩⟩
theorem Pile.take {M : Addr} {H : Hp} {xs : List V} {ts : List Tm} (h : Pile H M xs ts) (n : Nat) : Pile H M (xs.take n) (ts.take n) := by
  refine ⟨by rw [List.length_take, List.length_take, h.1], fun i x t hx ht => ?_⟩
  rw [List.getElem?_take] at hx ht
  split at hx
  · rename_i hi
    rw [if_pos hi] at ht
    exact h.2 i x t hx ht
  · cases hx
theorem Pile.drop {M : Addr} {H : Hp} {xs : List V} {ts : List Tm} (h : Pile H M xs ts) (n : Nat) : Pile H M (xs.drop n) (ts.drop n) := by
  refine ⟨by rw [List.length_drop, List.length_drop, h.1], fun i x t hx ht => ?_⟩
  rw [List.getElem?_drop] at hx ht
  exact h.2 _ x t hx ht
theorem Pile.snoc {M : Addr} {H : Hp} {xs : List V} {ts : List Tm} (h : Pile H M xs ts) {x : V} {t : Tm} (ok : okT t) (it : ItM H M x t) : Pile H M (xs ++ [x]) (ts ++ [t]) := by
  refine ⟨by rw [List.length_append, List.length_append, h.1]; rfl, fun i y u hx ht => ?_⟩
  by_cases hi : i < xs.length
  · rw [List.getElem?_append_left hi] at hx
    rw [List.getElem?_append_left (by rw [← h.1]; exact hi)] at ht
    exact h.2 i y u hx ht
  · rw [List.getElem?_append_right (by omega)] at hx
    rw [List.getElem?_append_right (by rw [← h.1]; omega), ← h.1] at ht
    cases hk : i - xs.length with
    | zero =>
      rw [hk] at hx ht
      cases hx
      cases ht
      exact ⟨ok, it⟩
    | succ k =>
      rw [hk] at hx
      simp at hx
theorem Pile.its {M : Addr} {H : Hp} {xs : List V} {ts : List Tm} (h : Pile H M xs ts) : ∃ tvs wls, Its H xs ts tvs wls :=
  Its.of h.1 fun i x t hx ht => by
    obtain ⟨_, wl, _, it⟩ := h.2 i x t hx ht
    exact ⟨wl, it⟩
theorem Pile.ok {M : Addr} {H : Hp} {xs : List V} {ts : List Tm} (h : Pile H M xs ts) : ∀ t ∈ ts, okT t := fun t ht => by
  obtain ⟨i, hi, e⟩ := List.getElem_of_mem ht
  have hx : i < xs.length := by rw [h.1]; exact hi
  exact (h.2 i _ t (List.getElem?_eq_getElem hx) (by rw [List.getElem?_eq_getElem hi, e])).1
/-! ### a term over the last ones -/
theorem ov_of {o : Str} (h : o ∈ opTexts) {ts : List Tm} (hl : (ts.length : Int) = manyOf o) (h0 : 0 < ts.length) : ∃ t, Ov o ts t := by
  have two : manyOf o = 2 → (∃ b : Bop, o = b.nm) → ∃ t, Ov o ts t := fun e ⟨b, hb⟩ => by
    subst hb
    match ts, hl with
    | [t, u], _ => exact ⟨_, .bin b t u⟩
    | [], hl => rw [e] at hl; simp at hl
    | [t], hl => rw [e] at hl; simp at hl
    | t :: u :: v :: r, hl => rw [e] at hl; simp only [List.length_cons] at hl; omega
  have none : manyOf o = 0 → ∃ t, Ov o ts t := fun e => by rw [e] at hl; omega
  simp only [opTexts, List.mem_cons, List.not_mem_nil, or_false] at h
  rcases h with rfl | rfl | rfl | rfl | rfl | rfl | rfl | rfl | rfl | h
  · have e : manyOf "not" = 1 := by decide +kernel
    match ts, hl with
    | [t], _ => exact ⟨_, .nott t⟩
    | [], hl => rw [e] at hl; simp at hl
    | t :: u :: r, hl => rw [e] at hl; simp only [List.length_cons] at hl; omega
  · exact two (by decide +kernel) ⟨.add, rfl⟩
  · exact two (by decide +kernel) ⟨.sub, rfl⟩
  · exact two (by decide +kernel) ⟨.mul, rfl⟩
  · exact two (by decide +kernel) ⟨.less, rfl⟩
  · exact two (by decide +kernel) ⟨.same, rfl⟩
  · exact two (by decide +kernel) ⟨.both, rfl⟩
  · exact two (by decide +kernel) ⟨.any, rfl⟩
  · have e : manyOf "pick" = 3 := by decide +kernel
    match ts, hl with
    | [t, u, v], _ => exact ⟨_, .pick t u v⟩
    | [], hl => rw [e] at hl; simp at hl
    | [t], hl => rw [e] at hl; simp at hl
    | [t, u], hl => rw [e] at hl; simp at hl
    | t :: u :: v :: w :: r, hl => rw [e] at hl; simp only [List.length_cons] at hl; omega
  · have : o = Str.ofString "" := by rcases h with h | h | h | h | h | h <;> exact h
    subst this
    exact none (by decide +kernel)
theorem Ov.ok {o : Str} {ts : List Tm} {t : Tm} (h : Ov o ts t) (hk : ∀ k ∈ ts, k.ok) : t.ok := by
  cases h with
  | nott t => exact hk t (by simp)
  | bin o t u => exact ⟨hk t (by simp), hk u (by simp)⟩
  | pick t u v => exact ⟨hk t (by simp), hk u (by simp), hk v (by simp)⟩
theorem many_le (o : Str) : 0 ≤ manyOf o ∧ manyOf o ≤ 3 := by
  unfold manyOf
  repeat' split
  all_goals omega
theorem cut_last (xs : List V) {m : Nat} (h : m ≤ xs.length) : cutV xs (some ((xs.length : Int) - (m : Int))) none = xs.drop (xs.length - m) := by
  unfold cutV
  have e : ((xs.length : Int) - (m : Int)) = ((xs.length - m : Nat) : Int) := by omega
  have e1 : HT.sIx xs.length 0 (some ((xs.length : Int) - (m : Int))) = xs.length - m := by
    rw [e]
    exact (HT.sIx_nat _ 0 _).trans (by omega)
  have e2 : HT.sIx xs.length xs.length none = xs.length := rfl
  rw [e1, e2]
  exact List.take_of_length_le (by rw [List.length_drop]; omega)
end K22
/-! L9: _law_grown. -/
namespace K22
open PySem L2
section
variable {P : Program} {w : World} {K : PySem.W.Frag} {mg : Str → Option Value} {base : Heap} {C aS aM : Addr}
def spGrown (K : PySem.W.Frag) : Sp := fun vs H Q _ => ∃ (a : Addr) (ns : List Int) (b : Int), vs = [.ref a, .int b] ∧ SqL K H a (ns.map V.int) ∧ ns.length ≤ 63 ∧ ∀ (M : Addr) (H' : Hp) (xs : List V) (ts : List Tm), Same H H' → H' M = some (.lst xs) → Pile H' M xs ts → xs.length ≤ 64 → Q (.ref M) H'
theorem scGrown : FnScope ["script", "base", "made", "k", "cell", "op", "parts", "leaf", "part"] ["script", "base"] (defScope sGrown) := ⟨rfl, rfl, rfl, by decide +kernel, rfl, by decide +kernel, by decide +kernel⟩
theorem ints_len (ns : List Int) : (ns.map V.int).length = ns.length := List.length_map _
theorem upd_same_of {H : Hp} {p : Addr} {o : HO} (_ : Same H (upd H p o)) : upd H p o p = some o := upd_same
/-- behind the choice of the parts -/
def Mid4 (H6 : Hp) (M : Addr) (xs : List V) (o : Str) (f : Addr → L2.St) (σ' : L2.St) (H' : Hp) : Prop := Same H6 H' ∧ ∃ (Pa : Addr) (ys : List V) (us : List Tm), Pa ≠ M ∧ H' Pa = some (.lst ys) ∧ Pile H' M ys us ∧ σ' = f Pa ∧
  (ys = [] ∨ ∃ m : Nat, (m : Int) = manyOf o ∧ 0 < m ∧ m ≤ xs.length ∧ ys.length = m)
theorem ok_grown {f fN fP fY fV fL fW : Addr} {fd dN dP dY dV dL dW : FuncData} (F : Fun K "_law_grown" "_law_grown" sGrown f fd) (T : Bt mg)
    (N : Dn P w K mg base CX0 1 "_law_name" fN dN ["base", "n"] spLName) (OP : Dn P w K mg base CX0 1 "_law_op" fP dP ["n"] spOp) (MY : Dn P w K mg base CX0 1 "_law_many" fY dY ["op"] spMany)
    (OV : Dn P w K mg base CX0 2 "_law_over" fV dV ["op", "parts"] (spOver K)) (LF : Dn P w K mg base CX0 2 "_law_leaf" fL dL ["cell", "k", "base"] spLeaf) (LW : Dn P w K mg base CX0 1 "_law_leaf_words" fW dW ["leaf"] spLWords) :
    FnOk P w K mg base CX0 3 f fd ["script", "base"] (spGrown K) := by
  refine F.ok scGrown (fun vs H Q E h => ?_) (fun cdv A outer s H vs Q E hr h => ?_)
  · obtain ⟨a, ns, b, rfl, _⟩ := h
    rfl
  obtain ⟨a, ns, b, rfl, hS, h63, q⟩ := h
  refine ⟨_, pss_cons (ps_set (i := 2) scGrown.nd rfl (.inl rfl) (pe_lst (pa_cons (pe_tup (pa_cons (pe_tup (pa_cons pe_str (pa_cons (pe_d N hr (by decide) (by rfl) (pa_cons (pv 1) (pa_cons pe_int pa_nil))) pa_nil)))
        (pa_cons pe_int (pa_cons pe_int (pa_cons (pe_lst (pa_cons (pe_d N hr (by decide) (by rfl) (pa_cons (pv 1) (pa_cons pe_int pa_nil))) pa_nil)) pa_nil))))) pa_nil)))
    (pss_cons (ps_for PassesOwn.never rfl (pi_range1 (by rfl) T.range (pa_cons (pe_callB call_len_seq (by rfl) T.len PySem.boot_len (pa_cons (pv 0) pa_nil)) pa_nil)) (pg_name (i := 3) scGrown.nd rfl (.inl rfl))
      (pss_cons (ps_set (i := 4) scGrown.nd rfl (.inl rfl) (pe_op op_mod (pe_ix ix_list (pv 0) (pv 3) (fun _ _ => rfl)) (pe_op op_pow pe_int pe_int)))
      (pss_cons (ps_set (i := 5) scGrown.nd rfl (.inl rfl) (pe_d OP hr (by decide) (by rfl) (pa_cons (pe_op op_mod (pv 4) pe_int) pa_nil)))
      (pss_cons (ps_set (i := 6) scGrown.nd rfl (.inl rfl) (pe_lst pa_nil))
      (C8.pss_cut (ps_if (pt_chain op_lt op_le pe_int (pe_d MY hr (by decide) (by rfl) (pa_cons (pv 5) pa_nil)) (pe_callB call_len_seq (by rfl) T.len PySem.boot_len (pa_cons (pv 2) pa_nil)))
        (pss_one (ps_set (i := 6) scGrown.nd rfl (.inl rfl) (pe_slice sl_list (pv 2) (po_some (pe_op op_sub (pe_callB call_len_seq (by rfl) T.len PySem.boot_len (pa_cons (pv 2) pa_nil)) (pe_d MY hr (by decide) (by rfl) (pa_cons (pv 5) pa_nil)))) po_none))) pss_nil)
      (pss_one (ps_if (pt_mid (PW.pt (pw_and (pt_cmpR op_gt (pe_callB call_len_seq (by rfl) T.len PySem.boot_len (pa_cons (pv 6) pa_nil)) pe_int (nomark _))
          (pw_and (pt_cmpR op_lt (pe_callB (cr_max rfl) (by rfl) T.max (by decide +kernel) (pa_cons (pe_lc (own := [("part", 8)]) (g := gName 8) (tt := tYes) (te := tOp (rIxT K) (tVar 8) (tC (.int 1))) rfl scGrown.nd (pi_list (pv 6))
              (blkOk_by (own := [("part", 8)]) (N := ["script", "base", "made", "k", "cell", "op", "parts", "leaf", "part"]) (sc := defScope sGrown) (by decide +kernel)) (fun _ _ _ _ _ => pg_name (i := 8) scGrown.nd rfl (.inl rfl)) (fun _ _ _ _ _ => pts_nil)
              (fun _ _ _ _ _ => pe_ix ix_tup (pv 8) pe_int (fun _ _ => rfl))) pa_nil)) pe_int (nomark _))
          (pw_and1 (pt_cmpR op_lt (pe_callB (cr_sum rfl) (by rfl) T.sum (by decide +kernel) (pa_cons (pe_lc (own := [("part", 8)]) (g := gName 8) (tt := tYes) (te := tOp (rIxT K) (tVar 8) (tC (.int 2))) rfl scGrown.nd (pi_list (pv 6))
              (blkOk_by (own := [("part", 8)]) (N := ["script", "base", "made", "k", "cell", "op", "parts", "leaf", "part"]) (sc := defScope sGrown) (by decide +kernel)) (fun _ _ _ _ _ => pg_name (i := 8) scGrown.nd rfl (.inl rfl)) (fun _ _ _ _ _ => pts_nil)
              (fun _ _ _ _ _ => pe_ix ix_tup (pv 8) pe_int (fun _ _ => rfl))) pa_nil)) pe_int (nomark _)))))))
        (pss_cons (ps_for PassesOwn.never rfl (pi_list (pv 6)) (pg_name (i := 8) scGrown.nd rfl (.inl rfl)) (pss_one (ps_expr (pe_bm0 PySem.F.plainAttrs_list PySem.F.slot_list_pop PySem.F.type_list_pop mt_pop (pv 2)))))
        (pss_one (ps_expr (pe_bm PySem.F.plainAttrs_list PySem.F.slot_list_append PySem.F.type_list_append mt_append (pv 2) (pa_cons (pe_d OV hr (by decide) (by rfl) (pa_cons (pv 5) (pa_cons (pv 6) pa_nil))) pa_nil)))))
        (pss_one (ps_if (pt_mid (PW.pt (pw_and (pt_cmpR op_eq (pe_op op_mod (pv 4) pe_int) pe_int (nomark _))
          (pw_and1 (pt_cmpR op_lt (pe_callB (cr_sum rfl) (by rfl) T.sum (by decide +kernel) (pa_cons (pe_lc (own := [("part", 8)]) (g := gName 8) (tt := tYes) (te := tOp (rIxT K) (tVar 8) (tC (.int 2))) rfl scGrown.nd (pi_list (pv 2))
              (blkOk_by (own := [("part", 8)]) (N := ["script", "base", "made", "k", "cell", "op", "parts", "leaf", "part"]) (sc := defScope sGrown) (by decide +kernel)) (fun _ _ _ _ _ => pg_name (i := 8) scGrown.nd rfl (.inl rfl)) (fun _ _ _ _ _ => pts_nil)
              (fun _ _ _ _ _ => pe_ix ix_tup (pv 8) pe_int (fun _ _ => rfl))) pa_nil)) pe_int (nomark _))))))
          (pss_one (ps_expr (pe_bm PySem.F.plainAttrs_list PySem.F.slot_list_append PySem.F.type_list_append mt_append (pv 2) (pa_cons (pe_ix ix_list (pv 2) (pe_op op_sub (pe_callB call_len_seq (by rfl) T.len PySem.boot_len (pa_cons (pv 2) pa_nil)) pe_int) (fun _ _ => rfl)) pa_nil))))
          (pss_cons (ps_set (i := 7) scGrown.nd rfl (.inl rfl) (pe_d LF hr (by decide) (by rfl) (pa_cons (pe_op op_fdiv (pv 4) pe_int) (pa_cons (pv 3) (pa_cons (pv 1) pa_nil)))))
          (pss_one (ps_expr (pe_bm PySem.F.plainAttrs_list PySem.F.slot_list_append PySem.F.type_list_append mt_append (pv 2) (pa_cons (pe_tup (pa_cons (pv 7) (pa_cons pe_int (pa_cons pe_int (pa_cons (pe_d LW hr (by decide) (by rfl) (pa_cons (pv 7) pa_nil)) pa_nil))))) pa_nil))))))))))))))
    (pss_one (ps_ret (pv 2)))), ?_⟩
  -- made = [..]
  refine ⟨_, rfl, b, 0, rfl, fun H1 g1 => ⟨by show 2 ≤ sizeLine; decide, fun p1 hp1 => ?_⟩⟩
  have n1 := same_new hp1 (.tup [st "name", .str (lname b 0)])
  refine ⟨_, rfl, b, 0, rfl, fun H2 g2 => ⟨by show 1 ≤ sizeLine; decide, fun p2 hp2 => ?_⟩⟩
  have n2 := same_new hp2 (.lst [.str (lname b 0)])
  refine ⟨by show 4 ≤ sizeLine; decide, fun p3 hp3 => ?_⟩
  have n3 := same_new hp3 (.tup [.ref p1, .int 1, .int 1, .ref p2])
  refine ⟨by show 1 ≤ sizeLine; decide, fun M hM => ?_⟩
  have n4 := same_new hM (.lst [.ref p3])
  have g0 := ((((g1.trans n1).trans g2).trans n2).trans n3).trans n4
  have fM : H M = none := (((((g1.trans n1).trans g2).trans n2).trans n3)).free hM
  have hI0 : ItM _ M (.ref p3) (.name (lname b 0)) := ⟨p2, ne_of_none (n3 _ _ upd_same) hM, p3, .ref p1, rfl, n4 _ _ upd_same, .name (n4 _ _ (n3 _ _ (n2 _ _ (g2 _ _ upd_same)))), n4 _ _ (n3 _ _ upd_same)⟩
  have ok0 : okT (.name (lname b 0)) := ⟨lname_ok b 0, by show 1 ≤ 12; decide, by show 1 ≤ 200; decide⟩
  have P0 : Pile _ M [.ref p3] [.name (lname b 0)] := ⟨rfl, fun i x t hx ht => by
    cases i with
    | zero => cases hx; cases ht; exact ⟨ok0, hI0⟩
    | succ i => simp at hx⟩
  have hM5 := upd_same_of n4
  -- the loop
  refine ⟨_, rfl, a, _, rfl, .inl (g0.seq hS), _, rfl, ?_, ?_, ?_⟩
  · rw [ints_len]
    omega
  · rw [ints_len]
    omega
  refine for_range (lo := 0) (n := (((ns.map V.int).length : Nat) : Int).toNat) (fun i σ H' => Same H H' ∧ ∃ (xs : List V) (ts : List Tm) (u3 u4 u5 u6 u7 u8 : Option V), σ = [some (.ref a), some (.int b), some (.ref M), u3, u4, u5, u6, u7, u8] ∧ H' M = some (.lst xs) ∧ Pile H' M xs ts ∧ 1 ≤ xs.length ∧ xs.length ≤ i + 1)
    ⟨g0, _, _, _, _, _, _, _, _, rfl, hM5, P0, by show 1 ≤ 1; decide, by show 1 ≤ 1; decide⟩ ?_ ?_
  · rintro i σ H6 hi ⟨e6, xs, ts, u3, u4, u5, u6, u7, u8, rfl, hM6, P6, l1, l2⟩
    have hi' : i < ns.length := by
      rw [ints_len] at hi
      omega
    have aI : atI (ns.map V.int) (0 + (i : Int)) = some (.int ns[i]) := at_of (show (0 + (i : Int)) = ((i : Nat) : Int) by omega) (by rw [List.getElem?_map, List.getElem?_eq_getElem hi']; rfl)
    refine ⟨_, rfl, _, rfl, a, _, _, _, rfl, rfl, e6.seq hS, aI, _, _, rfl, rfl, ⟨by decide, by decide, by decide⟩, _, _, rfl, rfl, (by show (0 : Int) < (10 : Int) ^ (60 : Int).toNat; decide +kernel), ?_⟩
    refine ⟨_, rfl, _, _, rfl, rfl, (by show (0 : Int) < 15; decide), (ns[i] % (10 : Int) ^ (60 : Int).toNat) % 15, rfl, Int.emod_nonneg _ (by decide), Int.emod_lt_of_pos _ (by decide), fun o H7 e7 ho => ?_⟩
    refine ⟨by show 0 ≤ sizeLine; decide, fun p8 hp8 => ?_⟩
    have n8 := same_new hp8 (.lst [])
    have e8 := e7.trans n8
    have hM7 := e7 _ _ hM6
    have hM8 := n8 _ _ hM7
    have nM8 : p8 ≠ M := fun z => by rw [z, hM7] at hp8; cases hp8
    refine ⟨Mid4 H6 M xs o (fun Pa => [some (.ref a), some (.int b), some (.ref M), some (.int (0 + (i : Int))), some (.int (ns[i] % (10 : Int) ^ (60 : Int).toNat)), some (.str o), some (.ref Pa), u7, u8]), ?_, ?_⟩
    · have no : Mid4 H6 M xs o (fun Pa => [some (.ref a), some (.int b), some (.ref M), some (.int (0 + (i : Int))), some (.int (ns[i] % (10 : Int) ^ (60 : Int).toNat)), some (.str o), some (.ref Pa), u7, u8]) [some (.ref a), some (.int b), some (.ref M), some (.int (0 + (i : Int))), some (.int (ns[i] % (10 : Int) ^ (60 : Int).toNat)), some (.str o), some (.ref p8), u7, u8] _ :=
        ⟨e8, p8, [], [], nM8, upd_same_of n8, ⟨rfl, fun k x t hx => by simp at hx⟩, rfl, .inl rfl⟩
      refine ⟨_, rfl, o, rfl, _, _, rfl, rfl, _, rfl, ?_⟩
      refine ite2 (fun z => ?_) (fun z => ⟨_, rfl, iteF no⟩)
      refine ⟨_, rfl, M, _, rfl, .inl (SqL.of hM8), _, _, rfl, rfl, _, rfl, ?_⟩
      refine ite2 (fun z2 => ?_) (fun z2 => no)
      have z : (0 : Int) < manyOf o := of_decide_eq_true z
      have z2 : manyOf o ≤ (xs.length : Int) := of_decide_eq_true z2
      have hm : (((manyOf o).toNat : Nat) : Int) = manyOf o := by omega
      refine ⟨_, rfl, _, rfl, M, _, rfl, .inl (SqL.of hM8), _, rfl, o, rfl, _, _, rfl, rfl, _, rfl, M, _, rfl, SqL.of hM8, fun p9 hp9 => ?_⟩
      rw [← hm, cut_last xs (by omega)]
      have n9 := same_new hp9 (.lst (xs.drop (xs.length - (manyOf o).toNat)))
      refine ⟨e8.trans n9, p9, _, ts.drop (xs.length - (manyOf o).toNat), (fun z => by rw [z, hM8] at hp9; cases hp9), upd_same, ((P6.keep (.of (e8.trans n9)) ⟨_, hM6⟩).drop _), rfl, .inr ⟨(manyOf o).toNat, hm, by omega, by omega, ?_⟩⟩
      rw [List.length_drop]
      omega
    rintro σ' Hc ⟨ec, Pa, ys, us, nPa, hPa, Pc, rfl, hys⟩
    have hMc := ec _ _ hM6
    have PM := P6.keep (.of ec) ⟨_, hM6⟩
    have ly : ys.length ≤ 64 := by
      rcases hys with rfl | ⟨m, _, _, h1, h2⟩
      · exact Nat.zero_le _
      · omega
    obtain ⟨tvs, wls, Ic⟩ := Pc.its
    obtain ⟨k1, k2, k3⟩ := Ic.len
    refine ⟨fun r H' => Same Hc H' ∧ (r = true → ∃ t, Ov o us t ∧ okT t), ?_, ?_⟩
    · refine ⟨_, rfl, Pa, _, rfl, .inl (SqL.of hPa), _, _, rfl, rfl, _, rfl, ?_⟩
      refine ite2 (fun z => ?_) (fun z => ⟨Same.refl _, fun h => by cases h⟩)
      have z : (ys.length : Int) > 0 := of_decide_eq_true z
      obtain ⟨m, hm, m0, mle, mlen⟩ : ∃ m : Nat, (m : Int) = manyOf o ∧ 0 < m ∧ m ≤ xs.length ∧ ys.length = m := by
        rcases hys with rfl | h
        · exact absurd z (by show ¬ ((0 : Nat) : Int) > 0; decide)
        · exact h
      obtain ⟨t, hO⟩ := ov_of ho (ts := us) (by rw [k1, mlen]; exact hm) (by omega)
      refine ⟨_, rfl, Pa, rfl, ⟨_, SqL.of hPa⟩, fun D hD => lc_item (jj := 1) (ys := (us.map fun k => ((k.deep : Nat) : Int)).map V.int) (by show 8 < 9; decide) (SqL.of hPa) (by rw [List.length_map, List.length_map, k1]) (by omega) hD (fun i x y hx hy => ?_) (fun H2 e2 hl2 => ?_)⟩
      · obtain ⟨b', wl, t', tv, rfl, h1, _, _, h4, _⟩ := Ic.get hx
        rw [List.getElem?_map, List.getElem?_map, h1] at hy
        cases hy
        exact ⟨b', _, rfl, h4, rfl⟩
      refine ⟨D, _, rfl, SqL.of hl2, by rw [List.length_map]; omega, fun mx hmx hle => ⟨_, _, rfl, rfl, _, rfl, ?_⟩⟩
      have ed := hO.deep hmx hle
      refine ite2 (fun z => ?_) (fun z => ⟨e2, fun h => by cases h⟩)
      have z12 : mx < 12 := of_decide_eq_true z
      have I2 := Ic.mono e2
      refine ⟨_, rfl, Pa, rfl, ⟨_, SqL.of (e2 _ _ hPa)⟩, fun D2 hD2 => lc_item (jj := 2) (ys := (us.map fun k => ((k.many : Nat) : Int)).map V.int) (by show 8 < 9; decide) (SqL.of (e2 _ _ hPa)) (by rw [List.length_map, List.length_map, k1]) (by omega) hD2 (fun i x y hx hy => ?_) (fun H3 e3 hl3 => ?_)⟩
      · obtain ⟨b', wl, t', tv, rfl, h1, _, _, h4, _⟩ := I2.get hx
        rw [List.getElem?_map, List.getElem?_map, h1] at hy
        cases hy
        exact ⟨b', _, rfl, h4, rfl⟩
      refine ⟨D2, _, rfl, SqL.of hl3, _, _, rfl, rfl, _, rfl, e2.trans e3, fun z => ⟨t, hO, ?_, ?_, ?_⟩⟩
      · exact hO.ok fun k hk => (Pc.ok k hk).1
      · omega
      · have z : (us.map fun k => ((k.many : Nat) : Int)).sum < 200 := of_decide_eq_true z
        have := hO.many
        omega
    rintro r Hr ⟨er, hr2⟩
    have hMr := er _ _ hMc
    have hPr := er _ _ hPa
    have PMr := PM.keep (.of er) ⟨_, hMc⟩
    have ecr := ec.trans er
    -- what a turn's end asks
    have fin : ∀ (H' : Hp) (xs' : List V) (ts' : List Tm), Kp M H6 H' → H' M = some (.lst xs') → Pile H' M xs' ts' → 1 ≤ xs'.length → xs'.length ≤ xs.length + 1 → ∀ u7' u8' : Option V,
        Same H H' ∧ ∃ (xs : List V) (ts : List Tm) (u3 u4 u5 u6 u7 u8 : Option V), [some (V.ref a), some (.int b), some (.ref M), some (.int (0 + (i : Int))), some (.int (ns[i] % (10 : Int) ^ (60 : Int).toNat)), some (.str o), some (.ref Pa), u7', u8'] = [some (.ref a), some (.int b), some (.ref M), u3, u4, u5, u6, u7, u8] ∧
          H' M = some (.lst xs) ∧ Pile H' M xs ts ∧ 1 ≤ xs.length ∧ xs.length ≤ (i + 1) + 1 := fun H' xs' ts' k h1 h2 h3 h4 u7' u8' => ⟨k.same e6 fM, xs', ts', _, _, _, _, _, _, rfl, h1, h2, h3, by omega⟩
    cases r with
    | true =>
      obtain ⟨t, hO, hok⟩ := hr2 rfl
      obtain ⟨m, hm, m0, mle, mlen⟩ : ∃ m : Nat, (m : Int) = manyOf o ∧ 0 < m ∧ m ≤ xs.length ∧ ys.length = m := by
        rcases hys with rfl | h
        · have := hO.pos
          have k1 : us.length = 0 := k1
          omega
        · exact h
      refine iteT ?_
      refine ⟨_, rfl, Pa, rfl, ⟨_, SqL.of hPr⟩, for_list (K := K) (a := Pa) (xs := ys) (fun j σ H2 => Kp M Hr H2 ∧ H2 M = some (.lst (xs.take (xs.length - j))) ∧ ∃ u8', σ = [some (.ref a), some (.int b), some (.ref M), some (.int (0 + (i : Int))), some (.int (ns[i] % (10 : Int) ^ (60 : Int).toNat)), some (.str o), some (.ref Pa), u7, u8'])
        ⟨Kp.refl _ _, by rw [Nat.sub_zero, List.take_length]; exact hMr, _, rfl⟩ (fun j σ H2 _ h => SqL.of (h.1 _ _ nPa hPr)) ?_ ?_⟩
      · rintro j y σ H2 hy ⟨k2, hM2, u8', rfl⟩
        have hj : j < ys.length := (List.getElem?_eq_some_iff.mp hy).1
        have hl : (xs.take (xs.length - j)).length = xs.length - j := by rw [List.length_take]; omega
        have hlast : (xs.take (xs.length - j))[(xs.take (xs.length - j)).length - 1]? = some ((xs.take (xs.length - j))[(xs.take (xs.length - j)).length - 1]'(by omega)) := List.getElem?_eq_getElem _
        refine ⟨_, rfl, .inl ⟨rfl, _, SqL.of hM2⟩, M, _, _, rfl, rfl, hM2, hlast, k2.trans Kp.upd, ?_, _, rfl⟩
        rw [upd_same, List.dropLast_eq_take, hl, List.take_take]
        congr 3
        omega
      · rintro σ H2 ⟨k2, hM2, u8', rfl⟩
        rw [mlen] at hM2
        have hP2 := k2 _ _ nPa hPr
        have PX := (Pc.keep (.of er) ⟨_, hMc⟩).keep k2 ⟨_, hMr⟩
        obtain ⟨tvs2, wls2, I2⟩ := PX.its
        have hw : t.words.length ≤ 2000 := by
          have := words_le t
          have := hok.2.2
          omega
        have hl : (xs.take (xs.length - m)).length = xs.length - m := by rw [List.length_take]; omega
        refine ⟨_, rfl, .inl ⟨rfl, _, SqL.of hM2⟩, _, rfl, _, rfl, o, Pa, ys, tvs2, us, wls2, t, rfl, SqL.of hP2, I2, hO, hw, fun v wl H3 e3 nwl it3 => ?_⟩
        have hM3 := e3 _ _ hM2
        refine ⟨M, _, v, rfl, rfl, hM3, small' (by rw [hl]; omega), ?_⟩
        have PY := ((PMr.keep k2 ⟨_, hMr⟩).keep (.of e3) ⟨_, hM2⟩).take (xs.length - m)
        have nw : wl ≠ M := fun z => by rw [z, hM2] at nwl; cases nwl
        have hit : ItM (upd H3 M (.lst (xs.take (xs.length - m) ++ [v]))) M v t := ItM.keep Kp.upd ⟨_, hM3⟩ ⟨wl, nw, it3⟩
        refine fin _ _ _ ((((Kp.of ecr).trans k2).trans (.of e3)).trans Kp.upd) upd_same ((PY.keep Kp.upd ⟨_, hM3⟩).snoc hok hit) ?_ ?_ _ _
        · rw [List.length_append]
          exact Nat.le_add_left _ _
        · rw [List.length_append, hl]
          show xs.length - m + 1 ≤ xs.length + 1
          omega
    | false =>
      refine iteF ?_
      obtain ⟨tvs2, wls2, I2⟩ := PMr.its
      obtain ⟨j1, j2, j3⟩ := I2.len
      refine ⟨fun _ H' => Same Hr H', ?_, ?_⟩
      · refine ⟨_, rfl, _, _, rfl, rfl, (by show (0 : Int) < 15; decide), rfl, _, rfl, ?_⟩
        refine ite2 (fun z => ?_) (fun z => Same.refl _)
        refine ⟨_, rfl, M, rfl, ⟨_, SqL.of hMr⟩, fun D2 hD2 => lc_item (jj := 2) (ys := (ts.map fun k => ((k.many : Nat) : Int)).map V.int) (by show 8 < 9; decide) (SqL.of hMr) (by rw [List.length_map, List.length_map, j1]) (by omega) hD2 (fun i x y hx hy => ?_) (fun H3 e3 hl3 => ?_)⟩
        · obtain ⟨b', wl, t', tv, rfl, h1, _, _, h4, _⟩ := I2.get hx
          rw [List.getElem?_map, List.getElem?_map, h1] at hy
          cases hy
          exact ⟨b', _, rfl, h4, rfl⟩
        exact ⟨D2, _, rfl, SqL.of hl3, _, _, rfl, rfl, _, rfl, e3⟩
      · intro r2 H3 e3
        have hM3 := e3 _ _ hMr
        have P3 := PMr.keep (.of e3) ⟨_, hMr⟩
        cases r2 with
        | true =>
          refine iteT ?_
          have hx : xs[xs.length - 1]? = some (xs[xs.length - 1]'(by omega)) := List.getElem?_eq_getElem _
          have ht : ts[xs.length - 1]? = some (ts[xs.length - 1]'(by rw [← P6.1]; omega)) := List.getElem?_eq_getElem _
          obtain ⟨hok, hit⟩ := P3.2 _ _ _ hx ht
          refine ⟨_, rfl, .inl ⟨rfl, _, SqL.of hM3⟩, _, rfl, _, rfl, M, _, rfl, .inl (SqL.of hM3), _, _, rfl, rfl, M, xs, _, _, rfl, rfl, SqL.of hM3, at_of (show ((xs.length : Nat) : Int) - 1 = ((xs.length - 1 : Nat) : Int) by omega) hx, M, _, _, rfl, rfl, hM3, small' (by omega), ?_⟩
          refine fin _ _ _ (((Kp.of ecr).trans (.of e3)).trans Kp.upd) upd_same ((P3.keep Kp.upd ⟨_, hM3⟩).snoc hok (hit.keep Kp.upd ⟨_, hM3⟩)) ?_ ?_ _ _
          · rw [List.length_append]
            exact Nat.le_add_left _ _
          · rw [List.length_append]
            exact Nat.le_refl _
        | false =>
          refine iteF ?_
          refine ⟨_, rfl, _, _, rfl, rfl, ⟨by decide, by decide⟩, _, rfl, _, rfl, _, _, _, rfl, fun v t H4 e4 tm4 tok tl => ?_⟩
          have hM4 := e4 _ _ hM3
          refine ⟨_, rfl, .inl ⟨rfl, _, SqL.of hM4⟩, _, rfl, _, rfl, v, t, rfl, tm4, tok, tl, fun pw H5' w5 => ?_⟩
          obtain ⟨e5, f5, w5⟩ := w5
          have hM5' := e5 _ _ hM4
          refine ⟨by show 4 ≤ sizeLine; decide, fun p6 hp6 => ?_⟩
          have n6 := same_new hp6 (.tup [v, .int 1, .int 1, .ref pw])
          have hM6' := n6 _ _ hM5'
          refine ⟨M, _, _, rfl, rfl, hM6', small' (by omega), ?_⟩
          have nw : pw ≠ M := fun z => by rw [z, hM4] at f5; cases f5
          have dd : t.deep = 1 := by cases t <;> first | rfl | cases tl
          have hit : ItM _ M (.ref p6) t := ⟨pw, nw, p6, v, rfl, by rw [dd, leaf_many tl]; exact upd_same_of n6, (tm4.mono e5).mono n6, n6 _ _ w5⟩
          have hok : okT t := ⟨tok, by rw [dd]; decide, by rw [leaf_many tl]; decide⟩
          have P7 := ((P3.keep (.of e4) ⟨_, hM3⟩).keep (.of e5) ⟨_, hM4⟩).keep (.of n6) ⟨_, hM5'⟩
          refine fin _ _ _ (((((Kp.of ecr).trans (.of e3)).trans (.of e4)).trans (.of e5)).trans (.of n6) |>.trans Kp.upd) upd_same ((P7.keep Kp.upd ⟨_, hM6'⟩).snoc hok (hit.keep Kp.upd ⟨_, hM6'⟩)) ?_ ?_ _ _
          · rw [List.length_append]
            exact Nat.le_add_left _ _
          · rw [List.length_append]
            exact Nat.le_refl _
  · rintro σ H6 ⟨e6, xs, ts, u3, u4, u5, u6, u7, u8, rfl, hM6, P6, l1, l2⟩
    refine ⟨_, rfl, q M H6 xs ts e6 hM6 P6 ?_⟩
    rw [ints_len] at l2
    omega
end
end K22
/-! LA: law. -/
namespace K22
open PySem L2
section
variable {P : Program} {w : World} {K : PySem.W.Frag} {mg : Str → Option Value} {base : Heap} {C aS aM : Addr}
def spLaw (K : PySem.W.Frag) : Sp := fun vs H Q _ => ∃ (a : Addr) (ns : List Int), vs = [.ref a] ∧ SqL K H a (ns.map V.int) ∧ ns.length ≤ 63 ∧ ∀ H', Q (.bl true) H'
theorem scLaw : FnScope ["script", "made", "k", "cell", "words", "refused", "found"] ["script"] (defScope sLaw) := ⟨rfl, rfl, rfl, by decide +kernel, rfl, by decide +kernel, by decide +kernel⟩
/-- list(words), read -/
def tListOf (K : PySem.W.Frag) : TA := tCons (tCB (fun xs H Q => ∃ p ys, xs = [.ref p] ∧ (SqL K H p ys ∨ SqT K H p ys) ∧ ∀ l, H l = none → Q (.ref l) (upd H l (.lst ys))) (tCons (tVar 4) tNil)) tNil
def tTry (K : PySem.W.Frag) (C : Addr) (W : WX) : TS := tAsg (tCallS (spTermOf K C) (WE W) (tListOf K)) (gName 6)
/-- behind the try -/
def MidT (H0 : Hp) (us : List Str) (f : V → V → L2.St) (σ : L2.St) (H : Hp) : Prop := Same H0 H ∧
  ((∃ v t, σ = f (.bl false) v ∧ TmAt H v t ∧ parse us 12 0 = some (t, us.length) ∧ t.many ≤ 200) ∨ (σ = f (.bl true) .non ∧ ∀ t, parse us 12 0 = some (t, us.length) → ¬ t.many ≤ 200))
theorem ok_law {f fC fG fS fT fW fM : Addr} {fd dC dG dS dT dW dM : FuncData} (F : Fun K "law" "law" sLaw f fd) (T : Bt mg) (c : Cn K w mg C aS aM)
    (CL : Dn P w K mg base CX0 1 "_law_cell_at" fC dC ["script", "k"] (spCell K)) (GR : Dn P w K mg base CX0 3 "_law_grown" fG dG ["script", "base"] (spGrown K)) (SP : Dn P w K mg base CX0 2 "_law_spoiled" fS dS ["words", "cell"] (spSpoiled K))
    (TO : Dn P w K mg base (L2.CX P w) 31 "term_of" fT dT ["words"] (spTermOf K C)) (ST : Dn P w K mg base CX0 13 "_law_stop" fW dW ["term", "words", "at", "deep"] (spStop K 12)) (MN : Dn P w K mg base CX0 12 "_law_many_in" fM dM ["term"] (spPieces 12)) :
    FnOk P w K mg base CX0 32 f fd ["script"] (spLaw K) := by
  refine F.ok scLaw (fun vs H Q E h => ?_) (fun cdv A outer s H vs Q E hr h => ?_)
  · obtain ⟨a, ns, rfl, _⟩ := h
    rfl
  obtain ⟨a, ns, rfl, hS, h63, q⟩ := h
  refine ⟨_, pss_cons (ps_set (i := 1) scLaw.nd rfl (.inl rfl) (pe_d GR hr (by decide) (by rfl) (pa_cons (pv 0) (pa_cons (pe_op op_fdiv (pe_d CL hr (by decide) (by rfl) (pa_cons (pv 0) (pa_cons pe_int pa_nil))) pe_int) pa_nil))))
    (pss_cons (ps_for PassesOwn.never rfl (pi_range1 (by rfl) T.range (pa_cons (pe_callB call_len_seq (by rfl) T.len PySem.boot_len (pa_cons (pv 1) pa_nil)) pa_nil)) (pg_name (i := 2) scLaw.nd rfl (.inl rfl))
      (pss_cons (ps_set (i := 3) scLaw.nd rfl (.inl rfl) (pe_op op_add (pe_op op_fdiv (pe_op op_mul (pe_d CL hr (by decide) (by rfl) (pa_cons (pv 0) (pa_cons (pv 2) pa_nil))) pe_int) pe_int) (pv 2)))
      (pss_cons (ps_set (i := 4) scLaw.nd rfl (.inl rfl) (pe_d SP hr (by decide) (by rfl) (pa_cons (pe_ix ix_tup (pe_ix ix_list (pv 1) (pv 2) (fun _ _ => rfl)) pe_int (fun _ _ => rfl)) (pa_cons (pv 3) pa_nil))))
      (pss_cons (ps_set (i := 5) scLaw.nd rfl (.inl rfl) pe_bl)
      (pss_cons (ps_set (i := 6) scLaw.nd rfl (.inl rfl) pe_non)
      (C8.pss_cut (ps_try_only (tb := tTry K C) (ts := fun _ _ _ => tAsg (tC (.bl true)) (gName 5)) (Wout := fun _ _ _ _ => False) rfl rfl ⟨rfl, by decide, Or.inl c.noterm⟩ takes0
        (fun W pn xe tk _ => pss_one (ps_set (i := 6) scLaw.nd rfl (Or.inl rfl) (by exact (pe_callS TO.ok (hr.mono (by decide)) rfl TO.m TO.kp TO.b (fun σ => passAt tk σ) (by exact (pa_cons (pe_callTy call_list_of (by rfl) T.list (by decide +kernel) (pa_cons (pv 4) pa_nil)) pa_nil))))))
        (fun _ _ _ _ _ _ _ => pss_one (ps_set (i := 5) scLaw.nd rfl (Or.inl rfl) pe_bl)))
      (pss_cons (ps_if (PW.pt (pw_and (pt_val (pv 5)) (pw_and1 (pt_cmpR (op_eqD hr.units) (pv 4) (pe_ix ix_tup (pe_ix ix_list (pv 1) (pv 2) (fun _ _ => rfl)) pe_int (fun _ _ => rfl)) (nomark _))))) (pss_one (ps_ret pe_bl)) pss_nil)
      (pss_one (ps_if (pt_not (pt_val (pv 5))) (pss_one (ps_if (PW.pt (pw_or (pt_cmpR op_ne (pe_d ST hr (by decide) (by rfl) (pa_cons (pv 6) (pa_cons (pv 4) (pa_cons pe_int (pa_cons pe_int pa_nil))))) (pe_callB call_len_seq (by rfl) T.len PySem.boot_len (pa_cons (pv 4) pa_nil)) (nomark _))
        (pw_or1 (pt_cmpR op_gt (pe_d MN hr (by decide) (by rfl) (pa_cons (pv 6) pa_nil)) pe_int (nomark _))))) (pss_one (ps_ret pe_bl)) pss_nil)) pss_nil)))))))))
    (pss_one (ps_ret pe_bl))), ?_⟩
  refine ⟨_, rfl, _, rfl, a, ns, 0, rfl, hS, fun c0 => ?_⟩
  refine ⟨_, _, rfl, rfl, ⟨by decide, by decide⟩, a, ns, _, rfl, hS, h63, fun M H1 xs ts g1 hM1 P1 l1 => ?_⟩
  refine ⟨_, rfl, M, _, rfl, .inl (SqL.of hM1), _, rfl, by omega, by omega, ?_⟩
  refine for_range (lo := 0) (n := ((xs.length : Nat) : Int).toNat) (fun i σ H' => Same H1 H' ∧ ∃ u2 u3 u4 u5 u6 : Option V, σ = [some (.ref a), some (.ref M), u2, u3, u4, u5, u6]) ⟨Same.refl _, _, _, _, _, _, rfl⟩ ?_ ?_
  · rintro i σ H2 hi ⟨e2, u2, u3, u4, u5, u6, rfl⟩
    have hi' : i < xs.length := by omega
    have hx : xs[i]? = some xs[i] := List.getElem?_eq_getElem hi'
    have ht : ts[i]? = some (ts[i]'(by rw [← P1.1]; exact hi')) := List.getElem?_eq_getElem _
    obtain ⟨hok, wl, _, b, tv, hb, hA1, _, hW1⟩ := P1.2 _ _ _ hx ht
    generalize ts[i]'(by rw [← P1.1]; exact hi') = t at hok hA1 hW1
    have aM : atI xs (0 + (i : Int)) = some (.ref b) := at_of (show (0 + (i : Int)) = ((i : Nat) : Int) by omega) (by rw [hx, hb])
    have a3 : atI [tv, V.int (t.deep : Int), V.int (t.many : Int), V.ref wl] ((3 : Nat) : Int) = some (.ref wl) := atI_nat rfl
    have wl8 := words_le t
    have m2 := hok.2.2
    -- cell
    refine ⟨_, rfl, _, rfl, a, ns, i, (show ([V.ref a, V.int (0 + (i : Int))] : List V) = _ by rw [Int.zero_add]), (g1.trans e2).seq hS, fun c1 => ?_⟩
    refine ⟨_, _, rfl, rfl, .inr ⟨by decide, by decide⟩, _, _, rfl, rfl, ⟨by decide, by decide⟩, _, rfl, _, _, rfl, rfl, ?_⟩
    -- words
    refine ⟨_, rfl, _, rfl, M, _, _, _, rfl, rfl, SqL.of (e2 _ _ hM1), aM, b, _, 3, _, rfl, rfl, SqT.of (e2 _ _ hA1), a3, _, rfl, wl, t.words, _, rfl, SqL.of (e2 _ _ hW1), by omega, wd_words t hok.1, fun pw us H3 w3 hok3 => ?_⟩
    obtain ⟨e3, _, hw3⟩ := w3
    have e13 := e2.trans e3
    -- refused = False, found = None, try
    refine ⟨MidT H3 us (fun r v => [some (.ref a), some (.ref M), some (.int (0 + (i : Int))), some (.int (c1 * 1000003 / 64 + (0 + (i : Int)))), some (.ref pw), some r, some v]), ?_, ?_⟩
    · refine ⟨_, rfl, pw, _, rfl, .inl (SqL.of hw3), fun l hl => ?_⟩
      have nl := same_new hl (.lst (us.map V.str))
      refine ⟨l, us, rfl, SqL.of upd_same, hok3, fun t2 ep hm v H4 e4 tm4 => ⟨nl.trans e4, .inl ⟨v, t2, rfl, tm4, ep, hm⟩⟩, fun hno H4 e4 => ⟨true, c.eP, fun _ a0 _ => ⟨nl.trans e4, .inr ⟨rfl, hno⟩⟩, fun z => nomatch z⟩⟩
    rintro σ4 H4 ⟨e4, hcase⟩
    have e14 := e13.trans e4
    rcases hcase with ⟨v, t2, rfl, tm4, ep, hm⟩ | ⟨rfl, hno⟩
    · refine ⟨_, rfl, false, rfl, iteF (iteF ?_)⟩
      refine ⟨_, rfl, false, rfl, iteT ?_⟩
      refine ⟨_, rfl, _, rfl, v, t2, pw, us, 0, us.length, 12, rfl, tm4, SqL.of (e4 _ _ hw3), hok3, parse_rd _ _ _ _ ep, Nat.le_refl _, fun H5 e5 => ?_⟩
      refine ⟨_, rfl, pw, _, rfl, .inl (SqL.of (e5 _ _ (e4 _ _ hw3))), rfl, _, rfl, ?_⟩
      rw [List.length_map, decide_eq_true rfl]
      refine iteF ⟨_, rfl, v, t2, rfl, tm4.mono e5, rd_deep (parse_rd _ _ _ _ ep), fun H6 e6 => ?_⟩
      refine ⟨_, _, rfl, rfl, _, rfl, ?_⟩
      refine ite2 (fun z => ?_) (fun _ => ?_)
      · have z : ((t2.many : Nat) : Int) > 200 := of_decide_eq_true z
        omega
      · exact ⟨(e14.trans e5).trans e6, _, _, _, _, _, rfl⟩
    · refine ⟨_, rfl, true, rfl, iteT ?_⟩
      refine ⟨_, rfl, _, rfl, _, rfl, M, _, _, _, rfl, rfl, SqL.of (e14 _ _ hM1), aM, b, _, 3, _, rfl, rfl, SqT.of (e14 _ _ hA1), a3, ?_⟩
      refine eq_words (xs := us) (ys := t.words) (SqL.of (e4 _ _ hw3)) (SqL.of (e14 _ _ hW1)) hok3.2 (wd_words t hok.1) ⟨_, rfl, ?_⟩
      have ne : ¬ us = t.words := fun z => by
        subst z
        exact hno t (parse_all hok.1 hok.2.1) m2
      rw [decide_eq_false ne]
      refine iteF ?_
      refine ⟨_, rfl, true, rfl, iteF ?_⟩
      exact ⟨e14, _, _, _, _, _, rfl⟩
  · rintro σ H2 ⟨e2, u2, u3, u4, u5, u6, rfl⟩
    exact q H2
end
end K22
/-! LB: what the top has left. -/
namespace K22
open PySem L2
/-! ### MARKS -/
def ent (P : Params) (k v : Str) (t u : Tok) : DictEntry := { hash := PyData.keyHash P k, key := .str k t, val := .str v u }
theorem isStr_str (k x : Str) (t : Tok) : (Value.str k t).isStr x = decide (k = x) := by
  show (k == x) = decide (k = x)
  exact Bool.beq_eq_decide_eq k x
theorem marks_find {K : PySem.W.Frag} {P : Params} {a : Addr} {n : Nat} {t1 t2 t3 t4 t5 t6 t7 u1 u2 u3 u4 u5 u6 u7 : Tok}
    (l : K.lookup a = some ⟨.type "dict", none, .dict #[ent P "+" "add" t1 u1, ent P "-" "sub" t2 u2, ent P "*" "mul" t3 u3, ent P "<" "less" t4 u4, ent P "=" "same" t5 u5, ent P "&" "both" t6 u6, ent P "|" "any" t7 u7] n, #[]⟩) (x : Str) :
    PySem.W.nsIn K a x = (if Str.ofString "+" = x then some (some (.str "add" u1)) else if Str.ofString "-" = x then some (some (.str "sub" u2)) else if Str.ofString "*" = x then some (some (.str "mul" u3)) else if Str.ofString "<" = x then some (some (.str "less" u4))
      else if Str.ofString "=" = x then some (some (.str "same" u5)) else if Str.ofString "&" = x then some (some (.str "both" u6)) else if Str.ofString "|" = x then some (some (.str "any" u7)) else some none) := by
  unfold PySem.W.nsIn
  rw [l]
  simp only [ent, List.find?, isStr_str]
  by_cases h1 : Str.ofString "+" = x
  · simp [h1]
  by_cases h2 : Str.ofString "-" = x
  · simp [h1, h2]
  by_cases h3 : Str.ofString "*" = x
  · simp [h1, h2, h3]
  by_cases h4 : Str.ofString "<" = x
  · simp [h1, h2, h3, h4]
  by_cases h5 : Str.ofString "=" = x
  · simp [h1, h2, h3, h4, h5]
  by_cases h6 : Str.ofString "&" = x
  · simp [h1, h2, h3, h4, h5, h6]
  by_cases h7 : Str.ofString "|" = x
  · simp [h1, h2, h3, h4, h5, h6, h7]
  simp [h1, h2, h3, h4, h5, h6, h7, DictEntry.refKey]
theorem marks_lit {P : Params} {t1 t2 t3 t4 t5 t6 t7 u1 u2 u3 u4 u5 u6 u7 : Tok} : PySem.W.KeysLit P [ent P "+" "add" t1 u1, ent P "-" "sub" t2 u2, ent P "*" "mul" t3 u3, ent P "<" "less" t4 u4, ent P "=" "same" t5 u5, ent P "&" "both" t6 u6, ent P "|" "any" t7 u7] :=
  ⟨⟨_, _, rfl, rfl⟩, ⟨_, _, rfl, rfl⟩, ⟨_, _, rfl, rfl⟩, ⟨_, _, rfl, rfl⟩, ⟨_, _, rfl, rfl⟩, ⟨_, _, rfl, rfl⟩, ⟨_, _, rfl, rfl⟩, True.intro⟩
/-! ### the defs -/
/-- a def of the text, as the top has left it -/
def Df (K : PySem.W.Frag) (x : Str) (sm : Stmt) : Prop := ∃ (f : Addr) (fd : FuncData), PySem.W.nsIn K mainGlobals x = some (some (.ref f)) ∧ Fun K x x sm f fd
theorem df_mk {K : PySem.W.Frag} {x : Str} {sm : Stmt} {f : Addr} {oc : Value} {od an : Option Addr} {sl : Array (Option Value)} {kV dc pm cd ct : Value} (a : PySem.W.nsIn K mainGlobals x = some (some (.ref f)))
    (l : K.lookup f = some ⟨oc, od, .func (PySem.W.fnOf x x (defArgs sm) (defBody sm) (defScope sm) .none kV dc pm an cd ct), sl⟩) (c : PySem.W.codeIn K cd x = true) (k : PySem.W.keepIn K (.ref f) = true) : Df K x sm :=
  ⟨f, _, a, fun_mk (st := sm) l c k⟩
/-- an error of a class is what its own name catches -/
theorem own_catch {K : PySem.W.Frag} {S : Addr} (b : PySem.W.subIn K (.ref S) (.type "BaseException") = some true) (i : PySem.W.isClsIn K S = true) (t : PySem.W.typeIn K (.ref S) = some (.type "type")) (s : PySem.W.subIn K (.ref S) (.ref S) = some true) :
    PySem.W.exmOne K (.ref S) (.ref S) = some true := by
  have i2 : (PySem.W.clsIn K S).isSome = true := i
  unfold PySem.W.exmOne PySem.W.kitCls
  simp only [b, i2, t, s, beq_self_eq_true, Bool.and_self, if_true]
structure Defs (K : PySem.W.Frag) : Prop where
  dsPieces : Df K "pieces_in" sPieces
  dsAll : Df K "all_of" sAll
  dsName : Df K "is_name" sName
  dsNumber : Df K "is_number" sNumber
  dsWat : Df K "word_at" sWat
  dsNumAt : Df K "number_at" sNumAt
  dsDue : Df K "place_behind" sDue
  dsBrack : Df K "bracket_at" sBrack
  dsTermAt : Df K "term_at" sTermAt
  dsTermOf : Df K "term_of" sTermOf
  dsCell : Df K "_law_cell_at" sCell
  dsValue : Df K "_law_value" sValue
  dsLName : Df K "_law_name" sLName
  dsLeaf : Df K "_law_leaf" sLeaf
  dsOp : Df K "_law_op" sOp
  dsMany : Df K "_law_many" sMany
  dsWords : Df K "_law_words" sWords
  dsLWords : Df K "_law_leaf_words" sLWords
  dsOver : Df K "_law_over" sOver
  dsGrown : Df K "_law_grown" sGrown
  dsOdd : Df K "_law_odd" sOdd
  dsSpoiled : Df K "_law_spoiled" sSpoiled
  dsLStop : Df K "_law_leaf_stop" sLStop
  dsDues : Df K "_law_dues" sDues
  dsStop : Df K "_law_stop" sStop
  dsManyIn : Df K "_law_many_in" sManyIn
/-- the law's own def -/
def LawDf (K : PySem.W.Frag) : Prop := ∃ (f : Addr) (oc : Value) (od an : Option Addr) (sl : Array (Option Value)) (kV dc pm cd ct : Value), PySem.W.nsIn K mainGlobals "law" = some (some (.ref f)) ∧
  K.lookup f = some ⟨oc, od, .func (PySem.W.fnOf "law" "law" (defArgs sLaw) (defBody sLaw) (defScope sLaw) .none kV dc pm an cd ct), sl⟩ ∧ PySem.W.codeIn K cd "law" = true ∧ PySem.W.keepIn K (.ref f) = true
theorem law_mk {K : PySem.W.Frag} {f : Addr} {oc : Value} {od an : Option Addr} {sl : Array (Option Value)} {kV dc pm cd ct : Value} (a : PySem.W.nsIn K mainGlobals "law" = some (some (.ref f)))
    (l : K.lookup f = some ⟨oc, od, .func (PySem.W.fnOf "law" "law" (defArgs sLaw) (defBody sLaw) (defScope sLaw) .none kV dc pm an cd ct), sl⟩) (c : PySem.W.codeIn K cd "law" = true) (k : PySem.W.keepIn K (.ref f) = true) : LawDf K :=
  ⟨f, oc, od, an, sl, kV, dc, pm, cd, ct, a, l, c, k⟩
structure Left (K : PySem.W.Frag) (P : Params) (C aS aM : Addr) : Prop where
  defs : Defs K
  law : LawDf K
  z_len : PySem.W.nsIn K mainGlobals "len" = some none
  z_int : PySem.W.nsIn K mainGlobals "int" = some none
  z_sum : PySem.W.nsIn K mainGlobals "sum" = some none
  z_range : PySem.W.nsIn K mainGlobals "range" = some none
  z_str : PySem.W.nsIn K mainGlobals "str" = some none
  z_tuple : PySem.W.nsIn K mainGlobals "tuple" = some none
  z_list : PySem.W.nsIn K mainGlobals "list" = some none
  z_max : PySem.W.nsIn K mainGlobals "max" = some none
  z_abs : PySem.W.nsIn K mainGlobals "abs" = some none
  z_isinstance : PySem.W.nsIn K mainGlobals "isinstance" = some none
  z_all : PySem.W.nsIn K mainGlobals "all" = some none
  z_bool : PySem.W.nsIn K mainGlobals "bool" = some none
  big : ∃ t, PySem.W.nsIn K mainGlobals "BIG" = some (some (.int 1000000000000000000000000000000 t))
  lets : ∃ t, PySem.W.nsIn K mainGlobals "LETTERS" = some (some (.str K22.lets t))
  figs : ∃ t, PySem.W.nsIn K mainGlobals "FIGURES" = some (some (.str K22.figs t))
  deepest : ∃ t, PySem.W.nsIn K mainGlobals "DEEPEST" = some (some (.int 12 t))
  most : ∃ t, PySem.W.nsIn K mainGlobals "MOST" = some (some (.int 200 t))
  said : PySem.W.nsIn K mainGlobals "SAID" = some (some (.ref aS))
  saidL : ∃ (o : Obj) (its : Array Value) (n : Nat), K.lookup aS = some o ∧ o.cls = .type "tuple" ∧ o.data = .seq its n ∧ its.size ≤ sizeLine ∧ Vals (K22.said.map V.str) its.toList
  marks : PySem.W.nsIn K mainGlobals "MARKS" = some (some (.ref aM))
  marksL : ∃ (n : Nat) (t1 t2 t3 t4 t5 t6 t7 u1 u2 u3 u4 u5 u6 u7 : Tok), K.lookup aM = some ⟨.type "dict", none, .dict #[ent P "+" "add" t1 u1, ent P "-" "sub" t2 u2, ent P "*" "mul" t3 u3, ent P "<" "less" t4 u4, ent P "=" "same" t5 u5, ent P "&" "both" t6 u6, ent P "|" "any" t7 u7] n, #[]⟩
  marksS : (aM == sysModules) = false
  noterm : PySem.W.nsIn K mainGlobals "NoTerm" = some (some (.ref C))
  xP : PySem.W.excIn K C [.type "ValueError", .type "Exception", .type "BaseException", .type "object"] "ValueError.__new__" = true
  kP : PySem.W.keepIn K (.ref C) = true
  bP : PySem.W.subIn K (.ref C) (.type "BaseException") = some true
  tP : PySem.W.typeIn K (.ref C) = some (.type "type")
  iP : PySem.W.isClsIn K C = true
  sP : PySem.W.subIn K (.ref C) (.ref C) = some true
theorem tok_mk {K : PySem.W.Frag} {x : Str} {g : Tok → Value} {t : Tok} (e : PySem.W.nsIn K mainGlobals x = some (some (g t))) : ∃ t, PySem.W.nsIn K mainGlobals x = some (some (g t)) := ⟨t, e⟩
theorem said_mk {K : PySem.W.Frag} {aS : Addr} {o : Obj} {its : Array Value} {n : Nat} (l : K.lookup aS = some o) (c : o.cls = .type "tuple") (d : o.data = .seq its n) (z : its.size ≤ sizeLine) (e : Vals (K22.said.map V.str) its.toList) :
    ∃ (o : Obj) (its : Array Value) (n : Nat), K.lookup aS = some o ∧ o.cls = .type "tuple" ∧ o.data = .seq its n ∧ its.size ≤ sizeLine ∧ Vals (K22.said.map V.str) its.toList := ⟨o, its, n, l, c, d, z, e⟩
theorem marks_mk {K : PySem.W.Frag} {P : Params} {aM : Addr} {n : Nat} {t1 t2 t3 t4 t5 t6 t7 u1 u2 u3 u4 u5 u6 u7 : Tok} (l : K.lookup aM = some ⟨.type "dict", none, .dict #[ent P "+" "add" t1 u1, ent P "-" "sub" t2 u2, ent P "*" "mul" t3 u3, ent P "<" "less" t4 u4, ent P "=" "same" t5 u5, ent P "&" "both" t6 u6, ent P "|" "any" t7 u7] n, #[]⟩) :
    ∃ (n : Nat) (t1 t2 t3 t4 t5 t6 t7 u1 u2 u3 u4 u5 u6 u7 : Tok), K.lookup aM = some ⟨.type "dict", none, .dict #[ent P "+" "add" t1 u1, ent P "-" "sub" t2 u2, ent P "*" "mul" t3 u3, ent P "<" "less" t4 u4, ent P "=" "same" t5 u5, ent P "&" "both" t6 u6, ent P "|" "any" t7 u7] n, #[]⟩ := ⟨n, t1, t2, t3, t4, t5, t6, t7, u1, u2, u3, u4, u5, u6, u7, l⟩
theorem left_mk {K : PySem.W.Frag} {P : Params} {C aS aM : Addr} (L : Left K P C aS aM) : ∃ C aS aM : Addr, Left K P C aS aM := ⟨C, aS, aM, L⟩
section
variable {P : Program} {w : World} {K : PySem.W.Frag} {h : Heap} {mg : Str → Option Value} {C aS aM : Addr}
theorem bt_of (X : K.In h) (G : h.Ns mainGlobals mg) (L : Left K w.params C aS aM) : Bt mg :=
  { len := PySem.W.mg_none_of X G L.z_len, int := PySem.W.mg_none_of X G L.z_int, sum := PySem.W.mg_none_of X G L.z_sum, range := PySem.W.mg_none_of X G L.z_range, str := PySem.W.mg_none_of X G L.z_str, tuple := PySem.W.mg_none_of X G L.z_tuple, list := PySem.W.mg_none_of X G L.z_list, max := PySem.W.mg_none_of X G L.z_max, abs := PySem.W.mg_none_of X G L.z_abs, isi := PySem.W.mg_none_of X G L.z_isinstance, all := PySem.W.mg_none_of X G L.z_all, bool := PySem.W.mg_none_of X G L.z_bool }
theorem cn_of (X : K.In h) (G : h.Ns mainGlobals mg) (L : Left K w.params C aS aM) : Cn K w mg C aS aM := by
  obtain ⟨tb, hb⟩ := L.big
  obtain ⟨tl, hl⟩ := L.lets
  obtain ⟨tf, hf⟩ := L.figs
  obtain ⟨td, hd⟩ := L.deepest
  obtain ⟨tm, hm⟩ := L.most
  obtain ⟨n, t1, t2, t3, t4, t5, t6, t7, u1, u2, u3, u4, u5, u6, u7, lM⟩ := L.marksL
  exact {
    big := ⟨tb, PySem.W.mg_of X G hb⟩, lets := ⟨tl, PySem.W.mg_of X G hl⟩, figs := ⟨tf, PySem.W.mg_of X G hf⟩, said := PySem.W.mg_of X G L.said, saidT := (fun _ => .inr L.saidL), marks := PySem.W.mg_of X G L.marks,
    marksD := ⟨_, n, ⟨lM, marks_lit, L.marksS⟩⟩,
    marksY := (fun o => by
      rw [marks_find lM]
      cases o
      · exact ⟨u1, if_pos rfl⟩
      · exact ⟨u2, (if_neg (by decide +kernel)).trans (if_pos rfl)⟩
      · exact ⟨u3, (if_neg (by decide +kernel)).trans ((if_neg (by decide +kernel)).trans (if_pos rfl))⟩
      · exact ⟨u4, (if_neg (by decide +kernel)).trans ((if_neg (by decide +kernel)).trans ((if_neg (by decide +kernel)).trans (if_pos rfl)))⟩
      · exact ⟨u5, (if_neg (by decide +kernel)).trans ((if_neg (by decide +kernel)).trans ((if_neg (by decide +kernel)).trans ((if_neg (by decide +kernel)).trans (if_pos rfl))))⟩
      · exact ⟨u6, (if_neg (by decide +kernel)).trans ((if_neg (by decide +kernel)).trans ((if_neg (by decide +kernel)).trans ((if_neg (by decide +kernel)).trans ((if_neg (by decide +kernel)).trans (if_pos rfl)))))⟩
      · exact ⟨u7, (if_neg (by decide +kernel)).trans ((if_neg (by decide +kernel)).trans ((if_neg (by decide +kernel)).trans ((if_neg (by decide +kernel)).trans ((if_neg (by decide +kernel)).trans ((if_neg (by decide +kernel)).trans (if_pos rfl))))))⟩),
    marksN := (fun x hx => by
      have ne : ∀ o : Bop, o.sg ≠ x := fun o e => by rw [← e, bopOf_of] at hx; cases hx
      exact (marks_find lM x).trans ((if_neg (ne .add)).trans ((if_neg (ne .sub)).trans ((if_neg (ne .mul)).trans ((if_neg (ne .less)).trans ((if_neg (ne .same)).trans ((if_neg (ne .both)).trans (if_neg (ne .any))))))))),
    deepest := ⟨td, PySem.W.mg_of X G hd⟩, most := ⟨tm, PySem.W.mg_of X G hm⟩, noterm := PySem.W.mg_of X G L.noterm, xP := L.xP, kP := L.kP, bP := L.bP, tP := L.tP, eP := own_catch L.bP L.iP L.tP L.sP }
theorem all_mk {fa : Addr} (X : K.In h) (G : h.Ns mainGlobals mg) (hfa : mg "law" = some (.ref fa)) (L : Left K w.params C aS aM) :
    ∃ fd : FuncData, (∀ (s : Shared) (v : Value), BindsTo s fd ⟨[v], []⟩ [("script", v)]) ∧ ∀ base : Heap, K.In base → base.Ns mainGlobals mg → FnOk P w K mg base CX0 32 fa fd ["script"] (spLaw K) := by
  obtain ⟨f0, oc, od, an, sl, kV, dc, pm, cd, ct, a0, l0, c0, k0⟩ := L.law
  have e := hfa.symm.trans (PySem.W.mg_of X G a0)
  cases e
  have F0 := fun_mk (st := sLaw) l0 c0 k0
  have T := bt_of X G L
  have c := cn_of X G L
  obtain ⟨fPieces, fdPieces, aPieces, FPieces⟩ := L.defs.dsPieces
  have bPieces := FPieces.binds (ps := ["term"]) (fun _ _ _ _ _ _ us hl => match us, hl with | [_], _ => rfl)
  have mPieces := PySem.W.mg_of X G aPieces
  obtain ⟨fAll, fdAll, aAll, FAll⟩ := L.defs.dsAll
  have bAll := FAll.binds (ps := ["word", "signs"]) (fun _ _ _ _ _ _ us hl => match us, hl with | [_, _], _ => rfl)
  have mAll := PySem.W.mg_of X G aAll
  obtain ⟨fName, fdName, aName, FName⟩ := L.defs.dsName
  have bName := FName.binds (ps := ["word"]) (fun _ _ _ _ _ _ us hl => match us, hl with | [_], _ => rfl)
  have mName := PySem.W.mg_of X G aName
  obtain ⟨fNumber, fdNumber, aNumber, FNumber⟩ := L.defs.dsNumber
  have bNumber := FNumber.binds (ps := ["word"]) (fun _ _ _ _ _ _ us hl => match us, hl with | [_], _ => rfl)
  have mNumber := PySem.W.mg_of X G aNumber
  obtain ⟨fWat, fdWat, aWat, FWat⟩ := L.defs.dsWat
  have bWat := FWat.binds (ps := ["words", "at"]) (fun _ _ _ _ _ _ us hl => match us, hl with | [_, _], _ => rfl)
  have mWat := PySem.W.mg_of X G aWat
  obtain ⟨fNumAt, fdNumAt, aNumAt, FNumAt⟩ := L.defs.dsNumAt
  have bNumAt := FNumAt.binds (ps := ["words", "at"]) (fun _ _ _ _ _ _ us hl => match us, hl with | [_, _], _ => rfl)
  have mNumAt := PySem.W.mg_of X G aNumAt
  obtain ⟨fDue, fdDue, aDue, FDue⟩ := L.defs.dsDue
  have bDue := FDue.binds (ps := ["words", "at", "due"]) (fun _ _ _ _ _ _ us hl => match us, hl with | [_, _, _], _ => rfl)
  have mDue := PySem.W.mg_of X G aDue
  obtain ⟨fBrack, fdBrack, aBrack, FBrack⟩ := L.defs.dsBrack
  have bBrack := FBrack.binds (ps := ["words", "at", "deep"]) (fun _ _ _ _ _ _ us hl => match us, hl with | [_, _, _], _ => rfl)
  have mBrack := PySem.W.mg_of X G aBrack
  obtain ⟨fTermAt, fdTermAt, aTermAt, FTermAt⟩ := L.defs.dsTermAt
  have bTermAt := FTermAt.binds (ps := ["words", "at", "deep"]) (fun _ _ _ _ _ _ us hl => match us, hl with | [_, _, _], _ => rfl)
  have mTermAt := PySem.W.mg_of X G aTermAt
  obtain ⟨fTermOf, fdTermOf, aTermOf, FTermOf⟩ := L.defs.dsTermOf
  have bTermOf := FTermOf.binds (ps := ["words"]) (fun _ _ _ _ _ _ us hl => match us, hl with | [_], _ => rfl)
  have mTermOf := PySem.W.mg_of X G aTermOf
  obtain ⟨fCell, fdCell, aCell, FCell⟩ := L.defs.dsCell
  have bCell := FCell.binds (ps := ["script", "k"]) (fun _ _ _ _ _ _ us hl => match us, hl with | [_, _], _ => rfl)
  have mCell := PySem.W.mg_of X G aCell
  obtain ⟨fValue, fdValue, aValue, FValue⟩ := L.defs.dsValue
  have bValue := FValue.binds (ps := ["cell"]) (fun _ _ _ _ _ _ us hl => match us, hl with | [_], _ => rfl)
  have mValue := PySem.W.mg_of X G aValue
  obtain ⟨fLName, fdLName, aLName, FLName⟩ := L.defs.dsLName
  have bLName := FLName.binds (ps := ["base", "n"]) (fun _ _ _ _ _ _ us hl => match us, hl with | [_, _], _ => rfl)
  have mLName := PySem.W.mg_of X G aLName
  obtain ⟨fLeaf, fdLeaf, aLeaf, FLeaf⟩ := L.defs.dsLeaf
  have bLeaf := FLeaf.binds (ps := ["cell", "k", "base"]) (fun _ _ _ _ _ _ us hl => match us, hl with | [_, _, _], _ => rfl)
  have mLeaf := PySem.W.mg_of X G aLeaf
  obtain ⟨fOp, fdOp, aOp, FOp⟩ := L.defs.dsOp
  have bOp := FOp.binds (ps := ["n"]) (fun _ _ _ _ _ _ us hl => match us, hl with | [_], _ => rfl)
  have mOp := PySem.W.mg_of X G aOp
  obtain ⟨fMany, fdMany, aMany, FMany⟩ := L.defs.dsMany
  have bMany := FMany.binds (ps := ["op"]) (fun _ _ _ _ _ _ us hl => match us, hl with | [_], _ => rfl)
  have mMany := PySem.W.mg_of X G aMany
  obtain ⟨fWords, fdWords, aWords, FWords⟩ := L.defs.dsWords
  have bWords := FWords.binds (ps := ["op", "parts"]) (fun _ _ _ _ _ _ us hl => match us, hl with | [_, _], _ => rfl)
  have mWords := PySem.W.mg_of X G aWords
  obtain ⟨fLWords, fdLWords, aLWords, FLWords⟩ := L.defs.dsLWords
  have bLWords := FLWords.binds (ps := ["leaf"]) (fun _ _ _ _ _ _ us hl => match us, hl with | [_], _ => rfl)
  have mLWords := PySem.W.mg_of X G aLWords
  obtain ⟨fOver, fdOver, aOver, FOver⟩ := L.defs.dsOver
  have bOver := FOver.binds (ps := ["op", "parts"]) (fun _ _ _ _ _ _ us hl => match us, hl with | [_, _], _ => rfl)
  have mOver := PySem.W.mg_of X G aOver
  obtain ⟨fGrown, fdGrown, aGrown, FGrown⟩ := L.defs.dsGrown
  have bGrown := FGrown.binds (ps := ["script", "base"]) (fun _ _ _ _ _ _ us hl => match us, hl with | [_, _], _ => rfl)
  have mGrown := PySem.W.mg_of X G aGrown
  obtain ⟨fOdd, fdOdd, aOdd, FOdd⟩ := L.defs.dsOdd
  have bOdd := FOdd.binds (ps := ["n"]) (fun _ _ _ _ _ _ us hl => match us, hl with | [_], _ => rfl)
  have mOdd := PySem.W.mg_of X G aOdd
  obtain ⟨fSpoiled, fdSpoiled, aSpoiled, FSpoiled⟩ := L.defs.dsSpoiled
  have bSpoiled := FSpoiled.binds (ps := ["words", "cell"]) (fun _ _ _ _ _ _ us hl => match us, hl with | [_, _], _ => rfl)
  have mSpoiled := PySem.W.mg_of X G aSpoiled
  obtain ⟨fLStop, fdLStop, aLStop, FLStop⟩ := L.defs.dsLStop
  have bLStop := FLStop.binds (ps := ["term", "words", "at"]) (fun _ _ _ _ _ _ us hl => match us, hl with | [_, _, _], _ => rfl)
  have mLStop := PySem.W.mg_of X G aLStop
  obtain ⟨fDues, fdDues, aDues, FDues⟩ := L.defs.dsDues
  have bDues := FDues.binds (ps := ["term"]) (fun _ _ _ _ _ _ us hl => match us, hl with | [_], _ => rfl)
  have mDues := PySem.W.mg_of X G aDues
  obtain ⟨fStop, fdStop, aStop, FStop⟩ := L.defs.dsStop
  have bStop := FStop.binds (ps := ["term", "words", "at", "deep"]) (fun _ _ _ _ _ _ us hl => match us, hl with | [_, _, _, _], _ => rfl)
  have mStop := PySem.W.mg_of X G aStop
  obtain ⟨fManyIn, fdManyIn, aManyIn, FManyIn⟩ := L.defs.dsManyIn
  have bManyIn := FManyIn.binds (ps := ["term"]) (fun _ _ _ _ _ _ us hl => match us, hl with | [_], _ => rfl)
  have mManyIn := PySem.W.mg_of X G aManyIn
  refine ⟨PySem.W.fnOf "law" "law" (defArgs sLaw) (defBody sLaw) (defScope sLaw) .none kV dc pm an cd ct, fun s v => .of_eq rfl, fun base _ _ => ?_⟩
  have DAll : Dn P w K mg base CX0 1 "all_of" fAll fdAll ["word", "signs"] spAll := ⟨ok_all FAll, bAll, FAll.kp, mAll⟩
  have DName : Dn P w K mg base CX0 2 "is_name" fName fdName ["word"] spName := ⟨ok_name FName T c DAll.ok bAll FAll.kp mAll, bName, FName.kp, mName⟩
  have DNumber : Dn P w K mg base CX0 2 "is_number" fNumber fdNumber ["word"] spNumber := ⟨ok_number FNumber T c DAll.ok bAll FAll.kp mAll, bNumber, FNumber.kp, mNumber⟩
  have DWat : Dn P w K mg base CX0 1 "word_at" fWat fdWat ["words", "at"] (spWat K) := ⟨ok_wat FWat T, bWat, FWat.kp, mWat⟩
  have DNumAt : Dn P w K mg base (L2.CX P w) 3 "number_at" fNumAt fdNumAt ["words", "at"] (spNumAt K C) := ⟨ok_numAt FNumAt T c DWat DNumber, bNumAt, FNumAt.kp, mNumAt⟩
  have DDue : Dn P w K mg base (L2.CX P w) 2 "place_behind" fDue fdDue ["words", "at", "due"] (spDue K C) := ⟨ok_due FDue c DWat, bDue, FDue.kp, mDue⟩
  have DTermAt : Dn P w K mg base (L2.CX P w) 30 "term_at" fTermAt fdTermAt ["words", "at", "deep"] (spTa K C 13) := both FTermAt bTermAt mTermAt FBrack bBrack mBrack c DWat DDue DName DNumAt 13
  have DPieces : Dn P w K mg base CX0 12 "pieces_in" fPieces fdPieces ["term"] (spPieces 12) := all_Pieces FPieces T bPieces mPieces 12
  have DManyIn : Dn P w K mg base CX0 12 "_law_many_in" fManyIn fdManyIn ["term"] (spPieces 12) := all_ManyIn FManyIn T bManyIn mManyIn 12
  have DTermOf : Dn P w K mg base (L2.CX P w) 31 "term_of" fTermOf fdTermOf ["words"] (spTermOf K C) := ⟨ok_termOf FTermOf T c DTermAt DPieces, bTermOf, FTermOf.kp, mTermOf⟩
  have DCell : Dn P w K mg base CX0 1 "_law_cell_at" fCell fdCell ["script", "k"] (spCell K) := ⟨ok_cell FCell T, bCell, FCell.kp, mCell⟩
  have DValue : Dn P w K mg base CX0 1 "_law_value" fValue fdValue ["cell"] spValue := ⟨ok_value FValue, bValue, FValue.kp, mValue⟩
  have DLName : Dn P w K mg base CX0 1 "_law_name" fLName fdLName ["base", "n"] spLName := ⟨ok_lname FLName T, bLName, FLName.kp, mLName⟩
  have DLeaf : Dn P w K mg base CX0 2 "_law_leaf" fLeaf fdLeaf ["cell", "k", "base"] spLeaf := ⟨ok_leaf FLeaf DLName DValue, bLeaf, FLeaf.kp, mLeaf⟩
  have DOp : Dn P w K mg base CX0 1 "_law_op" fOp fdOp ["n"] spOp := ⟨ok_op FOp, bOp, FOp.kp, mOp⟩
  have DMany : Dn P w K mg base CX0 1 "_law_many" fMany fdMany ["op"] spMany := ⟨ok_many FMany T, bMany, FMany.kp, mMany⟩
  have DWords : Dn P w K mg base CX0 1 "_law_words" fWords fdWords ["op", "parts"] (spWords K) := ⟨ok_words FWords, bWords, FWords.kp, mWords⟩
  have DLWords : Dn P w K mg base CX0 1 "_law_leaf_words" fLWords fdLWords ["leaf"] spLWords := ⟨ok_lwords FLWords T, bLWords, FLWords.kp, mLWords⟩
  have DOver : Dn P w K mg base CX0 2 "_law_over" fOver fdOver ["op", "parts"] (spOver K) := ⟨ok_over FOver T DWords, bOver, FOver.kp, mOver⟩
  have DGrown : Dn P w K mg base CX0 3 "_law_grown" fGrown fdGrown ["script", "base"] (spGrown K) := ⟨ok_grown FGrown T DLName DOp DMany DOver DLeaf DLWords, bGrown, FGrown.kp, mGrown⟩
  have DOdd : Dn P w K mg base CX0 1 "_law_odd" fOdd fdOdd ["n"] spOdd := ⟨ok_odd FOdd T, bOdd, FOdd.kp, mOdd⟩
  have DSpoiled : Dn P w K mg base CX0 2 "_law_spoiled" fSpoiled fdSpoiled ["words", "cell"] (spSpoiled K) := ⟨ok_spoiled FSpoiled T DOdd, bSpoiled, FSpoiled.kp, mSpoiled⟩
  have DLStop : Dn P w K mg base CX0 1 "_law_leaf_stop" fLStop fdLStop ["term", "words", "at"] (spLStop K) := ⟨ok_lstop FLStop T, bLStop, FLStop.kp, mLStop⟩
  have DDues : Dn P w K mg base CX0 1 "_law_dues" fDues fdDues ["term"] spDues := ⟨ok_dues FDues T, bDues, FDues.kp, mDues⟩
  have DStop : Dn P w K mg base CX0 13 "_law_stop" fStop fdStop ["term", "words", "at", "deep"] (spStop K 12) := all_stop FStop T bStop mStop DLStop DDues 12
  exact ok_law F0 T c DCell DGrown DSpoiled DTermOf DStop DManyIn
end
theorem walk {l : PySem.W.OpenLaw} {q : Program} {loose : List Str} {XP : (Str → Option Value) → Heap → Prop} {YP : World → Heap → Prop} {d : DefRec} {K : Params → PySem.W.Frag} (hn : l.most = some 63) (hdf : d.params.defaults = [])
    (hY : ∀ (w : World) (h : Heap), YP w h → (K w.params).In h)
    (hd : d.name = "law") (F : ∀ w : World, ∃ C aS aM : Addr, Left (K w.params) w.params C aS aM) :
    PySem.W.WalkO q loose XP YP l.row.toRowW d [] (fun f vs => PySem.call f vs) :=
  L2.walk_of (n := 63) (k := 32) (x := "script") (CX := fun _ => CX0) (sp := fun w => spLaw (K w.params)) hn (by decide) hdf ⟨rfl, by decide, by decide⟩ hY (fun w mg fa h X G hfa => by
    obtain ⟨C, aS, aM, L⟩ := F w
    exact all_mk X G (by rw [← hd]; exact hfa) L) (fun _ _ a ns hl _ hS => ⟨a, ns, rfl, hS, hl, fun _ => rfl⟩) fun _ _ _ _ _ z => z
end K22
open PySem PySem.W PyProof.Rows
set_option maxRecDepth 100000 in
set_option maxHeartbeats 0 in
theorem PySem.Challenge.cw_lotsight_k22_whole_no_other_words_holds : PySem.Challenge.rw_lotsight_k22_whole_no_other_words.Holds := by
  w_on; o_law; k_head; (case hw => w_witness2)
  k_fill
  refine K22.walk (l := PySem.Challenge.rw_lotsight_k22_whole_no_other_words) rfl rfl (fun w h Y => PySem.W.kIn_of Y) rfl ?L
  case L =>
    intro w
    refine' K22.left_mk (K22.Left.mk (K22.Defs.mk (K22.df_mk ?aPieces ?lPieces ?cPieces ?kPieces) (K22.df_mk ?aAll ?lAll ?cAll ?kAll) (K22.df_mk ?aName ?lName ?cName ?kName) (K22.df_mk ?aNumber ?lNumber ?cNumber ?kNumber) (K22.df_mk ?aWat ?lWat ?cWat ?kWat) (K22.df_mk ?aNumAt ?lNumAt ?cNumAt ?kNumAt) (K22.df_mk ?aDue ?lDue ?cDue ?kDue) (K22.df_mk ?aBrack ?lBrack ?cBrack ?kBrack) (K22.df_mk ?aTermAt ?lTermAt ?cTermAt ?kTermAt) (K22.df_mk ?aTermOf ?lTermOf ?cTermOf ?kTermOf) (K22.df_mk ?aCell ?lCell ?cCell ?kCell) (K22.df_mk ?aValue ?lValue ?cValue ?kValue) (K22.df_mk ?aLName ?lLName ?cLName ?kLName) (K22.df_mk ?aLeaf ?lLeaf ?cLeaf ?kLeaf) (K22.df_mk ?aOp ?lOp ?cOp ?kOp) (K22.df_mk ?aMany ?lMany ?cMany ?kMany) (K22.df_mk ?aWords ?lWords ?cWords ?kWords) (K22.df_mk ?aLWords ?lLWords ?cLWords ?kLWords) (K22.df_mk ?aOver ?lOver ?cOver ?kOver) (K22.df_mk ?aGrown ?lGrown ?cGrown ?kGrown) (K22.df_mk ?aOdd ?lOdd ?cOdd ?kOdd) (K22.df_mk ?aSpoiled ?lSpoiled ?cSpoiled ?kSpoiled) (K22.df_mk ?aLStop ?lLStop ?cLStop ?kLStop) (K22.df_mk ?aDues ?lDues ?cDues ?kDues) (K22.df_mk ?aStop ?lStop ?cStop ?kStop) (K22.df_mk ?aManyIn ?lManyIn ?cManyIn ?kManyIn)) (K22.law_mk ?a0 ?l0 ?c0 ?k0) ?zlen ?zint ?zsum ?zrange ?zstr ?ztuple ?zlist ?zmax ?zabs ?zisinstance ?zall ?zbool (K22.tok_mk (g := fun t => .int 1000000000000000000000000000000 t) ?vB) (K22.tok_mk (g := fun t => .str K22.lets t) ?vL) (K22.tok_mk (g := fun t => .str K22.figs t) ?vF) (K22.tok_mk (g := fun t => .int 12 t) ?vD) (K22.tok_mk (g := fun t => .int 200 t) ?vM) ?vS (K22.said_mk ?lS ?cS ?dS ?zS ?eS) ?vK (K22.marks_mk ?lK) ?sK ?nT ?xP ?kP ?bP ?tP ?iP ?sP)
    (case a0 => k_is); (case l0 => k_is); (case c0 => k_is); (case k0 => k_is)
    (case aPieces => k_is); (case lPieces => k_is); (case cPieces => k_is); (case kPieces => k_is)
    (case aAll => k_is); (case lAll => k_is); (case cAll => k_is); (case kAll => k_is)
    (case aName => k_is); (case lName => k_is); (case cName => k_is); (case kName => k_is)
    (case aNumber => k_is); (case lNumber => k_is); (case cNumber => k_is); (case kNumber => k_is)
    (case aWat => k_is); (case lWat => k_is); (case cWat => k_is); (case kWat => k_is)
    (case aNumAt => k_is); (case lNumAt => k_is); (case cNumAt => k_is); (case kNumAt => k_is)
    (case aDue => k_is); (case lDue => k_is); (case cDue => k_is); (case kDue => k_is)
    (case aBrack => k_is); (case lBrack => k_is); (case cBrack => k_is); (case kBrack => k_is)
    (case aTermAt => k_is); (case lTermAt => k_is); (case cTermAt => k_is); (case kTermAt => k_is)
    (case aTermOf => k_is); (case lTermOf => k_is); (case cTermOf => k_is); (case kTermOf => k_is)
    (case aCell => k_is); (case lCell => k_is); (case cCell => k_is); (case kCell => k_is)
    (case aValue => k_is); (case lValue => k_is); (case cValue => k_is); (case kValue => k_is)
    (case aLName => k_is); (case lLName => k_is); (case cLName => k_is); (case kLName => k_is)
    (case aLeaf => k_is); (case lLeaf => k_is); (case cLeaf => k_is); (case kLeaf => k_is)
    (case aOp => k_is); (case lOp => k_is); (case cOp => k_is); (case kOp => k_is)
    (case aMany => k_is); (case lMany => k_is); (case cMany => k_is); (case kMany => k_is)
    (case aWords => k_is); (case lWords => k_is); (case cWords => k_is); (case kWords => k_is)
    (case aLWords => k_is); (case lLWords => k_is); (case cLWords => k_is); (case kLWords => k_is)
    (case aOver => k_is); (case lOver => k_is); (case cOver => k_is); (case kOver => k_is)
    (case aGrown => k_is); (case lGrown => k_is); (case cGrown => k_is); (case kGrown => k_is)
    (case aOdd => k_is); (case lOdd => k_is); (case cOdd => k_is); (case kOdd => k_is)
    (case aSpoiled => k_is); (case lSpoiled => k_is); (case cSpoiled => k_is); (case kSpoiled => k_is)
    (case aLStop => k_is); (case lLStop => k_is); (case cLStop => k_is); (case kLStop => k_is)
    (case aDues => k_is); (case lDues => k_is); (case cDues => k_is); (case kDues => k_is)
    (case aStop => k_is); (case lStop => k_is); (case cStop => k_is); (case kStop => k_is)
    (case aManyIn => k_is); (case lManyIn => k_is); (case cManyIn => k_is); (case kManyIn => k_is)
    (case zlen => k_is); (case zint => k_is); (case zsum => k_is); (case zrange => k_is); (case zstr => k_is); (case ztuple => k_is); (case zlist => k_is); (case zmax => k_is); (case zabs => k_is); (case zisinstance => k_is); (case zall => k_is); (case zbool => k_is)
    (case vB => k_is); (case vL => k_is); (case vF => k_is); (case vD => k_is); (case vM => k_is); (case vS => k_is)
    (case lS => k_is); (case cS => rfl); (case dS => rfl); (case zS => decide)
    case eS => exact .cons ⟨_, rfl⟩ (.cons ⟨_, rfl⟩ (.cons ⟨_, rfl⟩ (.cons ⟨_, rfl⟩ (.cons ⟨_, rfl⟩ (.cons ⟨_, rfl⟩ (.cons ⟨_, rfl⟩ (.cons ⟨_, rfl⟩ .nil)))))))
    (case vK => k_is); (case lK => k_is); (case sK => decide)
    (case nT => k_is); (case xP => k_exc); (case kP => k_is); (case bP => k_is); (case tP => k_is); (case iP => k_is); (case sP => first | rfl | k_is)
