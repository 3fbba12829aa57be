import PyProof.Rows.All
import Wide.All
import OpenK.AllK
import Wide.FinOn
import HandS.Text
import KE.IntTextLaws
import PyProof.P3Eq
import PyProof.EqLayable
import HandS.ForMost
import HandS.TupAny
import HandS.StrMore
import HandS.Wide
import HandS.IsInst
import HandS.Zip
import HandS.NoneIn
import HandS.More
import HandS.ExcCtx
import HandS.HotCalls
import HandS.ExcInit
import HandS.ExcField
import HandS.Evl
import KE.KExcIs
import KE.GoesComp
import KE.GoesMore
import KE.GoesZip
import KE.GoesEnum
import KE.GoesNew
import HandS.ExcInitHot
import PySem.Challenge.RW_jointhands_k17_texts
set_option Elab.async false
set_option linter.all false
set_option maxRecDepth 100000
set_option maxHeartbeats 4000000
/-! Texts, numbers, rows: what both readers and both writers reckon, in plain lists of codes. -/
namespace K17
open PySem TL

/-! ### numbers of words -/
def digs (l : List Nat) : Bool := l.all fun c => decide (48 ≤ c ∧ c ≤ 57)
def natOk (b : List Nat) : Bool := !b.isEmpty && (decide (b.length ≤ 60) && digs b)
def valL (b : List Nat) : Int := ((NumText.digitsVal b : Nat) : Int)
/-- the number that the word w writes; sg: a minus is let -/
def numL' (sg : Bool) : List Nat → Option Int
  | [] => none
  | c :: b => if c = 45 then (if (sg && (natOk b && decide (b.head? ≠ some 48))) = true then some (-(valL b)) else none)
      else if (natOk (c :: b) && (decide (c ≠ 48) || b.isEmpty)) = true then some (valL (c :: b)) else none
def numOf (sg : Bool) (w : Str) : Option Int := numL' sg (tl w)

theorem numL'_cons (sg : Bool) (c : Nat) (b : List Nat) : numL' sg (c :: b) = if c = 45 then (if (sg && (natOk b && decide (b.head? ≠ some 48))) = true then some (-(valL b)) else none)
      else if (natOk (c :: b) && (decide (c ≠ 48) || b.isEmpty)) = true then some (valL (c :: b)) else none := rfl
theorem digs_iff {l : List Nat} : digs l = true ↔ NumText.AllDigits l := by
  unfold digs NumText.AllDigits
  rw [List.all_eq_true]
  constructor
  · intro h c hc
    exact of_decide_eq_true (h c hc)
  · intro h c hc
    exact decide_eq_true (h c hc)
theorem natOk_iff {b : List Nat} : natOk b = true ↔ b ≠ [] ∧ b.length ≤ 60 ∧ digs b = true := by
  unfold natOk
  cases b with
  | nil => simp
  | cons c r => simp
theorem fold_ge : ∀ (l : List Nat) (a : Nat), a ≤ l.foldl (fun acc c => acc * 10 + (c - 48)) a
  | [], a => Nat.le_refl a
  | c :: l, a => by
    have h := fold_ge l (a * 10 + (c - 48))
    show a ≤ l.foldl _ (a * 10 + (c - 48))
    omega
theorem val_pos {c : Nat} {b : List Nat} (h1 : 48 ≤ c) (h2 : c ≠ 48) : 0 < valL (c :: b) := by
  have h := fold_ge b (0 * 10 + (c - 48))
  show 0 < ((List.foldl (fun acc c => acc * 10 + (c - 48)) 0 (c :: b) : Nat) : Int)
  have e : List.foldl (fun acc c => acc * 10 + (c - 48)) 0 (c :: b) = b.foldl (fun acc c => acc * 10 + (c - 48)) (0 * 10 + (c - 48)) := rfl
  rw [e]
  omega
theorem val_nonneg (b : List Nat) : 0 ≤ valL b := Int.natCast_nonneg _
/-- without a sign: the number with a sign, if it is not negative -/
theorem numL_unsigned (l : List Nat) : numL' false l = (match numL' true l with | some n => if n < 0 then none else some n | none => none) := by
  cases l with
  | nil => rfl
  | cons c b =>
    rw [numL'_cons, numL'_cons]
    by_cases h : c = 45
    · rw [if_pos h, if_pos h]
      simp only [Bool.false_and, Bool.true_and, Bool.false_eq_true, if_false]
      by_cases h2 : (natOk b && decide (b.head? ≠ some 48)) = true
      · rw [if_pos h2]
        obtain ⟨h3, h4⟩ := Bool.and_eq_true_iff.mp h2
        obtain ⟨n1, n2, n3⟩ := natOk_iff.mp h3
        have h4' := of_decide_eq_true h4
        cases b with
        | nil => exact absurd rfl n1
        | cons d r =>
          have d1 := (digs_iff.mp n3) d List.mem_cons_self
          have d2 : d ≠ 48 := fun z => h4' (by rw [z]; rfl)
          have p := val_pos (b := r) d1.1 d2
          simp only
          rw [if_pos (by omega)]
      · rw [if_neg h2]
    · rw [if_neg h, if_neg h]
      by_cases h2 : (natOk (c :: b) && (decide (c ≠ 48) || b.isEmpty)) = true
      · rw [if_pos h2]
        have p := val_nonneg (c :: b)
        simp only
        rw [if_neg (by omega)]
      · rw [if_neg h2]
theorem numOf_unsigned (w : Str) : numOf false w = (match numOf true w with | some n => if n < 0 then none else some n | none => none) := numL_unsigned (tl w)

/-- int(word) is that number -/
theorem int_word {w : Str} {n : Int} (h : numOf true w = some n) : intText? w = some n ∧ w.length ≤ 640 := by
  unfold numOf at h
  cases e : tl w with
  | nil => rw [e] at h; cases h
  | cons c b =>
    rw [e, numL'_cons] at h
    have hl : w.length = b.length + 1 := by rw [len_tl, e]; rfl
    by_cases hc : c = 45
    · rw [if_pos hc] at h
      split at h
      · rename_i h2
        obtain ⟨_, h2⟩ := Bool.and_eq_true_iff.mp h2
        obtain ⟨h3, _⟩ := Bool.and_eq_true_iff.mp h2
        obtain ⟨n1, n2, n3⟩ := natOk_iff.mp h3
        have q := intText_neg (x := w) (cs := b) (by rw [← hc]; exact e) (digs_iff.mp n3) n1 (by omega)
        cases h
        exact ⟨q, by omega⟩
      · cases h
    · rw [if_neg hc] at h
      split at h
      · rename_i h2
        obtain ⟨h3, _⟩ := Bool.and_eq_true_iff.mp h2
        obtain ⟨n1, n2, n3⟩ := natOk_iff.mp h3
        have n2' : b.length + 1 ≤ 60 := n2
        have q0 : NumText.AllDigits w.cps.toList := by
          have := digs_iff.mp n3
          rw [← e] at this
          exact this
        have q1 : tl w ≠ [] := by
          rw [e]
          simp
        have q := intText_digits (x := w) q0 q1 (by omega)
        cases h
        refine ⟨?_, by omega⟩
        rw [q]
        show some ((NumText.digitsVal (tl w) : Nat) : Int) = _
        rw [e]
        rfl
      · cases h
/-! ### numbers written -/
def strI (n : Int) : Str := Str.ofString (toString n)
theorem tl_strI_nat (n : Nat) : tl (strI (n : Int)) = TL.numL n := tl_num n
theorem tl_strI_neg (n : Nat) : tl (strI (-((n + 1 : Nat) : Int))) = 45 :: TL.numL (n + 1) := by
  have e : toString (-((n + 1 : Nat) : Int)) = "-" ++ toString (n + 1) := by
    show toString (Int.negSucc n) = _
    rfl
  unfold strI
  rw [e, tl_ofString, String.toList_append, List.map_append]
  have e2 := tl_num (n + 1)
  rw [tl_ofString] at e2
  have e3 : (toString (((n + 1 : Nat) : Int)) : String) = toString (n + 1) := rfl
  rw [e3] at e2
  rw [e2]
  rfl
theorem natOk_num {n : Nat} (h : n < 10 ^ 60) : natOk (TL.numL n) = true := natOk_iff.mpr ⟨numL_ne n, numL_len (by decide) h, digs_iff.mpr (numL_digits n)⟩
theorem num_head {n : Nat} : ∀ {c : Nat} {b : List Nat}, TL.numL n = c :: b → (c = 48 → b = []) ∧ (0 < n → c ≠ 48) := by
  induction n using Nat.strongRecOn with
  | _ n ih =>
    intro c b h
    by_cases hn : n < 10
    · rw [numL_lt hn] at h
      injection h with h1 h2
      exact ⟨fun _ => h2.symm, fun p => by omega⟩
    · rw [numL_step (by omega)] at h
      cases e : TL.numL (n / 10) with
      | nil => exact absurd e (numL_ne _)
      | cons d r =>
        rw [e] at h
        injection h with h1 h2
        have q := (ih (n / 10) (by omega) e).2 (by omega)
        rw [← h1]
        exact ⟨fun z => absurd z q, fun _ => q⟩
theorem num_not_minus {n c : Nat} {b : List Nat} (h : TL.numL n = c :: b) : c ≠ 45 := by
  have q := numL_digits n c (by rw [h]; exact List.mem_cons_self)
  omega
theorem valL_num (n : Nat) : valL (TL.numL n) = (n : Int) := by
  unfold valL
  rw [numL_val]
theorem num_back (sg : Bool) {n : Nat} (h : n < 10 ^ 60) : numOf sg (strI (n : Int)) = some (n : Int) := by
  unfold numOf
  rw [tl_strI_nat]
  cases e : TL.numL n with
  | nil => exact absurd e (numL_ne n)
  | cons c b =>
    rw [numL'_cons, if_neg (num_not_minus e)]
    have h1 := natOk_num h
    have h2 := (num_head e).1
    have h3 := valL_num n
    rw [e] at h1 h3
    rw [h1, h3]
    by_cases hc : c = 48
    · rw [h2 hc]
      simp
    · simp [hc]
theorem neg_back {n : Nat} (h : n + 1 < 10 ^ 60) : numOf true (strI (-((n + 1 : Nat) : Int))) = some (-((n + 1 : Nat) : Int)) := by
  unfold numOf
  rw [tl_strI_neg, numL'_cons, if_pos rfl]
  have h1 := natOk_num h
  have h3 := valL_num (n + 1)
  rw [h1, h3]
  cases e : TL.numL (n + 1) with
  | nil => exact absurd e (numL_ne _)
  | cons c b =>
    have h2 := (num_head e).2 (by omega)
    simp [h2]
theorem numOf_strI {n : Int} (h : n.natAbs < 10 ^ 60) : numOf true (strI n) = some n := by
  cases n with
  | ofNat k => exact num_back true h
  | negSucc k => exact neg_back (n := k) h
theorem numOf_strI0 {n : Int} (h0 : 0 ≤ n) (h : n < 10 ^ 60) : numOf false (strI n) = some n := by
  cases n with
  | ofNat k =>
    refine num_back false ?_
    have h' : (k : Int) < 10 ^ 60 := h
    omega
  | negSucc k => omega
/-- a number's signs: digits and a minus; its length -/
theorem strI_signs {n : Int} : ∀ c ∈ tl (strI n), c = 45 ∨ (48 ≤ c ∧ c ≤ 57) := by
  cases n with
  | ofNat k =>
    intro c hc
    have e := tl_strI_nat k
    rw [show tl (strI (Int.ofNat k)) = TL.numL k from e] at hc
    exact .inr (numL_digits k c hc)
  | negSucc k =>
    intro c hc
    rw [show tl (strI (Int.negSucc k)) = 45 :: TL.numL (k + 1) from tl_strI_neg k] at hc
    rcases List.mem_cons.mp hc with z | z
    · exact .inl z
    · exact .inr (numL_digits _ c z)
theorem strI_len {n : Int} {k : Nat} (hk : 0 < k) (h : n.natAbs < 10 ^ k) : (strI n).length ≤ k + 1 := by
  rw [len_tl]
  cases n with
  | ofNat m =>
    rw [show tl (strI (Int.ofNat m)) = TL.numL m from tl_strI_nat m]
    have := numL_len hk (show m < 10 ^ k from h)
    omega
  | negSucc m =>
    rw [show tl (strI (Int.negSucc m)) = 45 :: TL.numL (m + 1) from tl_strI_neg m]
    have := numL_len hk (show m + 1 < 10 ^ k from h)
    simp only [List.length_cons]
    omega
end K17
/-! Rows: what a line writes, what a row is written as, and the way back. -/
namespace K17
open PySem TL

abbrev S (s : String) : Str := Str.ofString s
/-- a row as it is read: tell, or the others -/
inductive RD where
  | tell (n : Int) (ps : List Int)
  | op (k : Str) (ns : List Int)
def forms (k : Str) : Option (List Str) :=
  if k = "put" then some ["row"] else if k = "number" then some ["any"] else if k = "add" then some ["row", "row"] else if k = "less" then some ["row", "row"]
  else if k = "times" then some ["row", "row"] else if k = "scale" then some ["any", "row"] else none
def allSome : List (Option Int) → Option (List Int)
  | [] => some []
  | none :: _ => none
  | some x :: r => (allSome r).map (x :: ·)
def nm (w kd : Str) : Option Int := numOf (decide (kd ≠ "row")) w
def numbersOf (ws ks : List Str) : Option (List Int) := allSome (List.zipWith nm ws ks)
def mkRow (k : Str) (ns : List Int) : RD := if k = "tell" then .tell (ns.headD 0) ns.tail else .op k ns
def kindsOf (k : Str) (rest : List Str) : Option (List Str) :=
  if k = "tell" then (if 2 ≤ rest.length then some (rest.map fun _ => ("row" : Str)) else none)
  else (forms k).bind fun ks => if ks.length = rest.length then some ks else none
def rowOf : List Str → Option RD
  | [] => none
  | k :: rest => (kindsOf k rest).bind fun ks => (numbersOf rest ks).map (mkRow k)
def rowOfLine (l : Str) : Option RD := rowOf (Txt.split l " ")
/-- the lines: the number of the first that is no row, or all rows -/
def scan : List Str → Nat ⊕ List RD
  | [] => .inr []
  | l :: ls => match rowOfLine l with
    | none => .inl 0
    | some r => match scan ls with
      | .inl i => .inl (i + 1)
      | .inr rs => .inr (r :: rs)
def readOf (t : Str) : Nat ⊕ List RD := scan (Txt.split t "\n")
def comb (rs : List RD) : Nat ⊕ List RD → Nat ⊕ List RD
  | .inl j => .inl (rs.length + j)
  | .inr q => .inr (rs ++ q)
theorem comb_nil (x : Nat ⊕ List RD) : comb [] x = x := by
  cases x with
  | inl j => show Sum.inl (0 + j) = Sum.inl j; rw [Nat.zero_add]
  | inr q => rfl
theorem scan_some {l : Str} {ls : List Str} {r : RD} (h : rowOfLine l = some r) : scan (l :: ls) = match scan ls with
      | .inl i => .inl (i + 1)
      | .inr rs => .inr (r :: rs) := by
  show (match rowOfLine l with | none => Sum.inl 0 | some r => match scan ls with | .inl i => .inl (i + 1) | .inr rs => .inr (r :: rs)) = _
  rw [h]
theorem scan_none {l : Str} {ls : List Str} (h : rowOfLine l = none) : scan (l :: ls) = .inl 0 := by
  show (match rowOfLine l with | none => Sum.inl 0 | some r => match scan ls with | .inl i => .inl (i + 1) | .inr rs => .inr (r :: rs)) = _
  rw [h]
theorem comb_step {l : Str} {ls : List Str} {r : RD} (rs : List RD) (h : rowOfLine l = some r) : comb rs (scan (l :: ls)) = comb (rs ++ [r]) (scan ls) := by
  rw [scan_some h]
  cases scan ls with
  | inl i =>
    show Sum.inl (rs.length + (i + 1)) = Sum.inl ((rs ++ [r]).length + i)
    rw [List.length_append]
    congr 1
    show rs.length + (i + 1) = rs.length + 1 + i
    omega
  | inr q =>
    show Sum.inr (rs ++ r :: q) = Sum.inr (rs ++ [r] ++ q)
    rw [List.append_assoc]
    rfl
theorem comb_bad {l : Str} {ls : List Str} (rs : List RD) (h : rowOfLine l = none) : comb rs (scan (l :: ls)) = .inl rs.length := by
  rw [scan_none h]
  rfl

/-! ### allSome -/
theorem allSome_append_none {a : List (Option Int)} : none ∈ a → allSome a = none := by
  induction a with
  | nil => intro h; cases h
  | cons x r ih =>
    intro h
    cases x with
    | none => rfl
    | some v =>
      rcases List.mem_cons.mp h with z | z
      · cases z
      · show (allSome r).map _ = none
        rw [ih z]
        rfl
theorem allSome_some {a : List (Option Int)} : none ∉ a → ∃ ns, allSome a = some ns ∧ a = ns.map some := by
  induction a with
  | nil => intro _; exact ⟨[], rfl, rfl⟩
  | cons x r ih =>
    intro h
    cases x with
    | none => exact absurd List.mem_cons_self h
    | some v =>
      obtain ⟨ns, h1, h2⟩ := ih fun z => h (List.mem_cons_of_mem _ z)
      refine ⟨v :: ns, ?_, ?_⟩
      · show (allSome r).map _ = _
        rw [h1]
        rfl
      · rw [h2]
        rfl
theorem allSome_map (ns : List Int) : allSome (ns.map some) = some ns := by
  induction ns with
  | nil => rfl
  | cons x r ih =>
    show (allSome (r.map some)).map _ = _
    rw [ih]
    rfl
/-- going on from a part that is read -/
theorem allSome_go {x : Option Int} {r : List (Option Int)} (ns : List Int) {v : Int} (h : x = some v) : (allSome (x :: r)).map (ns ++ ·) = (allSome r).map ((ns ++ [v]) ++ ·) := by
  rw [h]
  show ((allSome r).map (v :: ·)).map (ns ++ ·) = _
  cases allSome r with
  | none => rfl
  | some q =>
    show some (ns ++ v :: q) = some (ns ++ [v] ++ q)
    rw [List.append_assoc]
    rfl
theorem allSome_len {a : List (Option Int)} {ns : List Int} (h : allSome a = some ns) : ns.length = a.length := by
  by_cases hn : none ∈ a
  · rw [allSome_append_none hn] at h
    cases h
  · obtain ⟨m, h1, h2⟩ := allSome_some hn
    rw [h1] at h
    cases h
    rw [h2, List.length_map]

/-! ### the kinds' texts -/
theorem tl_S (s : String) : tl (S s) = s.toList.map Char.toNat := tl_ofString s
theorem forms_cases {k : Str} {ks : List Str} (h : forms k = some ks) : (k = "put" ∧ ks = (["row"] : List Str)) ∨ (k = "number" ∧ ks = (["any"] : List Str)) ∨ (k = "add" ∧ ks = (["row", "row"] : List Str)) ∨ (k = "less" ∧ ks = (["row", "row"] : List Str)) ∨
    (k = "times" ∧ ks = (["row", "row"] : List Str)) ∨ (k = "scale" ∧ ks = (["any", "row"] : List Str)) := by
  unfold forms at h
  split at h
  · rename_i e; cases h; exact .inl ⟨e, rfl⟩
  split at h
  · rename_i e; cases h; exact .inr (.inl ⟨e, rfl⟩)
  split at h
  · rename_i e; cases h; exact .inr (.inr (.inl ⟨e, rfl⟩))
  split at h
  · rename_i e; cases h; exact .inr (.inr (.inr (.inl ⟨e, rfl⟩)))
  split at h
  · rename_i e; cases h; exact .inr (.inr (.inr (.inr (.inl ⟨e, rfl⟩))))
  split at h
  · rename_i e; cases h; exact .inr (.inr (.inr (.inr (.inr ⟨e, rfl⟩))))
  cases h
def plainWord (w : Str) : Bool := (tl w).all fun c => decide (c ≠ 32 ∧ c ≠ 10)
theorem plain_iff {w : Str} : plainWord w = true ↔ 32 ∉ tl w ∧ 10 ∉ tl w := by
  unfold plainWord
  rw [List.all_eq_true]
  constructor
  · intro h
    exact ⟨fun z => (of_decide_eq_true (h _ z)).1 rfl, fun z => (of_decide_eq_true (h _ z)).2 rfl⟩
  · intro ⟨h1, h2⟩ c hc
    refine decide_eq_true ⟨fun z => h1 (by rw [← z]; exact hc), fun z => h2 (by rw [← z]; exact hc)⟩
theorem forms_plain {k : Str} {ks : List Str} (h : forms k = some ks) : plainWord k = true := by
  rcases forms_cases h with ⟨e, _⟩ | ⟨e, _⟩ | ⟨e, _⟩ | ⟨e, _⟩ | ⟨e, _⟩ | ⟨e, _⟩ <;> (rw [e]; decide +kernel)
theorem forms_tell {k : Str} {ks : List Str} (h : forms k = some ks) : k ≠ "tell" := by
  rcases forms_cases h with ⟨e, _⟩ | ⟨e, _⟩ | ⟨e, _⟩ | ⟨e, _⟩ | ⟨e, _⟩ | ⟨e, _⟩ <;> (rw [e]; decide +kernel)
theorem strI_plain (n : Int) : plainWord (strI n) = true := by
  refine plain_iff.mpr ⟨fun z => ?_, fun z => ?_⟩
  · have := strI_signs (n := n) _ z
    omega
  · have := strI_signs (n := n) _ z
    omega

/-! ### written rows -/
def wordsOf : RD → List Str
  | .tell n ps => "tell" :: strI n :: ps.map strI
  | .op k ns => k :: ns.map strI
def lineOf (r : RD) : Str := Txt.join " " (wordsOf r)
def textOf (rs : List RD) : Str := Txt.join "\n" (rs.map lineOf)
def rowNum (n : Int) : Prop := 0 ≤ n ∧ n < 10 ^ 60
def good : RD → Prop
  | .tell n ps => rowNum n ∧ ps ≠ [] ∧ ∀ p ∈ ps, rowNum p
  | .op k ns => ∃ ks, forms k = some ks ∧ ks.length = ns.length ∧ ∀ p ∈ ns.zip ks, if p.2 = "row" then rowNum p.1 else p.1.natAbs < 10 ^ 60
theorem nm_back {n : Int} {kd : Str} (h : if kd = "row" then rowNum n else n.natAbs < 10 ^ 60) : nm (strI n) kd = some n := by
  unfold nm
  by_cases e : kd = "row"
  · rw [if_pos e] at h
    rw [decide_eq_false (fun z => z e)]
    exact numOf_strI0 h.1 h.2
  · rw [if_neg e] at h
    rw [decide_eq_true e]
    exact numOf_strI h
theorem zip_back : ∀ {ns : List Int} {ks : List Str}, ks.length = ns.length → (∀ p ∈ ns.zip ks, if p.2 = "row" then rowNum p.1 else p.1.natAbs < 10 ^ 60) → List.zipWith nm (ns.map strI) ks = ns.map some
  | [], [], _, _ => rfl
  | [], _ :: _, h, _ => by cases h
  | _ :: _, [], h, _ => by cases h
  | n :: ns, k :: ks, h, hp => by
    have q := zip_back (ns := ns) (ks := ks) (by simpa using h) fun p z => hp p (List.mem_cons_of_mem _ z)
    show nm (strI n) k :: List.zipWith nm (ns.map strI) ks = some n :: ns.map some
    rw [q, nm_back (hp (n, k) List.mem_cons_self)]
theorem tell_zip {ns : List Int} (h : ∀ p ∈ ns, rowNum p) : List.zipWith nm (ns.map strI) ((ns.map strI).map fun _ => ("row" : Str)) = ns.map some := by
  induction ns with
  | nil => rfl
  | cons n ns ih =>
    show nm (strI n) "row" :: _ = some n :: _
    rw [nm_back (kd := "row") (by rw [if_pos rfl]; exact h n List.mem_cons_self)]
    rw [ih fun p z => h p (List.mem_cons_of_mem _ z)]
/-- a good row's words are read as it -/
theorem rowOf_back {r : RD} (h : good r) : rowOf (wordsOf r) = some r := by
  cases r with
  | tell n ps =>
    obtain ⟨h1, h2, h3⟩ := h
    have hz := tell_zip (ns := n :: ps) fun p z => by
      rcases List.mem_cons.mp z with z | z
      · rw [z]; exact h1
      · exact h3 p z
    have hl : 2 ≤ (strI n :: ps.map strI).length := by
      cases ps with
      | nil => exact absurd rfl h2
      | cons p q => simp
    show (kindsOf "tell" (strI n :: ps.map strI)).bind _ = _
    unfold kindsOf
    rw [if_pos rfl, if_pos hl]
    show (numbersOf (strI n :: ps.map strI) _).map (mkRow "tell") = _
    unfold numbersOf
    rw [show (strI n :: ps.map strI) = (n :: ps).map strI from rfl, hz, allSome_map]
    rfl
  | op k ns =>
    obtain ⟨ks, h1, h2, h3⟩ := h
    have ht := forms_tell h1
    show (kindsOf k (ns.map strI)).bind _ = _
    unfold kindsOf
    rw [if_neg ht, h1]
    show (if ks.length = (ns.map strI).length then some ks else none).bind _ = _
    rw [if_pos (by rw [List.length_map]; exact h2)]
    show (numbersOf (ns.map strI) ks).map (mkRow k) = _
    unfold numbersOf
    rw [zip_back h2 h3, allSome_map]
    show some (mkRow k ns) = _
    unfold mkRow
    rw [if_neg ht]
theorem words_plain {r : RD} (h : good r) : ∀ w ∈ wordsOf r, plainWord w = true := by
  cases r with
  | tell n ps =>
    intro w hw
    rcases List.mem_cons.mp hw with z | z
    · rw [z]; decide +kernel
    rcases List.mem_cons.mp z with z | z
    · rw [z]; exact strI_plain n
    · obtain ⟨p, _, e⟩ := List.mem_map.mp z
      rw [← e]; exact strI_plain p
  | op k ns =>
    obtain ⟨ks, h1, _, _⟩ := h
    intro w hw
    rcases List.mem_cons.mp hw with z | z
    · rw [z]; exact forms_plain h1
    · obtain ⟨p, _, e⟩ := List.mem_map.mp z
      rw [← e]; exact strI_plain p
theorem words_ne (r : RD) : wordsOf r ≠ [] := by
  cases r <;> simp [wordsOf]
theorem tl_sp : tl (" " : Str) = [32] := by decide +kernel
theorem tl_nl : tl ("\n" : Str) = [10] := by decide +kernel
theorem rowOfLine_back {r : RD} (h : good r) : rowOfLine (lineOf r) = some r := by
  unfold rowOfLine lineOf
  rw [split_join tl_sp (by decide +kernel) (words_ne r) fun p hp => (plain_iff.mp (words_plain h p hp)).1]
  exact rowOf_back h
theorem mem_joinL {S : List Nat} {c : Nat} : ∀ {parts : List (List Nat)}, c ∈ joinL S parts → c ∈ S ∨ ∃ p ∈ parts, c ∈ p
  | [], h => by cases h
  | [p], h => .inr ⟨p, List.mem_cons_self, h⟩
  | p :: q :: r, h => by
    have h' : c ∈ p ++ (S ++ joinL S (q :: r)) := h
    rcases List.mem_append.mp h' with z | z
    · exact .inr ⟨p, List.mem_cons_self, z⟩
    rcases List.mem_append.mp z with z | z
    · exact .inl z
    · rcases mem_joinL z with z | ⟨p', h1, h2⟩
      · exact .inl z
      · exact .inr ⟨p', List.mem_cons_of_mem _ h1, h2⟩
theorem lineOf_free {r : RD} (h : good r) : 10 ∉ tl (lineOf r) := by
  intro hm
  unfold lineOf at hm
  rw [join_eq, tl_join] at hm
  rcases mem_joinL hm with z | ⟨p, h1, h2⟩
  · rw [tl_sp] at z
    simp at z
  · obtain ⟨w, hw, e⟩ := List.mem_map.mp h1
    rw [← e] at h2
    exact (plain_iff.mp (words_plain h w hw)).2 h2
theorem scan_back : ∀ {rs : List RD}, (∀ r ∈ rs, good r) → scan (rs.map lineOf) = .inr rs
  | [], _ => rfl
  | r :: rs, h => by
    have ih := scan_back (rs := rs) fun q z => h q (List.mem_cons_of_mem _ z)
    show scan (lineOf r :: rs.map lineOf) = _
    rw [scan_some (rowOfLine_back (h r List.mem_cons_self)), ih]
/-- THE WAY BACK: the text of good rows is read as these -/
theorem readOf_back {rs : List RD} (hne : rs ≠ []) (h : ∀ r ∈ rs, good r) : readOf (textOf rs) = .inr rs := by
  unfold readOf textOf
  rw [split_join tl_nl (by decide +kernel) (by simpa using hne) fun p hp => by
    obtain ⟨r, hr, e⟩ := List.mem_map.mp hp
    rw [← e]
    exact lineOf_free (h r hr)]
  exact scan_back h

/-! ### sizes -/
theorem len_joinL (S : List Nat) : ∀ parts : List (List Nat), (joinL S parts).length ≤ (parts.map List.length).sum + parts.length * S.length
  | [] => by simp [joinL]
  | [p] => by
    show p.length ≤ _
    simp
  | p :: q :: r => by
    have ih := len_joinL S (q :: r)
    show (p ++ (S ++ joinL S (q :: r))).length ≤ _
    rw [List.length_append, List.length_append, List.map_cons, List.sum_cons]
    have e : (p :: q :: r).length * S.length = S.length + (q :: r).length * S.length := by
      rw [List.length_cons (a := p), Nat.succ_mul]
      omega
    omega
theorem len_join (y : Str) (parts : List Str) : (Txt.join y parts).length ≤ (parts.map Str.length).sum + parts.length * y.length := by
  rw [join_eq, len_tl, tl_join]
  have h := len_joinL (tl y) (parts.map tl)
  rw [List.length_map, List.map_map] at h
  have e : (parts.map (List.length ∘ tl)) = parts.map Str.length := by
    apply List.map_congr_left
    intro x _
    exact (len_tl x).symm
  rw [e, ← len_tl] at h
  exact h
theorem sum_le {l : List Nat} {b : Nat} (h : ∀ x ∈ l, x ≤ b) : l.sum ≤ l.length * b := by
  induction l with
  | nil => simp
  | cons a r ih =>
    rw [List.sum_cons, List.length_cons, Nat.succ_mul]
    have h1 := h a List.mem_cons_self
    have h2 := ih fun x hx => h x (List.mem_cons_of_mem _ hx)
    omega
theorem len_join_le {y : Str} {parts : List Str} {b : Nat} (h : ∀ p ∈ parts, p.length ≤ b) : (Txt.join y parts).length ≤ parts.length * (b + y.length) ∧ (parts.map Str.length).sum + parts.length * y.length ≤ parts.length * (b + y.length) := by
  have h1 := len_join y parts
  have h2 : (parts.map Str.length).sum ≤ (parts.map Str.length).length * b := sum_le fun x hx => by
    obtain ⟨p, hp, e⟩ := List.mem_map.mp hx
    rw [← e]
    exact h p hp
  rw [List.length_map] at h2
  have e : parts.length * (b + y.length) = parts.length * b + parts.length * y.length := Nat.mul_add _ _ _
  omega
/-- the parts of a split text are not longer than it; there are not more than its signs and one -/
theorem spl_le (S : List Nat) : ∀ (l : List Nat) (k : Nat) (acc : List Nat), (∀ p ∈ spl S k acc l, p.length ≤ acc.length + l.length) ∧ (spl S k acc l).length ≤ l.length + 1 ∧ spl S k acc l ≠ []
  | [], k, acc => by
    rw [spl_nil]
    refine ⟨fun p hp => ?_, by simp, by simp⟩
    rw [List.mem_singleton.mp hp]
    simp
  | c :: r, 0, acc => by
    cases hp : pre S (c :: r) with
    | true =>
      rw [spl_hit hp]
      obtain ⟨h1, h2, h3⟩ := spl_le S r (S.length - 1) []
      refine ⟨fun p hq => ?_, by simp only [List.length_cons]; omega, by simp⟩
      rcases List.mem_cons.mp hq with z | z
      · rw [z]; omega
      · have := h1 p z
        simp only [List.length_nil, List.length_cons] at this ⊢
        omega
    | false =>
      rw [spl_miss hp]
      obtain ⟨h1, h2, h3⟩ := spl_le S r 0 (acc ++ [c])
      refine ⟨fun p hq => ?_, by simp only [List.length_cons]; omega, h3⟩
      have := h1 p hq
      simp only [List.length_append, List.length_cons, List.length_nil] at this ⊢
      omega
  | c :: r, k + 1, acc => by
    have e : spl S (k + 1) acc (c :: r) = spl S k acc r := rfl
    rw [e]
    obtain ⟨h1, h2, h3⟩ := spl_le S r k acc
    refine ⟨fun p hq => ?_, by simp only [List.length_cons]; omega, h3⟩
    have := h1 p hq
    simp only [List.length_cons]
    omega
theorem split_le {x y : Str} (hy : tl y ≠ []) (hk : y.cps.all (· < 256) = true) : (∀ p ∈ Txt.split x y, p.length ≤ x.length) ∧ (Txt.split x y).length ≤ x.length + 1 ∧ Txt.split x y ≠ [] := by
  have e := split_spl x y hy (kind_ok hk)
  obtain ⟨h1, h2, h3⟩ := spl_le (tl y) (tl x) 0 []
  rw [← e] at h1 h2 h3
  refine ⟨fun p hp => ?_, ?_, fun z => h3 (by rw [z]; rfl)⟩
  · have := h1 (tl p) (List.mem_map.mpr ⟨p, hp, rfl⟩)
    rw [len_tl, len_tl]
    simpa using this
  · rw [List.length_map] at h2
    rw [len_tl]
    exact h2
theorem split_sp (x : Str) : (∀ p ∈ Txt.split x " ", p.length ≤ x.length) ∧ (Txt.split x " ").length ≤ x.length + 1 ∧ Txt.split x " " ≠ [] := split_le (by rw [tl_sp]; simp) (by decide +kernel)
theorem split_nl (x : Str) : (∀ p ∈ Txt.split x "\n", p.length ≤ x.length) ∧ (Txt.split x "\n").length ≤ x.length + 1 ∧ Txt.split x "\n" ≠ [] := split_le (by rw [tl_nl]; simp) (by decide +kernel)
end K17
/-! What makes a row of any data right, as both checkers reckon it; right rows are good ones. -/
namespace K17
open PySem TL

def cOk : PyData → Bool
  | .int i => decide (i.natAbs < 10 ^ 60)
  | _ => false
def useOk (tells : List Bool) : PyData → Bool
  | .int i => decide (0 ≤ i) && (decide (i < (tells.length : Int)) && !(tells.getD i.toNat true))
  | _ => false
def peopleOk (n : Int) : Int → List PyData → Bool
  | _, [] => true
  | last, .int p :: r => decide (last < p ∧ p ≤ n) && peopleOk n p r
  | _, _ :: _ => false
def groupOk (n : Int) : PyData → Bool
  | .tuple (p :: ps) => peopleOk n 0 (p :: ps)
  | _ => false
def oneOk (k : Str) (n : Int) : List PyData → Bool
  | [.int p] => if k = "put" then decide (1 ≤ p ∧ p ≤ n) else cOk (.int p)
  | _ => false
def twoOk (k : Str) (tells : List Bool) (n : Int) : List PyData → Bool
  | [a, b] => if k = "scale" then cOk a && useOk tells b else if k = "tell" then useOk tells a && groupOk n b
      else if k = "add" ∨ k = "less" ∨ k = "times" then useOk tells a && useOk tells b else false
  | _ => false
def rowRight (tells : List Bool) (n : Int) : PyData → Bool
  | .tuple (.str k :: rest) => if k = "put" ∨ k = "number" then oneOk k n rest else twoOk k tells n rest
  | _ => false
def isTell : PyData → Bool
  | .tuple (.str k :: _) => decide (k = "tell")
  | _ => false
/-- from here on: the number of the first row that is not right -/
def firstBad (n : Int) : List Bool → List PyData → Option Nat
  | _, [] => none
  | tells, r :: rs => if rowRight tells n r = true then firstBad n (tells ++ [isTell r]) rs else some tells.length
def faultOf (n : Int) : PyData → Option Nat
  | .tuple (r :: rs) => firstBad n [] (r :: rs)
  | _ => some 0
theorem firstBad_ok {n : Int} {tells : List Bool} {r : PyData} {rs : List PyData} (h : rowRight tells n r = true) : firstBad n tells (r :: rs) = firstBad n (tells ++ [isTell r]) rs := by
  show (if rowRight tells n r = true then _ else _) = _
  rw [if_pos h]
theorem firstBad_no {n : Int} {tells : List Bool} {r : PyData} {rs : List PyData} (h : rowRight tells n r = false) : firstBad n tells (r :: rs) = some tells.length := by
  show (if rowRight tells n r = true then _ else _) = _
  rw [if_neg (by rw [h]; exact Bool.false_ne_true)]

/-! ### a read row as data -/
def RD.data : RD → PyData
  | .tell n ps => .tuple [.str "tell", .int n, .tuple (ps.map PyData.int)]
  | .op k ns => .tuple (.str k :: ns.map PyData.int)
theorem people_ints {n : Int} : ∀ {ps : List PyData} {last : Int}, 0 ≤ last → n < 1000 → peopleOk n last ps = true → ∃ is : List Int, ps = is.map PyData.int ∧ ∀ i ∈ is, rowNum i
  | [], _, _, _, _ => ⟨[], rfl, fun _ h => by cases h⟩
  | .int p :: r, last, h0, h1, h => by
    have h' : (decide (last < p ∧ p ≤ n) && peopleOk n p r) = true := h
    obtain ⟨a, b⟩ := Bool.and_eq_true_iff.mp h'
    have a' := of_decide_eq_true a
    obtain ⟨is, e, q⟩ := people_ints (last := p) (by omega) h1 b
    refine ⟨p :: is, by rw [e]; rfl, fun i hi => ?_⟩
    rcases List.mem_cons.mp hi with z | z
    · rw [z]
      exact ⟨by omega, by omega⟩
    · exact q i z
  | .none :: _, _, _, _, h => nomatch h
  | .bool _ :: _, _, _, _, h => nomatch h
  | .str _ :: _, _, _, _, h => nomatch h
  | .list _ :: _, _, _, _, h => nomatch h
  | .tuple _ :: _, _, _, _, h => nomatch h
  | .dict _ :: _, _, _, _, h => nomatch h
theorem use_int {tells : List Bool} {d : PyData} (hl : tells.length ≤ 1000) (h : useOk tells d = true) : ∃ i, d = .int i ∧ rowNum i := by
  cases d with
  | int i =>
    obtain ⟨a, b⟩ := Bool.and_eq_true_iff.mp (show (decide (0 ≤ i) && (decide (i < (tells.length : Int)) && !(tells.getD i.toNat true))) = true from h)
    obtain ⟨b, _⟩ := Bool.and_eq_true_iff.mp b
    have a' := of_decide_eq_true a
    have b' := of_decide_eq_true b
    exact ⟨i, rfl, a', by omega⟩
  | _ => cases h
theorem c_int {d : PyData} (h : cOk d = true) : ∃ i : Int, d = .int i ∧ i.natAbs < 10 ^ 60 := by
  cases d with
  | int i => exact ⟨i, rfl, of_decide_eq_true h⟩
  | _ => cases h
theorem group_ints {n : Int} {d : PyData} (h1 : n < 1000) (h : groupOk n d = true) : ∃ is : List Int, d = .tuple (is.map PyData.int) ∧ is ≠ [] ∧ ∀ i ∈ is, rowNum i := by
  cases d with
  | tuple ps =>
    cases ps with
    | nil => cases h
    | cons p ps =>
      obtain ⟨is, e, q⟩ := people_ints (Int.le_refl 0) h1 (show peopleOk n 0 (p :: ps) = true from h)
      refine ⟨is, by rw [e], ?_, q⟩
      intro z
      rw [z] at e
      cases e
  | _ => cases h
theorem two_lists {P : PyData → Prop} {k : Str} {tells : List Bool} {n : Int} {rest : List PyData} (h : twoOk k tells n rest = true) : ∃ a b, rest = [a, b] := by
  match rest, h with
  | [], h => cases h
  | [_], h => cases h
  | [a, b], _ => exact ⟨a, b, rfl⟩
  | _ :: _ :: _ :: _, h => cases h
theorem one_list {k : Str} {n : Int} {rest : List PyData} (h : oneOk k n rest = true) : ∃ p : Int, rest = [.int p] := by
  match rest, h with
  | [], h => cases h
  | [.int p], _ => exact ⟨p, rfl⟩
  | [.none], h => cases h
  | [.bool _], h => cases h
  | [.str _], h => cases h
  | [.list _], h => cases h
  | [.tuple _], h => cases h
  | [.dict _], h => cases h
  | .none :: _ :: _, h => nomatch h
  | .bool _ :: _ :: _, h => nomatch h
  | .int _ :: _ :: _, h => nomatch h
  | .str _ :: _ :: _, h => nomatch h
  | .list _ :: _ :: _, h => nomatch h
  | .tuple _ :: _ :: _, h => nomatch h
  | .dict _ :: _ :: _, h => nomatch h
theorem S_ne {a b : Str} (h : decide (a = b) = false) : a ≠ b := of_decide_eq_false h
/-- a right row is a good one -/
theorem good_of_right {tells : List Bool} {n : Int} {d : PyData} (hn : n < 1000) (hl : tells.length ≤ 1000) (h : rowRight tells n d = true) : ∃ r : RD, d = r.data ∧ good r := by
  match d, h with
  | .tuple (.str k :: rest), h =>
    have h : (if k = "put" ∨ k = "number" then oneOk k n rest else twoOk k tells n rest) = true := h
    by_cases hk : k = "put" ∨ k = "number"
    · rw [if_pos hk] at h
      obtain ⟨p, rfl⟩ := one_list h
      have h : (if k = "put" then decide (1 ≤ p ∧ p ≤ n) else cOk (.int p)) = true := h
      refine ⟨.op k [p], rfl, ?_⟩
      by_cases h1 : k = "put"
      · rw [if_pos h1] at h
        have h' := of_decide_eq_true h
        refine ⟨["row"], by rw [h1]; rfl, rfl, fun q hq => ?_⟩
        have e : q = (p, ("row" : Str)) := by simpa using hq
        rw [e, if_pos rfl]
        exact ⟨by show 0 ≤ p; omega, by show p < 10 ^ 60; omega⟩
      · rw [if_neg h1] at h
        have h2 : k = "number" := hk.resolve_left h1
        have h' : p.natAbs < 10 ^ 60 := of_decide_eq_true h
        refine ⟨["any"], by rw [h2]; decide +kernel, rfl, fun q hq => ?_⟩
        have e : q = (p, ("any" : Str)) := by simpa using hq
        rw [e, if_neg (show ¬ ("any" : Str) = "row" from S_ne (by decide +kernel))]
        exact h'
    · rw [if_neg hk] at h
      obtain ⟨a, b, rfl⟩ := two_lists (P := fun _ => True) h
      have h : (if k = "scale" then cOk a && useOk tells b else if k = "tell" then useOk tells a && groupOk n b else if k = "add" ∨ k = "less" ∨ k = "times" then useOk tells a && useOk tells b else false) = true := h
      by_cases h1 : k = "scale"
      · rw [if_pos h1] at h
        obtain ⟨x, y⟩ := Bool.and_eq_true_iff.mp h
        obtain ⟨i, rfl, hi⟩ := c_int x
        obtain ⟨j, rfl, hj⟩ := use_int hl y
        refine ⟨.op k [i, j], rfl, ["any", "row"], by rw [h1]; decide +kernel, rfl, fun q hq => ?_⟩
        have e : q = (i, ("any" : Str)) ∨ q = (j, ("row" : Str)) := by simpa using hq
        rcases e with e | e
        · rw [e, if_neg (show ¬ ("any" : Str) = "row" from S_ne (by decide +kernel))]
          exact hi
        · rw [e, if_pos rfl]
          exact hj
      rw [if_neg h1] at h
      by_cases h2 : k = "tell"
      · rw [if_pos h2] at h
        obtain ⟨x, y⟩ := Bool.and_eq_true_iff.mp h
        obtain ⟨i, rfl, hi⟩ := use_int hl x
        obtain ⟨is, rfl, h3, h4⟩ := group_ints hn y
        exact ⟨.tell i is, by rw [h2]; rfl, hi, h3, h4⟩
      rw [if_neg h2] at h
      by_cases h3 : k = "add" ∨ k = "less" ∨ k = "times"
      · rw [if_pos h3] at h
        obtain ⟨x, y⟩ := Bool.and_eq_true_iff.mp h
        obtain ⟨i, rfl, hi⟩ := use_int hl x
        obtain ⟨j, rfl, hj⟩ := use_int hl y
        refine ⟨.op k [i, j], rfl, ["row", "row"], ?_, rfl, fun q hq => ?_⟩
        · rcases h3 with e | e | e <;> (rw [e]; decide +kernel)
        · have e : q = (i, ("row" : Str)) ∨ q = (j, ("row" : Str)) := by simpa using hq
          rcases e with e | e
          · rw [e, if_pos rfl]
            exact hi
          · rw [e, if_pos rfl]
            exact hj
      · rw [if_neg h3] at h
        cases h
theorem firstBad_none {n : Int} (hn : n < 1000) : ∀ {ds : List PyData} {tells : List Bool}, tells.length + ds.length ≤ 1000 → firstBad n tells ds = none → ∃ rs : List RD, ds = rs.map RD.data ∧ ∀ r ∈ rs, good r
  | [], _, _, _ => ⟨[], rfl, fun _ h => by cases h⟩
  | d :: ds, tells, hl, h => by
    have hl' : tells.length + (ds.length + 1) ≤ 1000 := hl
    cases e : rowRight tells n d with
    | false =>
      rw [firstBad_no e] at h
      cases h
    | true =>
      rw [firstBad_ok e] at h
      obtain ⟨rs, e1, q⟩ := firstBad_none hn (ds := ds) (tells := tells ++ [isTell d]) (by rw [List.length_append, List.length_singleton]; omega) h
      obtain ⟨r, e2, g⟩ := good_of_right hn (by omega) e
      refine ⟨r :: rs, by rw [e1, e2]; rfl, fun q' hq => ?_⟩
      rcases List.mem_cons.mp hq with z | z
      · rw [z]; exact g
      · exact q q' z
theorem fault_none {n : Int} (hn : n < 1000) {d : PyData} {ds : List PyData} (e : d = .tuple ds) (hl : ds.length ≤ 1000) (h : faultOf n d = none) : ∃ rs : List RD, ds = rs.map RD.data ∧ rs ≠ [] ∧ ∀ r ∈ rs, good r := by
  subst e
  cases ds with
  | nil => cases h
  | cons r rs =>
    obtain ⟨q, e1, g⟩ := firstBad_none hn (tells := []) (by simpa using hl) (show firstBad n [] (r :: rs) = none from h)
    refine ⟨q, e1, ?_, g⟩
    intro z
    rw [z] at e1
    cases e1

/-! ### a row's data compared with itself -/
theorem canLay_ints : ∀ ns : List Int, PyData.canLayAll0 (ns.map PyData.int) = true
  | [] => rfl
  | n :: ns => by
    show (PyData.canLay0 (.int n) && PyData.canLayAll0 (ns.map PyData.int)) = true
    rw [canLay_ints ns]
    rfl
theorem depth_ints : ∀ ns : List Int, PyData.depthAll (ns.map PyData.int) = 0
  | [] => rfl
  | n :: ns => by
    show max (PyData.depth (.int n)) (PyData.depthAll (ns.map PyData.int)) = 0
    rw [depth_ints ns]
    rfl
end K17
/-! What the top has written: places, addresses, facts. Printed by gen_base.py. -/
namespace K17
open PySem L2
def top (i : Nat) : Stmt := PySem.Challenge.pw_jointhands_k17_texts.main.body.getD i (.Pass ⟨0, 0, 0, 0⟩)
abbrev s_is_integer : Stmt := top 14
abbrev s_is_listed : Stmt := top 15
abbrev s_are_people : Stmt := top 18
abbrev s_is_constant : Stmt := top 24
abbrev s_is_earlier : Stmt := top 25
abbrev s_is_right : Stmt := top 26
abbrev s_check_program : Stmt := top 27
abbrev s_number_told : Stmt := top 28
abbrev s_numbers_told : Stmt := top 29
abbrev s_row_told : Stmt := top 30
abbrev s_read_program : Stmt := top 31
abbrev s_write_program : Stmt := top 32
abbrev s__law_integer : Stmt := top 34
abbrev s__law_start : Stmt := top 35
abbrev s__law_draw : Stmt := top 36
abbrev s__law_wide : Stmt := top 37
abbrev s__law_people : Stmt := top 38
abbrev s__law_constant : Stmt := top 39
abbrev s__law_program : Stmt := top 40
abbrev s__law_kinds : Stmt := top 41
abbrev s__law_only : Stmt := top 42
abbrev s__law_row_right : Stmt := top 43
abbrev s__law_fault : Stmt := top 44
abbrev s__law_odd : Stmt := top 45
abbrev s__law_bad_row : Stmt := top 46
abbrev s__law_spoilt : Stmt := top 47
abbrev s__law_digits : Stmt := top 48
abbrev s__law_line : Stmt := top 49
abbrev s__law_read : Stmt := top 50
abbrev s__law_same : Stmt := top 51
abbrev s__law_read_is : Stmt := top 52
abbrev s__law_written : Stmt := top 53
abbrev s__law_number : Stmt := top 54
abbrev s__law_any_rows : Stmt := top 55
abbrev s__law_changed : Stmt := top 56
abbrev s__law_write_is : Stmt := top 57
abbrev s__law_body : Stmt := top 58
abbrev s_law : Stmt := top 59
abbrev i_BadProgram : Stmt := L2.inClass (top 11) 0
abbrev i_BadText : Stmt := L2.inClass (top 12) 0
/-- where things stand -/
structure Ad where
  f_is_integer : Addr
  f_is_listed : Addr
  f_are_people : Addr
  f_is_constant : Addr
  f_is_earlier : Addr
  f_is_right : Addr
  f_check_program : Addr
  f_number_told : Addr
  f_numbers_told : Addr
  f_row_told : Addr
  f_read_program : Addr
  f_write_program : Addr
  f__law_integer : Addr
  f__law_start : Addr
  f__law_draw : Addr
  f__law_wide : Addr
  f__law_people : Addr
  f__law_constant : Addr
  f__law_program : Addr
  f__law_kinds : Addr
  f__law_only : Addr
  f__law_row_right : Addr
  f__law_fault : Addr
  f__law_odd : Addr
  f__law_bad_row : Addr
  f__law_spoilt : Addr
  f__law_digits : Addr
  f__law_line : Addr
  f__law_read : Addr
  f__law_same : Addr
  f__law_read_is : Addr
  f__law_written : Addr
  f__law_number : Addr
  f__law_any_rows : Addr
  f__law_changed : Addr
  f__law_write_is : Addr
  f__law_body : Addr
  f_law : Addr
  C_JointError : Addr
  C_BadStructure : Addr
  C_BadModulus : Addr
  C_BadInputs : Addr
  C_BadCoins : Addr
  C_BadGroup : Addr
  C_BadLies : Addr
  C_BadTurn : Addr
  C_BadTalk : Addr
  C_BadTable : Addr
  C_BadProgram : Addr
  C_BadText : Addr
  g_BadText : Addr
  g_BadProgram : Addr
  F_d : Addr
  F_es : Array DictEntry
  F_n : Nat
  F_put : Addr
  F_number : Addr
  F_add : Addr
  F_less : Addr
  F_times : Addr
  F_scale : Addr
  t_MOST_PEOPLE : Tok
  t_MOST_ROWS : Tok
  t_MOST_FIGURES : Tok
  t_FIGURES : Tok
def formAt (a : Ad) (z : Str) : Option Addr :=
  if z = "put" then some a.F_put else if z = "number" then some a.F_number else if z = "add" then some a.F_add else if z = "less" then some a.F_less
  else if z = "times" then some a.F_times else if z = "scale" then some a.F_scale else none
/-- what is written of an exception class with its own __init__ -/
structure ExcF (K : PySem.W.Frag) (C f : Addr) (fld : Str) : Prop where
  oex : OexC K C
  xf : XfC K C
  nf : PySem.W.findIn K (.ref C) fld = some none
  sC : PySem.W.exmOne K (.ref C) (.ref C) = some true
  cls : (PySem.W.clsIn K C).isSome = true
  cc : PySem.W.findIn K (.ref C) "__class__" = some (some (.builtin "object.__class__"))
  mo : PySem.W.mroIn K C (.type "object") = some true
  ini : PySem.W.findIn K (.ref C) "__init__" = some (some (.ref f))
  tyI : PySem.W.typeIn K (.ref f) = some (.type "function")

structure Txt (K : PySem.W.Frag) (mg : Str → Option Value) (w : World) (a : Ad) : Prop where
  z_all : mg "all" = none
  z_abs : mg "abs" = none
  z_enumerate : mg "enumerate" = none
  z_int : mg "int" = none
  z_isinstance : mg "isinstance" = none
  z_len : mg "len" = none
  z_list : mg "list" = none
  z_max : mg "max" = none
  z_min : mg "min" = none
  z_range : mg "range" = none
  z_str : mg "str" = none
  z_tuple : mg "tuple" = none
  z_zip : mg "zip" = none
  z_bool : mg "bool" = none
  z_ValueError : mg "ValueError" = none
  a_is_integer : mg "is_integer" = some (.ref a.f_is_integer)
  k_is_integer : PySem.W.keepIn K (.ref a.f_is_integer) = true
  F_is_integer : ∃ fd, Fun K "is_integer" "is_integer" s_is_integer a.f_is_integer fd ∧ L2.Binds K fd ["value"] []
  a_is_listed : mg "is_listed" = some (.ref a.f_is_listed)
  k_is_listed : PySem.W.keepIn K (.ref a.f_is_listed) = true
  F_is_listed : ∃ fd, Fun K "is_listed" "is_listed" s_is_listed a.f_is_listed fd ∧ L2.Binds K fd ["values"] []
  a_are_people : mg "are_people" = some (.ref a.f_are_people)
  k_are_people : PySem.W.keepIn K (.ref a.f_are_people) = true
  F_are_people : ∃ fd, Fun K "are_people" "are_people" s_are_people a.f_are_people fd ∧ L2.Binds K fd ["value", "n"] []
  a_is_constant : mg "is_constant" = some (.ref a.f_is_constant)
  k_is_constant : PySem.W.keepIn K (.ref a.f_is_constant) = true
  F_is_constant : ∃ fd, Fun K "is_constant" "is_constant" s_is_constant a.f_is_constant fd ∧ L2.Binds K fd ["value"] []
  a_is_earlier : mg "is_earlier" = some (.ref a.f_is_earlier)
  k_is_earlier : PySem.W.keepIn K (.ref a.f_is_earlier) = true
  F_is_earlier : ∃ fd, Fun K "is_earlier" "is_earlier" s_is_earlier a.f_is_earlier fd ∧ L2.Binds K fd ["program", "number", "value"] []
  a_is_right : mg "is_right" = some (.ref a.f_is_right)
  k_is_right : PySem.W.keepIn K (.ref a.f_is_right) = true
  F_is_right : ∃ fd, Fun K "is_right" "is_right" s_is_right a.f_is_right fd ∧ L2.Binds K fd ["program", "number", "n"] []
  a_check_program : mg "check_program" = some (.ref a.f_check_program)
  k_check_program : PySem.W.keepIn K (.ref a.f_check_program) = true
  F_check_program : ∃ fd, Fun K "check_program" "check_program" s_check_program a.f_check_program fd ∧ L2.Binds K fd ["program", "n"] []
  a_number_told : mg "number_told" = some (.ref a.f_number_told)
  k_number_told : PySem.W.keepIn K (.ref a.f_number_told) = true
  F_number_told : ∃ fd, Fun K "number_told" "number_told" s_number_told a.f_number_told fd ∧ L2.Binds K fd ["word"] []
  a_numbers_told : mg "numbers_told" = some (.ref a.f_numbers_told)
  k_numbers_told : PySem.W.keepIn K (.ref a.f_numbers_told) = true
  F_numbers_told : ∃ fd, Fun K "numbers_told" "numbers_told" s_numbers_told a.f_numbers_told fd ∧ L2.Binds K fd ["words", "kinds"] []
  a_row_told : mg "row_told" = some (.ref a.f_row_told)
  k_row_told : PySem.W.keepIn K (.ref a.f_row_told) = true
  F_row_told : ∃ fd, Fun K "row_told" "row_told" s_row_told a.f_row_told fd ∧ L2.Binds K fd ["line"] []
  a_read_program : mg "read_program" = some (.ref a.f_read_program)
  k_read_program : PySem.W.keepIn K (.ref a.f_read_program) = true
  F_read_program : ∃ fd, Fun K "read_program" "read_program" s_read_program a.f_read_program fd ∧ L2.Binds K fd ["text"] []
  a_write_program : mg "write_program" = some (.ref a.f_write_program)
  k_write_program : PySem.W.keepIn K (.ref a.f_write_program) = true
  F_write_program : ∃ fd, Fun K "write_program" "write_program" s_write_program a.f_write_program fd ∧ L2.Binds K fd ["program"] []
  a__law_integer : mg "_law_integer" = some (.ref a.f__law_integer)
  k__law_integer : PySem.W.keepIn K (.ref a.f__law_integer) = true
  F__law_integer : ∃ fd, Fun K "_law_integer" "_law_integer" s__law_integer a.f__law_integer fd ∧ L2.Binds K fd ["_law_value"] []
  a__law_start : mg "_law_start" = some (.ref a.f__law_start)
  k__law_start : PySem.W.keepIn K (.ref a.f__law_start) = true
  F__law_start : ∃ fd, Fun K "_law_start" "_law_start" s__law_start a.f__law_start fd ∧ L2.Binds K fd ["_law_script"] []
  a__law_draw : mg "_law_draw" = some (.ref a.f__law_draw)
  k__law_draw : PySem.W.keepIn K (.ref a.f__law_draw) = true
  F__law_draw : ∃ fd, Fun K "_law_draw" "_law_draw" s__law_draw a.f__law_draw fd ∧ L2.Binds K fd ["_law_state", "_law_limit"] []
  a__law_wide : mg "_law_wide" = some (.ref a.f__law_wide)
  k__law_wide : PySem.W.keepIn K (.ref a.f__law_wide) = true
  F__law_wide : ∃ fd, Fun K "_law_wide" "_law_wide" s__law_wide a.f__law_wide fd ∧ L2.Binds K fd ["_law_state"] []
  a__law_people : mg "_law_people" = some (.ref a.f__law_people)
  k__law_people : PySem.W.keepIn K (.ref a.f__law_people) = true
  F__law_people : ∃ fd, Fun K "_law_people" "_law_people" s__law_people a.f__law_people fd ∧ L2.Binds K fd ["_law_state", "_law_n"] []
  a__law_constant : mg "_law_constant" = some (.ref a.f__law_constant)
  k__law_constant : PySem.W.keepIn K (.ref a.f__law_constant) = true
  F__law_constant : ∃ fd, Fun K "_law_constant" "_law_constant" s__law_constant a.f__law_constant fd ∧ L2.Binds K fd ["_law_state"] []
  a__law_program : mg "_law_program" = some (.ref a.f__law_program)
  k__law_program : PySem.W.keepIn K (.ref a.f__law_program) = true
  F__law_program : ∃ fd, Fun K "_law_program" "_law_program" s__law_program a.f__law_program fd ∧ L2.Binds K fd ["_law_state", "_law_n", "_law_most"] []
  a__law_kinds : mg "_law_kinds" = some (.ref a.f__law_kinds)
  k__law_kinds : PySem.W.keepIn K (.ref a.f__law_kinds) = true
  F__law_kinds : ∃ fd, Fun K "_law_kinds" "_law_kinds" s__law_kinds a.f__law_kinds fd ∧ L2.Binds K fd ["_law_error"] []
  a__law_only : mg "_law_only" = some (.ref a.f__law_only)
  k__law_only : PySem.W.keepIn K (.ref a.f__law_only) = true
  F__law_only : ∃ fd, Fun K "_law_only" "_law_only" s__law_only a.f__law_only fd ∧ L2.Binds K fd ["_law_error", "_law_at"] []
  a__law_row_right : mg "_law_row_right" = some (.ref a.f__law_row_right)
  k__law_row_right : PySem.W.keepIn K (.ref a.f__law_row_right) = true
  F__law_row_right : ∃ fd, Fun K "_law_row_right" "_law_row_right" s__law_row_right a.f__law_row_right fd ∧ L2.Binds K fd ["_law_row", "_law_at", "_law_tells", "_law_n"] []
  a__law_fault : mg "_law_fault" = some (.ref a.f__law_fault)
  k__law_fault : PySem.W.keepIn K (.ref a.f__law_fault) = true
  F__law_fault : ∃ fd, Fun K "_law_fault" "_law_fault" s__law_fault a.f__law_fault fd ∧ L2.Binds K fd ["_law_program_here", "_law_n"] []
  a__law_odd : mg "_law_odd" = some (.ref a.f__law_odd)
  k__law_odd : PySem.W.keepIn K (.ref a.f__law_odd) = true
  F__law_odd : ∃ fd, Fun K "_law_odd" "_law_odd" s__law_odd a.f__law_odd fd ∧ L2.Binds K fd ["_law_state"] []
  a__law_bad_row : mg "_law_bad_row" = some (.ref a.f__law_bad_row)
  k__law_bad_row : PySem.W.keepIn K (.ref a.f__law_bad_row) = true
  F__law_bad_row : ∃ fd, Fun K "_law_bad_row" "_law_bad_row" s__law_bad_row a.f__law_bad_row fd ∧ L2.Binds K fd ["_law_state", "_law_program_here", "_law_at", "_law_n"] []
  a__law_spoilt : mg "_law_spoilt" = some (.ref a.f__law_spoilt)
  k__law_spoilt : PySem.W.keepIn K (.ref a.f__law_spoilt) = true
  F__law_spoilt : ∃ fd, Fun K "_law_spoilt" "_law_spoilt" s__law_spoilt a.f__law_spoilt fd ∧ L2.Binds K fd ["_law_state", "_law_program_here", "_law_n"] []
  a__law_digits : mg "_law_digits" = some (.ref a.f__law_digits)
  k__law_digits : PySem.W.keepIn K (.ref a.f__law_digits) = true
  F__law_digits : ∃ fd, Fun K "_law_digits" "_law_digits" s__law_digits a.f__law_digits fd ∧ L2.Binds K fd ["_law_word", "_law_signed"] []
  a__law_line : mg "_law_line" = some (.ref a.f__law_line)
  k__law_line : PySem.W.keepIn K (.ref a.f__law_line) = true
  F__law_line : ∃ fd, Fun K "_law_line" "_law_line" s__law_line a.f__law_line fd ∧ L2.Binds K fd ["_law_line_here"] []
  a__law_read : mg "_law_read" = some (.ref a.f__law_read)
  k__law_read : PySem.W.keepIn K (.ref a.f__law_read) = true
  F__law_read : ∃ fd, Fun K "_law_read" "_law_read" s__law_read a.f__law_read fd ∧ L2.Binds K fd ["_law_text"] []
  a__law_same : mg "_law_same" = some (.ref a.f__law_same)
  k__law_same : PySem.W.keepIn K (.ref a.f__law_same) = true
  F__law_same : ∃ fd, Fun K "_law_same" "_law_same" s__law_same a.f__law_same fd ∧ L2.Binds K fd ["_law_got", "_law_due"] []
  a__law_read_is : mg "_law_read_is" = some (.ref a.f__law_read_is)
  k__law_read_is : PySem.W.keepIn K (.ref a.f__law_read_is) = true
  F__law_read_is : ∃ fd, Fun K "_law_read_is" "_law_read_is" s__law_read_is a.f__law_read_is fd ∧ L2.Binds K fd ["_law_text"] []
  a__law_written : mg "_law_written" = some (.ref a.f__law_written)
  k__law_written : PySem.W.keepIn K (.ref a.f__law_written) = true
  F__law_written : ∃ fd, Fun K "_law_written" "_law_written" s__law_written a.f__law_written fd ∧ L2.Binds K fd ["_law_program_here"] []
  a__law_number : mg "_law_number" = some (.ref a.f__law_number)
  k__law_number : PySem.W.keepIn K (.ref a.f__law_number) = true
  F__law_number : ∃ fd, Fun K "_law_number" "_law_number" s__law_number a.f__law_number fd ∧ L2.Binds K fd ["_law_state"] []
  a__law_any_rows : mg "_law_any_rows" = some (.ref a.f__law_any_rows)
  k__law_any_rows : PySem.W.keepIn K (.ref a.f__law_any_rows) = true
  F__law_any_rows : ∃ fd, Fun K "_law_any_rows" "_law_any_rows" s__law_any_rows a.f__law_any_rows fd ∧ L2.Binds K fd ["_law_state"] []
  a__law_changed : mg "_law_changed" = some (.ref a.f__law_changed)
  k__law_changed : PySem.W.keepIn K (.ref a.f__law_changed) = true
  F__law_changed : ∃ fd, Fun K "_law_changed" "_law_changed" s__law_changed a.f__law_changed fd ∧ L2.Binds K fd ["_law_state", "_law_text"] []
  a__law_write_is : mg "_law_write_is" = some (.ref a.f__law_write_is)
  k__law_write_is : PySem.W.keepIn K (.ref a.f__law_write_is) = true
  F__law_write_is : ∃ fd, Fun K "_law_write_is" "_law_write_is" s__law_write_is a.f__law_write_is fd ∧ L2.Binds K fd ["_law_program_here"] []
  a__law_body : mg "_law_body" = some (.ref a.f__law_body)
  k__law_body : PySem.W.keepIn K (.ref a.f__law_body) = true
  F__law_body : ∃ fd, Fun K "_law_body" "_law_body" s__law_body a.f__law_body fd ∧ L2.Binds K fd ["_law_script"] []
  a_law : mg "law" = some (.ref a.f_law)
  k_law : PySem.W.keepIn K (.ref a.f_law) = true
  F_law : ∃ fd, Fun K "law" "law" s_law a.f_law fd ∧ L2.Binds K fd ["_law_script"] []
  A_JointError : mg "JointError" = some (.ref a.C_JointError)
  A_BadStructure : mg "BadStructure" = some (.ref a.C_BadStructure)
  A_BadModulus : mg "BadModulus" = some (.ref a.C_BadModulus)
  A_BadInputs : mg "BadInputs" = some (.ref a.C_BadInputs)
  A_BadCoins : mg "BadCoins" = some (.ref a.C_BadCoins)
  A_BadGroup : mg "BadGroup" = some (.ref a.C_BadGroup)
  A_BadLies : mg "BadLies" = some (.ref a.C_BadLies)
  A_BadTurn : mg "BadTurn" = some (.ref a.C_BadTurn)
  A_BadTalk : mg "BadTalk" = some (.ref a.C_BadTalk)
  A_BadTable : mg "BadTable" = some (.ref a.C_BadTable)
  A_BadProgram : mg "BadProgram" = some (.ref a.C_BadProgram)
  A_BadText : mg "BadText" = some (.ref a.C_BadText)
  X_BadText : ExcF K a.C_BadText a.g_BadText "place"
  I_BadText : ∃ fd, Fun K "__init__" "BadText.__init__" i_BadText a.g_BadText fd ∧ L2.Binds K fd ["self", "place"] []
  is_BadText_JointError : PySem.W.kitOne K (.ref a.C_BadText) (.ref a.C_JointError) = some true
  is_BadText_BadStructure : PySem.W.kitOne K (.ref a.C_BadText) (.ref a.C_BadStructure) = some false
  is_BadText_BadModulus : PySem.W.kitOne K (.ref a.C_BadText) (.ref a.C_BadModulus) = some false
  is_BadText_BadInputs : PySem.W.kitOne K (.ref a.C_BadText) (.ref a.C_BadInputs) = some false
  is_BadText_BadCoins : PySem.W.kitOne K (.ref a.C_BadText) (.ref a.C_BadCoins) = some false
  is_BadText_BadGroup : PySem.W.kitOne K (.ref a.C_BadText) (.ref a.C_BadGroup) = some false
  is_BadText_BadLies : PySem.W.kitOne K (.ref a.C_BadText) (.ref a.C_BadLies) = some false
  is_BadText_BadTurn : PySem.W.kitOne K (.ref a.C_BadText) (.ref a.C_BadTurn) = some false
  is_BadText_BadTalk : PySem.W.kitOne K (.ref a.C_BadText) (.ref a.C_BadTalk) = some false
  is_BadText_BadTable : PySem.W.kitOne K (.ref a.C_BadText) (.ref a.C_BadTable) = some false
  is_BadText_BadProgram : PySem.W.kitOne K (.ref a.C_BadText) (.ref a.C_BadProgram) = some false
  is_BadText_BadText : PySem.W.kitOne K (.ref a.C_BadText) (.ref a.C_BadText) = some true
  is_BadText_VE : PySem.W.kitOne K (.ref a.C_BadText) (.type "ValueError") = some true
  X_BadProgram : ExcF K a.C_BadProgram a.g_BadProgram "row"
  I_BadProgram : ∃ fd, Fun K "__init__" "BadProgram.__init__" i_BadProgram a.g_BadProgram fd ∧ L2.Binds K fd ["self", "row"] []
  is_BadProgram_JointError : PySem.W.kitOne K (.ref a.C_BadProgram) (.ref a.C_JointError) = some true
  is_BadProgram_BadStructure : PySem.W.kitOne K (.ref a.C_BadProgram) (.ref a.C_BadStructure) = some false
  is_BadProgram_BadModulus : PySem.W.kitOne K (.ref a.C_BadProgram) (.ref a.C_BadModulus) = some false
  is_BadProgram_BadInputs : PySem.W.kitOne K (.ref a.C_BadProgram) (.ref a.C_BadInputs) = some false
  is_BadProgram_BadCoins : PySem.W.kitOne K (.ref a.C_BadProgram) (.ref a.C_BadCoins) = some false
  is_BadProgram_BadGroup : PySem.W.kitOne K (.ref a.C_BadProgram) (.ref a.C_BadGroup) = some false
  is_BadProgram_BadLies : PySem.W.kitOne K (.ref a.C_BadProgram) (.ref a.C_BadLies) = some false
  is_BadProgram_BadTurn : PySem.W.kitOne K (.ref a.C_BadProgram) (.ref a.C_BadTurn) = some false
  is_BadProgram_BadTalk : PySem.W.kitOne K (.ref a.C_BadProgram) (.ref a.C_BadTalk) = some false
  is_BadProgram_BadTable : PySem.W.kitOne K (.ref a.C_BadProgram) (.ref a.C_BadTable) = some false
  is_BadProgram_BadProgram : PySem.W.kitOne K (.ref a.C_BadProgram) (.ref a.C_BadProgram) = some true
  is_BadProgram_BadText : PySem.W.kitOne K (.ref a.C_BadProgram) (.ref a.C_BadText) = some false
  is_BadProgram_VE : PySem.W.kitOne K (.ref a.C_BadProgram) (.type "ValueError") = some true
  sp_class : PySem.W.specialIn K (.builtin "object.__class__") "__get__" = some (some (.builtin "getset_descriptor.__get__"))
  tk_class : PySem.W.takesIn K (.builtin "object.__class__") = some true
  g_MOST_PEOPLE : mg "MOST_PEOPLE" = some (.int 8 a.t_MOST_PEOPLE)
  g_MOST_ROWS : mg "MOST_ROWS" = some (.int 400 a.t_MOST_ROWS)
  g_MOST_FIGURES : mg "MOST_FIGURES" = some (.int 60 a.t_MOST_FIGURES)
  g_FIGURES : mg "FIGURES" = some (.str "0123456789" a.t_FIGURES)
  g_FORMS : mg "FORMS" = some (.ref a.F_d)
  kd : KDict K w a.F_d a.F_es a.F_n
  kq : ∀ z : Str, PySem.W.nsIn K a.F_d z = some ((formAt a z).map Value.ref)
  kt_put : ∀ H, SqT K H a.F_put ((["row"] : List Str).map V.str)
  kt_number : ∀ H, SqT K H a.F_number ((["any"] : List Str).map V.str)
  kt_add : ∀ H, SqT K H a.F_add ((["row", "row"] : List Str).map V.str)
  kt_less : ∀ H, SqT K H a.F_less ((["row", "row"] : List Str).map V.str)
  kt_times : ∀ H, SqT K H a.F_times ((["row", "row"] : List Str).map V.str)
  kt_scale : ∀ H, SqT K H a.F_scale ((["any", "row"] : List Str).map V.str)
theorem bt_all : bootBuiltins "all" = some (.builtin "all") := by decide +kernel
theorem bt_abs : bootBuiltins "abs" = some (.builtin "abs") := by decide +kernel
theorem bt_enumerate : bootBuiltins "enumerate" = some (.type "enumerate") := by decide +kernel
theorem bt_int : bootBuiltins "int" = some (.type "int") := by decide +kernel
theorem bt_isinstance : bootBuiltins "isinstance" = some (.builtin "isinstance") := by decide +kernel
theorem bt_len : bootBuiltins "len" = some (.builtin "len") := by decide +kernel
theorem bt_list : bootBuiltins "list" = some (.type "list") := by decide +kernel
theorem bt_max : bootBuiltins "max" = some (.builtin "max") := by decide +kernel
theorem bt_min : bootBuiltins "min" = some (.builtin "min") := by decide +kernel
theorem bt_range : bootBuiltins "range" = some (.type "range") := by decide +kernel
theorem bt_str : bootBuiltins "str" = some (.type "str") := by decide +kernel
theorem bt_tuple : bootBuiltins "tuple" = some (.type "tuple") := by decide +kernel
theorem bt_zip : bootBuiltins "zip" = some (.type "zip") := by decide +kernel
theorem bt_bool : bootBuiltins "bool" = some (.type "bool") := by decide +kernel
theorem bt_ValueError : bootBuiltins "ValueError" = some (.type "ValueError") := by decide +kernel
theorem sc_is_integer : FnScope ["value"] ["value"] (defScope s_is_integer) := ⟨rfl, rfl, rfl, by decide +kernel, rfl, by decide +kernel, by decide +kernel⟩
theorem sc__law_integer : FnScope ["_law_value"] ["_law_value"] (defScope s__law_integer) := ⟨rfl, rfl, rfl, by decide +kernel, rfl, by decide +kernel, by decide +kernel⟩
theorem sc_is_listed : FnScope ["values", "value"] ["values"] (defScope s_is_listed) := ⟨rfl, rfl, rfl, by decide +kernel, rfl, by decide +kernel, by decide +kernel⟩
theorem sc_are_people : FnScope ["value", "n", "before", "person"] ["value", "n"] (defScope s_are_people) := ⟨rfl, rfl, rfl, by decide +kernel, rfl, by decide +kernel, by decide +kernel⟩
theorem sc_is_constant : FnScope ["value"] ["value"] (defScope s_is_constant) := ⟨rfl, rfl, rfl, by decide +kernel, rfl, by decide +kernel, by decide +kernel⟩
theorem sc_is_earlier : FnScope ["program", "number", "value"] ["program", "number", "value"] (defScope s_is_earlier) := ⟨rfl, rfl, rfl, by decide +kernel, rfl, by decide +kernel, by decide +kernel⟩
theorem sc_is_right : FnScope ["program", "number", "n", "row"] ["program", "number", "n"] (defScope s_is_right) := ⟨rfl, rfl, rfl, by decide +kernel, rfl, by decide +kernel, by decide +kernel⟩
theorem sc_check_program : FnScope ["program", "n", "number"] ["program", "n"] (defScope s_check_program) := ⟨rfl, rfl, rfl, by decide +kernel, rfl, by decide +kernel, by decide +kernel⟩
theorem sc_number_told : FnScope ["word", "figures", "figure"] ["word"] (defScope s_number_told) := ⟨rfl, rfl, rfl, by decide +kernel, rfl, by decide +kernel, by decide +kernel⟩
theorem sc_numbers_told : FnScope ["words", "kinds", "found", "word", "kind", "number"] ["words", "kinds"] (defScope s_numbers_told) := ⟨rfl, rfl, rfl, by decide +kernel, rfl, by decide +kernel, by decide +kernel⟩
theorem sc_row_told : FnScope ["line", "words", "word", "rest", "numbers", "_"] ["line"] (defScope s_row_told) := ⟨rfl, rfl, rfl, by decide +kernel, rfl, by decide +kernel, by decide +kernel⟩
theorem sc_read_program : FnScope ["text", "rows", "place", "line", "row"] ["text"] (defScope s_read_program) := ⟨rfl, rfl, rfl, by decide +kernel, rfl, by decide +kernel, by decide +kernel⟩
theorem sc_write_program : FnScope ["program", "lines", "row", "numbers", "number"] ["program"] (defScope s_write_program) := ⟨rfl, rfl, rfl, by decide +kernel, rfl, by decide +kernel, by decide +kernel⟩
theorem sc__law_start : FnScope ["_law_script"] ["_law_script"] (defScope s__law_start) := ⟨rfl, rfl, rfl, by decide +kernel, rfl, by decide +kernel, by decide +kernel⟩
theorem sc__law_draw : FnScope ["_law_state", "_law_limit", "_law_cell", "_law_got"] ["_law_state", "_law_limit"] (defScope s__law_draw) := ⟨rfl, rfl, rfl, by decide +kernel, rfl, by decide +kernel, by decide +kernel⟩
theorem sc__law_wide : FnScope ["_law_state", "_law_number_here", "_law_k", "_law_limit"] ["_law_state"] (defScope s__law_wide) := ⟨rfl, rfl, rfl, by decide +kernel, rfl, by decide +kernel, by decide +kernel⟩
theorem sc__law_people : FnScope ["_law_state", "_law_n", "_law_found", "_law_person"] ["_law_state", "_law_n"] (defScope s__law_people) := ⟨rfl, rfl, rfl, by decide +kernel, rfl, by decide +kernel, by decide +kernel⟩
theorem sc__law_constant : FnScope ["_law_state", "_law_kind", "_law_number_here"] ["_law_state"] (defScope s__law_constant) := ⟨rfl, rfl, rfl, by decide +kernel, rfl, by decide +kernel, by decide +kernel⟩
theorem sc__law_program : FnScope ["_law_state", "_law_n", "_law_most", "_law_found", "_law_usable", "_law_k", "_law_kind", "_law_i", "_law_j", "_law_row"] ["_law_state", "_law_n", "_law_most"] (defScope s__law_program) := ⟨rfl, rfl, rfl, by decide +kernel, rfl, by decide +kernel, by decide +kernel⟩
theorem sc__law_kinds : FnScope ["_law_error", "_law_found"] ["_law_error"] (defScope s__law_kinds) := ⟨rfl, rfl, rfl, by decide +kernel, rfl, by decide +kernel, by decide +kernel⟩
theorem sc__law_only : FnScope ["_law_error", "_law_at", "_law_k"] ["_law_error", "_law_at"] (defScope s__law_only) := ⟨rfl, rfl, rfl, by decide +kernel, rfl, by decide +kernel, by decide +kernel⟩
theorem sc__law_row_right : FnScope ["_law_row", "_law_at", "_law_tells", "_law_n", "_law_used", "_law_last", "_law_person", "_law_number_here"] ["_law_row", "_law_at", "_law_tells", "_law_n"] (defScope s__law_row_right) := ⟨rfl, rfl, rfl, by decide +kernel, rfl, by decide +kernel, by decide +kernel⟩
theorem sc__law_fault : FnScope ["_law_program_here", "_law_n", "_law_tells", "_law_at"] ["_law_program_here", "_law_n"] (defScope s__law_fault) := ⟨rfl, rfl, rfl, by decide +kernel, rfl, by decide +kernel, by decide +kernel⟩
theorem sc__law_odd : FnScope ["_law_state", "_law_kind"] ["_law_state"] (defScope s__law_odd) := ⟨rfl, rfl, rfl, by decide +kernel, rfl, by decide +kernel, by decide +kernel⟩
theorem sc__law_bad_row : FnScope ["_law_state", "_law_program_here", "_law_at", "_law_n", "_law_row", "_law_kind", "_law_place", "_law_people_here"] ["_law_state", "_law_program_here", "_law_at", "_law_n"] (defScope s__law_bad_row) := ⟨rfl, rfl, rfl, by decide +kernel, rfl, by decide +kernel, by decide +kernel⟩
theorem sc__law_spoilt : FnScope ["_law_state", "_law_program_here", "_law_n", "_law_made", "_law_k", "_law_at"] ["_law_state", "_law_program_here", "_law_n"] (defScope s__law_spoilt) := ⟨rfl, rfl, rfl, by decide +kernel, rfl, by decide +kernel, by decide +kernel⟩
theorem sc__law_digits : FnScope ["_law_word", "_law_signed", "_law_body_here", "_law_sign"] ["_law_word", "_law_signed"] (defScope s__law_digits) := ⟨rfl, rfl, rfl, by decide +kernel, rfl, by decide +kernel, by decide +kernel⟩
theorem sc__law_line : FnScope ["_law_line_here", "_law_words", "_law_many", "_law_kind", "_law_numbers", "_law_word", "_law_number_here"] ["_law_line_here"] (defScope s__law_line) := ⟨rfl, rfl, rfl, by decide +kernel, rfl, by decide +kernel, by decide +kernel⟩
theorem sc__law_read : FnScope ["_law_text", "_law_rows", "_law_line_here", "_law_row"] ["_law_text"] (defScope s__law_read) := ⟨rfl, rfl, rfl, by decide +kernel, rfl, by decide +kernel, by decide +kernel⟩
theorem sc__law_same : FnScope ["_law_got", "_law_due", "_law_row", "_law_other", "_law_people_here", "_law_number_here"] ["_law_got", "_law_due"] (defScope s__law_same) := ⟨rfl, rfl, rfl, by decide +kernel, rfl, by decide +kernel, by decide +kernel⟩
theorem sc__law_read_is : FnScope ["_law_text", "_law_place", "_law_due", "_law_got", "e"] ["_law_text"] (defScope s__law_read_is) := ⟨rfl, rfl, rfl, by decide +kernel, rfl, by decide +kernel, by decide +kernel⟩
theorem sc__law_written : FnScope ["_law_program_here", "_law_lines", "_law_row", "_law_words", "_law_part", "_law_person"] ["_law_program_here"] (defScope s__law_written) := ⟨rfl, rfl, rfl, by decide +kernel, rfl, by decide +kernel, by decide +kernel⟩
theorem sc__law_number : FnScope ["_law_state", "_law_kind"] ["_law_state"] (defScope s__law_number) := ⟨rfl, rfl, rfl, by decide +kernel, rfl, by decide +kernel, by decide +kernel⟩
theorem sc__law_any_rows : FnScope ["_law_state", "_law_found", "_law_k", "_law_kind", "_law_first", "_law_person"] ["_law_state"] (defScope s__law_any_rows) := ⟨rfl, rfl, rfl, by decide +kernel, rfl, by decide +kernel, by decide +kernel⟩
theorem sc__law_changed : FnScope ["_law_state", "_law_text", "_law_made", "_law_k", "_law_at", "_law_sign", "_law_kind"] ["_law_state", "_law_text"] (defScope s__law_changed) := ⟨rfl, rfl, rfl, by decide +kernel, rfl, by decide +kernel, by decide +kernel⟩
theorem sc__law_write_is : FnScope ["_law_program_here", "_law_fault_here", "_law_got", "e"] ["_law_program_here"] (defScope s__law_write_is) := ⟨rfl, rfl, rfl, by decide +kernel, rfl, by decide +kernel, by decide +kernel⟩
theorem sc__law_body : FnScope ["_law_script", "_law_state", "_law_text", "_law_other", "_law_short", "_law_k", "_law_texts", "_law_one", "_law_program_here"] ["_law_script"] (defScope s__law_body) := ⟨rfl, rfl, rfl, by decide +kernel, rfl, by decide +kernel, by decide +kernel⟩
theorem sc_law : FnScope ["_law_script"] ["_law_script"] (defScope s_law) := ⟨rfl, rfl, rfl, by decide +kernel, rfl, by decide +kernel, by decide +kernel⟩
theorem sci_BadText : FnScope ["self", "place"] ["self", "place"] (defScope i_BadText) := ⟨rfl, rfl, rfl, by decide +kernel, rfl, by decide +kernel, by decide +kernel⟩
theorem sci_BadProgram : FnScope ["self", "row"] ["self", "row"] (defScope i_BadProgram) := ⟨rfl, rfl, rfl, by decide +kernel, rfl, by decide +kernel, by decide +kernel⟩
end K17
/-! Readings, step by step: one lemma a construct, the reading kept folded; rules by folded names; loops; data on the heap. -/
namespace K17
open PySem L2
abbrev St := L2.St

/-! ### heaps -/
theorem same_new {H : Hp} {p : Addr} {o : HO} (h : H p = none) : Same H (upd H p o) := fun b x e => by
  rw [upd_ne (ne_of_none e h)]
  exact e
theorem same_at {H H' : Hp} (s : Same H H') {a : Addr} {o : HO} (h : H a = some o) : H' a = some o := s a o h
/-- all but what stands at st is as it was -/
def Ch (st : Addr) (H H' : Hp) : Prop := ∀ b o, b ≠ st → H b = some o → H' b = some o
theorem Ch.refl (st : Addr) (H : Hp) : Ch st H H := fun _ _ _ h => h
theorem Ch.trans {st : Addr} {H H1 H2 : Hp} (a : Ch st H H1) (b : Ch st H1 H2) : Ch st H H2 := fun c o n h => b c o n (a c o n h)
theorem Ch.of {st : Addr} {H H' : Hp} (s : Same H H') : Ch st H H' := fun b o _ h => s b o h
theorem ch_at {st : Addr} {H H' : Hp} (s : Ch st H H') {a : Addr} {o : HO} (n : a ≠ st) (h : H a = some o) : H' a = some o := s a o n h
theorem ch_upd {st : Addr} {H : Hp} {o : HO} : Ch st H (upd H st o) := fun b x n e => by
  rw [upd_ne n]
  exact e
theorem sz_of {n : Nat} (h : n ≤ 1000000) : n ≤ sizeLine := Nat.le_trans h (by decide)
theorem sz_lt {n : Nat} (h : n < 1000000) : n < sizeLine := Nat.lt_of_lt_of_le h (by decide)

/-! ### rules by folded names -/
section
variable {X : Cx}
def rLen (K : PySem.W.Frag) : List V → Hp → VK → Prop := fun xs H Q => ∃ p ys, xs = [.ref p] ∧ (SqL K H p ys ∨ SqT K H p ys) ∧ Q (.int ys.length) H
theorem c_len : CallR X (.builtin "len") (rLen X.K) := call_len_seq
def rLenS : List V → Hp → VK → Prop := fun xs H Q => ∃ z, xs = [.str z] ∧ z.length ≤ sizeLine ∧ Q (.int z.length) H
theorem c_lenS : CallR X (.builtin "len") rLenS := call_len_str
def rInt1 : List V → Hp → VK → Prop := fun xs H Q => (∃ i, xs = [.int i] ∧ Q (.int i) H) ∨ ∃ k, xs = [.bl k] ∧ Q (.int (if k = true then 1 else 0)) H
theorem c_int1 : CallR X (.type "int") rInt1 := call_int1
def rIntS : List V → Hp → VK → Prop := fun xs H Q => ∃ a n, xs = [.str a] ∧ PySem.intText? a = some n ∧ a.length ≤ 640 ∧ Q (.int n) H
theorem c_intS : CallR X (.type "int") rIntS := call_int_str
def rStrI : List V → Hp → VK → Prop := fun xs H Q => ∃ i, xs = [.int i] ∧ i.natAbs.log2 < 1920 ∧ Q (.str (Str.ofString (toString i))) H
theorem c_strI : CallR X (.type "str") rStrI := call_str_int
def rListOf (K : PySem.W.Frag) : List V → Hp → VK → Prop := fun xs H Q => ∃ p ys, xs = [.ref p] ∧ (SqL K H p ys ∨ SqT K H p ys) ∧ ∀ l, H l = none → Q (.ref l) (upd H l (.lst ys))
theorem c_listOf : CallR X (.type "list") (rListOf X.K) := call_list_of
def rTupOf (K : PySem.W.Frag) : List V → Hp → VK → Prop := fun xs H Q => ∃ p ys, xs = [.ref p] ∧ ((SqL K H p ys ∧ ∀ l, H l = none → Q (.ref l) (upd H l (.tup ys))) ∨ (SqT K H p ys ∧ Q (.ref p) H))
theorem c_tupOf : CallR X (.type "tuple") (rTupOf X.K) := call_tuple_of
def rAbs : List V → Hp → VK → Prop := fun xs H Q => ∃ i, xs = [.int i] ∧ Q (.int (if i < 0 then -i else i)) H
theorem c_abs : CallR X (.builtin "abs") rAbs := call_abs
def rMin2 : List V → Hp → VK → Prop := fun xs H Q => ∃ i j, xs = [.int i, .int j] ∧ Q (.int (if j < i then j else i)) H
theorem c_min (hc : X.calm = true) : CallR X (.builtin "min") rMin2 := call_min2 hc
def rMax2 : List V → Hp → VK → Prop := fun xs H Q => ∃ i j, xs = [.int i, .int j] ∧ Q (.int (if j > i then j else i)) H
theorem c_max (hc : X.calm = true) : CallR X (.builtin "max") rMax2 := call_max2 hc
def rAddS : R2 := fun x y H Q => ∃ i j, x = .str i ∧ y = .str j ∧ i.length + j.length ≤ sizeLine ∧ Q (.str (i ++ j)) H
theorem o_addS : OpR X (binaryOp .Add) rAddS := op_add_str
def rIsN : R2 := fun x y H Q => y = .non ∧ Q (.bl (decide (x = .non))) H
def rNotN : R2 := fun x y H Q => y = .non ∧ Q (.bl (!decide (x = .non))) H
theorem o_isN : OpR X (compareOp .Is) rIsN := op_isN
theorem o_notN : OpR X (compareOp .IsNot) rNotN := op_notN
def rInS : R2 := fun x y H Q => ∃ (c : Nat) (z : Str), x = .str ⟨#[c]⟩ ∧ y = .str z ∧ Q (.bl (decide (c ∈ z.cps.toList))) H
def rNotInS : R2 := fun x y H Q => ∃ (c : Nat) (z : Str), x = .str ⟨#[c]⟩ ∧ y = .str z ∧ Q (.bl (!decide (c ∈ z.cps.toList))) H
theorem o_inS : OpR X (compareOp .In) rInS := op_in_sign
theorem o_notInS : OpR X (compareOp .NotIn) rNotInS := op_notIn_sign
def rNotInK (K : PySem.W.Frag) (d : Addr) : R2 := fun x y H Q => ∃ (z : Str) (r : Option Value), x = .str z ∧ y = .ref d ∧ PySem.W.nsIn K d z = some r ∧ Q (.bl (!r.isSome)) H
theorem o_notInK {d : Addr} {es : Array DictEntry} {n : Nat} (D : KDict X.K X.w d es n) : OpR X (compareOp .NotIn) (rNotInK X.K d) := op_notIn_kd D
def rRmPre : V → List V → Hp → VK → Prop := fun x xs H Q => ∃ a b, x = .str a ∧ xs = [.str b] ∧ a.length ≤ sizeLine ∧ Q (.str (Txt.removeprefix a b)) H
theorem m_rmPre : MtR X "str.removeprefix" rRmPre := mt_removeprefix
def rSplit : V → List V → Hp → VK → Prop := fun x xs H Q => ∃ a b, x = .str a ∧ xs = [.str b] ∧ (b.length == 0) = false ∧ a.length + 2 ≤ sizeLine ∧ rNewStrs (Txt.split a b) H Q
def rJoin (K : PySem.W.Frag) : V → List V → Hp → VK → Prop := fun x xs H Q => ∃ a p, ∃ ys : List Str, x = .str a ∧ xs = [.ref p] ∧ (SqL K H p (ys.map V.str) ∨ SqT K H p (ys.map V.str)) ∧
    (ys.map (·.length)).sum + ys.length * a.length ≤ 16777216 ∧ Q (.str (Txt.join a ys)) H
theorem e_split {o e : Expr} {to te : TE} {apos pos : Pos} (ho : PE X o to) (he : PE X e te) (hs : starEach [e] X.env = [(false, eval e X.env)] := by rfl) (hbase : attributeBase o "split" X.env (eval o X.env) = eval o X.env := by rfl) (hline : (apos.endLine == pos.line) = true := by rfl) :
    PE X (.Call (.Attribute o "split" apos) [e] [] pos) (tM1 rSplit to te) := pe_split ho he hs hbase hline
theorem e_join {o e : Expr} {to te : TE} {apos pos : Pos} (ho : PE X o to) (he : PE X e te) (hs : starEach [e] X.env = [(false, eval e X.env)] := by rfl) (hbase : attributeBase o "join" X.env (eval o X.env) = eval o X.env := by rfl) (hline : (apos.endLine == pos.line) = true := by rfl) :
    PE X (.Call (.Attribute o "join" apos) [e] [] pos) (tM1 (rJoin X.K) to te) := pe_join ho he hs hbase hline
end

/-! ### steps -/
section
variable {K : PySem.W.Frag} {σ : St} {H : Hp} {Q : VK} {D : Ends} {te ta tb tc : TE} {t u : TT} {tr : TA} {t1 t2 : TS} {r r' : R2} {i j : Int} {x y v : V} {b : Bool}
theorem w_seq (h : t1 { D with nx := t2 D } σ H) : tSeq t1 t2 D σ H := h
theorem w_set {k : Nat} (h : te σ H fun v H1 => D.nx (σ.set k (some v)) H1) : tAsg te (gName k) D σ H := h
theorem w_ret (h : te σ H D.rt) : tRet te D σ H := h
theorem w_if (h : t σ H fun b H1 => if b = true then t1 D σ H1 else t2 D σ H1) : tIfS t t1 t2 D σ H := h
theorem w_drop (h : te σ H fun _ H1 => D.nx σ H1) : tDrop te D σ H := h
theorem w_next (h : D.nx σ H) : tNext D σ H := h
theorem w_var {k : Nat} (e : σ[k]? = some (some v)) (h : Q v H) : tVar k σ H Q := ⟨v, e, h⟩
theorem w_c (h : Q v H) : tC v σ H Q := h
theorem w_op (h : ta σ H fun x H1 => tb σ H1 fun y H2 => r x y H2 Q) : tOp r ta tb σ H Q := h
theorem w_un {g : V → Hp → VK → Prop} (h : ta σ H fun x H1 => g x H1 Q) : tUn g ta σ H Q := h
theorem w_cb {g : List V → Hp → VK → Prop} (h : tr σ H fun vs H1 => g vs H1 Q) : tCB g tr σ H Q := h
theorem w_call {sp : Sp} {E : XK} (h : tr σ H fun vs H1 => sp vs H1 Q E) : tCall sp [] E tr σ H Q := by
  have e : (fun (vs : List V) (H1 : Hp) => sp (vs ++ []) H1 Q E) = fun vs H1 => sp vs H1 Q E := by
    funext vs H1
    rw [List.append_nil]
  show tr σ H fun vs H1 => sp (vs ++ []) H1 Q E
  rw [e]
  exact h
theorem w_callS {sp : Sp} {E : St → XK} (h : tr σ H fun vs H1 => sp vs H1 Q (E σ)) : tCallS sp E tr σ H Q := h
theorem w_nil {R : List V → Hp → Prop} (h : R [] H) : tNil σ H R := h
theorem w_cons {R : List V → Hp → Prop} (h : ta σ H fun x H1 => tr σ H1 fun xs H2 => R (x :: xs) H2) : tCons ta tr σ H R := h
theorem w_test {R : Bool → Hp → Prop} (h : te σ H fun x H1 => ∃ k, x = .bl k ∧ R k H1) : tTest te σ H R := h
theorem w_B {R : Bool → Hp → Prop} (h : te σ H fun x H1 => ∃ k, x = .bl k ∧ R k H1) : tB te σ H R := h
theorem w_bl {R : Bool → Prop} (h : R b) : ∃ k, V.bl b = .bl k ∧ R k := ⟨b, rfl, h⟩
theorem w_and {R : Bool → Hp → Prop} (h : t σ H fun c H1 => if c = true then u σ H1 R else R false H1) : tAnd t u σ H R := h
theorem w_or {R : Bool → Hp → Prop} (h : t σ H fun c H1 => if c = true then R true H1 else u σ H1 R) : tOr t u σ H R := h
theorem w_not {R : Bool → Hp → Prop} (h : t σ H fun c H1 => R (!c) H1) : tNot t σ H R := h
theorem w_andV (h : ta σ H fun x H1 => ∃ c, x = .bl c ∧ if c = true then tb σ H1 Q else Q (.bl false) H1) : tAndV ta tb σ H Q := h
theorem w_orV (h : ta σ H fun x H1 => ∃ c, x = .bl c ∧ if c = true then Q (.bl true) H1 else tb σ H1 Q) : tOrV ta tb σ H Q := h
theorem w_notV (h : ta σ H fun x H1 => ∃ c, x = .bl c ∧ Q (.bl (!c)) H1) : tNotV ta σ H Q := h
theorem w_ifE (h : t σ H fun c H1 => if c = true then ta σ H1 Q else tb σ H1 Q) : tIf t ta tb σ H Q := h
theorem w_chain (h : ta σ H fun x H1 => tb σ H1 fun y H2 => r x y H2 fun z H3 => ∃ k, z = .bl k ∧ (if k = true then tc σ H3 fun w' H4 => r' y w' H4 Q else Q (.bl false) H3)) : tChain r r' ta tb tc σ H Q := h
/-! tests that are decided -/
theorem w_ite {A B : Prop} (h1 : b = true → A) (h2 : b = false → B) : if b = true then A else B := by
  cases b with
  | true => exact iteT (h1 rfl)
  | false => exact iteF (h2 rfl)
theorem w_dec {p A B : Prop} [Decidable p] (h1 : p → A) (h2 : ¬ p → B) : if decide p = true then A else B := ite2 (fun h => h1 (of_decide_eq_true h)) (fun h => h2 fun q => h (decide_eq_true q))
theorem w_ndec {p A B : Prop} [Decidable p] (h1 : ¬ p → A) (h2 : p → B) : if (!decide p) = true then A else B := by
  by_cases q : p
  · rw [decide_eq_true q]
    exact iteF (h2 q)
  · rw [decide_eq_false q]
    exact iteT (h1 q)
theorem w_nite {A B : Prop} (h1 : b = false → A) (h2 : b = true → B) : if (!b) = true then A else B := by
  cases b with
  | true => exact iteF (h2 rfl)
  | false => exact iteT (h1 rfl)
/-! operators -/
theorem w_ii {g : Int → Int → V} (h : Q (g i j) H) : rI0 g (.int i) (.int j) H Q := ⟨i, j, rfl, rfl, h⟩
theorem w_iic {C : Int → Int → Prop} {g : Int → Int → V} (hc : C i j) (h : Q (g i j) H) : rI C g (.int i) (.int j) H Q := ⟨i, j, rfl, rfl, hc, h⟩
theorem w_iu {g : Int → V} (h : Q (g i) H) : rU g (.int i) H Q := ⟨i, rfl, h⟩
theorem w_eqI (h : Q (.bl (decide (i = j))) H) : rEq (.int i) (.int j) H Q := ⟨rfl, by
  rw [show decide (V.int i = V.int j) = decide (i = j) by simp]
  exact h⟩
theorem w_eqS {i j : Str} (h : Q (.bl (decide (i = j))) H) : rEq (.str i) (.str j) H Q := ⟨rfl, by
  rw [show decide (V.str i = V.str j) = decide (i = j) by simp]
  exact h⟩
theorem w_neI (h : Q (.bl (!decide (i = j))) H) : rNe (.int i) (.int j) H Q := ⟨rfl, by
  rw [show decide (V.int i = V.int j) = decide (i = j) by simp]
  exact h⟩
theorem w_neS {i j : Str} (h : Q (.bl (!decide (i = j))) H) : rNe (.str i) (.str j) H Q := ⟨rfl, by
  rw [show decide (V.str i = V.str j) = decide (i = j) by simp]
  exact h⟩
theorem w_isN (h : Q (.bl (decide (x = .non))) H) : rIsN x .non H Q := ⟨rfl, h⟩
theorem w_notN (h : Q (.bl (!decide (x = .non))) H) : rNotN x .non H Q := ⟨rfl, h⟩
theorem w_inS {c : Nat} {z : Str} (h : Q (.bl (decide (c ∈ z.cps.toList))) H) : rInS (.str ⟨#[c]⟩) (.str z) H Q := ⟨c, z, rfl, rfl, h⟩
theorem w_notInS {c : Nat} {z : Str} (h : Q (.bl (!decide (c ∈ z.cps.toList))) H) : rNotInS (.str ⟨#[c]⟩) (.str z) H Q := ⟨c, z, rfl, rfl, h⟩
theorem w_addS {i j : Str} (hz : i.length + j.length ≤ sizeLine) (h : Q (.str (i ++ j)) H) : rAddS (.str i) (.str j) H Q := ⟨i, j, rfl, rfl, hz, h⟩
theorem w_int1 (h : Q (.int i) H) : rInt1 [.int i] H Q := .inl ⟨i, rfl, h⟩
theorem w_intS {a : Str} {n : Int} (h1 : PySem.intText? a = some n) (h2 : a.length ≤ 640) (h : Q (.int n) H) : rIntS [.str a] H Q := ⟨a, n, rfl, h1, h2, h⟩
theorem w_strI (h1 : i.natAbs.log2 < 1920) (h : Q (.str (strI i)) H) : rStrI [.int i] H Q := ⟨i, rfl, h1, h⟩
theorem w_abs (h : Q (.int (if i < 0 then -i else i)) H) : rAbs [.int i] H Q := ⟨i, rfl, h⟩
theorem w_min (h : Q (.int (if j < i then j else i)) H) : rMin2 [.int i, .int j] H Q := ⟨i, j, rfl, h⟩
theorem w_max (h : Q (.int (if j > i then j else i)) H) : rMax2 [.int i, .int j] H Q := ⟨i, j, rfl, h⟩
theorem w_lenS {z : Str} (hz : z.length ≤ sizeLine) (h : Q (.int z.length) H) : rLenS [.str z] H Q := ⟨z, rfl, hz, h⟩
theorem w_lenL {p : Addr} {ys : List V} (hp : H p = some (.lst ys)) (h : Q (.int ys.length) H) : rLen K [.ref p] H Q := ⟨p, ys, rfl, .inl (SqL.of hp), h⟩
theorem w_lenT {p : Addr} {ys : List V} (hp : H p = some (.tup ys)) (h : Q (.int ys.length) H) : rLen K [.ref p] H Q := ⟨p, ys, rfl, .inr (SqT.of hp), h⟩
theorem w_lenKT {p : Addr} {ys : List V} (hp : SqT K H p ys) (h : Q (.int ys.length) H) : rLen K [.ref p] H Q := ⟨p, ys, rfl, .inr hp, h⟩
theorem w_ixL {p : Addr} {xs : List V} (hp : H p = some (.lst xs)) (ha : atI xs i = some v) (h : Q v H) : rIxL K (.ref p) (.int i) H Q := ⟨p, xs, i, v, rfl, rfl, SqL.of hp, ha, h⟩
theorem w_ixT {p : Addr} {xs : List V} (hp : H p = some (.tup xs)) (ha : atI xs i = some v) (h : Q v H) : rIxT K (.ref p) (.int i) H Q := ⟨p, xs, i, v, rfl, rfl, SqT.of hp, ha, h⟩
theorem w_ixS {z : Str} {c : Nat} (hz : z.length ≤ sizeLine) (ha : atI z.cps.toList i = some c) (h : Q (.str ⟨#[c]⟩) H) : rIxS (.str z) (.int i) H Q := ⟨z, i, c, rfl, rfl, hz, ha, h⟩
/-! new objects: what was tracked stands, the object stands at a new place -/
def NewT (Q : VK) (xs : List V) (H : Hp) : Prop := xs.length ≤ sizeLine ∧ ∀ p, H p = none → Q (.ref p) (upd H p (.tup xs))
def NewL (Q : VK) (xs : List V) (H : Hp) : Prop := xs.length ≤ sizeLine ∧ ∀ p, H p = none → Q (.ref p) (upd H p (.lst xs))
theorem w_tup (h : tr σ H fun xs H1 => NewT Q xs H1) : tTup tr σ H Q := h
theorem w_lst (h : tr σ H fun xs H1 => NewL Q xs H1) : tLst tr σ H Q := h
theorem w_newT {xs : List V} (hz : xs.length ≤ 1000000) (h : ∀ p H', H p = none → Same H H' → H' p = some (.tup xs) → Q (.ref p) H') : NewT Q xs H := ⟨sz_of hz, fun p hp => h p _ hp (same_new hp) upd_same⟩
theorem w_newL {xs : List V} (hz : xs.length ≤ 1000000) (h : ∀ p H', H p = none → Same H H' → H' p = some (.lst xs) → Q (.ref p) H') : NewL Q xs H := ⟨sz_of hz, fun p hp => h p _ hp (same_new hp) upd_same⟩
theorem w_slL {p : Addr} {xs : List V} {lo hi : Option Int} (hp : H p = some (.lst xs)) (h : ∀ q H', H q = none → Same H H' → H' q = some (.lst (cutV xs lo hi)) → Q (.ref q) H') : rSlL K (.ref p) lo hi H Q :=
  ⟨p, xs, rfl, SqL.of hp, fun q hq => h q _ hq (same_new hq) upd_same⟩
theorem w_slS {z : Str} {lo hi : Option Int} (hz : z.length ≤ sizeLine) (h : Q (.str (cutS z lo hi)) H) : rSlS (.str z) lo hi H Q := ⟨z, rfl, hz, h⟩
/-- t[lo:hi], a new tuple or t itself: the items anyway -/
theorem w_slT {p : Addr} {xs : List V} {lo hi : Option Int} (hp : H p = some (.tup xs)) (h : ∀ q H', Same H H' → H' q = some (.tup (cutV xs lo hi)) → Q (.ref q) H') : rSlA K (.ref p) lo hi H Q := by
  refine ⟨p, xs, rfl, SqT.of hp, fun hw => h p H (Same.refl H) ?_, fun _ q hq => h q _ (same_new hq) upd_same⟩
  have e : cutV xs lo hi = xs := by
    unfold cutV
    rw [hw.1, hw.2]
    simp
  rw [e]
  exact hp
/-- t + u -/
theorem w_catT {p q : Addr} {xs ys : List V} (hp : H p = some (.tup xs)) (hq : H q = some (.tup ys)) (hz : xs.length + ys.length ≤ 1000000) (h : ∀ c H', Same H H' → H' c = some (.tup (xs ++ ys)) → Q (.ref c) H') : rCatA K (.ref p) (.ref q) H Q := by
  refine ⟨p, q, xs, ys, rfl, rfl, SqT.of hp, SqT.of hq, sz_of hz, fun e => h q H (Same.refl H) ?_, fun _ e => h p H (Same.refl H) ?_, fun _ _ c hc => h c _ (same_new hc) upd_same⟩
  · rw [e, List.nil_append]; exact hq
  · rw [e, List.append_nil]; exact hp
theorem w_catL {p q : Addr} {xs ys : List V} (hp : H p = some (.lst xs)) (hq : H q = some (.lst ys)) (hz : xs.length + ys.length ≤ 1000000) (h : ∀ c H', H c = none → Same H H' → H' c = some (.lst (xs ++ ys)) → Q (.ref c) H') : rCat (.ref p) (.ref q) H Q :=
  ⟨p, q, xs, ys, rfl, rfl, hp, hq, sz_of hz, fun c hc => h c _ hc (same_new hc) upd_same⟩
theorem w_listL {p : Addr} {ys : List V} (hp : SqL K H p ys ∨ SqT K H p ys) (h : ∀ l H', H l = none → Same H H' → H' l = some (.lst ys) → Q (.ref l) H') : rListOf K [.ref p] H Q := ⟨p, ys, rfl, hp, fun l hl => h l _ hl (same_new hl) upd_same⟩
theorem w_tupL {p : Addr} {ys : List V} (hp : H p = some (.lst ys)) (h : ∀ l H', H l = none → Same H H' → H' l = some (.tup ys) → Q (.ref l) H') : rTupOf K [.ref p] H Q := ⟨p, ys, rfl, .inl ⟨SqL.of hp, fun l hl => h l _ hl (same_new hl) upd_same⟩⟩
theorem w_sl {g : V → Option Int → Option Int → Hp → VK → Prop} {tl th : TO} (h : te σ H fun x H1 => tl σ H1 fun l H2 => th σ H2 fun u H3 => g x l u H3 Q) : tSl g te tl th σ H Q := h
theorem w_noPart {R : Option Int → Hp → Prop} (h : R none H) : tNoPart σ H R := h
theorem w_part {R : Option Int → Hp → Prop} (h : te σ H fun x H1 => ∃ i, x = .int i ∧ R (some i) H1) : tPart te σ H R := h
theorem w_pi {R : Int → Prop} (h : R i) : ∃ k, V.int i = .int k ∧ R k := ⟨i, rfl, h⟩
/-! methods -/
theorem w_bm {T : String} {g : V → List V → Hp → VK → Prop} (h : te σ H fun x H1 => tyV K T x H1 ∧ tr σ H1 fun xs H2 => g x xs H2 Q) : tBM K T g te tr σ H Q := h
theorem w_tyL {l : Addr} {xs : List V} {P : Prop} (hl : H l = some (.lst xs)) (h : P) : tyV K "list" (.ref l) H ∧ P := ⟨Or.inl ⟨rfl, xs, SqL.of hl⟩, h⟩
theorem w_tyS {z : Str} {P : Prop} (h : P) : tyV K "str" (.str z) H ∧ P := ⟨rfl, h⟩
theorem w_app {l : Addr} {xs : List V} (hl : H l = some (.lst xs)) (hz : xs.length < 1000000) (h : Q .non (upd H l (.lst (xs ++ [y])))) : rAppend (.ref l) [y] H Q := ⟨l, xs, y, rfl, rfl, hl, sz_lt hz, h⟩
theorem w_rmPre {a c : Str} (hz : a.length ≤ sizeLine) (h : Q (.str (Txt.removeprefix a c)) H) : rRmPre (.str a) [.str c] H Q := ⟨a, c, rfl, rfl, hz, h⟩
theorem w_m1 {g : V → List V → Hp → VK → Prop} (h : ta σ H fun x H1 => (∃ a, x = .str a) ∧ tb σ H1 fun y H2 => g x [y] H2 Q) : tM1 g ta tb σ H Q := h
theorem w_str {z : Str} {P : Prop} (h : P) : (∃ a, V.str z = .str a) ∧ P := ⟨⟨z, rfl⟩, h⟩
theorem w_split {a c : Str} (hc : (c.length == 0) = false) (hz : a.length + 2 ≤ sizeLine) (h : ∀ p H', H p = none → Same H H' → H' p = some (.lst ((Txt.split a c).map V.str)) → Q (.ref p) H') : rSplit (.str a) [.str c] H Q :=
  ⟨a, c, rfl, rfl, hc, hz, fun p hp => h p _ hp (same_new hp) upd_same⟩
theorem w_join {a : Str} {p : Addr} {ys : List Str} (hp : H p = some (.lst (ys.map V.str))) (hz : (ys.map (·.length)).sum + ys.length * a.length ≤ 16777216) (h : Q (.str (Txt.join a ys)) H) : rJoin K (.str a) [.ref p] H Q :=
  ⟨a, p, ys, rfl, rfl, .inl (SqL.of hp), hz, h⟩
theorem w_setL {p : Addr} {xs : List V} {k : Int} {n : Nat} {R : Hp → Prop} (hp : H p = some (.lst xs)) (hk : ixN xs.length k = some n) (h : R (upd H p (.lst (xs.set n v)))) : rSetL (.ref p) (.int k) v H R := ⟨p, xs, k, n, rfl, rfl, hp, hk, h⟩
theorem w_asgSub {to ti : TE} {ts : TSet} (h : te σ H fun v H1 => to σ H1 fun o H2 => ti σ H2 fun i H3 => ts o i v H3 fun H4 => D.nx σ H4) : tAsg te (gSub to ti ts) D σ H := h
end

/-! ### loops -/
section
variable {K : PySem.W.Frag} {σ : St} {H : Hp} {D : Ends} {tl : TE} {tr : TA} {tb : TS} {k : Nat}
def LoopL (K : PySem.W.Frag) (g : TG) (tb : TS) (D : Ends) (σ : St) (x : V) (H : Hp) : Prop := ∃ a, x = .ref a ∧ (∃ xs, SqL K H a xs) ∧ tFor (fun _ H R => R (Itl K a) H) g tb D σ H
def LoopT (K : PySem.W.Frag) (g : TG) (tb : TS) (D : Ends) (σ : St) (x : V) (H : Hp) : Prop := ∃ a, x = .ref a ∧ (∃ xs, SqT K H a xs) ∧ tFor (fun _ H R => R (Itt K a) H) g tb D σ H
theorem w_forL {g : TG} (h : tl σ H fun x H1 => LoopL K g tb D σ x H1) : tFor (iList K tl) g tb D σ H := h
theorem w_forT {g : TG} (h : tl σ H fun x H1 => LoopT K g tb D σ x H1) : tFor (iTup K tl) g tb D σ H := h
theorem w_loopL {a : Addr} {xs : List V} (hx : SqL K H a xs) (Pv : Nat → St → Hp → Prop) (h0 : Pv 0 σ H) (hl : ∀ j σ' H', Pv j σ' H' → SqL K H' a xs)
    (hs : ∀ j x σ' H', xs[j]? = some x → Pv j σ' H' → tb { D with nx := Pv (j + 1), ct := Pv (j + 1), bk := D.nx } (σ'.set k (some x)) H') (hd : ∀ σ' H', Pv xs.length σ' H' → D.nx σ' H') : LoopL K (gName k) tb D σ (.ref a) H :=
  ⟨a, rfl, ⟨xs, hx⟩, for_list (K := K) (a := a) (xs := xs) Pv h0 (fun j σ' H' _ p => hl j σ' H' p) (fun j x σ' H' hi p => hs j x σ' H' hi p) hd⟩
theorem w_loopT {a : Addr} {xs : List V} (hx : SqT K H a xs) (Pv : Nat → St → Hp → Prop) (h0 : Pv 0 σ H) (hl : ∀ j σ' H', Pv j σ' H' → SqT K H' a xs)
    (hs : ∀ j x σ' H', xs[j]? = some x → Pv j σ' H' → tb { D with nx := Pv (j + 1), ct := Pv (j + 1), bk := D.nx } (σ'.set k (some x)) H') (hd : ∀ σ' H', Pv xs.length σ' H' → D.nx σ' H') : LoopT K (gName k) tb D σ (.ref a) H :=
  ⟨a, rfl, ⟨xs, hx⟩, for_tup (K := K) (a := a) (xs := xs) Pv h0 (fun j σ' H' _ p => hl j σ' H' p) (fun j x σ' H' hi p => hs j x σ' H' hi p) hd⟩
def LoopR1 (g : TG) (tb : TS) (D : Ends) (σ : St) (vs : List V) (H : Hp) : Prop := ∃ j : Int, vs = [.int j] ∧ -(2 ^ 62) ≤ j ∧ j < 2 ^ 62 ∧ tFor (fun _ H R => R (Itr 0 j.toNat) H) g tb D σ H
theorem w_forR1 {g : TG} (h : tr σ H fun vs H1 => LoopR1 g tb D σ vs H1) : tFor (iRng1 tr) g tb D σ H := h
/-- range(n) -/
theorem w_loopR1 {n : Int} (h1 : -1000000 ≤ n) (h2 : n ≤ 1000000) (Pv : Nat → St → Hp → Prop) (h0 : Pv 0 σ H)
    (hs : ∀ (j : Nat) σ' H', j < n.toNat → Pv j σ' H' → tb { D with nx := Pv (j + 1), ct := Pv (j + 1), bk := D.nx } (σ'.set k (some (.int (j : Int)))) H') (hd : ∀ σ' H', Pv n.toNat σ' H' → D.nx σ' H') : LoopR1 (gName k) tb D σ [.int n] H :=
  ⟨n, rfl, by omega, by omega, for_range (lo := 0) (n := n.toNat) Pv h0 (fun j σ' H' hj p => by
    have e : (0 : Int) + (j : Nat) = (j : Int) := Int.zero_add _
    show tb { D with nx := Pv (j + 1), ct := Pv (j + 1), bk := D.nx } (σ'.set k (some (.int ((0 : Int) + (j : Nat))))) H'
    rw [e]
    exact hs j σ' H' hj p) hd⟩
def LoopS (g : TG) (tb : TS) (D : Ends) (σ : St) (x : V) (H : Hp) : Prop := ∃ z, x = .str z ∧ tFor (fun _ H R => R (Its z) H) g tb D σ H
theorem w_forS {g : TG} (h : tl σ H fun x H1 => LoopS g tb D σ x H1) : tFor (iStr tl) g tb D σ H := h
/-- sign by sign -/
theorem w_loopS {z : Str} (Pv : Nat → St → Hp → Prop) (h0 : Pv 0 σ H)
    (hs : ∀ (j : Nat) (c : Nat) σ' H', (TL.tl z)[j]? = some c → Pv j σ' H' → tb { D with nx := Pv (j + 1), ct := Pv (j + 1), bk := D.nx } (σ'.set k (some (.str ⟨#[c]⟩))) H') (hd : ∀ σ' H', Pv (TL.tl z).length σ' H' → D.nx σ' H') : LoopS (gName k) tb D σ (.str z) H := by
  have hz : (TL.tl z).length = z.cps.size := by
    show z.cps.toList.length = _
    exact Array.length_toList
  refine ⟨z, rfl, ?_⟩
  show ∃ W : Nat → Nat → St → Hp → Prop, _
  refine ⟨fun i m σ' H' => m = z.cps.size - i ∧ i ≤ z.cps.size ∧ Pv i σ' H', ⟨z.cps.size, by simp, Nat.zero_le _, h0⟩, ?_⟩
  rintro i m σ' H' ⟨rfl, hi, p⟩
  by_cases hlt : i < z.cps.size
  · refine .inr ⟨hlt, Pv (i + 1), fun σ2 H2 p' => ⟨z.cps.size - (i + 1), by omega, rfl, hlt, p'⟩, fun x H2 y => ?_⟩
    obtain ⟨rfl, c, hc, rfl⟩ := y
    refine hs i c σ' _ ?_ p
    show z.cps.toList[i]? = some c
    rw [Array.getElem?_toList]
    exact hc
  · have e : i = z.cps.size := by omega
    subst e
    refine .inl ⟨Nat.le_refl _, hd σ' H' ?_⟩
    rw [hz]
    exact p
end

/-! ### comprehensions -/
section
variable {K : PySem.W.Frag} {σ : St} {H : Hp} {Q : VK} {te tl : TE} {tt : TT} {tr : TA} {k : Nat} {vs : List Nat}
def CompL (K : PySem.W.Frag) (g : TG) (tt : TT) (te : TE) (vs : List Nat) (σ : St) (x : V) (H : Hp) (Q : VK) : Prop := ∃ a, x = .ref a ∧ (∃ xs, SqL K H a xs) ∧ tLc (fun _ H R => R (Itl K a) H) g tt te vs σ H Q
def CompT (K : PySem.W.Frag) (g : TG) (tt : TT) (te : TE) (vs : List Nat) (σ : St) (x : V) (H : Hp) (Q : VK) : Prop := ∃ a, x = .ref a ∧ (∃ xs, SqT K H a xs) ∧ tLc (fun _ H R => R (Itt K a) H) g tt te vs σ H Q
theorem w_lcL {g : TG} (h : tl σ H fun x H1 => CompL K g tt te vs σ x H1 Q) : tLc (iList K tl) g tt te vs σ H Q := h
theorem w_lcT {g : TG} (h : tl σ H fun x H1 => CompT K g tt te vs σ x H1 Q) : tLc (iTup K tl) g tt te vs σ H Q := h
def CompR (g : TG) (tt : TT) (te : TE) (vs : List Nat) (σ : St) (ws : List V) (H : Hp) (Q : VK) : Prop := ∃ lo hi : Int, (ws = [.int hi] ∧ lo = 0 ∨ ws = [.int lo, .int hi]) ∧ -(2 ^ 62) ≤ lo ∧ lo < 2 ^ 62 ∧ -(2 ^ 62) ≤ hi ∧ hi < 2 ^ 62 ∧ tLc (fun _ H R => R (Itr lo (hi - lo).toNat) H) g tt te vs σ H Q
theorem w_lcR2 {g : TG} {ta tb : TE} (h : ta σ H fun x H1 => tb σ H1 fun y H2 => ∃ i j : Int, x = .int i ∧ y = .int j ∧ (-(2 ^ 62) ≤ i ∧ i < 2 ^ 62 ∧ -(2 ^ 62) ≤ j ∧ j < 2 ^ 62) ∧ tLc (fun _ H R => R (Itr i (j - i).toNat) H) g tt te vs σ H2 Q) :
    tLc (iRng2 (tCons ta (tCons tb tNil))) g tt te vs σ H Q := by
  have e : (fun (x : V) (H1 : Hp) => tb σ H1 fun y H2 => ∃ i j : Int, x = .int i ∧ y = .int j ∧ (-(2 ^ 62) ≤ i ∧ i < 2 ^ 62 ∧ -(2 ^ 62) ≤ j ∧ j < 2 ^ 62) ∧ tLc (fun _ H R => R (Itr i (j - i).toNat) H) g tt te vs σ H2 Q) =
      fun x H1 => tb σ H1 fun y H2 => ∃ i j : Int, [x, y] = [.int i, .int j] ∧ (-(2 ^ 62) ≤ i ∧ i < 2 ^ 62 ∧ -(2 ^ 62) ≤ j ∧ j < 2 ^ 62) ∧ tLc (fun _ H R => R (Itr i (j - i).toNat) H) g tt te vs σ H2 Q := by
    funext x H1
    congr
    funext y H2
    simp only [List.cons.injEq, and_true, and_assoc]
  rw [e] at h
  exact h
theorem w_lcR1 {g : TG} {ta : TE} (h : ta σ H fun x H1 => ∃ j : Int, x = .int j ∧ -(2 ^ 62) ≤ j ∧ j < 2 ^ 62 ∧ tLc (fun _ H R => R (Itr 0 j.toNat) H) g tt te vs σ H1 Q) : tLc (iRng1 (tCons ta tNil)) g tt te vs σ H Q := by
  have e : (fun (x : V) (H1 : Hp) => ∃ j : Int, x = .int j ∧ -(2 ^ 62) ≤ j ∧ j < 2 ^ 62 ∧ tLc (fun _ H R => R (Itr 0 j.toNat) H) g tt te vs σ H1 Q) =
      fun x H1 => ∃ j : Int, [x] = [.int j] ∧ -(2 ^ 62) ≤ j ∧ j < 2 ^ 62 ∧ tLc (fun _ H R => R (Itr 0 j.toNat) H) g tt te vs σ H1 Q := by
    funext x H1
    simp only [List.cons.injEq, and_true]
  rw [e] at h
  exact h
/-- the general turn: R says what holds behind j turns with acc made so far; it stands when the new list grows -/
theorem comp_core {J : It} {n : Nat} {G : Hp → Prop} {Y : Nat → V → Prop} (hgo : ∀ j H, j < n → G H → J.go j H) (hyl : ∀ j H x H', j < n → G H → J.yld j H x H' → H' = H ∧ Y j x) (hst : ∀ H, G H → J.stop n H)
    (hw : ∀ x, wipe ((wipe σ vs).set k (some x)) vs = wipe σ vs) (hn : n ≤ 100000) (R : Addr → Nat → List V → Hp → Prop)
    (h0 : ∀ d H', H d = none → Same H H' → H' d = some (.lst []) → R d 0 [] H') (hR : ∀ d j acc H' o, H d = none → R d j acc H' → R d j acc (upd H' d o)) (hG : ∀ d j acc H', H d = none → R d j acc H' → G H')
    (hs : ∀ d j x acc H', j < n → Y j x → R d j acc H' → H d = none → H' d = some (.lst acc) → acc.length ≤ j →
      ∀ (P : VK) (N : Hp → Prop), (∀ y H4, H4 d = some (.lst acc) → R d (j + 1) (acc ++ [y]) H4 → P y H4) → (∀ H3, H3 d = some (.lst acc) → R d (j + 1) acc H3 → N H3) →
        tt ((wipe σ vs).set k (some x)) H' fun b H3 => if b = true then te ((wipe σ vs).set k (some x)) H3 P else N H3)
    (hend : ∀ d acc H', R d n acc H' → H d = none → H' d = some (.lst acc) → acc.length ≤ n → Q (.ref d) H') : tLc (fun _ H R => R J H) (gName k) tt te vs σ H Q := by
  intro d hdn
  refine ⟨fun i m H' => m = n - i ∧ i ≤ n ∧ ∃ acc, H' d = some (.lst acc) ∧ acc.length ≤ i ∧ R d i acc H', ⟨n, by simp, Nat.zero_le _, [], upd_same, Nat.le_refl _, h0 d _ hdn (same_new hdn) upd_same⟩, ?_⟩
  rintro i m H' ⟨rfl, hi, acc, ea, la, r⟩
  by_cases hlt : i < n
  · refine .inr ⟨hgo i H' hlt (hG _ _ _ _ hdn r), fun H2 => ∃ acc, H2 d = some (.lst acc) ∧ acc.length ≤ i + 1 ∧ R d (i + 1) acc H2, fun H2 hx => ⟨n - (i + 1), by omega, rfl, hlt, hx⟩, fun x H2 y => ?_⟩
    obtain ⟨rfl, yx⟩ := hyl i H' x H2 hlt (hG _ _ _ _ hdn r) y
    show wipe ((wipe σ vs).set k (some x)) vs = wipe σ vs ∧ _
    refine ⟨hw x, hs d i x acc _ hlt yx r hdn ea la _ _ (fun y H4 e4 r4 => ?_) (fun H3 e3 r3 => ?_)⟩
    · refine ⟨acc, e4, sz_lt (by omega), acc ++ [y], upd_same, ?_, hR _ _ _ _ _ hdn r4⟩
      rw [List.length_append]
      show acc.length + 1 ≤ i + 1
      omega
    · exact ⟨acc, e3, by omega, r3⟩
  · have e : i = n := by omega
    subst e
    exact .inl ⟨hst H' (hG _ _ _ _ hdn r), hend d acc H' r hdn ea la⟩
/-- over a list, the elements leave all as it was: R says what the list so far is -/
theorem w_compL {a : Addr} {xs : List V} (hx : SqL K H a xs) (hw : ∀ x, wipe ((wipe σ vs).set k (some x)) vs = wipe σ vs) (hn : xs.length ≤ 100000) (R : Nat → List V → Hp → Prop)
    (h0 : ∀ H', Same H H' → R 0 [] H') (hR : ∀ d j acc H' o, H d = none → R j acc H' → R j acc (upd H' d o)) (hG : ∀ j acc H', R j acc H' → SqL K H' a xs)
    (hs : ∀ d j x acc H', xs[j]? = some x → R j acc H' → H' d = some (.lst acc) → acc.length ≤ j → ∀ (P : VK) (N : Hp → Prop), (∀ y H4, H4 d = some (.lst acc) → R (j + 1) (acc ++ [y]) H4 → P y H4) → (∀ H3, H3 d = some (.lst acc) → R (j + 1) acc H3 → N H3) →
        tt ((wipe σ vs).set k (some x)) H' fun b H3 => if b = true then te ((wipe σ vs).set k (some x)) H3 P else N H3)
    (hend : ∀ d acc H', R xs.length acc H' → H d = none → H' d = some (.lst acc) → Q (.ref d) H') : CompL K (gName k) tt te vs σ (.ref a) H Q :=
  ⟨a, rfl, ⟨xs, hx⟩, comp_core (n := xs.length) (G := fun H' => SqL K H' a xs) (Y := fun j x => xs[j]? = some x) (fun j H' hj g => ⟨xs, xs[j], g, List.getElem?_eq_getElem hj⟩) (fun j H' x H2 _ g y => ⟨y.1, y.2 xs g⟩) (fun H' g => ⟨xs, g, Nat.le_refl _⟩) hw hn
    (fun _ => R) (fun d H' _ s _ => h0 H' s) (fun d j acc H' o hd r => hR d j acc H' o hd r) (fun d j acc H' _ r => hG j acc H' r) (fun d j x acc H' _ y r hd e l => hs d j x acc H' y r e l) (fun d acc H' r hd e l => hend d acc H' r hd e)⟩
theorem w_compT {a : Addr} {xs : List V} (hx : SqT K H a xs) (hw : ∀ x, wipe ((wipe σ vs).set k (some x)) vs = wipe σ vs) (hn : xs.length ≤ 100000) (R : Nat → List V → Hp → Prop)
    (h0 : ∀ H', Same H H' → R 0 [] H') (hR : ∀ d j acc H' o, H d = none → R j acc H' → R j acc (upd H' d o)) (hG : ∀ j acc H', R j acc H' → SqT K H' a xs)
    (hs : ∀ d j x acc H', xs[j]? = some x → R j acc H' → H' d = some (.lst acc) → acc.length ≤ j → ∀ (P : VK) (N : Hp → Prop), (∀ y H4, H4 d = some (.lst acc) → R (j + 1) (acc ++ [y]) H4 → P y H4) → (∀ H3, H3 d = some (.lst acc) → R (j + 1) acc H3 → N H3) →
        tt ((wipe σ vs).set k (some x)) H' fun b H3 => if b = true then te ((wipe σ vs).set k (some x)) H3 P else N H3)
    (hend : ∀ d acc H', R xs.length acc H' → H d = none → H' d = some (.lst acc) → Q (.ref d) H') : CompT K (gName k) tt te vs σ (.ref a) H Q :=
  ⟨a, rfl, ⟨xs, hx⟩, comp_core (n := xs.length) (G := fun H' => SqT K H' a xs) (Y := fun j x => xs[j]? = some x) (fun j H' hj g => ⟨xs, xs[j], g, List.getElem?_eq_getElem hj⟩) (fun j H' x H2 _ g y => ⟨y.1, y.2 xs g⟩) (fun H' g => ⟨xs, g, Nat.le_refl _⟩) hw hn
    (fun _ => R) (fun d H' _ s _ => h0 H' s) (fun d j acc H' o hd r => hR d j acc H' o hd r) (fun d j acc H' _ r => hG j acc H' r) (fun d j x acc H' _ y r hd e l => hs d j x acc H' y r e l) (fun d acc H' r hd e l => hend d acc H' r hd e)⟩
/-- over lo, lo + 1, .. (n of them) -/
theorem w_compR {lo : Int} {n : Nat} (hw : ∀ x, wipe ((wipe σ vs).set k (some x)) vs = wipe σ vs) (hn : n ≤ 100000) (R : Nat → List V → Hp → Prop)
    (h0 : ∀ H', Same H H' → R 0 [] H') (hR : ∀ d j acc H' o, H d = none → R j acc H' → R j acc (upd H' d o))
    (hs : ∀ (d : Addr) (j : Nat) acc H', j < n → R j acc H' → H d = none → H' d = some (.lst acc) → acc.length ≤ j → ∀ (P : VK) (N : Hp → Prop), (∀ y H4, H4 d = some (.lst acc) → R (j + 1) (acc ++ [y]) H4 → P y H4) → (∀ H3, H3 d = some (.lst acc) → R (j + 1) acc H3 → N H3) →
        tt ((wipe σ vs).set k (some (.int (lo + j)))) H' fun b H3 => if b = true then te ((wipe σ vs).set k (some (.int (lo + j)))) H3 P else N H3)
    (hend : ∀ d acc H', R n acc H' → H d = none → H' d = some (.lst acc) → acc.length ≤ n → Q (.ref d) H') : tLc (fun _ H R => R (Itr lo n) H) (gName k) tt te vs σ H Q :=
  comp_core (n := n) (G := fun _ => True) (Y := fun j x => x = .int (lo + j)) (fun j H' hj _ => hj) (fun j H' x H2 _ _ y => ⟨y.1, y.2⟩) (fun H' _ => Nat.le_refl _) hw hn
    (fun _ => R) (fun d H' _ s _ => h0 H' s) (fun d j acc H' o hd r => hR d j acc H' o hd r) (fun d j acc H' _ r => trivial) (fun d j x acc H' hj y r hd e l P N p q => by
      subst y
      exact hs d j acc H' hj r hd e l P N p q) (fun d acc H' r hd e l => hend d acc H' r hd e l)
theorem w_yes {R : Bool → Hp → Prop} (h : R true H) : tYes σ H R := h
end
end K17
/-! Data on the heap, rows, the state of the draws. -/
namespace K17
open PySem L2

/-- tuples stand -/
def TK (H H' : Hp) : Prop := ∀ a xs, H a = some (.tup xs) → H' a = some (.tup xs)
theorem TK.refl (H : Hp) : TK H H := fun _ _ h => h
theorem TK.trans {H H1 H2 : Hp} (a : TK H H1) (b : TK H1 H2) : TK H H2 := fun c xs h => b c xs (a c xs h)
theorem TK.of {H H' : Hp} (s : Same H H') : TK H H' := fun a xs h => s a _ h
theorem TK.upd {H : Hp} {l : Addr} {xs : List V} {o : HO} (h : H l = some (.lst xs)) : TK H (upd H l o) := fun a ys e => by
  rw [upd_ne (ne_of e h (by intro z; cases z))]
  exact e
theorem TK.ch {st : Addr} {H H' : Hp} {xs : List V} (c : Ch st H H') (h : H st = some (.lst xs)) : TK H H' := fun a ys e => c a _ (ne_of e h (by intro z; cases z)) e

mutual
/-- at v stands the data d; its lists stand where ok holds -/
inductive Dat (ok : Addr → Prop) (H : Hp) : V → PyData → Prop
  | non : Dat ok H .non .none
  | bl (b : Bool) : Dat ok H (.bl b) (.bool b)
  | int (i : Int) : Dat ok H (.int i) (.int i)
  | str (x : Str) : Dat ok H (.str x) (.str x)
  | lst {a : Addr} {xs : List V} {ds : List PyData} : ok a → H a = some (.lst xs) → DatL ok H xs ds → Dat ok H (.ref a) (.list ds)
  | tup {a : Addr} {xs : List V} {ds : List PyData} : H a = some (.tup xs) → DatL ok H xs ds → Dat ok H (.ref a) (.tuple ds)
inductive DatL (ok : Addr → Prop) (H : Hp) : List V → List PyData → Prop
  | nil : DatL ok H [] []
  | cons {v : V} {vs : List V} {d : PyData} {ds : List PyData} : Dat ok H v d → DatL ok H vs ds → DatL ok H (v :: vs) (d :: ds)
end
section
variable {ok ok' : Addr → Prop} {H H' : Hp}
mutual
theorem Dat.mono (hl : ∀ a xs, ok a → H a = some (.lst xs) → ok' a ∧ H' a = some (.lst xs)) (ht : TK H H') : ∀ {d : PyData} {v : V}, Dat ok H v d → Dat ok' H' v d
  | _, _, .non => .non
  | _, _, .bl b => .bl b
  | _, _, .int i => .int i
  | _, _, .str x => .str x
  | _, _, .lst o h q => .lst (hl _ _ o h).1 (hl _ _ o h).2 (DatL.mono hl ht q)
  | _, _, .tup h q => .tup (ht _ _ h) (DatL.mono hl ht q)
theorem DatL.mono (hl : ∀ a xs, ok a → H a = some (.lst xs) → ok' a ∧ H' a = some (.lst xs)) (ht : TK H H') : ∀ {ds : List PyData} {vs : List V}, DatL ok H vs ds → DatL ok' H' vs ds
  | _, _, .nil => .nil
  | _, _, .cons a b => .cons (Dat.mono hl ht a) (DatL.mono hl ht b)
end
theorem Dat.same (s : Same H H') {d : PyData} {v : V} (h : Dat ok H v d) : Dat ok H' v d := h.mono (fun a xs o e => ⟨o, s a _ e⟩) (TK.of s)
theorem DatL.same (s : Same H H') {ds : List PyData} {vs : List V} (h : DatL ok H vs ds) : DatL ok H' vs ds := h.mono (fun a xs o e => ⟨o, s a _ e⟩) (TK.of s)
/-- all but st stands, lists stand elsewhere -/
theorem Dat.ch {st : Addr} {xs : List V} (c : Ch st H H') (hs : H st = some (.lst xs)) (ho : ∀ a, ok a → a ≠ st) {d : PyData} {v : V} (h : Dat ok H v d) : Dat ok H' v d := h.mono (fun a ys o e => ⟨o, c a _ (ho a o) e⟩) (TK.ch c hs)
theorem DatL.ch {st : Addr} {xs : List V} (c : Ch st H H') (hs : H st = some (.lst xs)) (ho : ∀ a, ok a → a ≠ st) {ds : List PyData} {vs : List V} (h : DatL ok H vs ds) : DatL ok H' vs ds := h.mono (fun a ys o e => ⟨o, c a _ (ho a o) e⟩) (TK.ch c hs)
theorem Dat.weak (ho : ∀ a, ok a → ok' a) {d : PyData} {v : V} (h : Dat ok H v d) : Dat ok' H v d := h.mono (fun a ys o e => ⟨ho a o, e⟩) (TK.refl H)
theorem DatL.weak (ho : ∀ a, ok a → ok' a) {ds : List PyData} {vs : List V} (h : DatL ok H vs ds) : DatL ok' H vs ds := h.mono (fun a ys o e => ⟨ho a o, e⟩) (TK.refl H)
abbrev noL : Addr → Prop := fun _ => False
/-- without lists: tuples alone must stand -/
theorem Dat.tk (t : TK H H') {d : PyData} {v : V} (h : Dat noL H v d) : Dat noL H' v d := h.mono (fun _ _ o _ => o.elim) t
theorem DatL.tk (t : TK H H') {ds : List PyData} {vs : List V} (h : DatL noL H vs ds) : DatL noL H' vs ds := h.mono (fun _ _ o _ => o.elim) t
theorem DatL.length : ∀ {vs : List V} {ds : List PyData}, DatL ok H vs ds → vs.length = ds.length
  | _, _, .nil => rfl
  | _, _, .cons _ b => by rw [List.length_cons, List.length_cons, DatL.length b]
theorem DatL.get : ∀ {vs : List V} {ds : List PyData} {i : Nat} {x : V}, DatL ok H vs ds → vs[i]? = some x → ∃ d, ds[i]? = some d ∧ Dat ok H x d
  | _, _, _, _, .nil, e => by simp at e
  | _, _, 0, _, .cons a _, e => by
    simp at e
    subst e
    exact ⟨_, rfl, a⟩
  | _, _, i + 1, _, .cons _ b, e => by
    obtain ⟨d, h1, h2⟩ := DatL.get (i := i) b (by simpa using e)
    exact ⟨d, by simpa using h1, h2⟩
theorem DatL.get' : ∀ {vs : List V} {ds : List PyData} {i : Nat} {d : PyData}, DatL ok H vs ds → ds[i]? = some d → ∃ x, vs[i]? = some x ∧ Dat ok H x d
  | _, _, _, _, .nil, e => by simp at e
  | _, _, 0, _, .cons a _, e => by
    simp at e
    subst e
    exact ⟨_, rfl, a⟩
  | _, _, i + 1, _, .cons _ b, e => by
    obtain ⟨d, h1, h2⟩ := DatL.get' (i := i) b (by simpa using e)
    exact ⟨d, by simpa using h1, h2⟩
theorem DatL.append : ∀ {vs ws : List V} {ds es : List PyData}, DatL ok H vs ds → DatL ok H ws es → DatL ok H (vs ++ ws) (ds ++ es)
  | _, _, _, _, .nil, s => s
  | _, _, _, _, .cons a b, s => .cons a (DatL.append b s)
theorem DatL.take : ∀ {vs : List V} {ds : List PyData} (n : Nat), DatL ok H vs ds → DatL ok H (vs.take n) (ds.take n)
  | _, _, 0, _ => .nil
  | _, _, _ + 1, .nil => .nil
  | _, _, n + 1, .cons a b => .cons a (DatL.take n b)
theorem DatL.drop : ∀ {vs : List V} {ds : List PyData} (n : Nat), DatL ok H vs ds → DatL ok H (vs.drop n) (ds.drop n)
  | _, _, 0, r => r
  | _, _, _ + 1, .nil => .nil
  | _, _, n + 1, .cons _ b => DatL.drop n b
theorem DatL.set {v : V} {d : PyData} (h : Dat ok H v d) : ∀ {vs : List V} {ds : List PyData} (n : Nat), DatL ok H vs ds → DatL ok H (vs.set n v) (ds.set n d)
  | _, _, _, .nil => .nil
  | _, _, 0, .cons _ b => .cons h b
  | _, _, n + 1, .cons a b => .cons a (DatL.set h n b)
theorem datL_ints : ∀ ns : List Int, DatL ok H (ns.map V.int) (ns.map PyData.int)
  | [] => .nil
  | n :: ns => .cons (.int n) (datL_ints ns)
theorem ints_of : ∀ {ns : List Int} {vs : List V}, DatL ok H vs (ns.map PyData.int) → vs = ns.map V.int
  | [], _, h => by
    have h : DatL ok H _ [] := h
    cases h
    rfl
  | n :: ns, _, h => by
    have h : DatL ok H _ (PyData.int n :: ns.map PyData.int) := h
    cases h with
    | cons a b =>
      cases a
      rw [ints_of b]
      rfl
mutual
theorem Dat.dp {K : PySem.W.Frag} : ∀ {d : PyData} {v : V}, Dat ok H v d → Dp K H v d
  | _, _, .non => .non
  | _, _, .bl b => .bl b
  | _, _, .int i => .int i
  | _, _, .str x => .str x
  | _, _, .lst _ h q => .lst (SqL.of h) (DatL.dp q)
  | _, _, .tup h q => .tup (SqT.of h) (DatL.dp q)
theorem DatL.dp {K : PySem.W.Frag} : ∀ {ds : List PyData} {vs : List V}, DatL ok H vs ds → DpAll K H vs ds
  | _, _, .nil => .nil
  | _, _, .cons a b => .cons (Dat.dp a) (DatL.dp b)
end
def tyN : PyData → String
  | .none => "NoneType"
  | .bool _ => "bool"
  | .int _ => "int"
  | .str _ => "str"
  | .list _ => "list"
  | .tuple _ => "tuple"
  | .dict _ => "dict"
theorem Dat.ty {K : PySem.W.Frag} {d : PyData} {v : V} (h : Dat ok H v d) : TyX K H v (.type (tyN d)) := by
  cases h with
  | non => exact .base .non
  | bl b => exact .base (.bl b)
  | int i => exact .base (.int i)
  | str x => exact .base (.str x)
  | lst o h q => exact .base (.lst h)
  | tup h q => exact .base (.tup h)
def isIntD : PyData → Bool
  | .int _ => true
  | _ => false
theorem Dat.nodict {kvs : List (PyData × PyData)} {v : V} : ¬ Dat ok H v (.dict kvs) := fun h => by cases h
/-- isinstance(v, T) of a datum -/
theorem w_isi {K : PySem.W.Frag} {Q : VK} {v : V} {d : PyData} {T : String} {b : Bool} (h : Dat ok H v d) (e : kitB (tyN d) T = some b) (q : Q (.bl b) H) : rIsi K [v, .ty T] H Q :=
  ⟨v, .ty T, _, _, b, rfl, .ty T, h.ty, kit_ty e, q⟩
def isBoolD : PyData → Bool
  | .bool _ => true
  | _ => false
def isStrD : PyData → Bool
  | .str _ => true
  | _ => false
def isTupD : PyData → Bool
  | .tuple _ => true
  | _ => false
def isNumD (d : PyData) : Bool := isIntD d || isBoolD d
theorem Dat.nd {d : PyData} {v : V} (h : Dat ok H v d) : ∀ kvs, d ≠ .dict kvs := fun kvs e => by
  rw [e] at h
  exact Dat.nodict h
theorem kit_int (d : PyData) (hd : ∀ kvs, d ≠ .dict kvs) : kitB (tyN d) "int" = some (isNumD d) := by
  cases d with
  | none => exact (by decide +kernel : kitB "NoneType" "int" = some false)
  | bool _ => exact (by decide +kernel : kitB "bool" "int" = some true)
  | int _ => exact (by decide +kernel : kitB "int" "int" = some true)
  | str _ => exact (by decide +kernel : kitB "str" "int" = some false)
  | list _ => exact (by decide +kernel : kitB "list" "int" = some false)
  | tuple _ => exact (by decide +kernel : kitB "tuple" "int" = some false)
  | dict kvs => exact absurd rfl (hd kvs)
theorem kit_bool (d : PyData) (hd : ∀ kvs, d ≠ .dict kvs) : kitB (tyN d) "bool" = some (isBoolD d) := by
  cases d with
  | none => exact (by decide +kernel : kitB "NoneType" "bool" = some false)
  | bool _ => exact (by decide +kernel : kitB "bool" "bool" = some true)
  | int _ => exact (by decide +kernel : kitB "int" "bool" = some false)
  | str _ => exact (by decide +kernel : kitB "str" "bool" = some false)
  | list _ => exact (by decide +kernel : kitB "list" "bool" = some false)
  | tuple _ => exact (by decide +kernel : kitB "tuple" "bool" = some false)
  | dict kvs => exact absurd rfl (hd kvs)
theorem kit_str (d : PyData) (hd : ∀ kvs, d ≠ .dict kvs) : kitB (tyN d) "str" = some (isStrD d) := by
  cases d with
  | none => exact (by decide +kernel : kitB "NoneType" "str" = some false)
  | bool _ => exact (by decide +kernel : kitB "bool" "str" = some false)
  | int _ => exact (by decide +kernel : kitB "int" "str" = some false)
  | str _ => exact (by decide +kernel : kitB "str" "str" = some true)
  | list _ => exact (by decide +kernel : kitB "list" "str" = some false)
  | tuple _ => exact (by decide +kernel : kitB "tuple" "str" = some false)
  | dict kvs => exact absurd rfl (hd kvs)
theorem kit_tuple (d : PyData) (hd : ∀ kvs, d ≠ .dict kvs) : kitB (tyN d) "tuple" = some (isTupD d) := by
  cases d with
  | none => exact (by decide +kernel : kitB "NoneType" "tuple" = some false)
  | bool _ => exact (by decide +kernel : kitB "bool" "tuple" = some false)
  | int _ => exact (by decide +kernel : kitB "int" "tuple" = some false)
  | str _ => exact (by decide +kernel : kitB "str" "tuple" = some false)
  | list _ => exact (by decide +kernel : kitB "list" "tuple" = some false)
  | tuple _ => exact (by decide +kernel : kitB "tuple" "tuple" = some true)
  | dict kvs => exact absurd rfl (hd kvs)
end

/-! ### rows -/
section
variable {ok : Addr → Prop} {H : Hp}
theorem row_op {k : Str} {ns : List Int} {v : V} (h : Dat ok H v (RD.op k ns).data) : ∃ a, v = .ref a ∧ H a = some (.tup (.str k :: ns.map V.int)) := by
  have h : Dat ok H v (.tuple (.str k :: ns.map PyData.int)) := h
  cases h with
  | tup h q =>
    cases q with
    | cons x y =>
      cases x
      rw [ints_of y] at h
      exact ⟨_, rfl, h⟩
theorem row_tell {n : Int} {ps : List Int} {v : V} (h : Dat ok H v (RD.tell n ps).data) : ∃ a p, v = .ref a ∧ H a = some (.tup [.str "tell", .int n, .ref p]) ∧ H p = some (.tup (ps.map V.int)) := by
  have h : Dat ok H v (.tuple [.str "tell", .int n, .tuple (ps.map PyData.int)]) := h
  cases h with
  | tup h q =>
    cases q with
    | cons x q =>
      cases x
      cases q with
      | cons x q =>
        cases x
        cases q with
        | cons x q =>
          cases q
          cases x with
          | tup h2 q2 =>
            rw [ints_of q2] at h2
            exact ⟨_, _, rfl, h, h2⟩
theorem dat_op {k : Str} {ns : List Int} {a : Addr} (h : H a = some (.tup (.str k :: ns.map V.int))) : Dat ok H (.ref a) (RD.op k ns).data := .tup h (.cons (.str k) (datL_ints ns))
theorem dat_tell {n : Int} {ps : List Int} {a p : Addr} (h : H a = some (.tup [.str "tell", .int n, .ref p])) (h2 : H p = some (.tup (ps.map V.int))) : Dat ok H (.ref a) (RD.tell n ps).data :=
  .tup h (.cons (.str _) (.cons (.int n) (.cons (.tup h2 (datL_ints ps)) .nil)))
/-- a row's data has no lists -/
theorem RD.noL {r : RD} {v : V} (h : Dat ok H v r.data) : Dat K17.noL H v r.data := by
  cases r with
  | tell n ps =>
    obtain ⟨a, p, rfl, h1, h2⟩ := row_tell h
    exact dat_tell h1 h2
  | op k ns =>
    obtain ⟨a, rfl, h1⟩ := row_op h
    exact dat_op h1
theorem rows_noL : ∀ {rs : List RD} {vs : List V}, DatL ok H vs (rs.map RD.data) → DatL K17.noL H vs (rs.map RD.data)
  | [], _, h => by
    have h : DatL ok H _ [] := h
    cases h
    exact .nil
  | r :: rs, _, h => by
    have h : DatL ok H _ (r.data :: rs.map RD.data) := h
    cases h with
    | cons a b => exact .cons (RD.noL a) (rows_noL b)
theorem dat_any {v : V} {d : PyData} (h : Dat noL H v d) : Dat ok H v d := h.weak fun _ z => z.elim
theorem datL_any {vs : List V} {ds : List PyData} (h : DatL noL H vs ds) : DatL ok H vs ds := h.weak fun _ z => z.elim
end
end K17
namespace K17
open PySem L2
/-! Numbers, people: is_integer, _law_integer, is_constant, is_listed, are_people. -/
local macro_rules | `(tactic| walk_at "go") => `(tactic| repeat (first | with_reducible refine w_var (by with_unfolding_all rfl) ?_ | with_reducible refine w_c ?_ | with_reducible refine w_seq ?_ | with_reducible refine w_set ?_ | with_reducible refine w_ret ?_ | with_reducible refine w_if ?_ | with_reducible refine w_op ?_ | with_reducible refine w_ii ?_ | with_reducible refine w_test ?_ | with_reducible refine w_bl ?_ | with_reducible refine w_cb ?_ | with_reducible refine w_call ?_ | with_reducible refine w_nil ?_ | with_reducible refine w_cons ?_ | with_reducible refine w_eqI ?_ | with_reducible refine w_eqS ?_ | with_reducible refine w_neI ?_ | with_reducible refine w_neS ?_ | with_reducible refine w_andV ?_ | with_reducible refine w_orV ?_ | with_reducible refine w_notV ?_ | with_reducible refine w_and ?_ | with_reducible refine w_or ?_ | with_reducible refine w_not ?_ | with_reducible refine w_ifE ?_ | with_reducible refine w_chain ?_ | with_reducible refine w_B ?_ | with_reducible refine w_drop ?_ | with_reducible refine w_next ?_ | with_reducible refine w_un ?_ | with_reducible refine w_iu ?_ | with_reducible refine w_isN ?_ | with_reducible refine w_notN ?_ | with_reducible refine w_int1 ?_ | with_reducible refine w_abs ?_ | with_reducible refine w_min ?_ | with_reducible refine w_max ?_ | with_reducible refine w_tup ?_ | with_reducible refine w_lst ?_ | with_reducible refine w_sl ?_ | with_reducible refine w_noPart ?_ | with_reducible refine w_part ?_ | with_reducible refine w_pi ?_ | with_reducible refine w_bm ?_ | with_reducible refine w_tyS ?_ | with_reducible refine w_m1 ?_ | with_reducible refine w_str ?_ | with_reducible refine w_forL ?_ | with_reducible refine w_forT ?_ | with_reducible refine w_forR1 ?_ | with_reducible refine w_forS ?_ | with_reducible refine w_lcL ?_ | with_reducible refine w_lcT ?_ | with_reducible refine w_lcR1 ?_ | with_reducible refine w_lcR2 ?_ | with_reducible refine w_yes ?_ | with_reducible refine w_asgSub ?_ | with_reducible refine w_callS ?_))
abbrev Ok (P : Program) (w : World) (K : PySem.W.Frag) (mg : Str → Option Value) (base : Heap) (k : Nat) (f : Addr) (ps : List Str) (sp : Sp) : Prop := ∃ fd, FnOk P w K mg base CX0 k f fd ps sp ∧ L2.Binds K fd ps []
section
variable {P : Program} {w : World} {K : PySem.W.Frag} {mg : Str → Option Value} {base : Heap} {a : Ad}
theorem isi_eq (d : PyData) : (isNumD d && !isBoolD d) = isIntD d := by
  cases d <;> rfl
/-- a datum: is it a whole number, no truth value -/
def spInt : Sp := fun vs H Q _ => ∃ v d ok, vs = [v] ∧ Dat ok H v d ∧ Q (.bl (isIntD d)) H
theorem i_spInt {v : V} {H : Hp} {Q : VK} {E : XK} {d : PyData} {ok : Addr → Prop} (h : Dat ok H v d) (q : Q (.bl (isIntD d)) H) : spInt [v] H Q E := ⟨v, d, ok, rfl, h, q⟩
theorem ok_is_integer (T : Txt K mg w a) : Ok P w K mg base 1 a.f_is_integer ["value"] spInt := by
  obtain ⟨fd, F, b⟩ := T.F_is_integer
  refine ⟨fd, F.ok sc_is_integer (fun vs H Q E h => ?_) (fun cdv A outer s H vs Q E hr h => ?_), b⟩
  · obtain ⟨v, d, ok, rfl, _⟩ := h
    rfl
  · obtain ⟨v, d, ok, rfl, hd, q⟩ := h
    refine ⟨_, (pss_one (ps_ret (pe_and (pe_callB call_isi (by rfl) T.z_isinstance bt_isinstance (pa_cons (pv 0) (pa_cons (pe_bltn (v := .ty "int") rfl T.z_int bt_int rfl) pa_nil))) (pe_one (pe_not (pe_callB call_isi (by rfl) T.z_isinstance bt_isinstance (pa_cons (pv 0) (pa_cons (pe_bltn (v := .ty "bool") rfl T.z_bool bt_bool rfl) pa_nil)))))))), ?_⟩
    walk_at "go"
    refine w_isi hd (kit_int d hd.nd) ?_
    walk_at "go"
    rw [← isi_eq] at q
    refine w_ite (fun e => ?_) (fun e => ?_)
    · walk_at "go"
      refine w_isi hd (kit_bool d hd.nd) ?_
      walk_at "go"
      rw [e, Bool.true_and] at q
      exact q
    · rw [e, Bool.false_and] at q
      exact q
theorem ok__law_integer (T : Txt K mg w a) : Ok P w K mg base 1 a.f__law_integer ["_law_value"] spInt := by
  obtain ⟨fd, F, b⟩ := T.F__law_integer
  refine ⟨fd, F.ok sc__law_integer (fun vs H Q E h => ?_) (fun cdv A outer s H vs Q E hr h => ?_), b⟩
  · obtain ⟨v, d, ok, rfl, _⟩ := h
    rfl
  · obtain ⟨v, d, ok, rfl, hd, q⟩ := h
    refine ⟨_, (pss_one (ps_ret (pe_and (pe_callB call_isi (by rfl) T.z_isinstance bt_isinstance (pa_cons (pv 0) (pa_cons (pe_bltn (v := .ty "int") rfl T.z_int bt_int rfl) pa_nil))) (pe_one (pe_not (pe_callB call_isi (by rfl) T.z_isinstance bt_isinstance (pa_cons (pv 0) (pa_cons (pe_bltn (v := .ty "bool") rfl T.z_bool bt_bool rfl) pa_nil)))))))), ?_⟩
    walk_at "go"
    refine w_isi hd (kit_int d hd.nd) ?_
    walk_at "go"
    rw [← isi_eq] at q
    refine w_ite (fun e => ?_) (fun e => ?_)
    · walk_at "go"
      refine w_isi hd (kit_bool d hd.nd) ?_
      walk_at "go"
      rw [e, Bool.true_and] at q
      exact q
    · rw [e, Bool.false_and] at q
      exact q
/-- at most 60 figures -/
def spConst : Sp := fun vs H Q _ => ∃ v d ok, vs = [v] ∧ Dat ok H v d ∧ Q (.bl (cOk d)) H
theorem i_spConst {v : V} {H : Hp} {Q : VK} {E : XK} {d : PyData} {ok : Addr → Prop} (h : Dat ok H v d) (q : Q (.bl (cOk d)) H) : spConst [v] H Q E := ⟨v, d, ok, rfl, h, q⟩
theorem c_not {d : PyData} (h : isIntD d = false) : cOk d = false := by
  cases d <;> first | rfl | cases h
theorem int_of {ok : Addr → Prop} {H : Hp} {v : V} {d : PyData} (hd : Dat ok H v d) (h : isIntD d = true) : ∃ i : Int, d = .int i ∧ v = .int i := by
  cases hd with
  | int i => exact ⟨i, rfl, rfl⟩
  | _ => cases h
theorem ten60 : ((10 : Int) ^ (60 : Int).toNat) = 10 ^ 60 := rfl
theorem pow_ok : CPow 10 60 := ⟨by decide, by decide, by decide⟩
theorem ok_is_constant (T : Txt K mg w a) : Ok P w K mg base 2 a.f_is_constant ["value"] spConst := by
  obtain ⟨fd, F, b⟩ := T.F_is_constant
  obtain ⟨fd1, G_is_integer, b_is_integer⟩ := ok_is_integer (P := P) (base := base) T
  refine ⟨fd, F.ok sc_is_constant (fun vs H Q E h => ?_) (fun cdv A outer s H vs Q E hr h => ?_), b⟩
  · obtain ⟨v, d, ok, rfl, _⟩ := h
    rfl
  · obtain ⟨v, d, ok, rfl, hd, q⟩ := h
    refine ⟨_, (pss_one (ps_ret (pe_and (pe_call G_is_integer (hr.mono (by decide)) (by rfl) T.a_is_integer T.k_is_integer b_is_integer .nil pass0 (pa_cons (pv 0) pa_nil)) (pe_one (pe_chain op_lt op_lt (pe_un un_neg (pe_op op_pow pe_int pe_int)) (pv 0) (pe_op op_pow pe_int pe_int)))))), ?_⟩
    walk_at "go"
    refine i_spInt hd ?_
    walk_at "go"
    refine w_ite (fun e => ?_) (fun e => ?_)
    · obtain ⟨i, rfl, rfl⟩ := int_of hd e
      walk_at "go"
      refine w_iic pow_ok ?_
      walk_at "go"
      refine w_dec (fun c => ?_) (fun c => ?_)
      · walk_at "go"
        refine w_iic pow_ok ?_
        walk_at "go"
        rw [show cOk (.int i) = decide (i < 10 ^ (60 : Int).toNat) by
          show decide (i.natAbs < 10 ^ 60) = _
          rw [ten60] at c ⊢
          exact decide_eq_decide.mpr (by omega)] at q
        exact q
      · rw [show cOk (.int i) = false from decide_eq_false (by rw [ten60] at c; omega)] at q
        exact q
    · rw [c_not e] at q
      exact q
/-- a tuple of data: are all whole numbers -/
def spListed : Sp := fun vs H Q _ => ∃ p xs ds ok, vs = [.ref p] ∧ H p = some (.tup xs) ∧ DatL ok H xs ds ∧ ds.length ≤ 1000 ∧ ∀ H', Same H H' → Q (.bl (ds.all isIntD)) H'
theorem i_spListed {p : Addr} {xs : List V} {ds : List PyData} {H : Hp} {Q : VK} {E : XK} {ok : Addr → Prop} (h1 : H p = some (.tup xs)) (h : DatL ok H xs ds) (hl : ds.length ≤ 1000) (q : ∀ H', Same H H' → Q (.bl (ds.all isIntD)) H') :
    spListed [.ref p] H Q E := ⟨p, xs, ds, ok, rfl, h1, h, hl, q⟩
theorem w_all {Q : VK} {H : Hp} {d : Addr} {bs : List Bool} (h : H d = some (.lst (bs.map V.bl))) (q : Q (.bl (bs.all id)) H) : rAll K [.ref d] H Q := ⟨d, bs, rfl, SqL.of h, q⟩
theorem w_isiT {Q : VK} {H : Hp} {v : V} {tp : Addr} {n1 n2 : String} {ok : Addr → Prop} {d : PyData} {b c : Bool} (hd : Dat ok H v d) (h : H tp = some (.tup [.ty n1, .ty n2])) (e1 : kitB (tyN d) n1 = some b) (e2 : kitB (tyN d) n2 = some c) (q : Q (.bl (b || c)) H) :
    rIsiT K [v, .ref tp] H Q := by
  refine ⟨v, tp, _, _, [.type n1, .type n2], b || c, rfl, h, .cons (.ty n1) (.cons (.ty n2) .nil), hd.ty, ?_, q⟩
  cases b with
  | true => exact kitAny_cons (kit_ty e1) (fun z => nomatch z) (fun _ => rfl)
  | false =>
    refine kitAny_cons (kit_ty e1) (fun _ => ?_) (fun z => nomatch z)
    cases c with
    | true => exact kitAny_cons (kit_ty e2) (fun z => nomatch z) (fun _ => rfl)
    | false => exact kitAny_cons (kit_ty e2) (fun _ => kitAny_nil) (fun z => nomatch z)
theorem take_next {α : Type} {l : List α} {j : Nat} {x : α} (h : l[j]? = some x) : l.take (j + 1) = l.take j ++ [x] := by
  rw [List.take_add_one, h]
  rfl
theorem drop_next {α : Type} {l : List α} {j : Nat} {x : α} (h : l[j]? = some x) : l.drop j = x :: l.drop (j + 1) := by
  obtain ⟨h1, h2⟩ := List.getElem?_eq_some_iff.mp h
  rw [List.drop_eq_getElem_cons h1, h2]
theorem ok_is_listed (T : Txt K mg w a) : Ok P w K mg base 2 a.f_is_listed ["values"] spListed := by
  obtain ⟨fd, F, b⟩ := T.F_is_listed
  obtain ⟨fd1, G_is_integer, b_is_integer⟩ := ok_is_integer (P := P) (base := base) T
  refine ⟨fd, F.ok sc_is_listed (fun vs H Q E h => ?_) (fun cdv A outer s H vs Q E hr h => ?_), b⟩
  · obtain ⟨p, xs, ds, ok, rfl, _⟩ := h
    rfl
  · obtain ⟨p, xs, ds, ok, rfl, hp, hd, hl, q⟩ := h
    refine ⟨_, (pss_one (ps_ret (pe_and (pe_callB call_isiT (by rfl) T.z_isinstance bt_isinstance (pa_cons (pv 0) (pa_cons (pe_tup (pa_cons (pe_bltn (v := .ty "list") rfl T.z_list bt_list rfl) (pa_cons (pe_bltn (v := .ty "tuple") rfl T.z_tuple bt_tuple rfl) pa_nil))) pa_nil))) (pe_one (pe_callB (cr_all rfl) (by rfl) T.z_all bt_all (pa_cons (pe_lc (own := [("value", 1)]) (g := gName 1) (tt := tYes) (by rfl) sc_is_listed.nd (pi_tup (pv 0)) (blkOk_by (own := [("value", 1)]) (N := ["values", "value"]) (sc := defScope s_is_listed) (by decide +kernel)) (fun _ _ _ _ _ => pg_name (i := 1) sc_is_listed.nd rfl (Or.inl rfl)) (fun _ _ _ _ _ => pts_nil) (fun _ _ _ _ _ => (pe_call G_is_integer (hr.mono (by decide)) (by rfl) T.a_is_integer T.k_is_integer b_is_integer .nil pass0 (pa_cons (pv 1) pa_nil)))) pa_nil)))))), ?_⟩
    walk_at "go"
    refine w_newT (by show 2 ≤ 1000000; decide) (fun t H1 nt s1 et => ?_)
    walk_at "go"
    refine w_isiT (d := .tuple ds) (.tup (s1 _ _ hp) (hd.same s1)) et (b := false) (c := true) (by decide +kernel : kitB "tuple" "list" = some false) (by decide +kernel : kitB "tuple" "tuple" = some true) ?_
    walk_at "go"
    show (if true = true then _ else _)
    refine iteT ?_
    walk_at "go"
    have hx : xs.length = ds.length := hd.length
    refine w_compT (SqT.of (s1 _ _ hp)) (fun x => rfl) (by omega) (fun j acc H' => Same H1 H' ∧ acc = ((ds.take j).map isIntD).map V.bl) (fun H' s => ⟨s, rfl⟩)
      (fun d j acc H' o hd' r => ⟨fun b x e => by rw [upd_ne (ne_of_none e hd')]; exact r.1 b x e, r.2⟩) (fun j acc H' r => SqT.of (r.1 _ _ (s1 _ _ hp))) (fun d j x acc H' hi r e la P N hP hN => ?_) (fun d acc H' r hd' e => ?_)
    · obtain ⟨dx, h1, h2⟩ := hd.get hi
      obtain ⟨s2, rfl⟩ := r
      walk_at "go"
      refine iteT ?_
      walk_at "go"
      refine i_spInt ((h2.same s1).same s2) ?_
      refine hP _ _ e ⟨s2, ?_⟩
      rw [take_next h1, List.map_append, List.map_append]
      rfl
    · obtain ⟨s2, rfl⟩ := r
      walk_at "go"
      refine w_all e ?_
      rw [hx, List.take_length, List.all_map]
      exact q _ (s1.trans s2)
/-- people: a datum, n -/
def peopleD (n : Int) : PyData → Bool
  | .tuple ps => peopleOk n 0 ps
  | _ => false
def spPeople : Sp := fun vs H Q _ => ∃ v d n ok, vs = [v, .int n] ∧ Dat ok H v d ∧ (∀ ds, d = .tuple ds → ds.length ≤ 1000) ∧ ∀ H', Same H H' → Q (.bl (peopleD n d)) H'
theorem i_spPeople {v : V} {n : Int} {d : PyData} {H : Hp} {Q : VK} {E : XK} {ok : Addr → Prop} (h : Dat ok H v d) (hl : ∀ ds, d = .tuple ds → ds.length ≤ 1000) (q : ∀ H', Same H H' → Q (.bl (peopleD n d)) H') : spPeople [v, .int n] H Q E :=
  ⟨v, d, n, ok, rfl, h, hl, q⟩
theorem people_not : ∀ {ds : List PyData} {n last : Int}, ds.all isIntD = false → peopleOk n last ds = false
  | [], _, _, h => nomatch h
  | .int p :: r, n, last, h => by
    have h : (true && r.all isIntD) = false := h
    rw [Bool.true_and] at h
    show (decide (last < p ∧ p ≤ n) && peopleOk n p r) = false
    rw [people_not h, Bool.and_false]
  | .none :: _, _, _, _ => rfl
  | .bool _ :: _, _, _, _ => rfl
  | .str _ :: _, _, _, _ => rfl
  | .list _ :: _, _, _, _ => rfl
  | .tuple _ :: _, _, _, _ => rfl
  | .dict _ :: _, _, _, _ => rfl
theorem tup_or {ok : Addr → Prop} {H : Hp} {v : V} {d : PyData} (h : Dat ok H v d) : (isTupD d = true ∧ ∃ p xs ds, v = .ref p ∧ d = .tuple ds ∧ H p = some (.tup xs) ∧ DatL ok H xs ds) ∨ isTupD d = false := by
  cases h with
  | tup h q => exact .inl ⟨rfl, _, _, _, rfl, rfl, h, q⟩
  | _ => exact .inr rfl
theorem all_ints : ∀ {ds : List PyData}, ds.all isIntD = true → ∃ is : List Int, ds = is.map PyData.int
  | [], _ => ⟨[], rfl⟩
  | .int i :: r, h => by
    have h : (true && r.all isIntD) = true := h
    obtain ⟨is, e⟩ := all_ints (ds := r) (by rw [Bool.true_and] at h; exact h)
    exact ⟨i :: is, by rw [e]; rfl⟩
  | .none :: _, h => nomatch h
  | .bool _ :: _, h => nomatch h
  | .str _ :: _, h => nomatch h
  | .list _ :: _, h => nomatch h
  | .tuple _ :: _, h => nomatch h
  | .dict _ :: _, h => nomatch h
theorem people_cons {n last p : Int} {r : List PyData} : peopleOk n last (.int p :: r) = (decide (last < p ∧ p ≤ n) && peopleOk n p r) := rfl
theorem people_step {n last p : Int} {is : List Int} {j : Nat} (hj : is[j]? = some p) (h : last < p) (h2 : p ≤ n) : peopleOk n last ((is.drop j).map PyData.int) = peopleOk n p ((is.drop (j + 1)).map PyData.int) := by
  rw [drop_next hj, List.map_cons, people_cons, decide_eq_true ⟨h, h2⟩, Bool.true_and]
theorem people_fail {n last p : Int} {is : List Int} {j : Nat} (hj : is[j]? = some p) (h : ¬ (last < p ∧ p ≤ n)) : peopleOk n last ((is.drop j).map PyData.int) = false := by
  rw [drop_next hj, List.map_cons, people_cons, decide_eq_false h, Bool.false_and]
theorem map_at {α β : Type} {f : α → β} {l : List α} {j : Nat} {y : β} (h : (l.map f)[j]? = some y) : ∃ x, l[j]? = some x ∧ y = f x := by
  rw [List.getElem?_map] at h
  cases e : l[j]? with
  | none => rw [e] at h; cases h
  | some x =>
    rw [e] at h
    cases h
    exact ⟨x, rfl, rfl⟩
theorem ok_are_people (T : Txt K mg w a) : Ok P w K mg base 3 a.f_are_people ["value", "n"] spPeople := by
  obtain ⟨fd, F, b⟩ := T.F_are_people
  obtain ⟨fd1, G_is_listed, b_is_listed⟩ := ok_is_listed (P := P) (base := base) T
  refine ⟨fd, F.ok sc_are_people (fun vs H Q E h => ?_) (fun cdv A outer s H vs Q E hr h => ?_), b⟩
  · obtain ⟨v, d, n, ok, rfl, _⟩ := h
    rfl
  · obtain ⟨v, d, n, ok, rfl, hd, hl, q⟩ := h
    refine ⟨_, (pss_cons (ps_if (PW.pt (pw_or (pt_not (pt_val (pe_callB call_isi (by rfl) T.z_isinstance bt_isinstance (pa_cons (pv 0) (pa_cons (pe_bltn (v := .ty "tuple") rfl T.z_tuple bt_tuple rfl) pa_nil))))) (pw_or1 (pt_not (pt_val (pe_call G_is_listed (hr.mono (by decide)) (by rfl) T.a_is_listed T.k_is_listed b_is_listed .nil pass0 (pa_cons (pv 0) pa_nil))))))) (pss_one (ps_ret pe_bl)) pss_nil)
      (pss_cons (ps_set (i := 2) sc_are_people.nd rfl (Or.inl rfl) pe_int)
      (pss_cons (ps_for PassesOwn.never rfl (pi_tup (pv 0)) (pg_name (i := 3) sc_are_people.nd rfl (Or.inl rfl)) (pss_cons (ps_if (pt_not (pt_chain op_lt op_le (pv 2) (pv 3) (pv 1))) (pss_one (ps_ret pe_bl)) pss_nil)
      (pss_one (ps_set (i := 2) sc_are_people.nd rfl (Or.inl rfl) (pv 3)))))
      (pss_one (ps_ret pe_bl))))), ?_⟩
    walk_at "go"
    refine w_isi hd (kit_tuple d hd.nd) ?_
    walk_at "go"
    rcases tup_or hd with ⟨e, p, xs, ds, rfl, rfl, hp, hds⟩ | e
    · rw [e]
      refine iteF ?_
      walk_at "go"
      refine i_spListed hp hds (hl _ rfl) (fun H1 s1 => ?_)
      walk_at "go"
      refine w_nite (fun e2 => ?_) (fun e2 => ?_)
      · walk_at "go"
        have q1 := q H1 s1
        rw [show peopleD n (.tuple ds) = false from people_not e2] at q1
        exact q1
      · walk_at "go"
        obtain ⟨is, rfl⟩ := all_ints e2
        have ex := ints_of hds
        subst ex
        refine w_loopT (SqT.of (s1 _ _ hp)) (fun j σ' H' => ∃ (last : Int) (y : Option V), σ' = [some (.ref p), some (.int n), some (.int last), y] ∧ Same H1 H' ∧ peopleOk n 0 (is.map PyData.int) = peopleOk n last ((is.drop j).map PyData.int))
          ⟨0, none, rfl, Same.refl H1, rfl⟩ (fun j σ' H' ⟨_, _, _, s2, _⟩ => SqT.of (s2 _ _ (s1 _ _ hp))) (fun j x σ' H' hi ⟨last, y, e3, s2, e4⟩ => ?_) (fun σ' H' ⟨last, y, e3, s2, e4⟩ => ?_)
        · subst e3
          obtain ⟨i, hi', rfl⟩ := map_at hi
          walk_at "go"
          refine w_dec (fun c => ?_) (fun c => ?_)
          · walk_at "go"
            refine w_ndec (fun c2 => ?_) (fun c2 => ?_)
            · walk_at "go"
              have q1 := q H' (s1.trans s2)
              rw [show peopleD n (.tuple (is.map PyData.int)) = peopleOk n 0 (is.map PyData.int) from rfl, e4, people_fail hi' (fun z => c2 z.2)] at q1
              exact q1
            · walk_at "go"
              exact ⟨i, _, rfl, s2, e4.trans (people_step hi' c c2)⟩
          · walk_at "go"
            refine iteT ?_
            walk_at "go"
            have q1 := q H' (s1.trans s2)
            rw [show peopleD n (.tuple (is.map PyData.int)) = peopleOk n 0 (is.map PyData.int) from rfl, e4, people_fail hi' (fun z => c z.1)] at q1
            exact q1
        · subst e3
          walk_at "go"
          have q1 := q H' (s1.trans s2)
          rw [show peopleD n (.tuple (is.map PyData.int)) = peopleOk n 0 (is.map PyData.int) from rfl, e4, List.length_map, List.drop_length] at q1
          exact q1
    · rw [e]
      refine iteT ?_
      refine iteT ?_
      walk_at "go"
      have q1 := q H (Same.refl H)
      rw [show peopleD n d = false by cases d <;> first | rfl | cases e] at q1
      exact q1
end
end K17
namespace K17
open PySem L2
/-! The draws: start, draw, wide, people, constant, number. -/
local macro_rules | `(tactic| walk_at "go") => `(tactic| repeat (first | with_reducible refine w_var (by with_unfolding_all rfl) ?_ | with_reducible refine w_c ?_ | with_reducible refine w_seq ?_ | with_reducible refine w_set ?_ | with_reducible refine w_ret ?_ | with_reducible refine w_if ?_ | with_reducible refine w_op ?_ | with_reducible refine w_ii ?_ | with_reducible refine w_test ?_ | with_reducible refine w_bl ?_ | with_reducible refine w_cb ?_ | with_reducible refine w_call ?_ | with_reducible refine w_nil ?_ | with_reducible refine w_cons ?_ | with_reducible refine w_eqI ?_ | with_reducible refine w_eqS ?_ | with_reducible refine w_neI ?_ | with_reducible refine w_neS ?_ | with_reducible refine w_andV ?_ | with_reducible refine w_orV ?_ | with_reducible refine w_notV ?_ | with_reducible refine w_and ?_ | with_reducible refine w_or ?_ | with_reducible refine w_not ?_ | with_reducible refine w_ifE ?_ | with_reducible refine w_chain ?_ | with_reducible refine w_B ?_ | with_reducible refine w_drop ?_ | with_reducible refine w_next ?_ | with_reducible refine w_un ?_ | with_reducible refine w_iu ?_ | with_reducible refine w_isN ?_ | with_reducible refine w_notN ?_ | with_reducible refine w_int1 ?_ | with_reducible refine w_abs ?_ | with_reducible refine w_min ?_ | with_reducible refine w_max ?_ | with_reducible refine w_tup ?_ | with_reducible refine w_lst ?_ | with_reducible refine w_sl ?_ | with_reducible refine w_noPart ?_ | with_reducible refine w_part ?_ | with_reducible refine w_pi ?_ | with_reducible refine w_bm ?_ | with_reducible refine w_tyS ?_ | with_reducible refine w_m1 ?_ | with_reducible refine w_str ?_ | with_reducible refine w_forL ?_ | with_reducible refine w_forT ?_ | with_reducible refine w_forR1 ?_ | with_reducible refine w_forS ?_ | with_reducible refine w_lcL ?_ | with_reducible refine w_lcT ?_ | with_reducible refine w_lcR1 ?_ | with_reducible refine w_lcR2 ?_ | with_reducible refine w_yes ?_ | with_reducible refine w_asgSub ?_ | with_reducible refine w_callS ?_))
section
variable {K : PySem.W.Frag} {σ : St} {H : Hp} {Q : VK} {v y : V} {D : Ends} {g : TG} {te : TE} {tr : TA} {tb : TS}
theorem v_set {p : Addr} {xs : List V} {k : Int} {n : Nat} {R : Hp → Prop} (hp : H p = some (.lst xs)) (hk : ixN xs.length k = some n) (h : ∀ H', Ch p H H' → H' p = some (.lst (xs.set n v)) → R H') : rSetL (.ref p) (.int k) v H R := w_setL hp hk (h _ ch_upd upd_same)
theorem v_app {l : Addr} {xs : List V} (hl : H l = some (.lst xs)) (hz : xs.length < 1000000) (h : ∀ H', Ch l H H' → H' l = some (.lst (xs ++ [y])) → Q .non H') : rAppend (.ref l) [y] H Q := w_app hl hz (h _ ch_upd upd_same)
/-- range(a, b) as what a for walks, by one word -/
theorem w_forR2 (h : tr σ H fun vs H1 => ∃ i j : Int, vs = [.int i, .int j] ∧ (-(2 ^ 62) ≤ i ∧ i < 2 ^ 62 ∧ -(2 ^ 62) ≤ j ∧ j < 2 ^ 62) ∧ tFor (fun _ H R => R (Itr i (j - i).toNat) H) g tb D σ H1) : tFor (iRng2 tr) g tb D σ H := h
/-- where the state of the draws stands: its list, the script's copy and that one's numbers -/
structure StA where
  st : Addr
  sc : Addr
  ns : List Int
def StOk (H : Hp) (z : StA) : Prop := ∃ (c1 c2 c3 c4 : Int), H z.st = some (.lst [.ref z.sc, .int c1, .int c2, .int c3, .int c4]) ∧ H z.sc = some (.lst (z.ns.map V.int)) ∧ z.sc ≠ z.st ∧ 0 ≤ c1
theorem StOk.lst {z : StA} (h : StOk H z) : ∃ xs, H z.st = some (.lst xs) := by
  obtain ⟨c1, c2, c3, c4, h, _⟩ := h
  exact ⟨_, h⟩
theorem StOk.lst2 {z : StA} (h : StOk H z) : ∃ xs, H z.sc = some (.lst xs) := by
  obtain ⟨c1, c2, c3, c4, _, h, _⟩ := h
  exact ⟨_, h⟩
theorem StOk.same {H' : Hp} {z : StA} (s : Same H H') (h : StOk H z) : StOk H' z := by
  obtain ⟨c1, c2, c3, c4, h1, h2, h3, h4⟩ := h
  exact ⟨c1, c2, c3, c4, s _ _ h1, s _ _ h2, h3, h4⟩
/-- another object changes -/
theorem StOk.ch {H' : Hp} {z : StA} {l : Addr} (c : Ch l H H') (n : z.st ≠ l) (m : z.sc ≠ l) (h : StOk H z) : StOk H' z := by
  obtain ⟨c1, c2, c3, c4, h1, h2, h3, h4⟩ := h
  exact ⟨c1, c2, c3, c4, c _ _ n h1, c _ _ m h2, h3, h4⟩
theorem StOk.ne {z : StA} {p : Addr} (h : StOk H z) (n : H p = none) : z.st ≠ p ∧ z.sc ≠ p := by
  obtain ⟨c1, c2, c3, c4, h1, h2, _⟩ := h
  exact ⟨ne_of_none h1 n, ne_of_none h2 n⟩
theorem StOk.tk {H' : Hp} {z : StA} (h : StOk H z) (c : Ch z.st H H') : TK H H' := by
  obtain ⟨xs, e⟩ := h.lst
  exact TK.ch c e
def spDraw : Sp := fun vs H Q _ => ∃ (z : StA) (lim : Int), vs = [.ref z.st, .int lim] ∧ lim ≤ 1000000000 ∧ StOk H z ∧ ∀ H' r, Ch z.st H H' → StOk H' z → 0 ≤ r → (r < lim ∨ r = 0) → Q (.int r) H'
theorem i_spDraw {z : StA} {lim : Int} {E : XK} (hl : lim ≤ 1000000000) (h : StOk H z) (q : ∀ H' r, Ch z.st H H' → StOk H' z → 0 ≤ r → (r < lim ∨ r = 0) → Q (.int r) H') : spDraw [.ref z.st, .int lim] H Q E := ⟨z, lim, rfl, hl, h, q⟩
end
theorem nosmall {j : Int} (h1 : 0 < j) (h2 : j ≤ 1000000000) : CDivN j j := ⟨by omega, by omega⟩
section
variable {P : Program} {w : World} {K : PySem.W.Frag} {mg : Str → Option Value} {base : Heap} {a : Ad}
def spStart (K : PySem.W.Frag) : Sp := fun vs H Q _ => ∃ (p : Addr) (ns : List Int), vs = [.ref p] ∧ SqL K H p (ns.map V.int) ∧ ∀ H' (z : StA), H z.st = none → H z.sc = none → Same H H' → StOk H' z → Q (.ref z.st) H'
theorem ok__law_start (T : Txt K mg w a) : Ok P w K mg base 1 a.f__law_start ["_law_script"] (spStart K) := by
  obtain ⟨fd, F, b⟩ := T.F__law_start
  refine ⟨fd, F.ok sc__law_start (fun vs H Q E h => ?_) (fun cdv A outer s H vs Q E hr h => ?_), b⟩
  · obtain ⟨p, ns, rfl, _⟩ := h
    rfl
  · obtain ⟨p, ns, rfl, hp, q⟩ := h
    refine ⟨_, (pss_one (ps_ret (pe_lst (pa_cons (pe_callTy c_listOf (by rfl) T.z_list bt_list (pa_cons (pv 0) pa_nil)) (pa_cons pe_int (pa_cons pe_int (pa_cons pe_int (pa_cons pe_int pa_nil)))))))), ?_⟩
    walk_at "go"
    refine w_listL (.inl hp) (fun l H1 nl s1 el => ?_)
    walk_at "go"
    refine w_newL (by show 5 ≤ 1000000; decide) (fun st H2 n2 s2 e2 => ?_)
    refine q H2 ⟨st, l, ns⟩ (s1.free n2) nl (s1.trans s2) ⟨0, 0, 0, 7, e2, s2 _ _ el, ne_of_none el n2, by omega⟩
theorem fmod_in {x lim : Int} (h : 0 < lim) : 0 ≤ x.fmod lim ∧ x.fmod lim < lim := by
  rw [Int.fmod_eq_emod_of_nonneg x (by omega)]
  exact ⟨Int.emod_nonneg x (by omega), Int.emod_lt_of_pos x h⟩
theorem at0 {a b c d e : V} : atI [a, b, c, d, e] 0 = some a := rfl
theorem at1 {a b c d e : V} : atI [a, b, c, d, e] 1 = some b := rfl
theorem at2 {a b c d e : V} : atI [a, b, c, d, e] 2 = some c := rfl
theorem at3 {a b c d e : V} : atI [a, b, c, d, e] 3 = some d := rfl
theorem at4 {a b c d e : V} : atI [a, b, c, d, e] 4 = some e := rfl
theorem w_cut {t u : TS} {D : Ends} {σ : St} {H : Hp} (Mid : St → Hp → Prop) (h1 : t { D with nx := Mid } σ H) (h2 : ∀ σ' H', Mid σ' H' → u D σ' H') : Evl.tCut t u D σ H := ⟨Mid, h1, h2⟩
theorem ok__law_draw (T : Txt K mg w a) : Ok P w K mg base 1 a.f__law_draw ["_law_state", "_law_limit"] spDraw := by
  obtain ⟨fd, F, b⟩ := T.F__law_draw
  refine ⟨fd, F.ok sc__law_draw (fun vs H Q E h => ?_) (fun cdv A outer s H vs Q E hr h => ?_), b⟩
  · obtain ⟨p, ns, rfl, _⟩ := h
    rfl
  · obtain ⟨⟨st, sc, ns⟩, lim, rfl, hl, hst, q⟩ := h
    dsimp only at q hst ⊢
    refine ⟨_, (Evl.pss_cut (ps_if (pt_cmpR op_lt (pv 1) pe_int (nomark _)) (pss_one (ps_set (i := 1) sc__law_draw.nd rfl (Or.inl rfl) pe_int)) pss_nil)
      (Evl.pss_cut (ps_if (PW.pt (pw_and (pt_cmpR op_eq (pe_ix ix_list (pv 0) pe_int (fun _ _ => rfl)) pe_int (nomark _)) (pw_and1 (pt_cmpR op_lt (pe_ix ix_list (pv 0) pe_int (fun _ _ => rfl)) (pe_callB c_len (by rfl) T.z_len bt_len (pa_cons (pe_ix ix_list (pv 0) pe_int (fun _ _ => rfl)) pa_nil)) (nomark _))))) (pss_cons (ps_set (i := 2) sc__law_draw.nd rfl (Or.inl rfl) (pe_callB c_abs (by rfl) T.z_abs bt_abs (pa_cons (pe_callTy c_int1 (by rfl) T.z_int bt_int (pa_cons (pe_ix ix_list (pe_ix ix_list (pv 0) pe_int (fun _ _ => rfl)) (pe_ix ix_list (pv 0) pe_int (fun _ _ => rfl)) (fun _ _ => rfl)) pa_nil)) pa_nil)))
      (pss_cons (ps_asg (pe_op op_add (pe_ix ix_list (pv 0) pe_int (fun _ _ => rfl)) pe_int) (pg_sub (pv 0) pe_int set_list))
      (pss_cons (ps_asg pe_int (pg_sub (pv 0) pe_int set_list))
      (pss_one (ps_if (pt_cmpR op_ge (pv 2) (pe_op op_pow pe_int pe_int) (nomark _)) (pss_cons (ps_asg (pv 2) (pg_sub (pv 0) pe_int set_list))
      (pss_one (ps_asg pe_int (pg_sub (pv 0) pe_int set_list)))) (pss_one (ps_asg (pe_op op_modN (pe_callTy c_int1 (by rfl) T.z_int bt_int (pa_cons (pe_op op_add (pe_op op_add (pe_op op_mul (pe_ix ix_list (pv 0) pe_int (fun _ _ => rfl)) pe_int) (pv 2)) (pe_ix ix_list (pv 0) pe_int (fun _ _ => rfl))) pa_nil)) pe_int) (pg_sub (pv 0) pe_int set_list)))))))) pss_nil)
      (pss_cons (ps_if (pt_cmpR op_gt (pe_ix ix_list (pv 0) pe_int (fun _ _ => rfl)) pe_int (nomark _)) (pss_cons (ps_set (i := 3) sc__law_draw.nd rfl (Or.inl rfl) (pe_op op_modN (pe_callTy c_int1 (by rfl) T.z_int bt_int (pa_cons (pe_ix ix_list (pv 0) pe_int (fun _ _ => rfl)) pa_nil)) (pv 1)))
      (pss_cons (ps_asg (pe_op op_fdivN (pe_ix ix_list (pv 0) pe_int (fun _ _ => rfl)) (pv 1)) (pg_sub (pv 0) pe_int set_list))
      (pss_cons (ps_asg (pe_op op_sub (pe_ix ix_list (pv 0) pe_int (fun _ _ => rfl)) pe_int) (pg_sub (pv 0) pe_int set_list))
      (pss_cons (ps_if (PW.pt (pw_or (pt_cmpR op_eq (pe_ix ix_list (pv 0) pe_int (fun _ _ => rfl)) pe_int (nomark _)) (pw_or1 (pt_cmpR op_eq (pe_ix ix_list (pv 0) pe_int (fun _ _ => rfl)) pe_int (nomark _))))) (pss_cons (ps_asg pe_int (pg_sub (pv 0) pe_int set_list))
      (pss_one (ps_asg pe_int (pg_sub (pv 0) pe_int set_list)))) pss_nil)
      (pss_one (ps_ret (pv 3))))))) pss_nil)
      (pss_cons (ps_asg (pe_callB (c_max rfl) (by rfl) T.z_max bt_max (pa_cons pe_int (pa_cons (pe_op op_sub (pe_ix ix_list (pv 0) pe_int (fun _ _ => rfl)) pe_int) pa_nil))) (pg_sub (pv 0) pe_int set_list))
      (pss_cons (ps_asg (pe_op op_modN (pe_callTy c_int1 (by rfl) T.z_int bt_int (pa_cons (pe_op op_add (pe_op op_mul (pe_ix ix_list (pv 0) pe_int (fun _ _ => rfl)) pe_int) pe_int) pa_nil)) pe_int) (pg_sub (pv 0) pe_int set_list))
      (pss_one (ps_ret (pe_op op_modN (pe_callTy c_int1 (by rfl) T.z_int bt_int (pa_cons (pe_op op_modN (pe_callTy c_int1 (by rfl) T.z_int bt_int (pa_cons (pe_op op_add (pe_op op_mul (pe_ix ix_list (pv 0) pe_int (fun _ _ => rfl)) pe_int) pe_int) pa_nil)) pe_int) pa_nil)) (pv 1))))))))), ?_⟩
    refine w_cut (fun σ' H' => ∃ (lm : Int) (y z : Option V), σ' = [some (.ref st), some (.int lm), y, z] ∧ H' = H ∧ 0 < lm ∧ lm ≤ 1000000000 ∧ (lm = lim ∨ lm = 1)) ?_ ?_
    · walk_at "go"
      refine w_dec (fun c => ?_) (fun c => ?_)
      · walk_at "go"
        exact ⟨1, none, none, rfl, rfl, by omega, by omega, .inr rfl⟩
      · walk_at "go"
        exact ⟨lim, none, none, rfl, rfl, by omega, hl, .inl rfl⟩
    rintro σ' H' ⟨lm, y, z, rfl, rfl, l0, l1, l2⟩
    have Q1 : ∀ H1 r, Ch st H' H1 → StOk H1 ⟨st, sc, ns⟩ → 0 ≤ r ∧ r < lm → Q (.int r) H1 := fun H1 r c o ⟨r0, r1⟩ => q H1 r c o r0 (by omega)
    clear q
    refine w_cut (fun σ2 H2 => ∃ (y z : Option V), σ2 = [some (.ref st), some (.int lm), y, z] ∧ Ch st H' H2 ∧ StOk H2 ⟨st, sc, ns⟩) ?_ ?_
    · obtain ⟨c1, c2, c3, c4, e1, e2, e3, e4⟩ := hst
      dsimp only at e1 e2 e3
      walk_at "go"
      refine w_ixL e1 at3 ?_
      walk_at "go"
      refine w_dec (fun c => ?_) (fun c => ?_)
      · walk_at "go"
        refine w_ixL e1 at1 ?_
        walk_at "go"
        refine w_ixL e1 at0 ?_
        walk_at "go"
        refine w_lenL e2 ?_
        walk_at "go"
        refine w_dec (fun c5 => ?_) (fun c5 => ?_)
        · walk_at "go"
          refine w_ixL e1 at0 ?_
          walk_at "go"
          refine w_ixL e1 at1 ?_
          rw [List.length_map] at c5
          obtain ⟨k, rfl⟩ := Int.eq_ofNat_of_zero_le e4
          have hk : k < ns.length := by omega
          refine w_ixL e2 (v := .int ns[k]) (atI_nat (by rw [List.getElem?_map, List.getElem?_eq_getElem hk]; rfl)) ?_
          walk_at "go"
          refine w_ixL e1 at1 ?_
          walk_at "go"
          refine v_set e1 (n := 1) rfl (fun H3 s3 e5 => ?_)
          walk_at "go"
          refine v_set e5 (n := 3) rfl (fun H4 s4 e6 => ?_)
          walk_at "go"
          refine w_iic ⟨by decide, by decide, by decide⟩ ?_
          walk_at "go"
          refine w_dec (fun c6 => ?_) (fun c6 => ?_)
          · walk_at "go"
            refine v_set e6 (n := 2) rfl (fun H5 s5 e7 => ?_)
            walk_at "go"
            refine v_set e7 (n := 3) rfl (fun H6 s6 e8 => ?_)
            have s := ((s3.trans s4).trans s5).trans s6
            exact ⟨_, _, rfl, s, _, _, _, _, e8, s _ _ e3 e2, e3, by omega⟩
          · walk_at "go"
            refine w_ixL e6 at4 ?_
            walk_at "go"
            refine w_iic (.inr ⟨by decide, by decide⟩) ?_
            walk_at "go"
            refine w_ixL e6 at1 ?_
            walk_at "go"
            refine w_iic (by decide) ?_
            walk_at "go"
            refine v_set e6 (n := 4) rfl (fun H5 s5 e7 => ?_)
            have s := (s3.trans s4).trans s5
            exact ⟨_, _, rfl, s, _, _, _, _, e7, s _ _ e3 e2, e3, by omega⟩
        · walk_at "go"
          exact ⟨_, _, rfl, Ch.refl _ _, _, _, _, _, e1, e2, e3, e4⟩
      · refine iteF ?_
        walk_at "go"
        exact ⟨_, _, rfl, Ch.refl _ _, _, _, _, _, e1, e2, e3, e4⟩
    rintro σ2 H2 ⟨y2, z2, rfl, s2, c1, c2, c3, c4, e1, e2, e3, e4⟩
    dsimp only at e1 e2 e3
    walk_at "go"
    refine w_ixL e1 at2 ?_
    walk_at "go"
    refine w_dec (fun c => ?_) (fun c => ?_)
    · walk_at "go"
      refine w_ixL e1 at2 ?_
      walk_at "go"
      refine w_iic (by omega) ?_
      walk_at "go"
      refine w_ixL e1 at2 ?_
      walk_at "go"
      refine w_iic ⟨by omega, by omega⟩ ?_
      walk_at "go"
      refine v_set e1 (n := 2) rfl (fun H3 s3 e5 => ?_)
      walk_at "go"
      refine w_ixL e5 at3 ?_
      walk_at "go"
      refine v_set e5 (n := 3) rfl (fun H4 s4 e6 => ?_)
      walk_at "go"
      refine w_ixL e6 at2 ?_
      walk_at "go"
      have fin : ∀ H5 d1 d2, Ch st H4 H5 → H5 st = some (.lst [.ref sc, .int c1, .int d1, .int d2, .int c4]) → Q (.int (c2.fmod lm)) H5 := fun H5 d1 d2 s5 e7 =>
        Q1 H5 _ (((s2.trans s3).trans s4).trans s5) ⟨_, _, _, _, e7, ((s3.trans s4).trans s5) _ _ e3 e2, e3, e4⟩ (fmod_in l0)
      refine w_dec (fun c5 => ?_) (fun c5 => ?_)
      · refine iteT ?_
        walk_at "go"
        refine v_set e6 (n := 2) rfl (fun H5 s5 e7 => ?_)
        walk_at "go"
        refine v_set e7 (n := 3) rfl (fun H6 s6 e8 => ?_)
        walk_at "go"
        exact fin H6 _ _ (s5.trans s6) e8
      · walk_at "go"
        refine w_ixL e6 at3 ?_
        walk_at "go"
        refine w_dec (fun c6 => ?_) (fun c6 => ?_)
        · walk_at "go"
          refine v_set e6 (n := 2) rfl (fun H5 s5 e7 => ?_)
          walk_at "go"
          refine v_set e7 (n := 3) rfl (fun H6 s6 e8 => ?_)
          walk_at "go"
          exact fin H6 _ _ (s5.trans s6) e8
        · walk_at "go"
          exact fin H4 _ _ (Ch.refl _ _) e6
    · walk_at "go"
      refine w_ixL e1 at3 ?_
      walk_at "go"
      refine v_set e1 (n := 3) rfl (fun H3 s3 e5 => ?_)
      walk_at "go"
      refine w_ixL e5 at4 ?_
      walk_at "go"
      refine w_iic (.inr ⟨by decide, by decide⟩) ?_
      walk_at "go"
      refine w_iic (by decide) ?_
      walk_at "go"
      refine v_set e5 (n := 4) rfl (fun H4 s4 e6 => ?_)
      walk_at "go"
      refine w_ixL e6 at4 ?_
      walk_at "go"
      refine w_iic (.inr ⟨by decide, by decide⟩) ?_
      walk_at "go"
      refine w_iic (by decide) ?_
      walk_at "go"
      refine w_iic (by omega) ?_
      exact Q1 H4 _ ((s2.trans s3).trans s4) ⟨_, _, _, _, e6, (s3.trans s4) _ _ e3 e2, e3, e4⟩ (fmod_in l0)
theorem len_start : True := trivial
def spWide : Sp := fun vs H Q _ => ∃ (z : StA), vs = [.ref z.st] ∧ StOk H z ∧ ∀ H' r, Ch z.st H H' → StOk H' z → 0 ≤ r → r < 10 ^ 40 → Q (.int r) H'
theorem i_spWide {z : StA} {H : Hp} {Q : VK} {E : XK} (h : StOk H z) (q : ∀ H' r, Ch z.st H H' → StOk H' z → 0 ≤ r → r < 10 ^ 40 → Q (.int r) H') : spWide [.ref z.st] H Q E := ⟨z, rfl, h, q⟩
theorem pow_le {j n : Nat} (h : j ≤ n) : ((10 ^ j : Nat) : Int) ≤ ((10 ^ n : Nat) : Int) := Int.ofNat_le.mpr (Nat.pow_le_pow_right (by decide) h)
theorem pow_pos' (j : Nat) : 0 < ((10 ^ j : Nat) : Int) := Int.ofNat_lt.mpr (Nat.pow_pos (by decide))
theorem ok__law_wide (T : Txt K mg w a) : Ok P w K mg base 2 a.f__law_wide ["_law_state"] spWide := by
  obtain ⟨fd, F, b⟩ := T.F__law_wide
  obtain ⟨fd1, G__law_draw, b__law_draw⟩ := ok__law_draw (P := P) (base := base) T
  refine ⟨fd, F.ok sc__law_wide (fun vs H Q E h => ?_) (fun cdv A outer s H vs Q E hr h => ?_), b⟩
  · obtain ⟨z, rfl, _⟩ := h
    rfl
  · obtain ⟨z, rfl, hst, q⟩ := h
    refine ⟨_, (pss_cons (ps_set (i := 1) sc__law_wide.nd rfl (Or.inl rfl) pe_int)
      (pss_cons (ps_for PassesOwn.never rfl (pi_range1 (by rfl) T.z_range (pa_cons pe_int pa_nil)) (pg_name (i := 2) sc__law_wide.nd rfl (Or.inl rfl)) (pss_one (ps_set (i := 1) sc__law_wide.nd rfl (Or.inl rfl) (pe_op op_add (pe_op op_mul (pv 1) (pe_op op_pow pe_int pe_int)) (pe_call G__law_draw (hr.mono (by decide)) (by rfl) T.a__law_draw T.k__law_draw b__law_draw .nil pass0 (pa_cons (pv 0) (pa_cons (pe_op op_pow pe_int pe_int) pa_nil)))))))
      (pss_cons (ps_set (i := 3) sc__law_wide.nd rfl (Or.inl rfl) pe_int)
      (pss_cons (ps_for PassesOwn.never rfl (pi_range1 (by rfl) T.z_range (pa_cons (pe_call G__law_draw (hr.mono (by decide)) (by rfl) T.a__law_draw T.k__law_draw b__law_draw .nil pass0 (pa_cons (pv 0) (pa_cons pe_int pa_nil))) pa_nil)) (pg_name (i := 2) sc__law_wide.nd rfl (Or.inl rfl)) (pss_one (ps_set (i := 3) sc__law_wide.nd rfl (Or.inl rfl) (pe_op op_mul (pv 3) pe_int))))
      (pss_one (ps_ret (pe_op op_modN (pe_callTy c_int1 (by rfl) T.z_int bt_int (pa_cons (pv 1) pa_nil)) (pv 3)))))))), ?_⟩
    walk_at "go"
    refine w_loopR1 (by decide) (by decide) (fun j σ' H' => ∃ (n : Int) (y : Option V), σ' = [some (.ref z.st), some (.int n), y, none] ∧ Ch z.st H H' ∧ StOk H' z) ⟨0, none, rfl, Ch.refl _ _, hst⟩ (fun j σ' H' hj ⟨n, y, e1, c1, o1⟩ => ?_) (fun σ' H' ⟨n, y, e1, c1, o1⟩ => ?_)
    · subst e1
      walk_at "go"
      refine w_iic ⟨by decide, by decide, by decide⟩ ?_
      refine w_iic (.inr ⟨by decide, by decide⟩) ?_
      walk_at "go"
      refine w_iic ⟨by decide, by decide, by decide⟩ ?_
      walk_at "go"
      refine i_spDraw (by decide) o1 (fun H2 r c2 o2 r0 r1 => ?_)
      walk_at "go"
      exact ⟨_, _, rfl, c1.trans c2, o2⟩
    · subst e1
      walk_at "go"
      refine i_spDraw (by decide) o1 (fun H2 r c2 o2 r0 r1 => ?_)
      walk_at "go"
      refine w_loopR1 (by omega) (by omega) (fun j σ' H' => ∃ (y : Option V), σ' = [some (.ref z.st), some (.int n), y, some (.int ((10 ^ j : Nat) : Int))] ∧ H' = H2) ⟨_, rfl, rfl⟩ (fun j σ' H' hj ⟨y, e1, e2⟩ => ?_) (fun σ' H' ⟨y, e1, e2⟩ => ?_)
      · subst e1 e2
        walk_at "go"
        refine w_iic (.inr ⟨by decide, by decide⟩) ?_
        refine ⟨some (.int (j : Int)), ?_, rfl⟩
        rw [show ((10 ^ (j + 1) : Nat) : Int) = ((10 ^ j : Nat) : Int) * 10 by rw [Nat.pow_succ]; omega]
        rfl
      · subst e1 e2
        walk_at "go"
        have p := pow_pos' r.toNat
        refine w_iic (by omega) ?_
        have f := fmod_in (x := n) p
        have le := pow_le (j := r.toNat) (n := 40) (by omega)
        refine q H' _ (c1.trans c2) o2 f.1 (Int.lt_of_lt_of_le f.2 ?_)
        exact le
def spPs : Sp := fun vs H Q _ => ∃ (z : StA) (n : Int), vs = [.ref z.st, .int n] ∧ 1 ≤ n ∧ n ≤ 100 ∧ StOk H z ∧
  ∀ H' p (ps : List Int), Ch z.st H H' → StOk H' z → H' p = some (.tup (ps.map V.int)) → ps ≠ [] → ps.length ≤ 100 → (∀ i ∈ ps, 1 ≤ i ∧ i ≤ n) → Q (.ref p) H'
theorem i_spPs {z : StA} {n : Int} {H : Hp} {Q : VK} {E : XK} (h1 : 1 ≤ n) (h2 : n ≤ 100) (h : StOk H z) (q : ∀ H' p (ps : List Int), Ch z.st H H' → StOk H' z → H' p = some (.tup (ps.map V.int)) → ps ≠ [] → ps.length ≤ 100 → (∀ i ∈ ps, 1 ≤ i ∧ i ≤ n) → Q (.ref p) H') :
    spPs [.ref z.st, .int n] H Q E := ⟨z, n, rfl, h1, h2, h, q⟩
theorem ch_new {st d : Addr} {H H' : Hp} {o : HO} (c : Ch st H H') (h : H d = none) : Ch st H (upd H' d o) := fun b x n e => by
  rw [upd_ne (ne_of_none e h)]
  exact c b x n e
theorem StOk.new {z : StA} {H H' : Hp} {d : Addr} {o : HO} (h : StOk H' z) (h0 : StOk H z) (n : H d = none) : StOk (upd H' d o) z := by
  obtain ⟨c1, c2, c3, c4, e1, e2, e3, e4⟩ := h
  obtain ⟨n1, n2⟩ := h0.ne n
  exact ⟨c1, c2, c3, c4, by rw [upd_ne n1]; exact e1, by rw [upd_ne n2]; exact e2, e3, e4⟩
theorem ok__law_people (T : Txt K mg w a) : Ok P w K mg base 2 a.f__law_people ["_law_state", "_law_n"] spPs := by
  obtain ⟨fd, F, b⟩ := T.F__law_people
  obtain ⟨fd1, G__law_draw, b__law_draw⟩ := ok__law_draw (P := P) (base := base) T
  refine ⟨fd, F.ok sc__law_people (fun vs H Q E h => ?_) (fun cdv A outer s H vs Q E hr h => ?_), b⟩
  · obtain ⟨z, n, rfl, _⟩ := h
    rfl
  · obtain ⟨z, n, rfl, n1, n2, hst, q⟩ := h
    refine ⟨_, (pss_cons (ps_set (i := 2) sc__law_people.nd rfl (Or.inl rfl) (pe_callTy c_tupOf (by rfl) T.z_tuple bt_tuple (pa_cons (pe_lc (own := [("_law_person", 3)]) (g := gName 3) (by rfl) sc__law_people.nd (pi_range2 (by rfl) T.z_range (pa_cons pe_int (pa_cons (pe_op op_add (pv 1) pe_int) pa_nil))) (blkOk_by (own := [("_law_person", 3)]) (N := ["_law_state", "_law_n", "_law_found", "_law_person"]) (sc := defScope s__law_people) (by decide +kernel)) (fun _ _ _ _ _ => pg_name (i := 3) sc__law_people.nd rfl (Or.inl rfl)) (fun _ _ _ _ _ => (pts_one (pt_cmpR op_eq (pe_call G__law_draw (hr.mono (by decide)) (by rfl) T.a__law_draw T.k__law_draw b__law_draw .nil pass0 (pa_cons (pv 0) (pa_cons pe_int pa_nil))) pe_int (nomark _)))) (fun _ _ _ _ _ => (pv 3))) pa_nil)))
      (pss_cons (ps_if (pt_cmpR op_eq (pe_callB c_len (by rfl) T.z_len bt_len (pa_cons (pv 2) pa_nil)) pe_int (nomark _)) (pss_one (ps_ret (pe_tup (pa_cons (pe_op op_add pe_int (pe_call G__law_draw (hr.mono (by decide)) (by rfl) T.a__law_draw T.k__law_draw b__law_draw .nil pass0 (pa_cons (pv 0) (pa_cons (pv 1) pa_nil)))) pa_nil)))) pss_nil)
      (pss_one (ps_ret (pv 2))))), ?_⟩
    walk_at "go"
    refine ⟨1, n + 1, rfl, rfl, ⟨by omega, by omega, by omega, by omega⟩, ?_⟩
    refine w_compR (fun x => rfl) (by omega) (fun j acc H' => Ch z.st H H' ∧ StOk H' z ∧ ∃ ps : List Int, acc = ps.map V.int ∧ ps.length ≤ j ∧ ∀ i ∈ ps, 1 ≤ i ∧ i ≤ n) (fun H' s => ⟨Ch.of s, hst.same s, [], rfl, Nat.le_refl _, fun i hi => by cases hi⟩)
      (fun d j acc H' o hd ⟨c, o1, r⟩ => ⟨ch_new c hd, o1.new hst hd, r⟩) (fun d j acc H' hj ⟨c, o1, ps, ea, hl, hp⟩ nd ed la PP NN hP hN => ?_) (fun d acc H' ⟨c, o1, ps, ea, hl, hp⟩ nd ed la => ?_)
    · subst ea
      walk_at "go"
      have nst : d ≠ z.st := fun e => by
        obtain ⟨xs, e2⟩ := hst.lst
        rw [← e, nd] at e2
        cases e2
      refine i_spDraw (by decide) o1 (fun H2 r c2 o2 r0 r1 => ?_)
      walk_at "go"
      refine w_dec (fun c5 => ?_) (fun c5 => ?_)
      · walk_at "go"
        refine hP _ _ (c2 _ _ nst ed) ⟨c.trans c2, o2, ps ++ [1 + (j : Int)], by rw [List.map_append]; rfl, by rw [List.length_append]; show ps.length + 1 ≤ j + 1; omega, fun i hi => ?_⟩
        rcases List.mem_append.mp hi with z1 | z1
        · exact hp i z1
        · rw [List.mem_singleton.mp z1]
          omega
      · exact hN _ (c2 _ _ nst ed) ⟨c.trans c2, o2, ps, rfl, by omega, hp⟩
    · subst ea
      walk_at "go"
      refine w_tupL ed (fun p H2 np s2 ep => ?_)
      walk_at "go"
      refine w_lenT ep ?_
      walk_at "go"
      have hl' : ps.length ≤ 100 := by omega
      refine w_dec (fun c5 => ?_) (fun c5 => ?_)
      · walk_at "go"
        refine i_spDraw (by omega) (o1.same s2) (fun H3 r c3 o3 r0 r1 => ?_)
        walk_at "go"
        refine w_newT (by show 1 ≤ 1000000; decide) (fun p2 H4 np2 s4 ep2 => ?_)
        refine q H4 p2 [1 + r] (((c.trans (Ch.of s2)).trans c3).trans (Ch.of s4)) (o3.same s4) ep2 (by simp) (by simp) (fun i hi => ?_)
        rw [List.mem_singleton.mp hi]
        omega
      · walk_at "go"
        rw [List.length_map] at c5
        refine q H2 p ps (c.trans (Ch.of s2)) (o1.same s2) ep (fun e => ?_) hl' hp
        rw [e] at c5
        exact c5 rfl
/-- a number that the law draws: below 10^61 in size -/
def spNum : Sp := fun vs H Q _ => ∃ (z : StA), vs = [.ref z.st] ∧ StOk H z ∧ ∀ H' r, Ch z.st H H' → StOk H' z → -(10 ^ 61) < r → r < 10 ^ 61 → Q (.int r) H'
theorem i_spNum {z : StA} {H : Hp} {Q : VK} {E : XK} (h : StOk H z) (q : ∀ H' r, Ch z.st H H' → StOk H' z → -(10 ^ 61) < r → r < 10 ^ 61 → Q (.int r) H') : spNum [.ref z.st] H Q E := ⟨z, rfl, h, q⟩
/-- .. not negative -/
def spNat : Sp := fun vs H Q _ => ∃ (z : StA), vs = [.ref z.st] ∧ StOk H z ∧ ∀ H' r, Ch z.st H H' → StOk H' z → 0 ≤ r → r < 10 ^ 61 → Q (.int r) H'
theorem i_spNat {z : StA} {H : Hp} {Q : VK} {E : XK} (h : StOk H z) (q : ∀ H' r, Ch z.st H H' → StOk H' z → 0 ≤ r → r < 10 ^ 61 → Q (.int r) H') : spNat [.ref z.st] H Q E := ⟨z, rfl, h, q⟩
theorem pow20 : ((10 : Int) ^ (20 : Int).toNat) = 10 ^ 20 := rfl
theorem big_mul {r : Int} (h0 : 0 ≤ r) (h1 : r < 10 ^ 40) : CMulW r (10 ^ (20 : Int).toNat) := wide_mul (a := 134) (b := 67) (by omega) (by rw [pow20]; decide) (by decide) (by decide) (by decide)
theorem big_div (r : Int) : CDivW r (10 ^ (20 : Int).toNat) := wide_div (b := 67) (by rw [pow20]; decide) (by rw [pow20]; decide) (by decide) (by decide)
theorem big_sum {r r2 : Int} (h0 : 0 ≤ r) (h1 : r < 10 ^ 40) (h2 : 0 ≤ r2) (h3 : r2 < 10 ^ 40) : 0 ≤ r * 10 ^ (20 : Int).toNat + r2 / 10 ^ (20 : Int).toNat ∧ r * 10 ^ (20 : Int).toNat + r2 / 10 ^ (20 : Int).toNat < 10 ^ 61 := by
  rw [pow20]
  have e : (10 : Int) ^ 20 = 100000000000000000000 := by decide
  rw [e]
  omega
theorem ok__law_constant (T : Txt K mg w a) : Ok P w K mg base 3 a.f__law_constant ["_law_state"] spNum := by
  obtain ⟨fd, F, b⟩ := T.F__law_constant
  obtain ⟨fd1, G__law_draw, b__law_draw⟩ := ok__law_draw (P := P) (base := base) T
  obtain ⟨fd2, G__law_wide, b__law_wide⟩ := ok__law_wide (P := P) (base := base) T
  refine ⟨fd, F.ok sc__law_constant (fun vs H Q E h => ?_) (fun cdv A outer s H vs Q E hr h => ?_), b⟩
  · obtain ⟨z, rfl, _⟩ := h
    rfl
  · obtain ⟨z, rfl, hst, q⟩ := h
    refine ⟨_, (pss_cons (ps_set (i := 1) sc__law_constant.nd rfl (Or.inl rfl) (pe_call G__law_draw (hr.mono (by decide)) (by rfl) T.a__law_draw T.k__law_draw b__law_draw .nil pass0 (pa_cons (pv 0) (pa_cons pe_int pa_nil))))
      (pss_cons (ps_set (i := 2) sc__law_constant.nd rfl (Or.inl rfl) (pe_call G__law_draw (hr.mono (by decide)) (by rfl) T.a__law_draw T.k__law_draw b__law_draw .nil pass0 (pa_cons (pv 0) (pa_cons pe_int pa_nil))))
      (Evl.pss_cut (ps_if (pt_cmpR op_eq (pv 1) pe_int (nomark _)) (pss_one (ps_set (i := 2) sc__law_constant.nd rfl (Or.inl rfl) (pe_op op_add (pe_op op_mulW (pe_call G__law_wide (hr.mono (by decide)) (by rfl) T.a__law_wide T.k__law_wide b__law_wide .nil pass0 (pa_cons (pv 0) pa_nil)) (pe_op op_pow pe_int pe_int)) (pe_op op_fdivW (pe_call G__law_wide (hr.mono (by decide)) (by rfl) T.a__law_wide T.k__law_wide b__law_wide .nil pass0 (pa_cons (pv 0) pa_nil)) (pe_op op_pow pe_int pe_int))))) pss_nil)
      (Evl.pss_cut (ps_if (pt_cmpR op_eq (pv 1) pe_int (nomark _)) (pss_one (ps_set (i := 2) sc__law_constant.nd rfl (Or.inl rfl) (pe_call G__law_wide (hr.mono (by decide)) (by rfl) T.a__law_wide T.k__law_wide b__law_wide .nil pass0 (pa_cons (pv 0) pa_nil)))) pss_nil)
      (pss_cons (ps_if (pt_cmpR op_eq (pe_call G__law_draw (hr.mono (by decide)) (by rfl) T.a__law_draw T.k__law_draw b__law_draw .nil pass0 (pa_cons (pv 0) (pa_cons pe_int pa_nil))) pe_int (nomark _)) (pss_one (ps_ret (pe_op op_sub pe_int (pv 2)))) pss_nil)
      (pss_one (ps_ret (pv 2)))))))), ?_⟩
    walk_at "go"
    refine i_spDraw (by decide) hst (fun H1 k c1 o1 k0 k1 => ?_)
    walk_at "go"
    refine i_spDraw (by decide) o1 (fun H2 n c2 o2 n0 n1 => ?_)
    refine w_cut (fun σ' H' => ∃ (m : Int), σ' = [some (.ref z.st), some (.int k), some (.int m)] ∧ Ch z.st H H' ∧ StOk H' z ∧ 0 ≤ m ∧ m < 10 ^ 61) ?_ ?_
    · walk_at "go"
      refine w_dec (fun c => ?_) (fun c => ?_)
      · walk_at "go"
        refine i_spWide o2 (fun H3 r c3 o3 r0 r1 => ?_)
        walk_at "go"
        refine w_iic ⟨by decide, by decide, by decide⟩ ?_
        refine w_iic (big_mul r0 r1) ?_
        walk_at "go"
        refine i_spWide o3 (fun H4 r2 c4 o4 r3 r4 => ?_)
        walk_at "go"
        refine w_iic ⟨by decide, by decide, by decide⟩ ?_
        refine w_iic (big_div r2) ?_
        walk_at "go"
        have bs := big_sum r0 r1 r3 r4
        exact ⟨_, rfl, ((c1.trans c2).trans c3).trans c4, o4, bs.1, bs.2⟩
      · walk_at "go"
        exact ⟨_, rfl, c1.trans c2, o2, n0, by omega⟩
    rintro σ' H' ⟨m, rfl, c3, o3, m0, m1⟩
    refine w_cut (fun σ' H' => ∃ (m : Int), σ' = [some (.ref z.st), some (.int k), some (.int m)] ∧ Ch z.st H H' ∧ StOk H' z ∧ 0 ≤ m ∧ m < 10 ^ 61) ?_ ?_
    · walk_at "go"
      refine w_dec (fun c => ?_) (fun c => ?_)
      · walk_at "go"
        refine i_spWide o3 (fun H4 r c4 o4 r0 r1 => ?_)
        exact ⟨_, rfl, c3.trans c4, o4, r0, by omega⟩
      · walk_at "go"
        exact ⟨_, rfl, c3, o3, m0, m1⟩
    rintro σ' H4 ⟨m2, rfl, c4, o4, m3, m4⟩
    walk_at "go"
    refine i_spDraw (by decide) o4 (fun H5 r c5 o5 r0 r1 => ?_)
    walk_at "go"
    refine w_dec (fun c => ?_) (fun c => ?_)
    · walk_at "go"
      exact q H5 _ (c4.trans c5) o5 (by omega) (by omega)
    · walk_at "go"
      exact q H5 _ (c4.trans c5) o5 (by omega) (by omega)
theorem ok__law_number (T : Txt K mg w a) : Ok P w K mg base 3 a.f__law_number ["_law_state"] spNat := by
  obtain ⟨fd, F, b⟩ := T.F__law_number
  obtain ⟨fd1, G__law_draw, b__law_draw⟩ := ok__law_draw (P := P) (base := base) T
  obtain ⟨fd2, G__law_wide, b__law_wide⟩ := ok__law_wide (P := P) (base := base) T
  refine ⟨fd, F.ok sc__law_number (fun vs H Q E h => ?_) (fun cdv A outer s H vs Q E hr h => ?_), b⟩
  · obtain ⟨z, rfl, _⟩ := h
    rfl
  · obtain ⟨z, rfl, hst, q⟩ := h
    refine ⟨_, (pss_cons (ps_set (i := 1) sc__law_number.nd rfl (Or.inl rfl) (pe_call G__law_draw (hr.mono (by decide)) (by rfl) T.a__law_draw T.k__law_draw b__law_draw .nil pass0 (pa_cons (pv 0) (pa_cons pe_int pa_nil))))
      (pss_cons (ps_if (pt_cmpR op_eq (pv 1) pe_int (nomark _)) (pss_one (ps_ret (pe_call G__law_draw (hr.mono (by decide)) (by rfl) T.a__law_draw T.k__law_draw b__law_draw .nil pass0 (pa_cons (pv 0) (pa_cons pe_int pa_nil))))) pss_nil)
      (pss_cons (ps_if (pt_cmpR op_eq (pv 1) pe_int (nomark _)) (pss_one (ps_ret (pe_call G__law_wide (hr.mono (by decide)) (by rfl) T.a__law_wide T.k__law_wide b__law_wide .nil pass0 (pa_cons (pv 0) pa_nil)))) pss_nil)
      (pss_cons (ps_if (pt_cmpR op_eq (pv 1) pe_int (nomark _)) (pss_one (ps_ret (pe_op op_add (pe_op op_mulW (pe_call G__law_wide (hr.mono (by decide)) (by rfl) T.a__law_wide T.k__law_wide b__law_wide .nil pass0 (pa_cons (pv 0) pa_nil)) (pe_op op_pow pe_int pe_int)) (pe_op op_fdivW (pe_call G__law_wide (hr.mono (by decide)) (by rfl) T.a__law_wide T.k__law_wide b__law_wide .nil pass0 (pa_cons (pv 0) pa_nil)) (pe_op op_pow pe_int pe_int))))) pss_nil)
      (pss_cons (ps_if (PW.pt (pw_and (pt_cmpR op_eq (pv 1) pe_int (nomark _)) (pw_and1 (pt_cmpR op_eq (pe_call G__law_draw (hr.mono (by decide)) (by rfl) T.a__law_draw T.k__law_draw b__law_draw .nil pass0 (pa_cons (pv 0) (pa_cons pe_int pa_nil))) pe_int (nomark _))))) (pss_one (ps_ret (pe_op op_pow pe_int pe_int))) pss_nil)
      (pss_one (ps_ret (pe_call G__law_draw (hr.mono (by decide)) (by rfl) T.a__law_draw T.k__law_draw b__law_draw .nil pass0 (pa_cons (pv 0) (pa_cons pe_int pa_nil)))))))))), ?_⟩
    walk_at "go"
    refine i_spDraw (by decide) hst (fun H1 k c1 o1 k0 k1 => ?_)
    walk_at "go"
    refine w_dec (fun c => ?_) (fun c => ?_)
    · walk_at "go"
      refine i_spDraw (by decide) o1 (fun H2 n c2 o2 n0 n1 => ?_)
      exact q H2 _ (c1.trans c2) o2 n0 (by omega)
    walk_at "go"
    refine w_dec (fun c => ?_) (fun c => ?_)
    · walk_at "go"
      refine i_spWide o1 (fun H3 r c3 o3 r0 r1 => ?_)
      exact q H3 _ (c1.trans c3) o3 r0 (by omega)
    walk_at "go"
    refine w_dec (fun c => ?_) (fun c => ?_)
    · walk_at "go"
      refine i_spWide o1 (fun H3 r c3 o3 r0 r1 => ?_)
      walk_at "go"
      refine w_iic ⟨by decide, by decide, by decide⟩ ?_
      refine w_iic (big_mul r0 r1) ?_
      walk_at "go"
      refine i_spWide o3 (fun H4 r2 c4 o4 r3 r4 => ?_)
      walk_at "go"
      refine w_iic ⟨by decide, by decide, by decide⟩ ?_
      refine w_iic (big_div r2) ?_
      walk_at "go"
      have bs := big_sum r0 r1 r3 r4
      exact q H4 _ ((c1.trans c3).trans c4) o4 bs.1 bs.2
    walk_at "go"
    have last : ∀ H5, Ch z.st H H5 → StOk H5 z → spDraw [.ref z.st, .int 12] H5 Q E0 := fun H5 c5 o5 => i_spDraw (by decide) o5 (fun H6 n c6 o6 n0 n1 => q H6 _ (c5.trans c6) o6 n0 (by omega))
    refine w_dec (fun c => ?_) (fun c => ?_)
    · walk_at "go"
      refine i_spDraw (by decide) o1 (fun H2 n c2 o2 n0 n1 => ?_)
      walk_at "go"
      refine w_dec (fun c => ?_) (fun c => ?_)
      · walk_at "go"
        refine w_iic ⟨by decide, by decide, by decide⟩ ?_
        exact q H2 _ (c1.trans c2) o2 (by decide) (by decide)
      · walk_at "go"
        exact last _ (c1.trans c2) o2
    · refine iteF ?_
      walk_at "go"
      exact last _ c1 o1
end
end K17
namespace K17
open PySem L2
/-! The numbers of words: number_told, _law_digits. -/
local macro_rules | `(tactic| walk_at "go") => `(tactic| repeat (first | with_reducible refine w_var (by with_unfolding_all rfl) ?_ | with_reducible refine w_c ?_ | with_reducible refine w_seq ?_ | with_reducible refine w_set ?_ | with_reducible refine w_ret ?_ | with_reducible refine w_if ?_ | with_reducible refine w_op ?_ | with_reducible refine w_ii ?_ | with_reducible refine w_test ?_ | with_reducible refine w_bl ?_ | with_reducible refine w_cb ?_ | with_reducible refine w_call ?_ | with_reducible refine w_nil ?_ | with_reducible refine w_cons ?_ | with_reducible refine w_eqI ?_ | with_reducible refine w_eqS ?_ | with_reducible refine w_neI ?_ | with_reducible refine w_neS ?_ | with_reducible refine w_andV ?_ | with_reducible refine w_orV ?_ | with_reducible refine w_notV ?_ | with_reducible refine w_and ?_ | with_reducible refine w_or ?_ | with_reducible refine w_not ?_ | with_reducible refine w_ifE ?_ | with_reducible refine w_chain ?_ | with_reducible refine w_B ?_ | with_reducible refine w_drop ?_ | with_reducible refine w_next ?_ | with_reducible refine w_un ?_ | with_reducible refine w_iu ?_ | with_reducible refine w_isN ?_ | with_reducible refine w_notN ?_ | with_reducible refine w_int1 ?_ | with_reducible refine w_abs ?_ | with_reducible refine w_min ?_ | with_reducible refine w_max ?_ | with_reducible refine w_tup ?_ | with_reducible refine w_lst ?_ | with_reducible refine w_sl ?_ | with_reducible refine w_noPart ?_ | with_reducible refine w_part ?_ | with_reducible refine w_pi ?_ | with_reducible refine w_bm ?_ | with_reducible refine w_tyS ?_ | with_reducible refine w_m1 ?_ | with_reducible refine w_str ?_ | with_reducible refine w_forL ?_ | with_reducible refine w_forT ?_ | with_reducible refine w_forR1 ?_ | with_reducible refine w_forS ?_ | with_reducible refine w_lcL ?_ | with_reducible refine w_lcT ?_ | with_reducible refine w_lcR1 ?_ | with_reducible refine w_lcR2 ?_ | with_reducible refine w_yes ?_ | with_reducible refine w_asgSub ?_ | with_reducible refine w_callS ?_))
open TL
/-! ### the mathematics of it -/
/-- the figures of a word's signs -/
def fig (sg : Bool) (l : List Nat) : List Nat := match l with
  | [] => []
  | c :: b => if sg = true ∧ c = 45 then b else c :: b
theorem fig_cons (sg : Bool) (c : Nat) (b : List Nat) : fig sg (c :: b) = if sg = true ∧ c = 45 then b else c :: b := rfl
theorem num_none1 {sg : Bool} {l : List Nat} (h : ¬ (1 ≤ (fig sg l).length ∧ (fig sg l).length ≤ 60)) : numL' sg l = none := by
  cases l with
  | nil => rfl
  | cons c b =>
    rw [numL'_cons]
    rw [fig_cons] at h
    by_cases hc : c = 45
    · rw [if_pos hc]
      cases sg with
      | false => rw [if_neg (by simp)]
      | true =>
        rw [if_pos ⟨rfl, hc⟩] at h
        rw [if_neg]
        intro z
        obtain ⟨_, z⟩ := Bool.and_eq_true_iff.mp z
        obtain ⟨z, _⟩ := Bool.and_eq_true_iff.mp z
        obtain ⟨z1, z2, _⟩ := natOk_iff.mp z
        exact h ⟨by cases b with | nil => exact absurd rfl z1 | cons _ _ => simp, z2⟩
    · rw [if_neg hc]
      rw [if_neg (fun z => hc z.2)] at h
      rw [if_neg]
      intro z
      obtain ⟨z, _⟩ := Bool.and_eq_true_iff.mp z
      obtain ⟨_, z2, _⟩ := natOk_iff.mp z
      exact h ⟨by simp, z2⟩
theorem num_none2 {sg : Bool} {l : List Nat} (h : (fig sg l).head? = some 48) (h2 : l ≠ [48]) : numL' sg l = none := by
  cases l with
  | nil => rfl
  | cons c b =>
    rw [numL'_cons]
    rw [fig_cons] at h
    by_cases hc : c = 45
    · rw [if_pos hc]
      cases sg with
      | false => rw [if_neg (by simp)]
      | true =>
        rw [if_pos ⟨rfl, hc⟩] at h
        rw [if_neg]
        intro z
        obtain ⟨_, z⟩ := Bool.and_eq_true_iff.mp z
        obtain ⟨_, z⟩ := Bool.and_eq_true_iff.mp z
        exact of_decide_eq_true z h
    · rw [if_neg hc]
      rw [if_neg (fun z => hc z.2)] at h
      have e : c = 48 := Option.some.inj h
      rw [if_neg]
      intro z
      obtain ⟨_, z⟩ := Bool.and_eq_true_iff.mp z
      rw [decide_eq_false (fun q => q e), Bool.false_or] at z
      have e2 : b = [] := List.isEmpty_iff.mp z
      exact h2 (by rw [e, e2])
theorem num_none3 {sg : Bool} {l : List Nat} (h : digs (fig sg l) = false) : numL' sg l = none := by
  cases l with
  | nil => rfl
  | cons c b =>
    rw [numL'_cons]
    rw [fig_cons] at h
    have no : ∀ x, digs x = false → natOk x = false := fun x hx => by
      cases e : natOk x with
      | false => rfl
      | true =>
        have q := (natOk_iff.mp e).2.2
        rw [hx] at q
        cases q
    by_cases hc : c = 45
    · rw [if_pos hc]
      cases sg with
      | false => rw [if_neg (by simp)]
      | true =>
        rw [if_pos ⟨rfl, hc⟩] at h
        rw [no _ h, if_neg (by simp)]
    · rw [if_neg hc]
      rw [if_neg (fun z => hc z.2)] at h
      rw [no _ h, if_neg (by simp)]
/-- the value: with a minus, or without -/
theorem num_some {sg : Bool} {l : List Nat} (h1 : 1 ≤ (fig sg l).length ∧ (fig sg l).length ≤ 60) (h2 : ¬ ((fig sg l).head? = some 48 ∧ l ≠ [48])) (h3 : digs (fig sg l) = true) :
    (fig sg l = l ∧ numL' sg l = some (valL l)) ∨ (l = 45 :: fig sg l ∧ sg = true ∧ numL' sg l = some (-(valL (fig sg l)))) := by
  cases l with
  | nil => exact absurd h1.1 (by simp [fig])
  | cons c b =>
    rw [numL'_cons]
    rw [fig_cons] at h1 h2 h3 ⊢
    by_cases hs : sg = true ∧ c = 45
    · rw [if_pos hs] at h1 h2 h3 ⊢
      obtain ⟨rfl, rfl⟩ := hs
      have hn : natOk b = true := natOk_iff.mpr ⟨fun e => by rw [e] at h1; exact absurd h1.1 (by simp), h1.2, h3⟩
      have hd : b.head? ≠ some 48 := fun e => h2 ⟨e, by simp⟩
      rw [if_pos rfl, hn, decide_eq_true hd]
      exact .inr ⟨rfl, rfl, rfl⟩
    · rw [if_neg hs] at h1 h2 h3 ⊢
      have hc : c ≠ 45 := fun e => by
        have q := (digs_iff.mp h3) c List.mem_cons_self
        omega
      have hn : natOk (c :: b) = true := natOk_iff.mpr ⟨by simp, h1.2, h3⟩
      rw [if_neg hc, hn]
      have e : (decide (c ≠ 48) || b.isEmpty) = true := by
        by_cases e : c = 48
        · have e2 : c :: b = [48] := Classical.byContradiction fun z => h2 ⟨by rw [e]; rfl, z⟩
          injection e2 with e3 e4
          rw [e4]
          simp
        · rw [decide_eq_true e]
          rfl
      rw [e]
      exact .inl ⟨rfl, rfl⟩
theorem tl_minus : tl ("-" : Str) = [45] := by decide +kernel
theorem tl_zero : tl ("0" : Str) = [48] := by decide +kernel
theorem eq_tl {x y : Str} : x = y ↔ tl x = tl y := ⟨fun h => by rw [h], ext_tl⟩
theorem tl_one (c : Nat) : tl (⟨#[c]⟩ : Str) = [c] := rfl
theorem mem_figs {c : Nat} : c ∈ (("0123456789" : Str)).cps.toList ↔ 48 ≤ c ∧ c ≤ 57 := by
  have e : (("0123456789" : Str)).cps.toList = [48, 49, 50, 51, 52, 53, 54, 55, 56, 57] := by decide +kernel
  rw [e]
  simp only [List.mem_cons, List.not_mem_nil, or_false]
  omega
theorem rm_minus (w : Str) : tl (Txt.removeprefix w "-") = fig true (tl w) := by
  have e := PySem.StrLaws.subAt_eq w "-" 0
  rw [List.drop_zero] at e
  have hl : ("-" : Str).length = 1 := by decide +kernel
  have hm : (("-" : Str)).cps.toList = [45] := tl_minus
  rw [hl, hm] at e
  unfold Txt.removeprefix
  rw [e]
  show tl (Txt.affix w (if ((tl w).take 1 == [45]) = true then some (("-" : Str).length, w.length) else none)) = _
  cases ew : tl w with
  | nil =>
    show tl w = _
    rw [ew]
    rfl
  | cons c b =>
    rw [fig_cons]
    by_cases hc : c = 45
    · have e2 : (List.take 1 (c :: b) == [45]) = true := by rw [hc]; rfl
      rw [if_pos e2, if_pos ⟨rfl, hc⟩, hl]
      have hw : w.length = b.length + 1 := by rw [len_tl, ew]; rfl
      show tl (if (w.length - 1 == w.length) = true then w else Builtin.Str.strSub w 1 w.length) = b
      rw [if_neg (by rw [hw]; simp), tl_strSub_end, ew]
      rfl
    · have e2 : ¬ (List.take 1 (c :: b) == [45]) = true := by
        intro z
        have z := eq_of_beq z
        injection z with z1 _
        exact hc z1
      rw [if_neg e2, if_neg (fun z => hc z.2)]
      exact ew
theorem digs_take {l : List Nat} {j c : Nat} (h : digs (l.take j) = true) (hj : l[j]? = some c) (hc : 48 ≤ c ∧ c ≤ 57) : digs (l.take (j + 1)) = true := by
  rw [take_next hj]
  unfold digs at h ⊢
  rw [List.all_append, h]
  simp [hc]
theorem digs_bad {l : List Nat} {j c : Nat} (hj : l[j]? = some c) (hc : ¬ (48 ≤ c ∧ c ≤ 57)) : digs l = false := by
  cases e : digs l with
  | false => rfl
  | true => exact absurd ((digs_iff.mp e) c (List.mem_of_getElem? hj)) hc
def optV : Option Int → V
  | some n => .int n
  | none => .non
section
variable {P : Program} {w : World} {K : PySem.W.Frag} {mg : Str → Option Value} {base : Heap} {a : Ad}
/-- a word: its number, or None -/
def spTold : Sp := fun vs H Q _ => ∃ z, vs = [.str z] ∧ z.length ≤ 1000000 ∧ Q (optV (numOf true z)) H
theorem i_spTold {z : Str} {H : Hp} {Q : VK} {E : XK} (h : z.length ≤ 1000000) (q : Q (optV (numOf true z)) H) : spTold [.str z] H Q E := ⟨z, rfl, h, q⟩
theorem ok_number_told (T : Txt K mg w a) : Ok P w K mg base 1 a.f_number_told ["word"] spTold := by
  obtain ⟨fd, F, b⟩ := T.F_number_told
  refine ⟨fd, F.ok sc_number_told (fun vs H Q E h => ?_) (fun cdv A outer s H vs Q E hr h => ?_), b⟩
  · obtain ⟨z, rfl, _⟩ := h
    rfl
  · obtain ⟨z, rfl, hz, q⟩ := h
    have hf := rm_minus z
    have hfl : (Txt.removeprefix z "-").length = (fig true (tl z)).length := by rw [len_tl, hf]
    have hlen : (fig true (tl z)).length ≤ 1000000 := by
      rw [len_tl] at hz
      cases e : tl z with
      | nil => simp [fig]
      | cons c r =>
        rw [e] at hz
        rw [fig_cons]
        simp only [List.length_cons] at hz
        split
        · omega
        · simp only [List.length_cons]
          omega
    have none_ : numL' true (tl z) = none → Q .non H := fun e => by
      have q' := q
      unfold numOf at q'
      rw [e] at q'
      exact q'
    refine ⟨_, (pss_cons (ps_set (i := 1) sc_number_told.nd rfl (Or.inl rfl) (pe_bm PySem.F.plainAttrs_str PySem.F.slot_str_removeprefix PySem.F.type_str_removeprefix m_rmPre (pv 0) (pa_cons pe_str pa_nil)))
      (Evl.pss_cut (ps_if (PW.pt (pw_or (pt_not (pt_chain op_le op_le pe_int (pe_callB c_lenS (by rfl) T.z_len bt_len (pa_cons (pv 1) pa_nil)) (pe_glob (v := .int 60) rfl T.g_MOST_FIGURES ⟨_, rfl⟩))) (pw_or1 (PW.pt (pw_and (pt_cmpR op_eq (pe_ix ix_str (pv 1) pe_int (fun _ _ => rfl)) pe_str (nomark _)) (pw_and1 (pt_cmpR op_ne (pv 0) pe_str (nomark _)))))))) (pss_one (ps_ret pe_non)) pss_nil)
      (pss_cons (ps_for PassesOwn.never rfl (pi_str (pv 1)) (pg_name (i := 2) sc_number_told.nd rfl (Or.inl rfl)) (pss_one (ps_if (pt_cmpR o_notInS (pv 2) (pe_glob (v := .str "0123456789") rfl T.g_FIGURES ⟨_, rfl⟩) (by with_unfolding_all rfl)) (pss_one (ps_ret pe_non)) pss_nil)))
      (pss_one (ps_ret (pe_callTy c_intS (by rfl) T.z_int bt_int (pa_cons (pv 0) pa_nil))))))), ?_⟩
    walk_at "go"
    refine w_rmPre (sz_of hz) ?_
    refine w_cut (fun σ' H' => σ' = [some (.str z), some (.str (Txt.removeprefix z "-")), none] ∧ H' = H ∧ (1 ≤ (fig true (tl z)).length ∧ (fig true (tl z)).length ≤ 60) ∧ ¬ ((fig true (tl z)).head? = some 48 ∧ tl z ≠ [48])) ?_ ?_
    · walk_at "go"
      refine w_lenS (sz_of (by rw [hfl]; exact hlen)) ?_
      rw [hfl]
      walk_at "go"
      refine w_dec (fun c1 => ?_) (fun c1 => ?_)
      · walk_at "go"
        refine w_ndec (fun c2 => ?_) (fun c2 => ?_)
        · refine iteT ?_
          walk_at "go"
          exact none_ (num_none1 fun z1 => c2 (by omega))
        · obtain ⟨c, r, er⟩ : ∃ c r, fig true (tl z) = c :: r := by
            cases e : fig true (tl z) with
            | nil => rw [e] at c1; exact absurd c1 (by decide)
            | cons c r => exact ⟨c, r, rfl⟩
          walk_at "go"
          refine w_ixS (sz_of (by rw [hfl]; exact hlen)) (c := c) (atI_nat (j := 0) (by
            show (tl (Txt.removeprefix z "-"))[0]? = some c
            rw [hf, er]
            rfl)) ?_
          walk_at "go"
          refine w_dec (fun c5 => ?_) (fun c5 => ?_)
          · walk_at "go"
            refine w_ndec (fun c6 => ?_) (fun c6 => ?_)
            · walk_at "go"
              refine none_ (num_none2 ?_ fun e => c6 (ext_tl (by rw [e, tl_zero])))
              rw [er]
              have e5 := eq_tl.mp c5
              rw [tl_one, tl_zero] at e5
              rw [show c = 48 by injection e5]
              rfl
            · walk_at "go"
              exact ⟨rfl, rfl, ⟨by omega, by omega⟩, fun z1 => z1.2 (by rw [c6, tl_zero])⟩
          · refine iteF ?_
            walk_at "go"
            refine ⟨rfl, rfl, ⟨by omega, by omega⟩, fun z1 => c5 (ext_tl ?_)⟩
            rw [tl_one, tl_zero]
            have e5 := z1.1
            rw [er] at e5
            rw [show c = 48 from Option.some.inj e5]
      · walk_at "go"
        refine iteT ?_
        refine iteT ?_
        walk_at "go"
        exact none_ (num_none1 fun z1 => c1 (by omega))
    rintro σ' H' ⟨rfl, rfl, h1, h2⟩
    walk_at "go"
    refine w_loopS (fun j σ' H2 => ∃ y, σ' = [some (.str z), some (.str (Txt.removeprefix z "-")), y] ∧ H2 = H' ∧ digs ((fig true (tl z)).take j) = true) ⟨none, rfl, rfl, rfl⟩ (fun j d σ' H2 hj ⟨y, e1, e2, e3⟩ => ?_) (fun σ' H2 ⟨y, e1, e2, e3⟩ => ?_)
    · subst e1 e2
      rw [hf] at hj
      walk_at "go"
      refine w_notInS ?_
      walk_at "go"
      refine w_ndec (fun c5 => ?_) (fun c5 => ?_)
      · walk_at "go"
        exact none_ (num_none3 (digs_bad hj fun z1 => c5 (mem_figs.mpr z1)))
      · walk_at "go"
        exact ⟨_, rfl, rfl, digs_take e3 hj (mem_figs.mp c5)⟩
    · subst e1 e2
      rw [hf, List.take_length] at e3
      obtain ⟨n, hn⟩ : ∃ n, numOf true z = some n := by
        rcases num_some h1 h2 e3 with ⟨_, e⟩ | ⟨_, _, e⟩
        · exact ⟨_, e⟩
        · exact ⟨_, e⟩
      obtain ⟨i1, i2⟩ := int_word hn
      walk_at "go"
      refine w_intS i1 i2 ?_
      rw [hn] at q
      exact q
/-- .. of the law: signed or not -/
def spDigits : Sp := fun vs H Q _ => ∃ z sg, vs = [.str z, .bl sg] ∧ z.length ≤ 1000000 ∧ Q (optV (numOf sg z)) H
theorem i_spDigits {z : Str} {sg : Bool} {H : Hp} {Q : VK} {E : XK} (h : z.length ≤ 1000000) (q : Q (optV (numOf sg z)) H) : spDigits [.str z, .bl sg] H Q E := ⟨z, sg, rfl, h, q⟩
theorem tl_cut (z : Str) (lo hi : Option Int) : tl (cutS z lo hi) = ((tl z).drop (HT.sIx z.length 0 lo)).take (HT.sIx z.length z.length hi - HT.sIx z.length 0 lo) := rfl
theorem cut_first (z : Str) : tl (cutS z none (some 1)) = (tl z).take 1 := by
  rw [tl_cut, HT.sIx_none, show HT.sIx z.length z.length (some 1) = min 1 z.length from HT.sIx_nat _ _ 1, List.drop_zero, Nat.sub_zero, len_tl]
  cases tl z with
  | nil => rfl
  | cons c b =>
    rw [show min 1 (c :: b).length = 1 by rw [List.length_cons]; omega]
theorem cut_rest (z : Str) : tl (cutS z (some 1) none) = (tl z).drop 1 := by
  rw [tl_cut, HT.sIx_none, show HT.sIx z.length 0 (some 1) = min 1 z.length from HT.sIx_nat _ _ 1, len_tl]
  cases tl z with
  | nil => rfl
  | cons c b =>
    rw [show min 1 (c :: b).length = 1 by rw [List.length_cons]; omega]
    refine List.take_of_length_le ?_
    simp
theorem ok__law_digits (T : Txt K mg w a) : Ok P w K mg base 1 a.f__law_digits ["_law_word", "_law_signed"] spDigits := by
  obtain ⟨fd, F, b⟩ := T.F__law_digits
  refine ⟨fd, F.ok sc__law_digits (fun vs H Q E h => ?_) (fun cdv A outer s H vs Q E hr h => ?_), b⟩
  · obtain ⟨z, sg, rfl, _⟩ := h
    rfl
  · obtain ⟨z, sg, rfl, hz, q⟩ := h
    have none_ : numL' sg (tl z) = none → Q .non H := fun e => by
      have q' := q
      unfold numOf at q'
      rw [e] at q'
      exact q'
    refine ⟨_, (pss_cons (ps_set (i := 2) sc__law_digits.nd rfl (Or.inl rfl) (pv 0))
      (Evl.pss_cut (ps_if (PW.pt (pw_and (pt_val (pv 1)) (pw_and1 (pt_cmpR op_eq (pe_slice sl_str (pv 0) po_none (po_some pe_int)) pe_str (nomark _))))) (pss_one (ps_set (i := 2) sc__law_digits.nd rfl (Or.inl rfl) (pe_slice sl_str (pv 0) (po_some pe_int) po_none))) pss_nil)
      (Evl.pss_cut (ps_if (PW.pt (pw_or (pt_cmpR op_eq (pe_callB c_lenS (by rfl) T.z_len bt_len (pa_cons (pv 2) pa_nil)) pe_int (nomark _)) (pw_or1 (pt_cmpR op_gt (pe_callB c_lenS (by rfl) T.z_len bt_len (pa_cons (pv 2) pa_nil)) pe_int (nomark _))))) (pss_one (ps_ret pe_non)) pss_nil)
      (Evl.pss_cut (ps_for PassesOwn.never rfl (pi_str (pv 2)) (pg_name (i := 3) sc__law_digits.nd rfl (Or.inl rfl)) (pss_one (ps_if (pt_cmpR o_notInS (pv 3) pe_str (by with_unfolding_all rfl)) (pss_one (ps_ret pe_non)) pss_nil)))
      (Evl.pss_cut (ps_if (PW.pt (pw_and (pt_cmpR op_eq (pe_ix ix_str (pv 2) pe_int (fun _ _ => rfl)) pe_str (nomark _)) (pw_and1 (pt_cmpR op_ne (pv 0) pe_str (nomark _))))) (pss_one (ps_ret pe_non)) pss_nil)
      (pss_cons (ps_if (pt_cmpR op_ne (pv 2) (pv 0) (nomark _)) (pss_one (ps_ret (pe_op op_sub pe_int (pe_callTy c_intS (by rfl) T.z_int bt_int (pa_cons (pv 2) pa_nil))))) pss_nil)
      (pss_one (ps_ret (pe_callTy c_intS (by rfl) T.z_int bt_int (pa_cons (pv 2) pa_nil)))))))))), ?_⟩
    walk_at "go"
    -- the body of the word
    refine w_cut (fun σ' H' => ∃ y : Str, σ' = [some (.str z), some (.bl sg), some (.str y), none] ∧ H' = H ∧ tl y = fig sg (tl z)) ?_ ?_
    · walk_at "go"
      have same : ¬ (sg = true ∧ (tl z).take 1 = [45]) → tl z = fig sg (tl z) := fun h => by
        cases e : tl z with
        | nil => rfl
        | cons c r =>
          rw [fig_cons, if_neg]
          intro z1
          rw [e] at h
          exact h ⟨z1.1, by rw [z1.2]; rfl⟩
      refine w_ite (fun c1 => ?_) (fun c1 => ?_)
      · walk_at "go"
        refine w_slS (sz_of hz) ?_
        walk_at "go"
        refine w_dec (fun c2 => ?_) (fun c2 => ?_)
        · walk_at "go"
          refine w_slS (sz_of hz) ?_
          have e2 := eq_tl.mp c2
          rw [cut_first, tl_minus] at e2
          refine ⟨_, rfl, rfl, ?_⟩
          rw [cut_rest]
          cases e : tl z with
          | nil => rfl
          | cons c r =>
            rw [e] at e2
            rw [fig_cons, if_pos ⟨c1, by injection e2⟩]
            rfl
        · walk_at "go"
          exact ⟨z, rfl, rfl, same fun z1 => c2 (ext_tl (by rw [cut_first, tl_minus]; exact z1.2))⟩
      · walk_at "go"
        exact ⟨z, rfl, rfl, same fun z1 => by rw [c1] at z1; cases z1.1⟩
    rintro σ' H' ⟨y, rfl, rfl, hy⟩
    have hyl : y.length = (fig sg (tl z)).length := by rw [len_tl, hy]
    have hys : y.length ≤ 1000000 := by
      rw [hyl]
      rw [len_tl] at hz
      cases e : tl z with
      | nil => simp [fig]
      | cons c r =>
        rw [e] at hz
        rw [fig_cons]
        simp only [List.length_cons] at hz
        split
        · omega
        · simp only [List.length_cons]
          omega
    refine w_cut (fun σ' H2 => σ' = [some (.str z), some (.bl sg), some (.str y), none] ∧ H2 = H' ∧ 1 ≤ (fig sg (tl z)).length ∧ (fig sg (tl z)).length ≤ 60) ?_ ?_
    · walk_at "go"
      refine w_lenS (sz_of hys) ?_
      rw [hyl]
      walk_at "go"
      refine w_dec (fun c1 => ?_) (fun c1 => ?_)
      · refine iteT ?_
        walk_at "go"
        exact none_ (num_none1 (by omega))
      · walk_at "go"
        refine w_lenS (sz_of hys) ?_
        rw [hyl]
        walk_at "go"
        refine w_dec (fun c2 => ?_) (fun c2 => ?_)
        · walk_at "go"
          exact none_ (num_none1 (by omega))
        · walk_at "go"
          exact ⟨rfl, rfl, by omega, by omega⟩
    rintro σ' H2 ⟨rfl, rfl, h1⟩
    refine w_cut (fun σ' H3 => ∃ u, σ' = [some (.str z), some (.bl sg), some (.str y), u] ∧ H3 = H2 ∧ digs (fig sg (tl z)) = true) ?_ ?_
    · walk_at "go"
      refine w_loopS (fun j σ' H3 => ∃ u, σ' = [some (.str z), some (.bl sg), some (.str y), u] ∧ H3 = H2 ∧ digs ((fig sg (tl z)).take j) = true) ⟨none, rfl, rfl, rfl⟩ (fun j d σ' H3 hj ⟨u, e1, e2, e3⟩ => ?_) (fun σ' H3 ⟨u, e1, e2, e3⟩ => ?_)
      · subst e1 e2
        rw [hy] at hj
        walk_at "go"
        refine w_notInS ?_
        walk_at "go"
        refine w_ndec (fun c5 => ?_) (fun c5 => ?_)
        · walk_at "go"
          exact none_ (num_none3 (digs_bad hj fun z1 => c5 (mem_figs.mpr z1)))
        · walk_at "go"
          exact ⟨_, rfl, rfl, digs_take e3 hj (mem_figs.mp c5)⟩
      · rw [hy, List.take_length] at e3
        exact ⟨u, e1, e2, e3⟩
    rintro σ' H3 ⟨u, rfl, rfl, h3⟩
    obtain ⟨c, r, er⟩ : ∃ c r, fig sg (tl z) = c :: r := by
      cases e : fig sg (tl z) with
      | nil => rw [e] at h1; exact absurd h1.1 (by decide)
      | cons c r => exact ⟨c, r, rfl⟩
    refine w_cut (fun σ' H4 => ∃ u, σ' = [some (.str z), some (.bl sg), some (.str y), u] ∧ H4 = H3 ∧ ¬ ((fig sg (tl z)).head? = some 48 ∧ tl z ≠ [48])) ?_ ?_
    · walk_at "go"
      refine w_ixS (sz_of hys) (c := c) (atI_nat (j := 0) (by
        show (tl y)[0]? = some c
        rw [hy, er]
        rfl)) ?_
      walk_at "go"
      refine w_dec (fun c5 => ?_) (fun c5 => ?_)
      · walk_at "go"
        refine w_ndec (fun c6 => ?_) (fun c6 => ?_)
        · walk_at "go"
          refine none_ (num_none2 ?_ fun e => c6 (ext_tl (by rw [e, tl_zero])))
          rw [er]
          have e5 := eq_tl.mp c5
          rw [tl_one, tl_zero] at e5
          rw [show c = 48 by injection e5]
          rfl
        · walk_at "go"
          exact ⟨u, rfl, rfl, fun z1 => z1.2 (by rw [c6, tl_zero])⟩
      · walk_at "go"
        refine ⟨u, rfl, rfl, fun z1 => c5 (ext_tl ?_)⟩
        rw [tl_one, tl_zero]
        have e5 := z1.1
        rw [er] at e5
        rw [show c = 48 from Option.some.inj e5]
    rintro σ' H4 ⟨u2, rfl, rfl, h2⟩
    have iv : intText? y = some (valL (fig sg (tl z))) ∧ y.length ≤ 640 := by
      have h := PySem.intText_digits (x := y) (by rw [show y.cps.toList = fig sg (tl z) from hy]; exact digs_iff.mp h3) (by rw [show y.cps.toList = fig sg (tl z) from hy, er]; simp) (by omega)
      rw [show y.cps.toList = fig sg (tl z) from hy] at h
      exact ⟨h, by omega⟩
    walk_at "go"
    refine w_ndec (fun c5 => ?_) (fun c5 => ?_)
    · walk_at "go"
      refine w_intS iv.1 iv.2 ?_
      walk_at "go"
      rcases num_some h1 h2 h3 with ⟨e, _⟩ | ⟨e, _, e2⟩
      · exact absurd (ext_tl (hy.trans e)) c5
      · unfold numOf at q
        rw [e2] at q
        have e6 : (0 : Int) - valL (fig sg (tl z)) = -(valL (fig sg (tl z))) := by omega
        rw [e6]
        exact q
    · walk_at "go"
      refine w_intS iv.1 iv.2 ?_
      rcases num_some h1 h2 h3 with ⟨e, e2⟩ | ⟨e, _, e2⟩
      · unfold numOf at q
        rw [e2, ← e] at q
        exact q
      · exfalso
        have e7 := congrArg List.length e
        rw [← hy, c5, List.length_cons] at e7
        omega
end
end K17
/-! zip of a list and a tuple; loops over pairs. -/
namespace K17
open PySem PySem.Spec PyProof.Rows L2
/-- at each turn: the next of the list at a with the next of the tuple at b -/
def ItM (K : PySem.W.Frag) (a b : Addr) : It where
  go i H := ∃ xs ys, ∃ u v : V, SqL K H a xs ∧ xs[i]? = some u ∧ SqT K H b ys ∧ ys[i]? = some v
  yld i H r H' := ∃ p u v, r = .ref p ∧ (H p = none ∧ H' = upd H p (.tup [u, v])) ∧ (∀ l, SqL K H a l → l[i]? = some u) ∧ ∀ l, SqT K H b l → l[i]? = some v
  stop i H := ∃ xs ys : List V, SqL K H a xs ∧ SqT K H b ys ∧ i = min xs.length ys.length
theorem five {α : Type} {c p q r s t : α} (h : c ∈ [p, q, r, s, t]) : c = p ∨ c = q ∨ c = r ∨ c = s ∨ c = t := by simpa using h
structure MSt (a b z TI TO i1 i2 : Addr) (i : Nat) (h : Heap) : Prop where
  cz : IsZip h z TI TO .none
  cI : IsTupOf2 h TI (.ref i1) (.ref i2)
  cO : ∃ x y, IsTupOf2 h TO x y
  c1 : h.IsListIter i1 a i
  c2 : h.IsTupleIter i2 b i
section
variable {P : Program} {w : World} {K : PySem.W.Frag}
theorem turn_mix {elts : List Expr} {kk : Nat} {tpos : Pos} {a b z TI TO i1 i2 : Addr} (S : ZipSep2 z TI TO i1 i2 [i1, a] [i2, b]) :
    Turn P w K (.Tuple elts kk tpos) (ItM K a b) [z, TI, TO, i1, i2] z (MSt a b z TI TO i1 i2) where
  mem := List.mem_cons_self
  obj := by
    intro i h m c hc
    obtain ⟨x, y, hO⟩ := m.cO
    obtain ⟨o1, e1, _, d1⟩ := m.c1
    obtain ⟨o2, e2, _, d2⟩ := m.c2
    rcases five hc with rfl | rfl | rfl | rfl | rfl
    · exact ⟨_, m.cz, fun v q => nomatch q⟩
    · exact ⟨_, m.cI, fun v q => nomatch q⟩
    · exact ⟨_, hO, fun v q => nomatch q⟩
    · exact ⟨o1, e1, fun v q => nomatch d1.symm.trans q⟩
    · exact ⟨o2, e2, fun v q => nomatch d2.symm.trans q⟩
  keep := by
    intro i h h' m k
    obtain ⟨x, y, hO⟩ := m.cO
    exact { cz := k _ (by simp) _ m.cz, cI := k _ (by simp) _ m.cI, cO := ⟨x, y, k _ (by simp) _ hO⟩, c1 := m.c1.at (k _ (by simp)), c2 := m.c2.at (k _ (by simp)) }
  item := by
    rintro X rfl rfl rfl hc i pins s σ H E I hf m ⟨xs, ys, u, v, hqx, hx, hqy, hy⟩
    obtain ⟨its, rv, p, _⟩ := I.list hqx
    obtain ⟨its2, rv2, p2, _⟩ := I.tuple hqy
    obtain ⟨u', hu, ru⟩ := rv.get hx
    obtain ⟨v', hv, rv'⟩ := rv2.get hy
    have hin : X.A.in1.handled = none := I.ok.hd hc
    have n1 : a ≠ i1 := fun e => by
      obtain ⟨o1, e1, c1, _⟩ := m.c1
      obtain ⟨o, eo, co, _⟩ := p.isList
      rw [e, e1] at eo
      cases eo
      rw [c1] at co
      exact absurd co (by decide)
    have n2 : b ≠ i2 := fun e => by
      obtain ⟨o1, e1, c1, _⟩ := m.c2
      obtain ⟨o, eo, co, _⟩ := p2
      rw [e, e1] at eo
      cases eo
      rw [c1] at co
      exact absurd co (by decide)
    have G := GoesN.zip2 (elts := elts) (x1 := kk) (pos := tpos) S (Draws.list (prog := X.prog) (w := X.w) (A := X.A.in1) hin i1 a n1 its.toArray) (Draws.tuple (prog := X.prog) (w := X.w) (A := X.A.in1) hin i2 b n2 its2.toArray)
    have l1 := rv.length
    have l2 := rv2.length
    have q1 := (List.getElem?_eq_some_iff.mp hx).1
    have q2 := (List.getElem?_eq_some_iff.mp hy).1
    refine G.goes i s _ E (by simp; omega) ⟨m.cz, m.cI, m.cO, ⟨m.c1, p.isList⟩, m.c2, p2⟩ ?_
    rintro r h' tk ⟨T, x, y, rfl, hT, gx, gy, hTu⟩ ⟨z1, z2, z3, ⟨z4, _⟩, z5, _⟩ hk htk
    have ex : x = u' := by
      have q : its.toArray[i]? = some u' := by simpa using hu
      rw [q] at gx
      exact (Option.some.inj gx).symm
    have ey : y = v' := by
      have q : its2.toArray[i]? = some v' := by simpa using hv
      rw [q] at gy
      exact (Option.some.inj gy).symm
    subst ex ey
    have new : ObjOk X.prog X.w (upd H T (.tup [u, v])) h' T (.tup [u, v]) := ⟨by show 2 ≤ sizeLine; decide, [x, y], .cons ru (.cons rv' .nil), hTu⟩
    have old : ∀ c ∈ [z, TI, TO, i1, i2], c < s.heap.objs.size := by
      intro c hcm
      obtain ⟨x, y, hO⟩ := m.cO
      obtain ⟨o1, e1, _⟩ := m.c1
      obtain ⟨o2, e2, _⟩ := m.c2
      rcases five hcm with rfl | rfl | rfl | rfl | rfl
      · exact Heap.lt_size m.cz
      · exact Heap.lt_size m.cI
      · exact Heap.lt_size hO
      · exact Heap.lt_size e1
      · exact Heap.lt_size e2
    refine ⟨.ref T, _, I.turnedNew (ch := [z, TI, TO, i1, i2]) (fun c o hb q => hk c o (fun z' => hb ?_) q) hf hT new, rfl, ⟨T, u, v, rfl, ⟨I.hok.fresh hT, rfl⟩, fun l hl => by rw [I.list_inj hl hqx]; exact hx, fun l hl => by rw [I.tuple_inj hl hqy]; exact hy⟩, ⟨z1, z2, z3, z4, z5⟩, fun c hcm => ?_⟩
    · simp only [List.mem_cons, List.not_mem_nil, or_false] at z' ⊢
      rcases z' with q | q | q | q
      · exact .inl q
      · exact .inr (.inr (.inl q))
      · exact .inr (.inr (.inr (.inl q)))
      · exact .inr (.inr (.inr (.inr q)))
    · rw [upd_ne (Nat.ne_of_lt (Nat.lt_of_lt_of_le (old c hcm) hT))]
      exact (hf c hcm).1
  done := by
    rintro X rfl rfl rfl hc i pins s σ H E I hf m ⟨xs, ys, hqx, hqy, hi⟩
    obtain ⟨its, rv, p, _⟩ := I.list hqx
    obtain ⟨its2, rv2, p2, _⟩ := I.tuple hqy
    have hin : X.A.in1.handled = none := I.ok.hd hc
    have n1 : a ≠ i1 := fun e => by
      obtain ⟨o1, e1, c1, _⟩ := m.c1
      obtain ⟨o, eo, co, _⟩ := p.isList
      rw [e, e1] at eo
      cases eo
      rw [c1] at co
      exact absurd co (by decide)
    have n2 : b ≠ i2 := fun e => by
      obtain ⟨o1, e1, c1, _⟩ := m.c2
      obtain ⟨o, eo, co, _⟩ := p2
      rw [e, e1] at eo
      cases eo
      rw [c1] at co
      exact absurd co (by decide)
    have G := GoesN.zip2 (elts := elts) (x1 := kk) (pos := tpos) S (Draws.list (prog := X.prog) (w := X.w) (A := X.A.in1) hin i1 a n1 its.toArray) (Draws.tuple (prog := X.prog) (w := X.w) (A := X.A.in1) hin i2 b n2 its2.toArray)
    have l1 := rv.length
    have l2 := rv2.length
    have e : i = min its.toArray.size its2.toArray.size := by simp; omega
    subst e
    refine G.stops s _ E ⟨m.cz, m.cI, m.cO, ⟨m.c1, p.isList⟩, m.c2, p2⟩ fun h' tk hk htk => I.turnedL (ch := [z, TI, TO, i1, i2]) (fun c o hb q => hk c o (fun z' => hb ?_) q) hf
    simp only [List.mem_cons, List.not_mem_nil, or_false] at z' ⊢
    rcases z' with q | q | q | q
    · exact .inl q
    · exact .inr (.inr (.inl q))
    · exact .inr (.inr (.inr (.inl q)))
    · exact .inr (.inr (.inr (.inr q)))
  self := fun A i s Q E m h => wpAny_pyIter_zip m.cz h
end
/-- a list with a list, or with a tuple -/
def zM (K : PySem.W.Frag) : List V → Hp → (It → Hp → Prop) → Prop := fun vs H1 R => ∃ a b xs ys, vs = [.ref a, .ref b] ∧ SqL K H1 a xs ∧ ((SqL K H1 b ys ∧ R (Itz K a b) H1) ∨ (SqT K H1 b ys ∧ R (ItM K a b) H1))
def iMix (K : PySem.W.Frag) (ta : TA) : TI := fun σ H R => ta σ H fun vs H1 => zM K vs H1 R
theorem pi_mix {X : Cx} {e e2 : Expr} {ta : TA} {p pos tpos : Pos} {elts : List Expr} {kk : Nat} (hg : Gl X "zip") (hm : X.mg "zip" = none) (ha : PA X [e, e2] ta)
    (hs : starEach [e, e2] X.env = (false, eval e X.env) :: starEach [e2] X.env := by rfl) (hpl : (backTo pos (starEach [e2] X.env)).any (·.1) = false := by rfl) :
    PI X (.Tuple elts kk tpos) (.Call (.Name "zip" p) [e, e2] [] pos) (iMix X.K ta) where
  run := by
    intro pins s σ H R I h
    refine Call_ (ld_blt I hg hm boot_zip (callWith_type1 (thn (ha.run pos pins s σ H _ I h) ?_) hs hpl))
    rintro us s1 ⟨vs, H1, I1, r1, a, b, xs, ys, rfl, hqx, hqy⟩
    cases r1 with
    | cons r rr =>
    cases rr with
    | cons r' rr =>
    cases rr
    cases r
    cases r'
    obtain ⟨its, rv, p1, _⟩ := I1.list hqx
    have new : ∀ j, FpOk X pins H1 (s1.heap.objs.size + j) := fun j => I1.fpOk (Nat.le_add_right _ j) (I1.hok.fresh (Nat.le_add_right _ j))
    have all : ∀ c ∈ [s1.heap.objs.size + 4, s1.heap.objs.size + 2, s1.heap.objs.size + 3, s1.heap.objs.size, s1.heap.objs.size + 1], FpOk X pins H1 c := fun c hc => by
      rcases five hc with rfl | rfl | rfl | rfl | rfl
      · exact new 4
      · exact new 2
      · exact new 3
      · exact new 0
      · exact new 1
    rcases hqy with ⟨hqy, q⟩ | ⟨hqy, q⟩
    · obtain ⟨its2, rv2, p2, _⟩ := I1.list hqy
      refine call_zip_2 p1.isList p2.isList fun h' a1 a2 a3 a4 a5 _ hk => wpAny_pyIter_zip a1 ?_
      exact ⟨_, _, _, Itz X.K a b, H1, rfl, I1.kept (t' := s1.toks) hk, turn_zip (PySem.W.ktu_apart s1.heap.objs.size a b p1.lt p2.lt), ⟨a1, a2, ⟨_, _, a3⟩, a4, a5⟩, all, q⟩
    · obtain ⟨its2, rv2, p2, _⟩ := I1.tuple hqy
      obtain ⟨o2, ho2, _⟩ := id p2
      refine zip_begins2 (begins_list a its.toArray) (begins_tuple b its2.toArray) p1.isList p2 fun h' hz hTI hTO g1 g2 hsz hk => wpAny_pyIter_zip hz ?_
      have S : ZipSep2 (s1.heap.objs.size + 4) (s1.heap.objs.size + 2) (s1.heap.objs.size + 3) s1.heap.objs.size (s1.heap.objs.size + 1) [s1.heap.objs.size, a] [s1.heap.objs.size + 1, b] :=
        zip_sep2 (fun c hc => by rw [List.mem_singleton.mp hc]; exact p1.lt) (fun c hc => by rw [List.mem_singleton.mp hc]; exact Heap.lt_size ho2)
      exact ⟨_, _, _, ItM X.K a b, H1, rfl, I1.kept (t' := s1.toks) hk, turn_mix S, ⟨hz, hTI, ⟨_, _, hTO⟩, ⟨_, g1, rfl, rfl⟩, ⟨_, g2, rfl, rfl⟩⟩, all, q⟩
/-- a list, or a tuple -/
def iSeq (K : PySem.W.Frag) (te : TE) : TI := fun σ H R => te σ H fun x H1 => ∃ a, x = .ref a ∧ ((∃ xs, SqL K H1 a xs ∧ R (Itl K a) H1) ∨ ∃ xs, SqT K H1 a xs ∧ R (Itt K a) H1)
theorem pi_seq {X : Cx} {tg e : Expr} {te : TE} (he : PE X e te) : PI X tg e (iSeq X.K te) where
  run := by
    intro pins s σ H R I h
    refine thn (he.run pins s σ H _ I h) ?_
    rintro v s1 ⟨x, H1, I1, r, a, rfl, q⟩
    cases r
    have new : ∀ b ∈ [s1.heap.objs.size], FpOk X pins H1 b := fun b hb => by
      rw [List.mem_singleton.mp hb]
      exact I1.fpOk (Nat.le_refl _) (I1.hok.fresh (Nat.le_refl _))
    rcases q with ⟨xs, hq, q⟩ | ⟨xs, hq, q⟩
    · obtain ⟨its, rv, p, _⟩ := I1.list hq
      refine wpAny_pyIter_list p.isList ⟨_, _, _, Itl X.K a, H1, rfl, I1.kept (t' := s1.toks) fun b o e => Heap.get?_push_of_some _ e, turn_list a _, ⟨_, Heap.get?_push_size _ rfl, rfl, rfl⟩, new, q⟩
    · obtain ⟨its, rv, p, _⟩ := I1.tuple hq
      refine wpAny_pyIter_tuple (show s1.heap.IsTuple a its.toArray from p) ⟨_, _, _, Itt X.K a, H1, rfl, I1.kept (t' := s1.toks) fun b o e => Heap.get?_push_of_some _ e, turn_tuple a _, ⟨_, Heap.get?_push_size _ rfl, rfl, rfl⟩, new, q⟩
section
variable {K : PySem.W.Frag} {σ : St} {H : Hp} {D : Ends} {tr : TA} {tb : TS} {k1 k2 : Nat}
theorem rd_keep {H H' : Hp} {p : Addr} {u : HO} (k : ∀ o, H p = some o → H' p = some o) (r : Rd H p u) : Rd H' p u := r.imp (k _) fun ⟨o, h⟩ => ⟨o, k _ h⟩
theorem sq_keep {H H' : Hp} {p : Addr} {xs : List V} (k : ∀ o, H p = some o → H' p = some o) : (SqL K H p xs → SqL K H' p xs) ∧ (SqT K H p xs → SqT K H' p xs) := ⟨fun h => h.imp (rd_keep k) id, fun h => h.imp (rd_keep k) id⟩
def LoopZ (W : List V → Hp → (It → Hp → Prop) → Prop) (g : TG) (tb : TS) (D : Ends) (σ : St) (vs : List V) (H : Hp) : Prop := tFor (fun _ H R => W vs H R) g tb D σ H
def zA (K : PySem.W.Frag) : List V → Hp → (It → Hp → Prop) → Prop := fun vs H1 R => ∃ a b xs ys, vs = [.ref a, .ref b] ∧ ((SqL K H1 a xs ∧ SqL K H1 b ys ∧ R (Itz K a b) H1) ∨ (SqT K H1 a xs ∧ SqT K H1 b ys ∧ R (RZ.ItzT K a b) H1))
def zE (K : PySem.W.Frag) : List V → Hp → (It → Hp → Prop) → Prop := fun vs H1 R => ∃ a xs, vs = [.ref a] ∧ SqL K H1 a xs ∧ R (Ite K a) H1
theorem w_forM {g : TG} (h : tr σ H fun vs H1 => LoopZ (zM K) g tb D σ vs H1) : tFor (iMix K tr) g tb D σ H := h
theorem w_forZ {g : TG} (h : tr σ H fun vs H1 => LoopZ (zA K) g tb D σ vs H1) : tFor (RZ.iZipA K tr) g tb D σ H := h
theorem w_forE {g : TG} (h : tr σ H fun vs H1 => LoopZ (zE K) g tb D σ vs H1) : tFor (iEnum K tr) g tb D σ H := h
def LoopQ (K : PySem.W.Frag) (g : TG) (tb : TS) (D : Ends) (σ : St) (x : V) (H : Hp) : Prop := tFor (fun _ H1 R => ∃ a, x = .ref a ∧ ((∃ xs, SqL K H1 a xs ∧ R (Itl K a) H1) ∨ ∃ xs, SqT K H1 a xs ∧ R (Itt K a) H1)) g tb D σ H
theorem w_forQ {te : TE} {g : TG} (h : te σ H fun x H1 => LoopQ K g tb D σ x H1) : tFor (iSeq K te) g tb D σ H := h
theorem w_loopQ {a : Addr} {xs : List V} (hx : SqL K H a xs ∨ SqT K H a xs) (Pv : Nat → St → Hp → Prop) (h0 : Pv 0 σ H) (hl : ∀ j σ' H', Pv j σ' H' → ∀ o, H a = some o → H' a = some o)
    (hs : ∀ j x σ' H', xs[j]? = some x → Pv j σ' H' → tb { D with nx := Pv (j + 1), ct := Pv (j + 1), bk := D.nx } (σ'.set k1 (some x)) H') (hd : ∀ σ' H', Pv xs.length σ' H' → D.nx σ' H') : LoopQ K (gName k1) tb D σ (.ref a) H := by
  refine ⟨a, rfl, ?_⟩
  rcases hx with hx | hx
  · exact .inl ⟨xs, hx, for_list (K := K) (a := a) (xs := xs) Pv h0 (fun j σ' H' _ p => (sq_keep (hl j σ' H' p)).1 hx) (fun j x σ' H' hi p => hs j x σ' H' hi p) hd⟩
  · exact .inr ⟨xs, hx, for_tup (K := K) (a := a) (xs := xs) Pv h0 (fun j σ' H' _ p => (sq_keep (hl j σ' H' p)).2 hx) (fun j x σ' H' hi p => hs j x σ' H' hi p) hd⟩
/-- a loop by numbered turns -/
theorem loop_by {J : It} {n : Nat} {g : TG} (Pv : Nat → St → Hp → Prop) (h0 : Pv 0 σ H) (hg : ∀ i σ' H', i < n → Pv i σ' H' → J.go i H') (hst : ∀ σ' H', Pv n σ' H' → J.stop n H')
    (hs : ∀ i r σ' H' H2, i < n → Pv i σ' H' → J.yld i H' r H2 → g r σ' H2 fun σ3 H3 => tb { D with nx := Pv (i + 1), ct := Pv (i + 1), bk := D.nx } σ3 H3) (hd : ∀ σ' H', Pv n σ' H' → D.nx σ' H') : tFor (fun _ H R => R J H) g tb D σ H := by
  show ∃ W : Nat → Nat → St → Hp → Prop, _
  refine ⟨fun i m σ' H' => m = n - i ∧ i ≤ n ∧ Pv i σ' H', ⟨n, by simp, Nat.zero_le _, h0⟩, ?_⟩
  rintro i m σ' H' ⟨rfl, hi, p⟩
  by_cases hlt : i < n
  · exact .inr ⟨hg i σ' H' hlt p, Pv (i + 1), fun σ2 H2 p' => ⟨n - (i + 1), by omega, rfl, hlt, p'⟩, fun r H2 y => hs i r σ' H' H2 hlt p y⟩
  · have e : i = n := by omega
    subst e
    exact .inl ⟨hst _ _ p, hd _ _ p⟩
theorem g_pair {K : PySem.W.Frag} {T : Addr} {x y : V} {R : St → Hp → Prop} (h : ∀ H', Same H H' → R ((σ.set k1 (some x)).set k2 (some y)) H') (hT : H T = none) : gTup K 2 (gCons (gName k1) (gCons (gName k2) gNil)) (.ref T) σ (upd H T (.tup [x, y])) R :=
  ⟨T, [x, y], rfl, SqT.of upd_same, rfl, _, _, rfl, _, _, rfl, rfl, h _ (same_new hT)⟩
/-- over pairs of a list with a list or a tuple, of one length -/
theorem w_loopM {a b : Addr} {xs ys : List V} {H0 : Hp} (hx : SqL K H a xs) (hy : SqL K H0 b ys ∨ SqT K H0 b ys) (hl : xs.length = ys.length) (Pv : Nat → St → Hp → Prop) (h0 : Pv 0 σ H) (hq : ∀ i σ' H', Pv i σ' H' → SqL K H' a xs ∧ Same H0 H')
    (hs : ∀ i x y σ' H' H2, xs[i]? = some x → ys[i]? = some y → Pv i σ' H' → Same H' H2 → tb { D with nx := Pv (i + 1), ct := Pv (i + 1), bk := D.nx } ((σ'.set k1 (some x)).set k2 (some y)) H2) (hd : ∀ σ' H', Pv xs.length σ' H' → D.nx σ' H') :
    LoopZ (zM K) (gTup K 2 (gCons (gName k1) (gCons (gName k2) gNil))) tb D σ [.ref a, .ref b] H := by
  have at' : ∀ {zs : List V} {i : Nat}, i < zs.length → zs[i]? = some (zs[i]?.getD .non) := fun h => by rw [List.getElem?_eq_getElem h]; rfl
  have kL : ∀ {i σ' H'}, Pv i σ' H' → SqL K H0 b ys → SqL K H' b ys := fun p h => (sq_keep ((hq _ _ _ p).2 b)).1 h
  have kT : ∀ {i σ' H'}, Pv i σ' H' → SqT K H0 b ys → SqT K H' b ys := fun p h => (sq_keep ((hq _ _ _ p).2 b)).2 h
  refine ⟨a, b, xs, ys, rfl, hx, ?_⟩
  rcases hy with hy | hy
  · refine .inl ⟨kL h0 hy, loop_by (n := xs.length) Pv h0 (fun i σ' H' hi p => ⟨xs, ys, _, _, (hq i σ' H' p).1, kL p hy, at' hi, at' (hl ▸ hi)⟩) (fun σ' H' p => ⟨xs, ys, (hq _ σ' H' p).1, kL p hy, .inl (Nat.le_refl _)⟩) (fun i r σ' H' H2 hi p y => ?_) hd⟩
    obtain ⟨T, x, y, rfl, hT, rfl, f1, f2⟩ := y
    exact g_pair (fun H3 s3 => hs i x y σ' H' H3 (f1 xs (hq _ σ' H' p).1) (f2 ys (kL p hy)) p s3) hT
  · refine .inr ⟨kT h0 hy, loop_by (n := xs.length) Pv h0 (fun i σ' H' hi p => ⟨xs, ys, _, _, (hq i σ' H' p).1, at' hi, kT p hy, at' (hl ▸ hi)⟩) (fun σ' H' p => ⟨xs, ys, (hq _ σ' H' p).1, kT p hy, by rw [hl, Nat.min_self]⟩) (fun i r σ' H' H2 hi p y => ?_) hd⟩
    obtain ⟨T, x, y, rfl, ⟨hT, rfl⟩, f1, f2⟩ := y
    exact g_pair (fun H3 s3 => hs i x y σ' H' H3 (f1 xs (hq _ σ' H' p).1) (f2 ys (kT p hy)) p s3) hT
/-- over pairs of two tuples of one length -/
theorem w_loopTT {a b : Addr} {xs ys : List V} (hx : SqT K H a xs) (hy : SqT K H b ys) (hl : xs.length = ys.length) (Pv : Nat → St → Hp → Prop) (h0 : Pv 0 σ H) (hq : ∀ i σ' H', Pv i σ' H' → SqT K H' a xs ∧ SqT K H' b ys)
    (hs : ∀ i x y σ' H' H2, xs[i]? = some x → ys[i]? = some y → Pv i σ' H' → Same H' H2 → tb { D with nx := Pv (i + 1), ct := Pv (i + 1), bk := D.nx } ((σ'.set k1 (some x)).set k2 (some y)) H2) (hd : ∀ σ' H', Pv xs.length σ' H' → D.nx σ' H') :
    LoopZ (zA K) (gTup K 2 (gCons (gName k1) (gCons (gName k2) gNil))) tb D σ [.ref a, .ref b] H := by
  have at' : ∀ {zs : List V} {i : Nat}, i < zs.length → zs[i]? = some (zs[i]?.getD .non) := fun h => by rw [List.getElem?_eq_getElem h]; rfl
  refine ⟨a, b, xs, ys, rfl, .inr ⟨hx, hy, loop_by (n := xs.length) Pv h0 (fun i σ' H' hi p => ⟨xs, ys, _, _, (hq i σ' H' p).1, (hq i σ' H' p).2, at' hi, at' (hl ▸ hi)⟩) (fun σ' H' p => ⟨xs, ys, (hq _ σ' H' p).1, (hq _ σ' H' p).2, .inl (Nat.le_refl _)⟩) (fun i r σ' H' H2 hi p y => ?_) hd⟩⟩
  obtain ⟨T, x, y, rfl, hT, rfl, f1, f2⟩ := y
  exact g_pair (fun H3 s3 => hs i x y σ' H' H3 (f1 xs (hq _ σ' H' p).1) (f2 ys (hq _ σ' H' p).2) p s3) hT
/-- for i, x in enumerate(a list) -/
theorem w_loopE {a : Addr} {xs : List V} (hx : SqL K H a xs) (Pv : Nat → St → Hp → Prop) (h0 : Pv 0 σ H) (hq : ∀ i σ' H', Pv i σ' H' → SqL K H' a xs)
    (hs : ∀ (i : Nat) x σ' H' H2, xs[i]? = some x → Pv i σ' H' → Same H' H2 → tb { D with nx := Pv (i + 1), ct := Pv (i + 1), bk := D.nx } ((σ'.set k1 (some (.int (i : Nat)))).set k2 (some x)) H2) (hd : ∀ σ' H', Pv xs.length σ' H' → D.nx σ' H') :
    LoopZ (zE K) (gTup K 2 (gCons (gName k1) (gCons (gName k2) gNil))) tb D σ [.ref a] H := by
  refine ⟨a, xs, rfl, hx, loop_by (n := xs.length) Pv h0 (fun i σ' H' hi p => ⟨xs, _, hq i σ' H' p, List.getElem?_eq_getElem hi⟩) (fun σ' H' p => ⟨xs, hq _ σ' H' p, Nat.le_refl _⟩) (fun i r σ' H' H2 hi p y => ?_) hd⟩
  obtain ⟨T, x, rfl, hT, rfl, f1⟩ := y
  exact g_pair (fun H3 s3 => hs i x σ' H' H3 (f1 xs (hq _ σ' H' p)) p s3) hT
end
end K17
/-! More steps: two names at once, a dict as written, FORMS, data compared, a list taken apart. -/
namespace K17
open PySem L2
/-- what is new may change: the rest stands -/
theorem same_of_new {l : Addr} {H H' : Hp} (n : H l = none) (c : Ch l H H') : Same H H' := fun b x e => c b x (ne_of_none e n) e
theorem Ch.weak {l : Addr} {H H' : Hp} (s : Same H H') : Ch l H H' := Ch.of s
section
variable {K : PySem.W.Frag} {σ : St} {H : Hp} {Q : VK} {D : Ends} {tr : TA} {te td ty tx : TE} {x y v : V} {i j : Nat}
theorem w_par (h : tr σ H fun vs H1 => ∃ v w, vs = [v, w] ∧ D.nx ((σ.set i (some v)).set j (some w)) H1) : tPar i j tr D σ H := h
theorem w_two {R : V → V → Prop} (h : R x y) : ∃ v w, [x, y] = [v, w] ∧ R v w := ⟨x, y, rfl, h⟩
theorem w_dget2 (h : td σ H fun x H1 => ∃ a, x = .ref a ∧ IsD H1 a ∧ ty σ H1 fun y H2 => tx σ H2 fun z H3 => ∃ o, DGet H3 a y o ∧ Q (o.getD z) H3) : tDGet2 td ty tx σ H Q := h
theorem pairs_c : ∀ {kvs : List (Key × V)} {R : List (V × V) → Hp → Prop}, R (kvs.map fun kv => (kV kv.1, kv.2)) H → tPairs (kvs.map fun kv => (tC (kV kv.1), tC kv.2)) σ H R
  | [], _, h => h
  | (k, v) :: r, R, h => pairs_c (kvs := r) (R := fun ps H3 => R ((kV k, v) :: ps) H3) h
theorem w_disp {trs : List (TE × TE)} (kvs : List (Key × V)) (ht : trs = kvs.map fun kv => (tC (kV kv.1), tC kv.2)) (h15 : kvs.length ≤ 15)
    (q : ∀ p H', H p = none → Same H H' → H' p = some (.dK (mergeK [] kvs)) → Q (.ref p) H') : tDisp trs σ H Q := fun p hp => by
  subst ht
  refine pairs_c ⟨upd_same, kvs, rfl, h15, q p _ hp (fun b x e => ?_) upd_same⟩
  rw [upd_ne (ne_of_none e hp), upd_ne (ne_of_none e hp)]
  exact e
/-- FORMS[word] -/
theorem w_ixF {d f : Addr} {z : Str} {w : World} {es : Array DictEntry} {n : Nat} (D : KDict K w d es n) (hq : PySem.W.nsIn K d z = some (some (.ref f))) (h : Q (.ref f) H) : rIxD K w (.ref d) (.str z) H Q :=
  ⟨d, z, .ref f, rfl, rfl, ⟨es, n, _, D.at_, D.lit, hq, rfl⟩, h⟩
theorem w_notInF {d : Addr} {z : Str} {r : Option Value} (hq : PySem.W.nsIn K d z = some r) (h : Q (.bl (!r.isSome)) H) : rNotInK K d (.str z) (.ref d) H Q := ⟨z, r, rfl, rfl, hq, h⟩
theorem w_lenQT {p : Addr} {ys : List V} (hp : SqL K H p ys ∨ SqT K H p ys) (h : Q (.int ys.length) H) : rLen K [.ref p] H Q := ⟨p, ys, rfl, hp, h⟩
theorem w_neD {d e : PyData} (h1 : Dp K H x d) (h2 : Dp K H y e) (s1 : SeqAt.shaped d = true) (s2 : SeqAt.shaped e = true) (h : Q (.bl (!PyData.eqv d e)) H) : rNeD K x y H Q := ⟨d, e, h1, h2, s1, s2, h⟩
theorem w_eqD {d e : PyData} (h1 : Dp K H x d) (h2 : Dp K H y e) (s1 : SeqAt.shaped d = true) (s2 : SeqAt.shaped e = true) (h : Q (.bl (PyData.eqv d e)) H) : rEqD K x y H Q := ⟨d, e, h1, h2, s1, s2, h⟩
theorem w_notInT {z : Str} {p : Addr} {zs : List Str} (hp : H p = some (.tup (zs.map V.str))) (h : Q (.bl (!decide (z ∈ zs))) H) : rIn K true (.str z) (.ref p) H Q := by
  refine ⟨p, _, rfl, .inr (SqT.of hp), rfl, ?_, ?_⟩
  · rw [List.all_map]
    exact List.all_eq_true.mpr fun _ _ => rfl
  · have e : inV (.str z) (zs.map V.str) = decide (z ∈ zs) := by
      unfold inV
      rw [List.any_map]
      cases hd : decide (z ∈ zs) with
      | true => exact List.any_eq_true.mpr ⟨z, of_decide_eq_true hd, by simp [eqV]⟩
      | false =>
        refine List.any_eq_false.mpr fun u hu e => of_decide_eq_false hd ?_
        have e2 : u = z := by simpa [eqV] using e
        exact e2 ▸ hu
    rw [e]
    exact h
theorem w_isNN (h : Q (.bl true) H) : rIsN .non .non H Q := ⟨rfl, h⟩
theorem w_isNI {n : Int} (h : Q (.bl false) H) : rIsN (.int n) .non H Q := ⟨rfl, h⟩
theorem w_isNR {p : Addr} (h : Q (.bl false) H) : rIsN (.ref p) .non H Q := ⟨rfl, h⟩
theorem w_notNN (h : Q (.bl false) H) : rNotN .non .non H Q := ⟨rfl, h⟩
theorem w_notNI {n : Int} (h : Q (.bl true) H) : rNotN (.int n) .non H Q := ⟨rfl, h⟩
theorem w_notNR {p : Addr} (h : Q (.bl true) H) : rNotN (.ref p) .non H Q := ⟨rfl, h⟩
theorem w_orS {i : Nat} {z u v : Str} (e : σ[i]? = some (some (.str z))) (h : Q (.bl (decide (z = u) || decide (z = v))) H) : tOrV (tOp rEq (tVar i) (tC (.str u))) (tOp rEq (tVar i) (tC (.str v))) σ H Q := by
  refine w_orV (w_op (w_var e (w_c (w_eqS ⟨_, rfl, ?_⟩))))
  by_cases h1 : z = u
  · rw [decide_eq_true h1] at h ⊢
    exact iteT h
  · rw [decide_eq_false h1, Bool.false_or] at h
    rw [decide_eq_false h1]
    exact iteF (w_op (w_var e (w_c (w_eqS h))))
theorem w_nt {A B : Prop} (h : B) : if (!true) = true then A else B := iteF h
theorem w_nf {A B : Prop} (h : A) : if (!false) = true then A else B := iteT h
theorem w_unl2 {k1 k2 : Nat} {p : Addr} {R : St → Hp → Prop} (hp : H p = some (.lst [x, y])) (h : R ((σ.set k1 (some x)).set k2 (some y)) H) : gUnl K 2 (gCons (gName k1) (gCons (gName k2) gNil)) (.ref p) σ H R :=
  ⟨p, [x, y], rfl, SqL.of hp, rfl, _, _, rfl, _, _, rfl, rfl, h⟩
end
end K17
namespace K17
open PySem L2
/-! The rows of lines: numbers_told, row_told, _law_line, _law_read. -/
local macro_rules | `(tactic| walk_at "gg") => `(tactic| repeat (first | with_reducible refine w_nt ?_ | with_reducible refine w_nf ?_ | with_reducible refine w_raise ?_ | with_reducible refine w_orS (by with_unfolding_all rfl) ?_ | with_reducible refine iteT ?_ | with_reducible refine iteF ?_ | with_reducible refine w_isNN ?_ | with_reducible refine w_isNI ?_ | with_reducible refine w_isNR ?_ | with_reducible refine w_notNN ?_ | with_reducible refine w_notNI ?_ | with_reducible refine w_notNR ?_ | with_reducible refine w_var (by with_unfolding_all rfl) ?_ | with_reducible refine w_c ?_ | with_reducible refine w_seq ?_ | with_reducible refine w_set ?_ | with_reducible refine w_ret ?_ | with_reducible refine w_if ?_ | with_reducible refine w_op ?_ | with_reducible refine w_ii ?_ | with_reducible refine w_test ?_ | with_reducible refine w_bl ?_ | with_reducible refine w_cb ?_ | with_reducible refine w_call ?_ | with_reducible refine w_nil ?_ | with_reducible refine w_cons ?_ | with_reducible refine w_eqI ?_ | with_reducible refine w_eqS ?_ | with_reducible refine w_neI ?_ | with_reducible refine w_neS ?_ | with_reducible refine w_andV ?_ | with_reducible refine w_orV ?_ | with_reducible refine w_notV ?_ | with_reducible refine w_and ?_ | with_reducible refine w_or ?_ | with_reducible refine w_not ?_ | with_reducible refine w_ifE ?_ | with_reducible refine w_chain ?_ | with_reducible refine w_B ?_ | with_reducible refine w_drop ?_ | with_reducible refine w_next ?_ | with_reducible refine w_un ?_ | with_reducible refine w_iu ?_ | with_reducible refine w_isN ?_ | with_reducible refine w_notN ?_ | with_reducible refine w_int1 ?_ | with_reducible refine w_abs ?_ | with_reducible refine w_min ?_ | with_reducible refine w_max ?_ | with_reducible refine w_tup ?_ | with_reducible refine w_lst ?_ | with_reducible refine w_sl ?_ | with_reducible refine w_noPart ?_ | with_reducible refine w_part ?_ | with_reducible refine w_pi ?_ | with_reducible refine w_bm ?_ | with_reducible refine w_tyS ?_ | with_reducible refine w_m1 ?_ | with_reducible refine w_str ?_ | with_reducible refine w_forL ?_ | with_reducible refine w_forT ?_ | with_reducible refine w_forR1 ?_ | with_reducible refine w_forS ?_ | with_reducible refine w_lcL ?_ | with_reducible refine w_lcT ?_ | with_reducible refine w_lcR1 ?_ | with_reducible refine w_lcR2 ?_ | with_reducible refine w_yes ?_ | with_reducible refine w_asgSub ?_ | with_reducible refine w_callS ?_ | with_reducible refine w_forQ ?_ | with_reducible refine w_forM ?_ | with_reducible refine w_forZ ?_ | with_reducible refine w_forE ?_ | with_reducible refine w_par ?_ | with_reducible refine w_two ?_ | with_reducible refine w_dget2 ?_))
section
variable {P : Program} {w : World} {K : PySem.W.Frag} {mg : Str → Option Value} {base : Heap} {a : Ad}
theorem optV_none : optV none = .non := rfl
theorem optV_some (n : Int) : optV (some n) = .int n := rfl
/-- None, or a tuple of the numbers -/
def tupOpt (H : Hp) (v : V) : Option (List Int) → Prop
  | none => v = .non
  | some ns => ∃ c, v = .ref c ∧ H c = some (.tup (ns.map V.int))
def spTolds (K : PySem.W.Frag) : Sp := fun vs H Q _ => ∃ (p q : Addr) (ws ks : List Str), vs = [.ref p, .ref q] ∧ H p = some (.lst (ws.map V.str)) ∧ (SqL K H q (ks.map V.str) ∨ SqT K H q (ks.map V.str)) ∧ ws.length = ks.length ∧ ws.length ≤ 200000 ∧ (∀ z ∈ ws, z.length ≤ 1000000) ∧
  ∀ H' v, Same H H' → tupOpt H' v (numbersOf ws ks) → Q v H'
theorem i_spTolds {p q : Addr} {ws ks : List Str} {H : Hp} {Q : VK} {E : XK} (h1 : H p = some (.lst (ws.map V.str))) (h2 : SqL K H q (ks.map V.str) ∨ SqT K H q (ks.map V.str)) (h3 : ws.length = ks.length) (h4 : ws.length ≤ 200000) (h5 : ∀ z ∈ ws, z.length ≤ 1000000)
    (h : ∀ H' v, Same H H' → tupOpt H' v (numbersOf ws ks) → Q v H') : spTolds K [.ref p, .ref q] H Q E := ⟨p, q, ws, ks, rfl, h1, h2, h3, h4, h5, h⟩
theorem nm_bad {z k : Str} (h : numOf true z = none) : nm z k = none := by
  unfold nm
  by_cases e : k = "row"
  · rw [decide_eq_false (fun q => q e), numOf_unsigned, h]
  · rw [decide_eq_true e, h]
theorem nm_neg {z k : Str} {n : Int} (h : numOf true z = some n) (e : k = "row") (hn : n < 0) : nm z k = none := by
  unfold nm
  rw [decide_eq_false (fun q => q e), numOf_unsigned, h]
  exact if_pos hn
theorem nm_ok {z k : Str} {n : Int} (h : numOf true z = some n) (hn : ¬ (k = "row" ∧ n < 0)) : nm z k = some n := by
  unfold nm
  by_cases e : k = "row"
  · rw [decide_eq_false (fun q => q e), numOf_unsigned, h]
    exact if_neg fun q => hn ⟨e, q⟩
  · rw [decide_eq_true e, h]
theorem zip_next {ws ks : List Str} {j : Nat} {z k : Str} (h1 : ws[j]? = some z) (h2 : ks[j]? = some k) : List.zipWith nm (ws.drop j) (ks.drop j) = nm z k :: List.zipWith nm (ws.drop (j + 1)) (ks.drop (j + 1)) := by
  rw [drop_next h1, drop_next h2]
  rfl
theorem same_new2 {H H1 H2 : Hp} {l : Addr} (s : Same H H1) (n : H l = none) (c : Ch l H1 H2) : Same H H2 := same_of_new n ((Ch.of s).trans c)
theorem ok_numbers_told (T : Txt K mg w a) : Ok P w K mg base 2 a.f_numbers_told ["words", "kinds"] (spTolds K) := by
  obtain ⟨fd, F, b⟩ := T.F_numbers_told
  obtain ⟨fd1, G_number_told, b_number_told⟩ := ok_number_told (P := P) (base := base) T
  refine ⟨fd, F.ok sc_numbers_told (fun vs H Q E h => ?_) (fun cdv A outer s H vs Q E hr h => ?_), b⟩
  · obtain ⟨p, q, ws, ks, rfl, _⟩ := h
    rfl
  · obtain ⟨p, q, ws, ks, rfl, hp, hq, hl, hn, hz, ret⟩ := h
    refine ⟨_, (pss_cons (ps_set (i := 2) sc_numbers_told.nd rfl (Or.inl rfl) (pe_lst pa_nil))
      (pss_cons (ps_for PassesOwn.never rfl (pi_mix (by rfl) T.z_zip (pa_cons (pv 0) (pa_cons (pv 1) pa_nil))) (pg_tup rfl (pgs_cons (pg_name (i := 3) sc_numbers_told.nd rfl (Or.inl rfl)) (pgs_cons (pg_name (i := 4) sc_numbers_told.nd rfl (Or.inl rfl)) pgs_nil))) (pss_cons (ps_set (i := 5) sc_numbers_told.nd rfl (Or.inl rfl) (pe_call G_number_told (hr.mono (by decide)) (by rfl) T.a_number_told T.k_number_told b_number_told .nil pass0 (pa_cons (pv 3) pa_nil)))
      (pss_cons (ps_if (PW.pt (pw_or (pt_cmpR o_isN (pv 5) pe_non (nomark _)) (pw_or1 (PW.pt (pw_and (pt_cmpR op_eq (pv 4) pe_str (nomark _)) (pw_and1 (pt_cmpR op_lt (pv 5) pe_int (nomark _)))))))) (pss_one (ps_ret pe_non)) pss_nil)
      (pss_one (ps_expr (pe_bm PySem.F.plainAttrs_list PySem.F.slot_list_append PySem.F.type_list_append mt_append (pv 2) (pa_cons (pv 5) pa_nil)))))))
      (pss_one (ps_ret (pe_callTy c_tupOf (by rfl) T.z_tuple bt_tuple (pa_cons (pv 2) pa_nil)))))), ?_⟩
    walk_at "gg"
    refine w_newL (by show 0 ≤ 1000000; decide) (fun l H1 nl s1 el => ?_)
    walk_at "gg"
    refine w_loopM (SqL.of (s1 _ _ hp)) hq (by rw [List.length_map, List.length_map]; exact hl)
      (fun j σ' H' => ∃ (ns : List Int) (y1 y2 y3 : Option V), σ' = [some (.ref p), some (.ref q), some (.ref l), y1, y2, y3] ∧ Same H H' ∧ Ch l H1 H' ∧ H' l = some (.lst (ns.map V.int)) ∧ ns.length ≤ j ∧ j ≤ ws.length ∧ numbersOf ws ks = (allSome (List.zipWith nm (ws.drop j) (ks.drop j))).map (ns ++ ·))
      ⟨[], none, none, none, rfl, s1, Ch.refl _ _, el, Nat.le_refl _, Nat.zero_le _, by
        rw [List.drop_zero, List.drop_zero]
        unfold numbersOf
        cases allSome (List.zipWith nm ws ks) <;> rfl⟩
      (fun j σ' H' h => ?_) (fun j x y σ' H' H2 hx hy h s3 => ?_) (fun σ' H' h => ?_)
    · obtain ⟨ns, y1, y2, y3, e1, s2, c2, e2, _⟩ := h
      exact ⟨SqL.of (s2 _ _ hp), s2⟩
    · obtain ⟨ns, y1, y2, y3, e1, s2, c2, e2, l1, l2, e3⟩ := h
      subst e1
      obtain ⟨z, hz1, rfl⟩ := map_at hx
      obtain ⟨k, hk1, rfl⟩ := map_at hy
      rw [zip_next hz1 hk1] at e3
      have hj : j < ws.length := (List.getElem?_eq_some_iff.mp hz1).1
      walk_at "gg"
      refine i_spTold (hz z (List.mem_of_getElem? hz1)) ?_
      have nl2 : H l = none := nl
      cases en : numOf true z with
      | none =>
        rw [optV_none]
        walk_at "gg"
        refine ret H2 _ (s2.trans s3) ?_
        rw [e3, nm_bad en]
        rfl
      | some n =>
        rw [optV_some]
        walk_at "gg"
        have e2' := s3 _ _ e2
        have s4 := s2.trans s3
        have fin : ∀ H3, Ch l H2 H3 → H3 l = some (.lst (ns.map V.int ++ [.int n])) → ¬ (k = "row" ∧ n < 0) → ∃ (ns : List Int) (y1 y2 y3 : Option V), [some (.ref p), some (.ref q), some (.ref l), some (.str z), some (.str k), some (.int n)] = [some (.ref p), some (.ref q), some (.ref l), y1, y2, y3] ∧ Same H H3 ∧ Ch l H1 H3 ∧ H3 l = some (.lst (ns.map V.int)) ∧ ns.length ≤ j + 1 ∧ j + 1 ≤ ws.length ∧ numbersOf ws ks = (allSome (List.zipWith nm (ws.drop (j + 1)) (ks.drop (j + 1)))).map (ns ++ ·) := fun H3 c3 e4 hn3 =>
          ⟨ns ++ [n], _, _, _, rfl, same_new2 s4 nl c3, (c2.trans (Ch.of s3)).trans c3, by rw [List.map_append]; exact e4, by rw [List.length_append]; show ns.length + 1 ≤ j + 1; omega, hj, by rw [e3, allSome_go ns (nm_ok en hn3)]⟩
        refine w_dec (fun c5 => ?_) (fun c5 => ?_)
        · walk_at "gg"
          refine w_dec (fun c6 => ?_) (fun c6 => ?_)
          · walk_at "gg"
            refine ret H2 _ s4 ?_
            rw [e3, nm_neg en c5 c6]
            rfl
          · walk_at "gg"
            refine w_tyL e2' ?_
            walk_at "gg"
            refine v_app e2' (by rw [List.length_map]; omega) (fun H3 c3 e4 => ?_)
            walk_at "gg"
            exact fin H3 c3 e4 (fun z => c6 z.2)
        · walk_at "gg"
          refine w_tyL e2' ?_
          walk_at "gg"
          refine v_app e2' (by rw [List.length_map]; omega) (fun H3 c3 e4 => ?_)
          walk_at "gg"
          exact fin H3 c3 e4 (fun z => c5 z.1)
    · obtain ⟨ns, y1, y2, y3, e1, s2, c2, e2, l1, l2, e3⟩ := h
      subst e1
      walk_at "gg"
      refine w_tupL e2 (fun c H2 nc s3 ec => ?_)
      refine ret H2 _ (s2.trans s3) ?_
      rw [e3, List.length_map, List.drop_length]
      refine ⟨c, rfl, ?_⟩
      show H2 c = some (.tup ((ns ++ []).map V.int))
      rw [List.append_nil]
      exact ec
end
end K17
namespace K17
open PySem L2
/-! The rows of lines: row_told. -/
local macro_rules | `(tactic| walk_at "gg") => `(tactic| repeat (first | with_reducible refine w_nt ?_ | with_reducible refine w_nf ?_ | with_reducible refine w_raise ?_ | with_reducible refine w_orS (by with_unfolding_all rfl) ?_ | with_reducible refine iteT ?_ | with_reducible refine iteF ?_ | with_reducible refine w_isNN ?_ | with_reducible refine w_isNI ?_ | with_reducible refine w_isNR ?_ | with_reducible refine w_notNN ?_ | with_reducible refine w_notNI ?_ | with_reducible refine w_notNR ?_ | with_reducible refine w_var (by with_unfolding_all rfl) ?_ | with_reducible refine w_c ?_ | with_reducible refine w_seq ?_ | with_reducible refine w_set ?_ | with_reducible refine w_ret ?_ | with_reducible refine w_if ?_ | with_reducible refine w_op ?_ | with_reducible refine w_ii ?_ | with_reducible refine w_test ?_ | with_reducible refine w_bl ?_ | with_reducible refine w_cb ?_ | with_reducible refine w_call ?_ | with_reducible refine w_nil ?_ | with_reducible refine w_cons ?_ | with_reducible refine w_eqI ?_ | with_reducible refine w_eqS ?_ | with_reducible refine w_neI ?_ | with_reducible refine w_neS ?_ | with_reducible refine w_andV ?_ | with_reducible refine w_orV ?_ | with_reducible refine w_notV ?_ | with_reducible refine w_and ?_ | with_reducible refine w_or ?_ | with_reducible refine w_not ?_ | with_reducible refine w_ifE ?_ | with_reducible refine w_chain ?_ | with_reducible refine w_B ?_ | with_reducible refine w_drop ?_ | with_reducible refine w_next ?_ | with_reducible refine w_un ?_ | with_reducible refine w_iu ?_ | with_reducible refine w_isN ?_ | with_reducible refine w_notN ?_ | with_reducible refine w_int1 ?_ | with_reducible refine w_abs ?_ | with_reducible refine w_min ?_ | with_reducible refine w_max ?_ | with_reducible refine w_tup ?_ | with_reducible refine w_lst ?_ | with_reducible refine w_sl ?_ | with_reducible refine w_noPart ?_ | with_reducible refine w_part ?_ | with_reducible refine w_pi ?_ | with_reducible refine w_bm ?_ | with_reducible refine w_tyS ?_ | with_reducible refine w_m1 ?_ | with_reducible refine w_str ?_ | with_reducible refine w_forL ?_ | with_reducible refine w_forT ?_ | with_reducible refine w_forR1 ?_ | with_reducible refine w_forS ?_ | with_reducible refine w_lcL ?_ | with_reducible refine w_lcT ?_ | with_reducible refine w_lcR1 ?_ | with_reducible refine w_lcR2 ?_ | with_reducible refine w_yes ?_ | with_reducible refine w_asgSub ?_ | with_reducible refine w_callS ?_ | with_reducible refine w_forQ ?_ | with_reducible refine w_forM ?_ | with_reducible refine w_forZ ?_ | with_reducible refine w_forE ?_ | with_reducible refine w_par ?_ | with_reducible refine w_two ?_ | with_reducible refine w_dget2 ?_))
theorem cutV_from (xs : List V) (k : Nat) : cutV xs (some (k : Int)) none = xs.drop k := by
  unfold cutV
  rw [HT.sIx_nat, HT.sIx_none]
  by_cases h : k ≤ xs.length
  · rw [Nat.min_eq_left h]
    exact List.take_of_length_le (by rw [List.length_drop]; exact Nat.le_refl _)
  · rw [Nat.min_eq_right (by omega), List.drop_length, List.drop_of_length_le (by omega), List.take_nil]
theorem cutV_to (xs : List V) (k : Nat) : cutV xs none (some (k : Int)) = xs.take k := by
  unfold cutV
  rw [HT.sIx_nat, HT.sIx_none, List.drop_zero, Nat.sub_zero]
  by_cases h : k ≤ xs.length
  · rw [Nat.min_eq_left h]
  · rw [Nat.min_eq_right (by omega), List.take_of_length_le (Nat.le_refl _), List.take_of_length_le (by omega)]
theorem at_hd {x : V} {xs : List V} : atI (x :: xs) 0 = some x := atI_nat (j := 0) rfl
theorem at_snd {x y : V} {xs : List V} : atI (x :: y :: xs) 1 = some y := atI_nat (j := 1) rfl
/-- a row that has come, or None -/
def rowOpt (H : Hp) (v : V) : Option RD → Prop
  | none => v = .non
  | some r => Dat noL H v r.data
theorem form_both {K : PySem.W.Frag} {w : World} {mg : Str → Option Value} {a : Ad} (T : Txt K mg w a) (k : Str) : (formAt a k = none ∧ forms k = none) ∨ ∃ f ks, formAt a k = some f ∧ forms k = some ks ∧ ∀ H, SqT K H f (ks.map V.str) := by
  unfold formAt forms
  by_cases h1 : k = "put"
  · rw [if_pos h1, if_pos h1]
    exact .inr ⟨_, _, rfl, rfl, T.kt_put⟩
  rw [if_neg h1, if_neg h1]
  by_cases h2 : k = "number"
  · rw [if_pos h2, if_pos h2]
    exact .inr ⟨_, _, rfl, rfl, T.kt_number⟩
  rw [if_neg h2, if_neg h2]
  by_cases h3 : k = "add"
  · rw [if_pos h3, if_pos h3]
    exact .inr ⟨_, _, rfl, rfl, T.kt_add⟩
  rw [if_neg h3, if_neg h3]
  by_cases h4 : k = "less"
  · rw [if_pos h4, if_pos h4]
    exact .inr ⟨_, _, rfl, rfl, T.kt_less⟩
  rw [if_neg h4, if_neg h4]
  by_cases h5 : k = "times"
  · rw [if_pos h5, if_pos h5]
    exact .inr ⟨_, _, rfl, rfl, T.kt_times⟩
  rw [if_neg h5, if_neg h5]
  by_cases h6 : k = "scale"
  · rw [if_pos h6, if_pos h6]
    exact .inr ⟨_, _, rfl, rfl, T.kt_scale⟩
  rw [if_neg h6, if_neg h6]
  exact .inl ⟨rfl, rfl⟩
theorem rowOf_cons {k : Str} {rest : List Str} : rowOf (k :: rest) = (kindsOf k rest).bind fun ks => (numbersOf rest ks).map (mkRow k) := rfl
theorem kinds_tell {rest : List Str} (h : 2 ≤ rest.length) : kindsOf "tell" rest = some (rest.map fun _ => ("row" : Str)) := by
  unfold kindsOf
  rw [if_pos rfl, if_pos h]
theorem kinds_tell_no {rest : List Str} (h : ¬ 2 ≤ rest.length) : kindsOf "tell" rest = none := by
  unfold kindsOf
  rw [if_pos rfl, if_neg h]
theorem kinds_form {k : Str} {rest ks : List Str} (hk : forms k = some ks) (h : ks.length = rest.length) : kindsOf k rest = some ks := by
  unfold kindsOf
  rw [if_neg (forms_tell hk), hk]
  show (if ks.length = rest.length then some ks else none) = _
  rw [if_pos h]
theorem kinds_len {k : Str} {rest ks : List Str} (hk : forms k = some ks) (h : ks.length ≠ rest.length) : kindsOf k rest = none := by
  unfold kindsOf
  rw [if_neg (forms_tell hk), hk]
  show (if ks.length = rest.length then some ks else none) = _
  rw [if_neg h]
theorem kinds_no {k : Str} {rest : List Str} (ht : ¬ (k = "tell" ∧ 2 ≤ rest.length)) (hk : forms k = none) : kindsOf k rest = none := by
  unfold kindsOf
  by_cases e : k = "tell"
  · rw [if_pos e, if_neg fun z => ht ⟨e, z⟩]
  · rw [if_neg e, hk]
    rfl
theorem mk_tell {ns : List Int} {n : Int} {ps : List Int} (e : ns = n :: ps) : mkRow "tell" ns = .tell n ps := by
  unfold mkRow
  rw [if_pos rfl, e]
  rfl
theorem mk_op {k : Str} {ns : List Int} (h : k ≠ "tell") : mkRow k ns = .op k ns := by
  unfold mkRow
  rw [if_neg h]
section
variable {P : Program} {w : World} {K : PySem.W.Frag} {mg : Str → Option Value} {base : Heap} {a : Ad}
def spRow : Sp := fun vs H Q _ => ∃ (l : Str), vs = [.str l] ∧ l.length ≤ 99000 ∧ ∀ H' v, Same H H' → rowOpt H' v (rowOfLine l) → Q v H'
theorem i_spRow {l : Str} {H : Hp} {Q : VK} {E : XK} (h1 : l.length ≤ 99000) (h : ∀ H' v, Same H H' → rowOpt H' v (rowOfLine l) → Q v H') : spRow [.str l] H Q E := ⟨l, rfl, h1, h⟩
theorem ok_row_told (T : Txt K mg w a) : Ok P w K mg base 3 a.f_row_told ["line"] spRow := by
  obtain ⟨fd, F, b⟩ := T.F_row_told
  obtain ⟨fd1, G_numbers_told, b_numbers_told⟩ := ok_numbers_told (P := P) (base := base) T
  refine ⟨fd, F.ok sc_row_told (fun vs H Q E h => ?_) (fun cdv A outer s H vs Q E hr h => ?_), b⟩
  · obtain ⟨l, rfl, _⟩ := h
    rfl
  · obtain ⟨l, rfl, hl, ret⟩ := h
    obtain ⟨sp1, sp2, sp3⟩ := split_sp l
    have none_ : ∀ H', Same H H' → rowOf (Txt.split l " ") = none → Q .non H' := fun H' s e => ret H' .non s (by unfold rowOfLine; rw [e]; rfl)
    have some_ : ∀ H' v r, Same H H' → rowOf (Txt.split l " ") = some r → Dat noL H' v r.data → Q v H' := fun H' v r s e d => ret H' v s (by unfold rowOfLine; rw [e]; exact d)
    clear ret
    cases ew : Txt.split l " " with
    | nil => exact absurd ew sp3
    | cons k rest =>
    rw [ew] at none_ some_ sp1 sp2
    have hr1 : rest.length ≤ 99000 := by simp only [List.length_cons] at sp2; omega
    have hr2 : ∀ z ∈ rest, z.length ≤ 1000000 := fun z hz => Nat.le_trans (sp1 z (List.mem_cons_of_mem _ hz)) (by omega)
    refine ⟨_, (pss_cons (ps_set (i := 1) sc_row_told.nd rfl (Or.inl rfl) (e_split (pv 0) pe_str))
      (pss_cons (ps_par (i := 2) (j := 3) (by rfl) sc_row_told.nd rfl rfl (by decide) rfl rfl (pa_cons (pe_ix ix_list (pv 1) pe_int (fun _ _ => rfl)) (pa_cons (pe_slice sl_list (pv 1) (po_some pe_int) po_none) pa_nil)) (by rfl))
      (Evl.pss_cut (ps_if (PW.pt (pw_and (pt_cmpR op_eq (pv 2) pe_str (nomark _)) (pw_and1 (pt_cmpR op_gt (pe_callB c_len (by rfl) T.z_len bt_len (pa_cons (pv 3) pa_nil)) pe_int (nomark _))))) (pss_cons (ps_set (i := 4) sc_row_told.nd rfl (Or.inl rfl) (pe_call G_numbers_told (hr.mono (by decide)) (by rfl) T.a_numbers_told T.k_numbers_told b_numbers_told .nil pass0 (pa_cons (pv 3) (pa_cons (pe_lc (own := [("_", 5)]) (g := gName 5) (tt := tYes) (by rfl) sc_row_told.nd (pi_list (pv 3)) (blkOk_by (own := [("_", 5)]) (N := ["line", "words", "word", "rest", "numbers", "_"]) (sc := defScope s_row_told) (by decide +kernel)) (fun _ _ _ _ _ => pg_name (i := 5) sc_row_told.nd rfl (Or.inl rfl)) (fun _ _ _ _ _ => pts_nil) (fun _ _ _ _ _ => pe_str)) pa_nil))))
      (pss_one (ps_ret (pe_ifExp (pt_cmpR o_isN (pv 4) pe_non (nomark _)) pe_non (pe_tup (pa_cons pe_str (pa_cons (pe_ix ix_tup (pv 4) pe_int (fun _ _ => rfl)) (pa_cons (pe_slice sl_tupA (pv 4) (po_some pe_int) po_none) pa_nil)))))))) pss_nil)
      (pss_cons (ps_if (PW.pt (pw_or (pt_cmpR (o_notInK T.kd) (pv 2) (pe_glob (v := .ref a.F_d) rfl T.g_FORMS rfl) (by with_unfolding_all rfl)) (pw_or1 (pt_cmpR op_ne (pe_callB c_len (by rfl) T.z_len bt_len (pa_cons (pe_ix ix_kdict (pe_glob (v := .ref a.F_d) rfl T.g_FORMS rfl) (pv 2) (fun _ _ => rfl)) pa_nil)) (pe_callB c_len (by rfl) T.z_len bt_len (pa_cons (pv 3) pa_nil)) (nomark _))))) (pss_one (ps_ret pe_non)) pss_nil)
      (pss_cons (ps_set (i := 4) sc_row_told.nd rfl (Or.inl rfl) (pe_call G_numbers_told (hr.mono (by decide)) (by rfl) T.a_numbers_told T.k_numbers_told b_numbers_told .nil pass0 (pa_cons (pv 3) (pa_cons (pe_ix ix_kdict (pe_glob (v := .ref a.F_d) rfl T.g_FORMS rfl) (pv 2) (fun _ _ => rfl)) pa_nil))))
      (pss_one (ps_ret (pe_ifExp (pt_cmpR o_isN (pv 4) pe_non (nomark _)) pe_non (pe_op op_catA (pe_tup (pa_cons (pv 2) pa_nil)) (pv 4)))))))))), ?_⟩
    walk_at "gg"
    refine w_split (by decide +kernel) (sz_of (by omega)) (fun p H1 np s1 ep => ?_)
    rw [ew] at ep
    walk_at "gg"
    refine w_ixL ep at_hd ?_
    walk_at "gg"
    refine w_slL ep (fun q H2 nq s2 eq => ?_)
    rw [show cutV ((k :: rest).map V.str) (some 1) none = rest.map V.str from cutV_from _ 1] at eq
    have s12 := s1.trans s2
    have hrl : (rest.map V.str).length = rest.length := List.length_map _
    walk_at "gg"
    refine w_cut (fun σ' H' => σ' = [some (.str l), some (.ref p), some (.str k), some (.ref q), none, none] ∧ H' = H2 ∧ ¬ (k = "tell" ∧ 2 ≤ rest.length)) ?_ ?_
    · walk_at "gg"
      refine w_dec (fun c1 => ?_) (fun c1 => ?_)
      · walk_at "gg"
        refine w_lenL eq ?_
        rw [hrl]
        walk_at "gg"
        refine w_dec (fun c2 => ?_) (fun c2 => ?_)
        · have h2 : 2 ≤ rest.length := by omega
          subst c1
          walk_at "gg"
          refine w_compL (SqL.of eq) (fun x => rfl) (by rw [hrl]; omega) (fun j acc H' => Same H2 H' ∧ acc = (rest.take j).map fun _ => V.str "row") (fun H' s => ⟨s, rfl⟩)
            (fun d j acc H' o hd r => ⟨fun b x e => by rw [upd_ne (ne_of_none e hd)]; exact r.1 b x e, r.2⟩) (fun j acc H' r => SqL.of (r.1 _ _ eq)) (fun d j x acc H' hi r e la PP NN hP hN => ?_) (fun d acc H' r hd e => ?_)
          · obtain ⟨s3, rfl⟩ := r
            obtain ⟨z, hz, rfl⟩ := map_at hi
            walk_at "gg"
            refine hP _ _ e ⟨s3, ?_⟩
            rw [take_next hz, List.map_append]
            rfl
          · obtain ⟨s3, rfl⟩ := r
            rw [hrl, List.take_length, show (rest.map fun _ => V.str "row") = (rest.map fun _ => ("row" : Str)).map V.str by rw [List.map_map]; rfl] at e
            walk_at "gg"
            have hlen : (rest.map fun _ => ("row" : Str)).length = rest.length := List.length_map _
            refine i_spTolds (s3 _ _ eq) (.inl (SqL.of e)) hlen.symm (by omega) hr2 (fun H4 v s4 ho => ?_)
            have s14 := (s12.trans s3).trans s4
            have er : rowOf ("tell" :: rest) = (numbersOf rest (rest.map fun _ => ("row" : Str))).map (mkRow "tell") := by rw [rowOf_cons, kinds_tell h2]; rfl
            cases en : numbersOf rest (rest.map fun _ => ("row" : Str)) with
            | none =>
              rw [en] at ho er
              obtain rfl : v = .non := ho
              walk_at "gg"
              exact none_ H4 s14 er
            | some ns =>
              rw [en] at ho er
              obtain ⟨c, rfl, ec⟩ := ho
              have hnl : ns.length = rest.length := by
                rw [allSome_len en, List.length_zipWith, hlen, Nat.min_self]
              obtain ⟨n, ps, rfl⟩ : ∃ n ps, ns = n :: ps := by
                cases ns with
                | nil => rw [← hnl] at h2; exact absurd h2 (by decide)
                | cons n ps => exact ⟨n, ps, rfl⟩
              walk_at "gg"
              refine w_ixT ec at_hd ?_
              walk_at "gg"
              refine w_slT ec (fun q2 H5 s5 eq2 => ?_)
              rw [show cutV ((n :: ps).map V.int) (some 1) none = ps.map V.int from cutV_from _ 1] at eq2
              walk_at "gg"
              refine w_newT (by show 3 ≤ 1000000; decide) (fun t H6 nt s6 et => ?_)
              exact some_ H6 _ _ (s14.trans (s5.trans s6)) (er.trans (congrArg some (mk_tell rfl))) (dat_tell et (s6 _ _ eq2))
        · walk_at "gg"
          exact ⟨rfl, rfl, fun z => c2 (by omega)⟩
      · walk_at "gg"
        exact ⟨rfl, rfl, fun z => c1 z.1⟩
    rintro σ' H' ⟨rfl, rfl, ht⟩
    walk_at "gg"
    rcases form_both T k with ⟨f1, f2⟩ | ⟨f, ks, f1, f2, f3⟩
    · refine w_notInF (T.kq k) ?_
      rw [f1]
      show ∃ c, V.bl true = .bl c ∧ _
      walk_at "gg"
      exact none_ _ s12 (by rw [rowOf_cons, kinds_no ht f2]; rfl)
    · refine w_notInF (T.kq k) ?_
      have kq : PySem.W.nsIn K a.F_d k = some (some (.ref f)) := by rw [T.kq, f1]; rfl
      rw [f1]
      show ∃ c, V.bl false = .bl c ∧ _
      walk_at "gg"
      refine w_ixF T.kd kq ?_
      walk_at "gg"
      refine w_lenQT (.inr (f3 _)) ?_
      walk_at "gg"
      refine w_lenL eq ?_
      rw [hrl, List.length_map]
      walk_at "gg"
      refine w_ndec (fun c1 => ?_) (fun c1 => ?_)
      · walk_at "gg"
        exact none_ _ s12 (by rw [rowOf_cons, kinds_len f2 fun z => c1 (by rw [z])]; rfl)
      · have hks : ks.length = rest.length := by omega
        walk_at "gg"
        refine w_ixF T.kd kq ?_
        walk_at "gg"
        refine i_spTolds eq (.inr (f3 _)) hks.symm (by omega) hr2 (fun H4 v s4 ho => ?_)
        have er : rowOf (k :: rest) = (numbersOf rest ks).map (mkRow k) := by rw [rowOf_cons, kinds_form f2 hks]; rfl
        cases en : numbersOf rest ks with
        | none =>
          rw [en] at ho er
          obtain rfl : v = .non := ho
          walk_at "gg"
          exact none_ H4 (s12.trans s4) er
        | some ns =>
          rw [en] at ho er
          obtain ⟨c, rfl, ec⟩ := ho
          have hnl : ns.length = rest.length := by
            rw [allSome_len en, List.length_zipWith, hks, Nat.min_self]
          walk_at "gg"
          refine w_newT (by show 1 ≤ 1000000; decide) (fun t H6 nt s6 et => ?_)
          walk_at "gg"
          refine w_catT et (s6 _ _ ec) (by rw [List.length_map]; show 1 + ns.length ≤ 1000000; omega) (fun c2 H7 s7 ec2 => ?_)
          exact some_ H7 _ _ (s12.trans (s4.trans (s6.trans s7))) (er.trans (congrArg some (mk_op (forms_tell f2)))) (dat_op ec2)
end
end K17
namespace K17
open PySem L2
/-! The rows of lines: _law_line, _law_read. -/
local macro_rules | `(tactic| walk_at "gg") => `(tactic| repeat (first | with_reducible refine w_nt ?_ | with_reducible refine w_nf ?_ | with_reducible refine w_raise ?_ | with_reducible refine w_orS (by with_unfolding_all rfl) ?_ | with_reducible refine iteT ?_ | with_reducible refine iteF ?_ | with_reducible refine w_isNN ?_ | with_reducible refine w_isNI ?_ | with_reducible refine w_isNR ?_ | with_reducible refine w_notNN ?_ | with_reducible refine w_notNI ?_ | with_reducible refine w_notNR ?_ | with_reducible refine w_var (by with_unfolding_all rfl) ?_ | with_reducible refine w_c ?_ | with_reducible refine w_seq ?_ | with_reducible refine w_set ?_ | with_reducible refine w_ret ?_ | with_reducible refine w_if ?_ | with_reducible refine w_op ?_ | with_reducible refine w_ii ?_ | with_reducible refine w_test ?_ | with_reducible refine w_bl ?_ | with_reducible refine w_cb ?_ | with_reducible refine w_call ?_ | with_reducible refine w_nil ?_ | with_reducible refine w_cons ?_ | with_reducible refine w_eqI ?_ | with_reducible refine w_eqS ?_ | with_reducible refine w_neI ?_ | with_reducible refine w_neS ?_ | with_reducible refine w_andV ?_ | with_reducible refine w_orV ?_ | with_reducible refine w_notV ?_ | with_reducible refine w_and ?_ | with_reducible refine w_or ?_ | with_reducible refine w_not ?_ | with_reducible refine w_ifE ?_ | with_reducible refine w_chain ?_ | with_reducible refine w_B ?_ | with_reducible refine w_drop ?_ | with_reducible refine w_next ?_ | with_reducible refine w_un ?_ | with_reducible refine w_iu ?_ | with_reducible refine w_isN ?_ | with_reducible refine w_notN ?_ | with_reducible refine w_int1 ?_ | with_reducible refine w_abs ?_ | with_reducible refine w_min ?_ | with_reducible refine w_max ?_ | with_reducible refine w_tup ?_ | with_reducible refine w_lst ?_ | with_reducible refine w_sl ?_ | with_reducible refine w_noPart ?_ | with_reducible refine w_part ?_ | with_reducible refine w_pi ?_ | with_reducible refine w_bm ?_ | with_reducible refine w_tyS ?_ | with_reducible refine w_m1 ?_ | with_reducible refine w_str ?_ | with_reducible refine w_forL ?_ | with_reducible refine w_forT ?_ | with_reducible refine w_forR1 ?_ | with_reducible refine w_forS ?_ | with_reducible refine w_lcL ?_ | with_reducible refine w_lcT ?_ | with_reducible refine w_lcR1 ?_ | with_reducible refine w_lcR2 ?_ | with_reducible refine w_yes ?_ | with_reducible refine w_asgSub ?_ | with_reducible refine w_callS ?_ | with_reducible refine w_forQ ?_ | with_reducible refine w_forM ?_ | with_reducible refine w_forZ ?_ | with_reducible refine w_forE ?_ | with_reducible refine w_par ?_ | with_reducible refine w_two ?_ | with_reducible refine w_dget2 ?_))
theorem dk_get {H : Hp} {p : Addr} {kvs : List (Key × V)} (h : H p = some (.dK kvs)) (k : Str) : DGet H p (.str k) (valV kvs (.inr k)) := .inl ⟨kvs, .inr k, Rd.of h, rfl, rfl⟩
def manyKV : List (Key × V) := [(.inr "put", .int 2), (.inr "number", .int 2), (.inr "add", .int 3), (.inr "less", .int 3), (.inr "times", .int 3), (.inr "scale", .int 3)]
theorem many_merge : mergeK [] manyKV = manyKV := by decide +kernel
theorem val_cons {k0 k : Str} {v : V} {r : List (Key × V)} : valV ((.inr k0, v) :: r) (.inr k) = if k0 = k then some v else valV r (.inr k) := by
  unfold valV
  rw [List.find?_cons]
  by_cases e : k0 = k
  · subst e
    rw [if_pos rfl]
    simp
  · rw [if_neg e]
    simp [e]
/-- 1 more than what FORMS names, 0 elsewhere -/
theorem many_get (k : Str) : (valV (mergeK [] manyKV) (.inr k)).getD (.int 0) = .int (match forms k with
    | some ks => (ks.length : Int) + 1
    | none => 0) := by
  rw [many_merge]
  unfold manyKV forms
  rw [val_cons, val_cons, val_cons, val_cons, val_cons, val_cons]
  have sy : ∀ {x y : Str}, (x = y) = (y = x) := fun {x y} => propext ⟨Eq.symm, Eq.symm⟩
  by_cases h1 : k = "put"
  · rw [if_pos h1, if_pos h1.symm]; rfl
  rw [if_neg h1, if_neg (fun z => h1 z.symm)]
  by_cases h2 : k = "number"
  · rw [if_pos h2, if_pos h2.symm]; rfl
  rw [if_neg h2, if_neg (fun z => h2 z.symm)]
  by_cases h3 : k = "add"
  · rw [if_pos h3, if_pos h3.symm]; rfl
  rw [if_neg h3, if_neg (fun z => h3 z.symm)]
  by_cases h4 : k = "less"
  · rw [if_pos h4, if_pos h4.symm]; rfl
  rw [if_neg h4, if_neg (fun z => h4 z.symm)]
  by_cases h5 : k = "times"
  · rw [if_pos h5, if_pos h5.symm]; rfl
  rw [if_neg h5, if_neg (fun z => h5 z.symm)]
  by_cases h6 : k = "scale"
  · rw [if_pos h6, if_pos h6.symm]; rfl
  rw [if_neg h6, if_neg (fun z => h6 z.symm)]
  rfl
def sgOf (k : Str) : Bool := decide (k = "number") || decide (k = "scale")
theorem nm_row (w : Str) : nm w "row" = numOf false w := rfl
theorem nm_any (w : Str) : nm w "any" = numOf true w := by
  unfold nm
  rw [decide_eq_true (S_ne (by decide +kernel))]
theorem zip_rows : ∀ r : List Str, List.zipWith nm r (r.map fun _ => ("row" : Str)) = r.map (numOf false)
  | [] => rfl
  | w :: r => by
    show nm w "row" :: List.zipWith nm r (r.map fun _ => ("row" : Str)) = numOf false w :: r.map (numOf false)
    rw [zip_rows r]
    rfl
/-- what a line's words must be: the first by its sign, the others not negative -/
theorem kinds_os {k : Str} {rest ks : List Str} (h : kindsOf k rest = some ks) : ∃ w r, rest = w :: r ∧ List.zipWith nm rest ks = numOf (sgOf k) w :: r.map (numOf false) := by
  by_cases ht : k = "tell"
  · subst ht
    by_cases hl : 2 ≤ rest.length
    · rw [kinds_tell hl] at h
      cases h
      cases rest with
      | nil => exact absurd hl (by decide)
      | cons w r => exact ⟨w, r, rfl, zip_rows (w :: r)⟩
    · rw [kinds_tell_no hl] at h
      cases h
  · cases hf : forms k with
    | none =>
      rw [kinds_no (fun z => ht z.1) hf] at h
      cases h
    | some ks' =>
      by_cases hl : ks'.length = rest.length
      · rw [kinds_form hf hl] at h
        cases h
        have one : ∀ {x : Str}, [x].length = rest.length → ∃ w, rest = [w] := fun h => by
          match rest, h with
          | [w], _ => exact ⟨w, rfl⟩
        have two : ∀ {x y : Str}, [x, y].length = rest.length → ∃ w v, rest = [w, v] := fun h => by
          match rest, h with
          | [w, v], _ => exact ⟨w, v, rfl⟩
        rcases forms_cases hf with ⟨rfl, rfl⟩ | ⟨rfl, rfl⟩ | ⟨rfl, rfl⟩ | ⟨rfl, rfl⟩ | ⟨rfl, rfl⟩ | ⟨rfl, rfl⟩
        · obtain ⟨w, rfl⟩ := one hl
          exact ⟨w, [], rfl, rfl⟩
        · obtain ⟨w, rfl⟩ := one hl
          exact ⟨w, [], rfl, congrArg (· :: []) (nm_any w)⟩
        · obtain ⟨w, v, rfl⟩ := two hl
          exact ⟨w, [v], rfl, rfl⟩
        · obtain ⟨w, v, rfl⟩ := two hl
          exact ⟨w, [v], rfl, rfl⟩
        · obtain ⟨w, v, rfl⟩ := two hl
          exact ⟨w, [v], rfl, rfl⟩
        · obtain ⟨w, v, rfl⟩ := two hl
          exact ⟨w, [v], rfl, congrArg (· :: [nm v "row"]) (nm_any w)⟩
      · rw [kinds_len hf hl] at h
        cases h
section
variable {P : Program} {w : World} {K : PySem.W.Frag} {mg : Str → Option Value} {base : Heap} {a : Ad}
theorem ok__law_line (T : Txt K mg w a) : Ok P w K mg base 2 a.f__law_line ["_law_line_here"] spRow := by
  obtain ⟨fd, F, b⟩ := T.F__law_line
  obtain ⟨fd1, G__law_digits, b__law_digits⟩ := ok__law_digits (P := P) (base := base) T
  refine ⟨fd, F.ok sc__law_line (fun vs H Q E h => ?_) (fun cdv A outer s H vs Q E hr h => ?_), b⟩
  · obtain ⟨l, rfl, _⟩ := h
    rfl
  · obtain ⟨l, rfl, hl, ret⟩ := h
    obtain ⟨sp1, sp2, sp3⟩ := split_sp l
    have none_ : ∀ H', Same H H' → rowOf (Txt.split l " ") = none → Q .non H' := fun H' s e => ret H' .non s (by unfold rowOfLine; rw [e]; rfl)
    have some_ : ∀ H' v r, Same H H' → rowOf (Txt.split l " ") = some r → Dat noL H' v r.data → Q v H' := fun H' v r s e d => ret H' v s (by unfold rowOfLine; rw [e]; exact d)
    clear ret
    cases ew : Txt.split l " " with
    | nil => exact absurd ew sp3
    | cons k rest =>
    rw [ew] at none_ some_ sp1 sp2
    have hr1 : rest.length ≤ 99000 := by simp only [List.length_cons] at sp2; omega
    have hr2 : ∀ z ∈ rest, z.length ≤ 1000000 := fun z hz => Nat.le_trans (sp1 z (List.mem_cons_of_mem _ hz)) (by omega)
    refine ⟨_, (pss_cons (ps_set (i := 1) sc__law_line.nd rfl (Or.inl rfl) (e_split (pv 0) pe_str))
      (pss_cons (ps_set (i := 2) sc__law_line.nd rfl (Or.inl rfl) (pe_disp (pps_cons pe_str pe_int (pps_cons pe_str pe_int (pps_cons pe_str pe_int (pps_cons pe_str pe_int (pps_cons pe_str pe_int (pps_cons pe_str pe_int pps_nil)))))) (by rfl) (by rfl) (fun z => by cases z) (by decide)))
      (pss_cons (ps_set (i := 3) sc__law_line.nd rfl (Or.inl rfl) (pe_ix ix_list (pv 1) pe_int (fun _ _ => rfl)))
      (Evl.pss_cut (ps_if (pt_cmpR op_eq (pv 3) pe_str (nomark _)) (pss_one (ps_if (pt_cmpR op_lt (pe_callB c_len (by rfl) T.z_len bt_len (pa_cons (pv 1) pa_nil)) pe_int (nomark _)) (pss_one (ps_ret pe_non)) pss_nil)) (pss_one (ps_if (pt_cmpR op_ne (pe_dget2 (hu_of hr) (pv 2) (pv 3) pe_int (by exact ⟨rfl, rfl, rfl, rfl⟩)) (pe_callB c_len (by rfl) T.z_len bt_len (pa_cons (pv 1) pa_nil)) (nomark _)) (pss_one (ps_ret pe_non)) pss_nil)))
      (pss_cons (ps_set (i := 4) sc__law_line.nd rfl (Or.inl rfl) (pe_lst (pa_cons (pe_call G__law_digits (hr.mono (by decide)) (by rfl) T.a__law_digits T.k__law_digits b__law_digits .nil pass0 (pa_cons (pe_ix ix_list (pv 1) pe_int (fun _ _ => rfl)) (pa_cons (pe_or (pe_cmpR op_eq (pv 3) pe_str (nomark _)) (pe_one (pe_cmpR op_eq (pv 3) pe_str (nomark _)))) pa_nil))) pa_nil)))
      (pss_cons (ps_for PassesOwn.never rfl (pi_list (pe_slice sl_list (pv 1) (po_some pe_int) po_none)) (pg_name (i := 5) sc__law_line.nd rfl (Or.inl rfl)) (pss_one (ps_expr (pe_bm PySem.F.plainAttrs_list PySem.F.slot_list_append PySem.F.type_list_append mt_append (pv 4) (pa_cons (pe_call G__law_digits (hr.mono (by decide)) (by rfl) T.a__law_digits T.k__law_digits b__law_digits .nil pass0 (pa_cons (pv 5) (pa_cons pe_bl pa_nil))) pa_nil)))))
      (pss_cons (ps_if (pt_cmpR op_gt (pe_callB c_len (by rfl) T.z_len bt_len (pa_cons (pe_lc (own := [("_law_number_here", 6)]) (g := gName 6) (by rfl) sc__law_line.nd (pi_list (pv 4)) (blkOk_by (own := [("_law_number_here", 6)]) (N := ["_law_line_here", "_law_words", "_law_many", "_law_kind", "_law_numbers", "_law_word", "_law_number_here"]) (sc := defScope s__law_line) (by decide +kernel)) (fun _ _ _ _ _ => pg_name (i := 6) sc__law_line.nd rfl (Or.inl rfl)) (fun _ _ _ _ _ => (pts_one (pt_cmpR o_isN (pv 6) pe_non (nomark _)))) (fun _ _ _ _ _ => (pv 6))) pa_nil)) pe_int (nomark _)) (pss_one (ps_ret pe_non)) pss_nil)
      (pss_cons (ps_if (pt_cmpR op_eq (pv 3) pe_str (nomark _)) (pss_one (ps_ret (pe_tup (pa_cons (pv 3) (pa_cons (pe_ix ix_list (pv 4) pe_int (fun _ _ => rfl)) (pa_cons (pe_callTy c_tupOf (by rfl) T.z_tuple bt_tuple (pa_cons (pe_slice sl_list (pv 4) (po_some pe_int) po_none) pa_nil)) pa_nil)))))) pss_nil)
      (pss_one (ps_ret (pe_op op_catA (pe_tup (pa_cons (pv 3) pa_nil)) (pe_callTy c_tupOf (by rfl) T.z_tuple bt_tuple (pa_cons (pv 4) pa_nil))))))))))))), ?_⟩
    walk_at "gg"
    refine w_split (by decide +kernel) (sz_of (by omega)) (fun p H1 np s1 ep => ?_)
    rw [ew] at ep
    walk_at "gg"
    refine w_disp manyKV rfl (by decide) (fun m H2 nm s2 em => ?_)
    have ep2 := s2 _ _ ep
    have s12 := s1.trans s2
    walk_at "gg"
    refine w_ixL ep2 at_hd ?_
    refine w_cut (fun σ' H' => σ' = [some (.str l), some (.ref p), some (.ref m), some (.str k), none, none, none] ∧ H' = H2 ∧ ∃ ks, kindsOf k rest = some ks) ?_ ?_
    · walk_at "gg"
      refine w_dec (fun c1 => ?_) (fun c1 => ?_)
      · subst c1
        walk_at "gg"
        refine w_lenL ep2 ?_
        walk_at "gg"
        refine w_dec (fun c2 => ?_) (fun c2 => ?_)
        · have h2 : ¬ 2 ≤ rest.length := by simp only [List.length_map, List.length_cons] at c2; omega
          walk_at "gg"
          exact none_ _ s12 (by rw [rowOf_cons, kinds_tell_no h2]; rfl)
        · have h2 : 2 ≤ rest.length := by simp only [List.length_map, List.length_cons] at c2; omega
          walk_at "gg"
          exact ⟨rfl, rfl, _, kinds_tell h2⟩
      · walk_at "gg"
        refine ⟨m, rfl, .inl ⟨_, Rd.of em⟩, ?_⟩
        walk_at "gg"
        refine ⟨_, dk_get em k, ?_⟩
        rw [many_get]
        walk_at "gg"
        refine w_lenL ep2 ?_
        walk_at "gg"
        have lw : (((k :: rest).map V.str).length : Int) = (rest.length : Int) + 1 := by simp only [List.length_map, List.length_cons]; omega
        rw [lw]
        refine w_ndec (fun c2 => ?_) (fun c2 => ?_)
        · walk_at "gg"
          refine none_ _ s12 ?_
          rw [rowOf_cons]
          cases hf : forms k with
          | none =>
            rw [kinds_no (fun z => c1 z.1) hf]
            rfl
          | some ks =>
            rw [hf] at c2
            rw [kinds_len hf (fun z => c2 (by show (ks.length : Int) + 1 = _; rw [z]))]
            rfl
        · walk_at "gg"
          refine ⟨rfl, rfl, ?_⟩
          cases hf : forms k with
          | none =>
            rw [hf] at c2
            have c3 : (0 : Int) = (rest.length : Int) + 1 := c2
            omega
          | some ks =>
            rw [hf] at c2
            have c3 : (ks.length : Int) + 1 = (rest.length : Int) + 1 := c2
            exact ⟨ks, kinds_form hf (by omega)⟩
    rintro σ' Hc ⟨rfl, rfl, ks, hks⟩
    obtain ⟨z, r, rfl, hos⟩ := kinds_os hks
    have er : rowOf (k :: z :: r) = (allSome (numOf (sgOf k) z :: r.map (numOf false))).map (mkRow k) := by
      rw [rowOf_cons, hks, ← hos]
      rfl
    walk_at "gg"
    refine w_ixL ep2 at_snd ?_
    walk_at "gg"
    refine i_spDigits (hr2 z List.mem_cons_self) ?_
    walk_at "gg"
    refine w_newL (by show 1 ≤ 1000000; decide) (fun n H3 nn s3 en => ?_)
    have ep3 := s3 _ _ ep2
    walk_at "gg"
    refine w_slL ep3 (fun q H4 nq s4 eq => ?_)
    rw [show cutV ((k :: z :: r).map V.str) (some 2) none = r.map V.str from cutV_from _ 2] at eq
    have s24 := s3.trans s4
    have hrl : (r.map V.str).length = r.length := List.length_map _
    have hr3 : r.length ≤ 99000 := by simp only [List.length_cons] at hr1; omega
    refine w_loopL (SqL.of eq) (fun j σ' H' => ∃ y, σ' = [some (.str l), some (.ref p), some (.ref m), some (.str k), some (.ref n), y, none] ∧ Same Hc H' ∧ Ch n H4 H' ∧ H' n = some (.lst ((numOf (sgOf k) z :: (r.take j).map (numOf false)).map optV)))
      ⟨none, rfl, s24, Ch.refl _ _, s4 _ _ en⟩ (fun j σ' H' ⟨y, _, _, c5, _⟩ => SqL.of (c5 _ _ (ne_of_none en nq).symm eq)) (fun j x σ' H' hi ⟨y, e1, s5, c5, e5⟩ => ?_) (fun σ' H' ⟨y, e1, s5, c5, e5⟩ => ?_)
    · subst e1
      obtain ⟨u, hu, rfl⟩ := map_at hi
      walk_at "gg"
      refine w_tyL e5 ?_
      walk_at "gg"
      refine i_spDigits (hr2 u (List.mem_cons_of_mem _ (List.mem_of_getElem? hu))) ?_
      walk_at "gg"
      refine v_app e5 (by rw [List.length_map, List.length_cons, List.length_map, List.length_take]; omega) (fun H6 c6 e6 => ?_)
      walk_at "gg"
      refine ⟨_, rfl, same_new2 s5 nn c6, c5.trans c6, ?_⟩
      rw [e6, take_next hu]
      simp
    · subst e1
      rw [hrl, List.take_length] at e5
      generalize hO : numOf (sgOf k) z :: r.map (numOf false) = os at e5 er
      have hol : os.length ≤ 99001 := by rw [← hO, List.length_cons, List.length_map]; omega
      walk_at "gg"
      refine w_compL (SqL.of e5) (fun x => rfl) (by rw [List.length_map]; omega) (fun j acc H6 => Same H' H6 ∧ (acc.length = 0 ↔ none ∉ os.take j)) (fun H6 s6 => ⟨s6, by simp⟩)
        (fun d j acc H6 o hd r => ⟨fun b x e => by rw [upd_ne (ne_of_none e hd)]; exact r.1 b x e, r.2⟩) (fun j acc H6 r => SqL.of (r.1 _ _ e5)) (fun d j x acc H6 hi r e la PP NN hP hN => ?_) (fun d acc H6 r hd e => ?_)
      · obtain ⟨s6, r6⟩ := r
        obtain ⟨o, ho, rfl⟩ := map_at hi
        cases o with
        | none =>
          rw [optV_none]
          walk_at "gg"
          refine hP _ _ e ⟨s6, ?_⟩
          rw [take_next ho]
          simp
        | some v =>
          rw [optV_some]
          walk_at "gg"
          refine hN _ e ⟨s6, ?_⟩
          rw [take_next ho]
          simpa using r6
      · obtain ⟨s6, r6⟩ := r
        rw [List.length_map, List.take_length] at r6
        walk_at "gg"
        refine w_lenL e ?_
        walk_at "gg"
        have s26 := (s12.trans s5).trans s6
        refine w_dec (fun c1 => ?_) (fun c1 => ?_)
        · walk_at "gg"
          have hin : none ∈ os := Classical.byContradiction fun z => by
            have := r6.mpr z
            omega
          exact none_ _ s26 (by rw [er, allSome_append_none hin]; rfl)
        · have hno : none ∉ os := r6.mp (by omega)
          obtain ⟨ns, hns, hos2⟩ := allSome_some hno
          have ens : os.map optV = ns.map V.int := by rw [hos2, List.map_map]; rfl
          rw [ens] at e5
          rw [hns] at er
          have e6 := s6 _ _ e5
          walk_at "gg"
          refine w_dec (fun c2 => ?_) (fun c2 => ?_)
          · subst c2
            obtain ⟨n1, ps, rfl⟩ : ∃ n ps, ns = n :: ps := by
              cases ns with
              | nil => rw [hos2] at hO; cases hO
              | cons n ps => exact ⟨n, ps, rfl⟩
            walk_at "gg"
            refine w_ixL e6 at_hd ?_
            walk_at "gg"
            refine w_slL e6 (fun q2 H7 nq7 s7 eq7 => ?_)
            rw [show cutV ((n1 :: ps).map V.int) (some 1) none = ps.map V.int from cutV_from _ 1] at eq7
            walk_at "gg"
            refine w_tupL eq7 (fun q3 H8 nq8 s8 eq8 => ?_)
            walk_at "gg"
            refine w_newT (by show 3 ≤ 1000000; decide) (fun t H9 nt s9 et => ?_)
            exact some_ H9 _ _ (s26.trans (s7.trans (s8.trans s9))) (er.trans (congrArg some (mk_tell rfl))) (dat_tell et (s9 _ _ eq8))
          · walk_at "gg"
            refine w_newT (by show 1 ≤ 1000000; decide) (fun t H7 nt s7 et => ?_)
            walk_at "gg"
            refine w_tupL (s7 _ _ e6) (fun q3 H8 nq8 s8 eq8 => ?_)
            walk_at "gg"
            have hnl : ns.length = os.length := by rw [hos2, List.length_map]
            refine w_catT (s8 _ _ et) eq8 (by rw [List.length_map]; show 1 + ns.length ≤ 1000000; omega) (fun c3 H9 s9 ec2 => ?_)
            exact some_ H9 _ _ (s26.trans (s7.trans (s8.trans s9))) (er.trans (congrArg some (mk_op c2))) (dat_op ec2)
end
end K17
namespace K17
open PySem L2
/-! The lines of a text: _law_read. -/
local macro_rules | `(tactic| walk_at "gg") => `(tactic| repeat (first | with_reducible refine w_nt ?_ | with_reducible refine w_nf ?_ | with_reducible refine w_raise ?_ | with_reducible refine w_orS (by with_unfolding_all rfl) ?_ | with_reducible refine iteT ?_ | with_reducible refine iteF ?_ | with_reducible refine w_isNN ?_ | with_reducible refine w_isNI ?_ | with_reducible refine w_isNR ?_ | with_reducible refine w_notNN ?_ | with_reducible refine w_notNI ?_ | with_reducible refine w_notNR ?_ | with_reducible refine w_var (by with_unfolding_all rfl) ?_ | with_reducible refine w_c ?_ | with_reducible refine w_seq ?_ | with_reducible refine w_set ?_ | with_reducible refine w_ret ?_ | with_reducible refine w_if ?_ | with_reducible refine w_op ?_ | with_reducible refine w_ii ?_ | with_reducible refine w_test ?_ | with_reducible refine w_bl ?_ | with_reducible refine w_cb ?_ | with_reducible refine w_call ?_ | with_reducible refine w_nil ?_ | with_reducible refine w_cons ?_ | with_reducible refine w_eqI ?_ | with_reducible refine w_eqS ?_ | with_reducible refine w_neI ?_ | with_reducible refine w_neS ?_ | with_reducible refine w_andV ?_ | with_reducible refine w_orV ?_ | with_reducible refine w_notV ?_ | with_reducible refine w_and ?_ | with_reducible refine w_or ?_ | with_reducible refine w_not ?_ | with_reducible refine w_ifE ?_ | with_reducible refine w_chain ?_ | with_reducible refine w_B ?_ | with_reducible refine w_drop ?_ | with_reducible refine w_next ?_ | with_reducible refine w_un ?_ | with_reducible refine w_iu ?_ | with_reducible refine w_isN ?_ | with_reducible refine w_notN ?_ | with_reducible refine w_int1 ?_ | with_reducible refine w_abs ?_ | with_reducible refine w_min ?_ | with_reducible refine w_max ?_ | with_reducible refine w_tup ?_ | with_reducible refine w_lst ?_ | with_reducible refine w_sl ?_ | with_reducible refine w_noPart ?_ | with_reducible refine w_part ?_ | with_reducible refine w_pi ?_ | with_reducible refine w_bm ?_ | with_reducible refine w_tyS ?_ | with_reducible refine w_m1 ?_ | with_reducible refine w_str ?_ | with_reducible refine w_forL ?_ | with_reducible refine w_forT ?_ | with_reducible refine w_forR1 ?_ | with_reducible refine w_forS ?_ | with_reducible refine w_lcL ?_ | with_reducible refine w_lcT ?_ | with_reducible refine w_lcR1 ?_ | with_reducible refine w_lcR2 ?_ | with_reducible refine w_yes ?_ | with_reducible refine w_asgSub ?_ | with_reducible refine w_callS ?_ | with_reducible refine w_forQ ?_ | with_reducible refine w_forM ?_ | with_reducible refine w_forZ ?_ | with_reducible refine w_forE ?_ | with_reducible refine w_par ?_ | with_reducible refine w_two ?_ | with_reducible refine w_dget2 ?_))
/-- a tuple of rows -/
def rowsAt (H : Hp) (v : V) (rs : List RD) : Prop := ∃ c xs, v = .ref c ∧ H c = some (.tup xs) ∧ DatL noL H xs (rs.map RD.data)
theorem drop_len {α : Type} {l : List α} : l.drop l.length = [] := List.drop_length
theorem datL_one {ok : Addr → Prop} {H : Hp} {vs : List V} {v : V} {rs : List RD} {r : RD} (h : DatL ok H vs (rs.map RD.data)) (d : Dat ok H v r.data) : DatL ok H (vs ++ [v]) ((rs ++ [r]).map RD.data) := by
  rw [List.map_append]
  exact h.append (.cons d .nil)
theorem row_ref {ok : Addr → Prop} {H : Hp} {v : V} {r : RD} (h : Dat ok H v r.data) : ∃ p, v = .ref p := by
  cases r with
  | tell n ps =>
    obtain ⟨p, _, e, _⟩ := row_tell h
    exact ⟨p, e⟩
  | op k ns =>
    obtain ⟨p, e, _⟩ := row_op h
    exact ⟨p, e⟩
section
variable {P : Program} {w : World} {K : PySem.W.Frag} {mg : Str → Option Value} {base : Heap} {a : Ad}
def readV (H : Hp) (n : Int) (v : V) : Nat ⊕ List RD → Prop
  | .inl i => n = i ∧ v = .non
  | .inr rs => n = rs.length ∧ rowsAt H v rs
def spRead : Sp := fun vs H Q _ => ∃ (t : Str), vs = [.str t] ∧ t.length ≤ 98000 ∧ ∀ H' p n v, Same H H' → H' p = some (.lst [.int n, v]) → readV H' n v (readOf t) → Q (.ref p) H'
theorem i_spRead {t : Str} {H : Hp} {Q : VK} {E : XK} (h1 : t.length ≤ 98000) (h : ∀ H' p n v, Same H H' → H' p = some (.lst [.int n, v]) → readV H' n v (readOf t) → Q (.ref p) H') : spRead [.str t] H Q E := ⟨t, rfl, h1, h⟩
theorem ok__law_read (T : Txt K mg w a) : Ok P w K mg base 3 a.f__law_read ["_law_text"] spRead := by
  obtain ⟨fd, F, b⟩ := T.F__law_read
  obtain ⟨fd1, G__law_line, b__law_line⟩ := ok__law_line (P := P) (base := base) T
  refine ⟨fd, F.ok sc__law_read (fun vs H Q E h => ?_) (fun cdv A outer s H vs Q E hr h => ?_), b⟩
  · obtain ⟨l, rfl, _⟩ := h
    rfl
  · obtain ⟨t, rfl, ht, ret⟩ := h
    obtain ⟨sp1, sp2, sp3⟩ := split_nl t
    generalize hls : Txt.split t "\n" = ls at sp1 sp2 sp3
    have hro : readOf t = scan ls := by unfold readOf; rw [hls]
    rw [hro] at ret
    refine ⟨_, (pss_cons (ps_set (i := 1) sc__law_read.nd rfl (Or.inl rfl) (pe_lst pa_nil))
      (pss_cons (ps_for PassesOwn.never rfl (pi_list (e_split (pv 0) pe_str)) (pg_name (i := 2) sc__law_read.nd rfl (Or.inl rfl)) (pss_cons (ps_set (i := 3) sc__law_read.nd rfl (Or.inl rfl) (pe_call G__law_line (hr.mono (by decide)) (by rfl) T.a__law_line T.k__law_line b__law_line .nil pass0 (pa_cons (pv 2) pa_nil)))
      (pss_cons (ps_if (pt_cmpR o_isN (pv 3) pe_non (nomark _)) (pss_one (ps_ret (pe_lst (pa_cons (pe_callB c_len (by rfl) T.z_len bt_len (pa_cons (pv 1) pa_nil)) (pa_cons pe_non pa_nil))))) pss_nil)
      (pss_one (ps_expr (pe_bm PySem.F.plainAttrs_list PySem.F.slot_list_append PySem.F.type_list_append mt_append (pv 1) (pa_cons (pv 3) pa_nil)))))))
      (pss_one (ps_ret (pe_lst (pa_cons (pe_callB c_len (by rfl) T.z_len bt_len (pa_cons (pv 1) pa_nil)) (pa_cons (pe_callTy c_tupOf (by rfl) T.z_tuple bt_tuple (pa_cons (pv 1) pa_nil)) pa_nil))))))), ?_⟩
    walk_at "gg"
    refine w_newL (by show 0 ≤ 1000000; decide) (fun l H1 nl s1 el => ?_)
    walk_at "gg"
    refine w_split (by decide +kernel) (sz_of (by omega)) (fun p H2 np s2 ep => ?_)
    rw [hls] at ep
    have nlp : p ≠ l := (ne_of_none el np).symm
    refine w_loopL (SqL.of ep) (fun j σ' H' => ∃ y1 y2 vs rs, σ' = [some (.str t), some (.ref l), y1, y2] ∧ Same H H' ∧ Ch l H2 H' ∧ H' l = some (.lst vs) ∧ vs.length ≤ j ∧ j ≤ ls.length ∧ DatL noL H' vs (rs.map RD.data) ∧ scan ls = comb rs (scan (ls.drop j)))
      ⟨none, none, [], [], rfl, s1.trans s2, Ch.refl _ _, s2 _ _ el, Nat.le_refl _, Nat.zero_le _, .nil, by rw [comb_nil, List.drop_zero]⟩ (fun j σ' H' h => ?_) (fun j x σ' H' hi h => ?_) (fun σ' H' h => ?_)
    · obtain ⟨y1, y2, vs, rs, e1, s3, c3, _⟩ := h
      exact SqL.of (c3 _ _ nlp ep)
    · obtain ⟨y1, y2, vs, rs, e1, s3, c3, e3, l1, l2, d3, k3⟩ := h
      subst e1
      obtain ⟨z, hz, rfl⟩ := map_at hi
      have hj : j < ls.length := (List.getElem?_eq_some_iff.mp hz).1
      have hzl := sp1 z (List.mem_of_getElem? hz)
      walk_at "gg"
      refine i_spRow (by omega) (fun H4 v s4 ho => ?_)
      have hvl : vs.length = rs.length := by rw [d3.length, List.length_map]
      rw [drop_next hz] at k3
      cases er : rowOfLine z with
      | none =>
        rw [er] at ho
        obtain rfl : v = .non := ho
        rw [comb_bad rs er] at k3
        walk_at "gg"
        refine w_lenL (s4 _ _ e3) ?_
        walk_at "gg"
        refine w_newL (by show 2 ≤ 1000000; decide) (fun q H5 nq s5 eq => ?_)
        refine ret H5 q _ _ (s3.trans (s4.trans s5)) eq ?_
        rw [k3]
        exact ⟨by rw [hvl], rfl⟩
      | some r =>
        rw [er] at ho
        have ho : Dat noL H4 v r.data := ho
        rw [comb_step rs er] at k3
        have e4 := s4 _ _ e3
        have cont : ∀ H5, Ch l H4 H5 → H5 l = some (.lst (vs ++ [v])) → ∃ y1 y2 vs rs, [some (.str t), some (.ref l), some (.str z), some v] = [some (.str t), some (.ref l), y1, y2] ∧ Same H H5 ∧ Ch l H2 H5 ∧ H5 l = some (.lst vs) ∧ vs.length ≤ j + 1 ∧ j + 1 ≤ ls.length ∧ DatL noL H5 vs (rs.map RD.data) ∧ scan ls = comb rs (scan (ls.drop (j + 1))) := fun H5 c5 e5 => by
          have tk := TK.ch c5 e4
          exact ⟨_, _, _, rs ++ [r], rfl, same_new2 (s3.trans s4) nl c5, (c3.trans (Ch.of s4)).trans c5, e5, by rw [List.length_append]; show vs.length + 1 ≤ j + 1; omega, hj, datL_one ((d3.same s4).tk tk) (ho.tk tk), k3⟩
        obtain ⟨av, rfl⟩ := row_ref ho
        walk_at "gg"
        refine w_tyL e4 ?_
        walk_at "gg"
        refine v_app e4 (by omega) (fun H5 c5 e5 => ?_)
        walk_at "gg"
        exact cont H5 c5 e5
    · obtain ⟨y1, y2, vs, rs, e1, s3, c3, e3, l1, l2, d3, k3⟩ := h
      subst e1
      rw [List.length_map, List.drop_length] at k3
      have hvl : vs.length = rs.length := by rw [d3.length, List.length_map]
      walk_at "gg"
      refine w_lenL e3 ?_
      walk_at "gg"
      refine w_tupL e3 (fun q H5 nq s5 eq => ?_)
      walk_at "gg"
      refine w_newL (by show 2 ≤ 1000000; decide) (fun q2 H6 nq2 s6 eq2 => ?_)
      refine ret H6 q2 _ _ (s3.trans (s5.trans s6)) eq2 ?_
      have e7 : scan ls = .inr rs := by rw [k3]; show Sum.inr (rs ++ []) = _; rw [List.append_nil]
      rw [e7]
      exact ⟨by rw [hvl], q, vs, rfl, s6 _ _ eq, (d3.same s5).same s6⟩
end
end K17
namespace K17
open PySem L2
/-! Exceptions with an own __init__: made, raised, let out of a def; what a def takes an exception for. -/
local macro_rules | `(tactic| walk_at "gg") => `(tactic| repeat (first | with_reducible refine w_nt ?_ | with_reducible refine w_nf ?_ | with_reducible refine w_raise ?_ | with_reducible refine w_orS (by with_unfolding_all rfl) ?_ | with_reducible refine iteT ?_ | with_reducible refine iteF ?_ | with_reducible refine w_isNN ?_ | with_reducible refine w_isNI ?_ | with_reducible refine w_isNR ?_ | with_reducible refine w_notNN ?_ | with_reducible refine w_notNI ?_ | with_reducible refine w_notNR ?_ | with_reducible refine w_var (by with_unfolding_all rfl) ?_ | with_reducible refine w_c ?_ | with_reducible refine w_seq ?_ | with_reducible refine w_set ?_ | with_reducible refine w_ret ?_ | with_reducible refine w_if ?_ | with_reducible refine w_op ?_ | with_reducible refine w_ii ?_ | with_reducible refine w_test ?_ | with_reducible refine w_bl ?_ | with_reducible refine w_cb ?_ | with_reducible refine w_call ?_ | with_reducible refine w_nil ?_ | with_reducible refine w_cons ?_ | with_reducible refine w_eqI ?_ | with_reducible refine w_eqS ?_ | with_reducible refine w_neI ?_ | with_reducible refine w_neS ?_ | with_reducible refine w_andV ?_ | with_reducible refine w_orV ?_ | with_reducible refine w_notV ?_ | with_reducible refine w_and ?_ | with_reducible refine w_or ?_ | with_reducible refine w_not ?_ | with_reducible refine w_ifE ?_ | with_reducible refine w_chain ?_ | with_reducible refine w_B ?_ | with_reducible refine w_drop ?_ | with_reducible refine w_next ?_ | with_reducible refine w_un ?_ | with_reducible refine w_iu ?_ | with_reducible refine w_isN ?_ | with_reducible refine w_notN ?_ | with_reducible refine w_int1 ?_ | with_reducible refine w_abs ?_ | with_reducible refine w_min ?_ | with_reducible refine w_max ?_ | with_reducible refine w_tup ?_ | with_reducible refine w_lst ?_ | with_reducible refine w_sl ?_ | with_reducible refine w_noPart ?_ | with_reducible refine w_part ?_ | with_reducible refine w_pi ?_ | with_reducible refine w_bm ?_ | with_reducible refine w_tyS ?_ | with_reducible refine w_m1 ?_ | with_reducible refine w_str ?_ | with_reducible refine w_forL ?_ | with_reducible refine w_forT ?_ | with_reducible refine w_forR1 ?_ | with_reducible refine w_forS ?_ | with_reducible refine w_lcL ?_ | with_reducible refine w_lcT ?_ | with_reducible refine w_lcR1 ?_ | with_reducible refine w_lcR2 ?_ | with_reducible refine w_yes ?_ | with_reducible refine w_asgSub ?_ | with_reducible refine w_callS ?_ | with_reducible refine w_forQ ?_ | with_reducible refine w_forM ?_ | with_reducible refine w_forZ ?_ | with_reducible refine w_forE ?_ | with_reducible refine w_par ?_ | with_reducible refine w_two ?_ | with_reducible refine w_dget2 ?_))
section
variable {P : Program} {w : World} {K : PySem.W.Frag} {mg : Str → Option Value} {base : Heap} {a : Ad}
open PySem.Spec PyProof.Rows
/-- a def that may let out an exception whose context is None -/
theorem okN {x qual : Str} {st : Stmt} {f : Addr} {fd : FuncData} {N ps : List Str} {k : Nat} {sp : Sp} (F : Fun K x qual st f fd) (S : FnScope N ps (defScope st)) (len : ∀ vs H Q E, sp vs H Q E → vs.length = ps.length)
    (hb : ∀ (cdv : Value) (A : Around) (outer : List Env) (s : Shared) (H : Hp) (vs : List V) (Q : VK) (E : XK), Room k (A.deeper (envOfC qual (defScope st) s.heap.objs.size f cdv)) → sp vs H Q E →
      ∃ t, PSs (cxOf (L2N.CX P w) P w K mg base N qual (defScope st) f cdv A outer s H E) (defBody st) t ∧ t { nx := fun _ H' => Q .non H', rt := Q } (start N vs) H) : FnOk P w K mg base (L2N.CX P w) (k + 1) f fd ps sp := by
  obtain ⟨_, _, _, _, _, _, cdv, _, _, rfl, lk, hcd⟩ := F.ex
  exact fn_of lk hcd S len fun A outer s H vs Q E hr h => hb cdv A outer s H vs Q E hr h
theorem passN {X : Cx} : Passes (L2N.CX X.prog X.w) X E0 := fun _ _ _ _ _ _ _ h => by
  obtain ⟨_, _, _, _, _, h⟩ := h
  exact h.2.2.2.2.2.2.2.elim
/-- C(e) of an own class with an own __init__, nothing handled -/
theorem pmkN {X : Cx} {x : Str} {e : Expr} {es : List Expr} {ta : TA} {p pos : Pos} {C fI : Addr} {k : Nat} {fd : FuncData} {ps : List Str} {sp : Sp} (T : OexC X.K C) (iC : PySem.W.findIn X.K (.ref C) "__init__" = some (some (.ref fI))) (tI : PySem.W.typeIn X.K (.ref fI) = some (.type "function"))
    (Fi : FnOk X.prog X.w X.K X.mg X.base CX0 k fI fd ps sp) (hr : Room (k + 1) X.A) (hb : Binds X.K fd ps []) (hg : Gl X x) (hm : X.mg x = some (.ref C)) (ha : PA X (e :: es) ta)
    (hdb : (x == ("__debug__" : Str)) = false := by decide) (he : starEach (e :: es) X.env = (false, eval e X.env) :: starEach es X.env := by rfl) (hpl : (backTo pos (starEach es X.env)).any (·.1) = false := by rfl) :
    L2N.PMk X (.Call (.Name x p) (e :: es) [] pos) (tMkO C sp [] ta) := by
  intro pins s σ H Q I h
  obtain ⟨n1, n2, n3, n4, bm, n5, n6, n7, n8, n9, m0, m1, m2, m3, m5, lC, hbm⟩ := T.cls
  refine wpAny_Call_Name_kw (ld_glob I hg hm (PySem.W.callWith_K (h₀ := X.base) I.ok.mod.kin T.kC (thn (ha.run pos pins s σ H _ I h) ?_) he hpl) hdb)
  rintro us ⟨hp, g, dr, tk, os⟩ ⟨vs, H1, I1, r1, hz, q1⟩
  refine ⟨I1.kIn, ?_⟩
  generalize hN : hp.objs.size = N at *
  have hle : hp.objs.size ≤ N + 1 := by rw [hN]; exact Nat.le_succ N
  have free := I1.hok.fresh hle
  have go := q1 (N + 1) free
  generalize hG : (hp.push (PySem.W.kdv_tup us)).push (PySem.HandSPX.excO C N) = G
  have old : ∀ b o, hp.get? b = some o → G.get? b = some o := fun b o q => by
    rw [← hG]
    exact Heap.get?_push_of_some _ (Heap.get?_push_of_some _ q)
  have new : G.get? (N + 1) = some (PySem.HandSPX.excO C N) := by
    rw [← hG, ← hN]
    heap_get
  have I2 : Inv X pins σ (upd H1 (N + 1) (exo (N + 1) C none)) ⟨G, g, dr, tk, os⟩ := I1.laid (t' := tk) old hle (exo_ok new)
  have r2 : Vals (V.ref (N + 1) :: (vs ++ [])) (Value.ref (N + 1) :: us) := by
    rw [List.append_nil]
    exact .cons rfl r1
  have hl : (Value.ref (N + 1) :: us ++ []).length = ps.length := by
    rw [List.append_nil, ← Fi.len _ _ _ _ go]
    exact r2.length.symm
  have hus : us.length ≤ sizeLine := Nat.le_trans (by rw [← Paired.length r1]; exact hz) (by decide)
  have bd := hb _ (Value.ref (N + 1) :: us) I2.kIn hl
  rw [List.append_nil] at bd
  subst hG hN
  refine wpAny_call (PySem.HandSPX.call_own PySem.F.excBase_ValueError (fun Y => PySem.HandSPX.refsVE_contains Y bm hbm) (I1.kIn _ _ lC) (PySem.W.looks_findIn I1.kIn iC) (fun self => PySem.W.bind_fn I1.kIn self tI) hus ?_)
  refine codeAny_mono (Fi.run _ X.stack _ _ ⟨Value.ref (hp.objs.size + 1) :: us, []⟩ (Value.ref (hp.objs.size + 1) :: us) _ _ E0 (hr.make C us []) (I2.env0.make C us []) bd r2 go) ?_
  rintro (err | fl) s3 back
  · exact back.elim
  cases fl with
  | ret u =>
    obtain ⟨v, H2, o2, bare, un, hok, rv, rfl, d, fs, ea, ed, hd1, q2⟩ := back
    obtain ⟨h2, g2, d2, t2, o3⟩ := s3
    obtain ⟨t0, Gr, J, kG, ge, hoe, na⟩ := mk_end0 (d2 := d2) (t2 := t2) I1 hle old un hok o2 bare ea ed hd1
    refine ⟨rv, _, _, _, ⟨Gr, g2, d2, t2, o3⟩, _, .ref C, some d, rfl, J, kG, ge, hoe, ⟨rfl, rfl, ?_⟩, rfl, rfl, na, rfl, bare, raises_own T.exC T.tyC, q2⟩
    intro ws e
    cases e
    rfl
  | _ => exact back.elim
/-- self.f = y -/
def spInit (C : Addr) (f : Str) : Sp := fun vs H Q _ => ∃ (p : Addr) (y : V), vs = [.ref p, y] ∧ H p = some (exo p C none) ∧ ∀ dx, H dx = none → dx ≠ p → Q .non (upd (upd H dx (exd dx [(f, y)])) p (exo p C (some dx)))
theorem i_spInit {C p : Addr} {f : Str} {y : V} {H : Hp} {Q : VK} {E : XK} (h : H p = some (exo p C none)) (q : ∀ dx, H dx = none → dx ≠ p → Q .non (upd (upd H dx (exd dx [(f, y)])) p (exo p C (some dx)))) : spInit C f [.ref p, y] H Q E := ⟨p, y, rfl, h, q⟩
theorem look_one {f : Str} {v : V} : [(f, v)].lookup f = some v := by simp [List.lookup]
/-- what the arguments must bring for C(..) -/
def MkQ (C : Addr) (sp : Sp) (Q : XK) (vs : List V) (H1 : Hp) : Prop := vs.length ≤ 1000 ∧ ∀ p, H1 p = none → sp (.ref p :: (vs ++ [])) (upd H1 p (exo p C none))
  (fun v H2 => v = .non ∧ ∃ (d : Addr) (fs : List (Str × V)), H2 p = some (exo p C (some d)) ∧ H2 d = some (exd d fs) ∧ H1 d = none ∧ Q (.ref C) (some d) (upd (del H2 p) d (.xd fs))) (fun _ _ _ => False)
theorem w_mkQ {C : Addr} {f : Str} {y : V} {H : Hp} {Q : XK} (h : ∀ H' d, Same H H' → H' d = some (.xd [(f, y)]) → Q (.ref C) (some d) H') : MkQ C (spInit C f) Q [y] H := by
  refine ⟨by show 1 ≤ 1000; decide, fun p hp => i_spInit upd_same fun dx hd hne => ⟨rfl, dx, [(f, y)], upd_same, ?_, ?_, h _ dx (fun b o e => ?_) upd_same⟩⟩
  · rw [upd_ne hne, upd_same]
  · rw [upd_ne hne] at hd
    exact hd
  · have hb : b ≠ dx := fun z => by
      rw [z] at e
      rw [upd_ne hne, e] at hd
      cases hd
    have hbp : b ≠ p := ne_of_none e hp
    rw [upd_ne hb, del_ne hbp, upd_ne hbp, upd_ne hb, upd_ne hbp]
    exact e
def tRaiseN (C : Addr) (sp : Sp) (E : XK) (ta : TA) : TS := fun _ σ H => tMkO C sp [] ta σ H E
theorem ps_raiseN {X : Cx} {e : Expr} {C : Addr} {sp : Sp} {E : XK} {ta : TA} {pos : Pos} (hc : X.calm = true) (tk : L2N.Takes X (fun cls d _ H => E cls d H)) (he : L2N.PMk X e (tMkO C sp [] ta)) : PS X (.Raise (some e) none pos) (tRaiseN C sp E ta) := L2N.ps_raise hc tk he
theorem w_raise {C : Addr} {sp : Sp} {E : XK} {ta : TA} {D : Ends} {σ : St} {H : Hp} (h : ta σ H fun vs H1 => MkQ C sp E vs H1) : tRaiseN C sp E ta D σ H := h
theorem ok_init_BadText (T : Txt K mg w a) : Ok P w K mg base 1 a.g_BadText ["self", "place"] (spInit a.C_BadText "place") := by
  obtain ⟨fd, F, b⟩ := T.I_BadText
  refine ⟨fd, F.ok sci_BadText (fun vs H Q E h => ?_) (fun cdv A outer s H vs Q E hr h => ?_), b⟩
  · obtain ⟨p, y, rfl, _⟩ := h
    rfl
  · obtain ⟨p, y, rfl, hp, q⟩ := h
    exact ⟨_, pss_one (ps_ost (pv 0) (pv 1)), _, rfl, _, rfl, p, a.C_BadText, rfl, T.X_BadText.oex, T.X_BadText.nf, .inl ⟨hp, q⟩⟩
theorem ok_init_BadProgram (T : Txt K mg w a) : Ok P w K mg base 1 a.g_BadProgram ["self", "row"] (spInit a.C_BadProgram "row") := by
  obtain ⟨fd, F, b⟩ := T.I_BadProgram
  refine ⟨fd, F.ok sci_BadProgram (fun vs H Q E h => ?_) (fun cdv A outer s H vs Q E hr h => ?_), b⟩
  · obtain ⟨p, y, rfl, _⟩ := h
    rfl
  · obtain ⟨p, y, rfl, hp, q⟩ := h
    exact ⟨_, pss_one (ps_ost (pv 0) (pv 1)), _, rfl, _, rfl, p, a.C_BadProgram, rfl, T.X_BadProgram.oex, T.X_BadProgram.nf, .inl ⟨hp, q⟩⟩
end
end K17
namespace K17
open PySem L2
/-! read_program. -/
local macro_rules | `(tactic| walk_at "gg") => `(tactic| repeat (first | with_reducible refine w_nt ?_ | with_reducible refine w_nf ?_ | with_reducible refine w_raise ?_ | with_reducible refine w_orS (by with_unfolding_all rfl) ?_ | with_reducible refine iteT ?_ | with_reducible refine iteF ?_ | with_reducible refine w_isNN ?_ | with_reducible refine w_isNI ?_ | with_reducible refine w_isNR ?_ | with_reducible refine w_notNN ?_ | with_reducible refine w_notNI ?_ | with_reducible refine w_notNR ?_ | with_reducible refine w_var (by with_unfolding_all rfl) ?_ | with_reducible refine w_c ?_ | with_reducible refine w_seq ?_ | with_reducible refine w_set ?_ | with_reducible refine w_ret ?_ | with_reducible refine w_if ?_ | with_reducible refine w_op ?_ | with_reducible refine w_ii ?_ | with_reducible refine w_test ?_ | with_reducible refine w_bl ?_ | with_reducible refine w_cb ?_ | with_reducible refine w_call ?_ | with_reducible refine w_nil ?_ | with_reducible refine w_cons ?_ | with_reducible refine w_eqI ?_ | with_reducible refine w_eqS ?_ | with_reducible refine w_neI ?_ | with_reducible refine w_neS ?_ | with_reducible refine w_andV ?_ | with_reducible refine w_orV ?_ | with_reducible refine w_notV ?_ | with_reducible refine w_and ?_ | with_reducible refine w_or ?_ | with_reducible refine w_not ?_ | with_reducible refine w_ifE ?_ | with_reducible refine w_chain ?_ | with_reducible refine w_B ?_ | with_reducible refine w_drop ?_ | with_reducible refine w_next ?_ | with_reducible refine w_un ?_ | with_reducible refine w_iu ?_ | with_reducible refine w_isN ?_ | with_reducible refine w_notN ?_ | with_reducible refine w_int1 ?_ | with_reducible refine w_abs ?_ | with_reducible refine w_min ?_ | with_reducible refine w_max ?_ | with_reducible refine w_tup ?_ | with_reducible refine w_lst ?_ | with_reducible refine w_sl ?_ | with_reducible refine w_noPart ?_ | with_reducible refine w_part ?_ | with_reducible refine w_pi ?_ | with_reducible refine w_bm ?_ | with_reducible refine w_tyS ?_ | with_reducible refine w_m1 ?_ | with_reducible refine w_str ?_ | with_reducible refine w_forL ?_ | with_reducible refine w_forT ?_ | with_reducible refine w_forR1 ?_ | with_reducible refine w_forS ?_ | with_reducible refine w_lcL ?_ | with_reducible refine w_lcT ?_ | with_reducible refine w_lcR1 ?_ | with_reducible refine w_lcR2 ?_ | with_reducible refine w_yes ?_ | with_reducible refine w_asgSub ?_ | with_reducible refine w_callS ?_ | with_reducible refine w_forQ ?_ | with_reducible refine w_forM ?_ | with_reducible refine w_forZ ?_ | with_reducible refine w_forE ?_ | with_reducible refine w_par ?_ | with_reducible refine w_two ?_ | with_reducible refine w_dget2 ?_))
section
variable {P : Program} {w : World} {K : PySem.W.Frag} {mg : Str → Option Value} {base : Heap} {a : Ad}
abbrev OkN (P : Program) (w : World) (K : PySem.W.Frag) (mg : Str → Option Value) (base : Heap) (k : Nat) (f : Addr) (ps : List Str) (sp : Sp) : Prop := ∃ fd, FnOk P w K mg base (L2N.CX P w) k f fd ps sp ∧ L2.Binds K fd ps []
def spReadP (a : Ad) : Sp := fun vs H Q E => ∃ (t : Str), vs = [.str t] ∧ t.length ≤ 98000 ∧ (∀ rs, readOf t = .inr rs → ∀ H' v, Same H H' → rowsAt H' v rs → Q v H') ∧
  ∀ i : Nat, readOf t = .inl i → ∀ H' d, Same H H' → H' d = some (.xd [("place", .int i)]) → E (.ref a.C_BadText) (some d) H'
theorem i_spReadP {t : Str} {H : Hp} {Q : VK} {E : XK} (h1 : t.length ≤ 98000) (h : ∀ rs, readOf t = .inr rs → ∀ H' v, Same H H' → rowsAt H' v rs → Q v H')
    (h2 : ∀ i : Nat, readOf t = .inl i → ∀ H' d, Same H H' → H' d = some (.xd [("place", .int i)]) → E (.ref a.C_BadText) (some d) H') : spReadP a [.str t] H Q E := ⟨t, rfl, h1, h, h2⟩
theorem ok_read_program (T : Txt K mg w a) : OkN P w K mg base 4 a.f_read_program ["text"] (spReadP a) := by
  obtain ⟨fd, F, b⟩ := T.F_read_program
  obtain ⟨fd1, G_row_told, b_row_told⟩ := ok_row_told (P := P) (base := base) T
  obtain ⟨fd2, G_init_BadText, b_init_BadText⟩ := ok_init_BadText (P := P) (base := base) T
  refine ⟨fd, okN F sc_read_program (fun vs H Q E h => ?_) (fun cdv A outer s H vs Q E hr h => ?_), b⟩
  · obtain ⟨l, rfl, _⟩ := h
    rfl
  · obtain ⟨t, rfl, ht, ret, out⟩ := h
    obtain ⟨sp1, sp2, sp3⟩ := split_nl t
    generalize hls : Txt.split t "\n" = ls at sp1 sp2 sp3
    have hro : readOf t = scan ls := by unfold readOf; rw [hls]
    rw [hro] at ret out
    refine ⟨_, (pss_cons (ps_set (i := 1) sc_read_program.nd rfl (Or.inl rfl) (pe_lst pa_nil))
      (pss_cons (ps_for (passes_of rfl) rfl (pi_enum (by rfl) T.z_enumerate (pa_cons (e_split (pv 0) pe_str) pa_nil)) (pg_tup rfl (pgs_cons (pg_name (i := 2) sc_read_program.nd rfl (Or.inl rfl)) (pgs_cons (pg_name (i := 3) sc_read_program.nd rfl (Or.inl rfl)) pgs_nil))) (pss_cons (ps_set (i := 4) sc_read_program.nd rfl (Or.inl rfl) (pe_call G_row_told (hr.mono (by decide)) (by rfl) T.a_row_told T.k_row_told b_row_told .nil pass0 (pa_cons (pv 3) pa_nil)))
      (pss_cons (ps_if (pt_cmpR o_isN (pv 4) pe_non (nomark _)) (pss_one (ps_raiseN rfl (L2N.takes_of rfl rfl rfl rfl) (pmkN T.X_BadText.oex T.X_BadText.ini T.X_BadText.tyI G_init_BadText (hr.mono (by decide)) b_init_BadText (by rfl) T.A_BadText (pa_cons (pv 2) pa_nil)))) pss_nil)
      (pss_one (ps_expr (pe_bm PySem.F.plainAttrs_list PySem.F.slot_list_append PySem.F.type_list_append mt_append (pv 1) (pa_cons (pv 4) pa_nil)))))))
      (pss_one (ps_ret (pe_callTy c_tupOf (by rfl) T.z_tuple bt_tuple (pa_cons (pv 1) pa_nil)))))), ?_⟩
    walk_at "gg"
    refine w_newL (by show 0 ≤ 1000000; decide) (fun l H1 nl s1 el => ?_)
    walk_at "gg"
    refine w_split (by decide +kernel) (sz_of (by omega)) (fun p H2 np s2 ep => ?_)
    rw [hls] at ep
    have nlp : p ≠ l := (ne_of_none el np).symm
    walk_at "gg"
    refine w_loopE (SqL.of ep) (fun j σ' H' => ∃ y1 y2 y3 vs rs, σ' = [some (.str t), some (.ref l), y1, y2, y3] ∧ Same H H' ∧ Ch l H2 H' ∧ H' l = some (.lst vs) ∧ vs.length = j ∧ j ≤ ls.length ∧ DatL noL H' vs (rs.map RD.data) ∧ scan ls = comb rs (scan (ls.drop j)))
      ⟨none, none, none, [], [], rfl, s1.trans s2, Ch.refl _ _, s2 _ _ el, rfl, Nat.zero_le _, .nil, by rw [comb_nil, List.drop_zero]⟩ (fun j σ' H' h => ?_) (fun j x σ' H' H3 hi h s3' => ?_) (fun σ' H' h => ?_)
    · obtain ⟨y1, y2, y3, vs, rs, e1, s3, c3, _⟩ := h
      exact SqL.of (c3 _ _ nlp ep)
    · obtain ⟨y1, y2, y3, vs, rs, e1, s3, c3, e3, l1, l2, d3, k3⟩ := h
      subst e1
      replace s3 := s3.trans s3'
      replace c3 := c3.trans (Ch.of s3')
      replace e3 := s3' _ _ e3
      replace d3 := d3.same s3'
      obtain ⟨z, hz, rfl⟩ := map_at hi
      have hj : j < ls.length := (List.getElem?_eq_some_iff.mp hz).1
      have hzl := sp1 z (List.mem_of_getElem? hz)
      walk_at "gg"
      refine i_spRow (by omega) (fun H4 v s4 ho => ?_)
      have hvl : vs.length = rs.length := by rw [d3.length, List.length_map]
      rw [drop_next hz] at k3
      cases er : rowOfLine z with
      | none =>
        rw [er] at ho
        obtain rfl : v = .non := ho
        rw [comb_bad rs er] at k3
        walk_at "gg"
        refine w_mkQ (fun H5 d s5 e5 => ?_)
        exact out _ k3 H5 d (s3.trans (s4.trans s5)) (by rw [e5, ← hvl, l1])
      | some r =>
        rw [er] at ho
        have ho : Dat noL H4 v r.data := ho
        rw [comb_step rs er] at k3
        have e4 := s4 _ _ e3
        have cont : ∀ H5, Ch l H4 H5 → H5 l = some (.lst (vs ++ [v])) → ∃ y1 y2 y3 vs rs, [some (.str t), some (.ref l), some (.int (j : Nat)), some (.str z), some v] = [some (.str t), some (.ref l), y1, y2, y3] ∧ Same H H5 ∧ Ch l H2 H5 ∧ H5 l = some (.lst vs) ∧ vs.length = j + 1 ∧ j + 1 ≤ ls.length ∧ DatL noL H5 vs (rs.map RD.data) ∧ scan ls = comb rs (scan (ls.drop (j + 1))) := fun H5 c5 e5 => by
          have tk := TK.ch c5 e4
          exact ⟨_, _, _, _, rs ++ [r], rfl, same_new2 (s3.trans s4) nl c5, (c3.trans (Ch.of s4)).trans c5, e5, by rw [List.length_append]; show vs.length + 1 = j + 1; omega, hj, datL_one ((d3.same s4).tk tk) (ho.tk tk), k3⟩
        obtain ⟨av, rfl⟩ := row_ref ho
        walk_at "gg"
        refine w_tyL e4 ?_
        walk_at "gg"
        refine v_app e4 (by omega) (fun H5 c5 e5 => ?_)
        walk_at "gg"
        exact cont H5 c5 e5
    · obtain ⟨y1, y2, y3, vs, rs, e1, s3, c3, e3, l1, l2, d3, k3⟩ := h
      subst e1
      rw [List.length_map, List.drop_length] at k3
      walk_at "gg"
      refine w_tupL e3 (fun q H5 nq s5 eq => ?_)
      have e7 : scan ls = .inr rs := by rw [k3]; show Sum.inr (rs ++ []) = _; rw [List.append_nil]
      exact ret rs e7 H5 _ (s3.trans s5) ⟨q, vs, rfl, eq, d3.same s5⟩
end
end K17
namespace K17
open PySem L2
/-! While an exception is handled: defs that take it as an argument, isinstance of it, a list comprehension. -/
local macro_rules | `(tactic| walk_at "gg") => `(tactic| repeat (first | with_reducible refine w_nt ?_ | with_reducible refine w_nf ?_ | with_reducible refine w_raise ?_ | with_reducible refine w_orS (by with_unfolding_all rfl) ?_ | with_reducible refine iteT ?_ | with_reducible refine iteF ?_ | with_reducible refine w_isNN ?_ | with_reducible refine w_isNI ?_ | with_reducible refine w_isNR ?_ | with_reducible refine w_notNN ?_ | with_reducible refine w_notNI ?_ | with_reducible refine w_notNR ?_ | with_reducible refine w_var (by with_unfolding_all rfl) ?_ | with_reducible refine w_c ?_ | with_reducible refine w_seq ?_ | with_reducible refine w_set ?_ | with_reducible refine w_ret ?_ | with_reducible refine w_if ?_ | with_reducible refine w_op ?_ | with_reducible refine w_ii ?_ | with_reducible refine w_test ?_ | with_reducible refine w_bl ?_ | with_reducible refine w_cb ?_ | with_reducible refine w_call ?_ | with_reducible refine w_nil ?_ | with_reducible refine w_cons ?_ | with_reducible refine w_eqI ?_ | with_reducible refine w_eqS ?_ | with_reducible refine w_neI ?_ | with_reducible refine w_neS ?_ | with_reducible refine w_andV ?_ | with_reducible refine w_orV ?_ | with_reducible refine w_notV ?_ | with_reducible refine w_and ?_ | with_reducible refine w_or ?_ | with_reducible refine w_not ?_ | with_reducible refine w_ifE ?_ | with_reducible refine w_chain ?_ | with_reducible refine w_B ?_ | with_reducible refine w_drop ?_ | with_reducible refine w_next ?_ | with_reducible refine w_un ?_ | with_reducible refine w_iu ?_ | with_reducible refine w_isN ?_ | with_reducible refine w_notN ?_ | with_reducible refine w_int1 ?_ | with_reducible refine w_abs ?_ | with_reducible refine w_min ?_ | with_reducible refine w_max ?_ | with_reducible refine w_tup ?_ | with_reducible refine w_lst ?_ | with_reducible refine w_sl ?_ | with_reducible refine w_noPart ?_ | with_reducible refine w_part ?_ | with_reducible refine w_pi ?_ | with_reducible refine w_bm ?_ | with_reducible refine w_tyS ?_ | with_reducible refine w_m1 ?_ | with_reducible refine w_str ?_ | with_reducible refine w_forL ?_ | with_reducible refine w_forT ?_ | with_reducible refine w_forR1 ?_ | with_reducible refine w_forS ?_ | with_reducible refine w_lcL ?_ | with_reducible refine w_lcT ?_ | with_reducible refine w_lcR1 ?_ | with_reducible refine w_lcR2 ?_ | with_reducible refine w_yes ?_ | with_reducible refine w_asgSub ?_ | with_reducible refine w_callS ?_ | with_reducible refine w_forQ ?_ | with_reducible refine w_forM ?_ | with_reducible refine w_forZ ?_ | with_reducible refine w_forE ?_ | with_reducible refine w_par ?_ | with_reducible refine w_two ?_ | with_reducible refine w_dget2 ?_))
open PySem.Spec PyProof.Rows L2H
/-! ### a def that is called while p is handled; its promise may name p -/
structure FnE (P : Program) (w : World) (K : PySem.W.Frag) (mg : Str → Option Value) (base : Heap) (k : Nat) (f : Addr) (fd : FuncData) (ps : List Str) (sp : Addr × Obj → Sp) : Prop where
  len : ∀ p vs H Q E, sp p vs H Q E → vs.length = ps.length
  run : ∀ (p : Addr × Obj) (A : Around) (outer : List Env) (s : Shared) (H : Hp) (args : Args) (us : List Value) (vs : List V) (Q : VK), RoomH k A → Hot1 A p → PinOk outer H s p → Env0 P w K mg base A outer s H → BindsTo s fd args (ps.zip us) → Vals vs us → sp p vs H Q E0 →
    codeAny (model P w) A (.call (.ref f) args) (CR CX0 outer P w H s Q E0) s
/-- the context within -/
abbrev cxE (P : Program) (w : World) (K : PySem.W.Frag) (mg : Str → Option Value) (base : Heap) (N : List Str) (qual : Str) (scope : Scope) (f : Addr) (cd : Value) (A : Around) (outer : List Env) (s : Shared) (H : Hp) (p : Addr × Obj) : Cx :=
  cxH CX0 P w K mg base N qual scope f cd A outer s H E0 p
section
variable {P : Program} {w : World} {K : PySem.W.Frag} {mg : Str → Option Value} {base : Heap}
theorem okE {x qual : Str} {st : Stmt} {f : Addr} {fd : FuncData} {N ps : List Str} {k : Nat} {sp : Addr × Obj → Sp} (F : Fun K x qual st f fd) (S : FnScope N ps (defScope st)) (len : ∀ p vs H Q E, sp p vs H Q E → vs.length = ps.length)
    (hb : ∀ (p : Addr × Obj) (cdv : Value) (A : Around) (outer : List Env) (s : Shared) (H : Hp) (vs : List V) (Q : VK), Hot1 A p → RoomH k (A.deeper (envOfC qual (defScope st) s.heap.objs.size f cdv)) → sp p vs H Q E0 →
      ∃ t, PSs (cxE P w K mg base N qual (defScope st) f cdv A outer s H p) (defBody st) t ∧ t { nx := fun _ H' => Q .non H', rt := Q } (L2.start N vs) H) : FnE P w K mg base (k + 1) f fd ps sp := by
  obtain ⟨_, _, _, _, _, _, cdv, _, _, rfl, lk, hcd⟩ := F.ex
  refine ⟨len, fun p A outer s H args us vs Q room hot pin e0 bd r h => ?_⟩
  have kin : K.In s.heap := e0.mod.kin.keeps fun b o e => (e0.bs b o e).1
  have nolim : s.heap.NoLimit := e0.mod.nolimit.keeps fun b o e => (e0.bs b o e).1
  refine codeAny_call_function room.depth (kin _ _ lk) rfl S.co S.gen rfl (PySem.W.codeRec_of kin hcd) (bd _ _ _ _ (wpAny_newFunctionEnv_cells S.kind ?_ ?_))
  · rintro ⟨n, v⟩ hy
    exact (S.par n (List.of_mem_zip hy).1).imp id fun q => ⟨q, PySem.W.cellsFrom_some _ _ _ (.inl q)⟩
  rintro _ rfl s1 x
  obtain ⟨t, ht, hq⟩ := hb p cdv A outer s H vs Q hot (room.deeper _) h
  refine ⟨nolim.keeps x.toInCall.keep, codeAny_func ?_⟩
  refine wpAny_mono (ht.run [] s1 (L2.start N vs) H _ (inv_startH S pin e0 (len _ _ _ _ _ h) r x) hq) ?_ fun _ _ z => z
  rintro (_ | _ | _ | u) s2 back
  · obtain ⟨_, H', J, q⟩ := back
    exact ⟨.non, H', J.os, J.bare, J.base, J.hok, rfl, q⟩
  · obtain ⟨_, _, _, q⟩ := back
    exact q.elim
  · obtain ⟨_, _, _, q⟩ := back
    exact q.elim
  · obtain ⟨v, _, H', J, rv, q⟩ := back
    exact ⟨v, H', J.os, J.bare, J.base, J.hok, rv, q⟩
end
/-- the handled exception is at hand -/
def HotP (X : Cx) (p : Addr × Obj) : Prop := Hot1 X.A p ∧ p ∈ X.pn
section
variable {X : Cx} {p : Addr × Obj}
theorem HotP.c (h : HotP X p) : HotC X := ⟨p, h⟩
theorem pe_callE {k : Nat} {f : Addr} {fd : FuncData} {ps : List Str} {sp : Addr × Obj → Sp} {x : Str} {q pos : Pos} {e : Expr} {es : List Expr} {t : TA} (F : FnE X.prog X.w X.K X.mg X.base k f fd ps sp) (hr : RoomH k X.A) (hc : HotP X p) (hg : Gl X x) (hm : X.mg x = some (.ref f)) (hk : PySem.W.keepIn X.K (.ref f) = true) (hb : Binds X.K fd ps [])
    (ha : PA X (e :: es) t) (hdb : (x == ("__debug__" : Str)) = false := by decide) (he : starEach (e :: es) X.env = (false, eval e X.env) :: starEach es X.env := by rfl) (hpl : (backTo pos (starEach es X.env)).any (·.1) = false := by rfl) :
    PE X (.Call (.Name x q) (e :: es) [] pos) (tCallS (sp p) (fun _ => E0) t) := by
  refine ⟨fun pins s σ H Q I h => wpAny_Call_Name_kw (ld_glob I hg hm (PySem.W.callWith_K (h₀ := X.base) I.ok.mod.kin hk (thn (ha.run pos pins s σ H _ I h) ?_) he hpl) hdb)⟩
  rintro us s1 ⟨vs, H1, I1, r, h1⟩
  refine ⟨I1.kIn, ?_⟩
  obtain ⟨hot, hp⟩ := hc
  have bd := hb s1 us I1.kIn (by rw [List.append_nil, ← r.length]; exact F.len _ _ _ _ _ h1)
  rw [List.append_nil] at bd
  obtain ⟨p1, p2, p3, p4, p5⟩ := I1.pin p (List.mem_append_left _ hp)
  have pin : PinOk X.stack H1 s1 p := ⟨p1, p2, fun m => (List.mem_cons.mp (I1.stkSub p.1 m)).elim p3 p4, p5⟩
  refine wpAny_call (codeAny_mono (F.run p X.A X.stack s1 H1 ⟨us, []⟩ us vs Q hr hot pin I1.env0 bd r h1) ?_)
  rintro (err | fl) s2 back
  · exact back.elim
  cases fl with
  | ret u => exact I1.after back
  | _ => exact back.elim
/-- isinstance of the handled exception, its class D, its dict at dd -/
def rIsX (K : PySem.W.Frag) (D a dd : Addr) : List V → Hp → VK → Prop := fun xs H Q => ∃ (c : V) (cv : Value) (b : Bool) (fs : List (Str × V)), xs = [.ref a, c] ∧ (∀ u, RelV c u → u = cv) ∧ H dd = some (.xd fs) ∧ PySem.W.kitOne K (.ref D) cv = some b ∧ Q (.bl b) H
theorem call_isX {D dd f : Addr} {fld : Str} (hp : p ∈ X.pn) (hz : Zc (.ref D) (some dd) p.2) (hf : ∃ vs, p.2.data = .fields vs) (E : ExcF X.K D f fld) (hn : PySem.W.specialIn X.K (.builtin "object.__class__") "__get__" = some (some (.builtin "getset_descriptor.__get__")))
    (ht : PySem.W.takesIn X.K (.builtin "object.__class__") = some true) : CallR X (.builtin "isinstance") (rIsX X.K D p.1 dd) := by
  rintro pins s σ H xs us Q I r ⟨c, cv, b, fs, rfl, hcv, hd, e, q⟩
  cases r with
  | cons rx rr =>
  cases rr with
  | cons rt rr =>
  cases rr
  cases rx
  have ec := hcv _ rt
  subst ec
  obtain ⟨hget, _⟩ := I.pin p (List.mem_append_left _ hp)
  obtain ⟨vs, hv⟩ := hf
  have hx : ObjOk X.prog X.w H s.heap dd (.xd fs) := I.hok dd _ hd
  obtain ⟨mA, hns, _⟩ := hx
  obtain ⟨od, ho, _⟩ := lookIn_ns hns
  have J : PySem.W.InstAt s.heap p.1 p.2 D (some od) := ⟨hget, hz.1, by unfold PySem.W.notCls; rw [hv] <;> rfl, by rw [hz.2]; exact ho⟩
  exact PySem.W.kia_one (PySem.W.kitx_exc E.cls E.xf.ga E.xf.gg E.xf.exC E.cc hn ht E.mo) I.kIn J e (fun z => nomatch z) fun tk => ⟨.bl b, H, I.kept (t' := tk) fun _ _ z => z, rfl, q⟩
end
end K17
namespace K17
open PySem L2
/-! A list comprehension while an exception is handled (the calm one's proof is HandS.Comp.lc_core; here the exception stays pinned in the block). -/
local macro_rules | `(tactic| walk_at "gg") => `(tactic| repeat (first | with_reducible refine w_nt ?_ | with_reducible refine w_nf ?_ | with_reducible refine w_raise ?_ | with_reducible refine w_orS (by with_unfolding_all rfl) ?_ | with_reducible refine iteT ?_ | with_reducible refine iteF ?_ | with_reducible refine w_isNN ?_ | with_reducible refine w_isNI ?_ | with_reducible refine w_isNR ?_ | with_reducible refine w_notNN ?_ | with_reducible refine w_notNI ?_ | with_reducible refine w_notNR ?_ | with_reducible refine w_var (by with_unfolding_all rfl) ?_ | with_reducible refine w_c ?_ | with_reducible refine w_seq ?_ | with_reducible refine w_set ?_ | with_reducible refine w_ret ?_ | with_reducible refine w_if ?_ | with_reducible refine w_op ?_ | with_reducible refine w_ii ?_ | with_reducible refine w_test ?_ | with_reducible refine w_bl ?_ | with_reducible refine w_cb ?_ | with_reducible refine w_call ?_ | with_reducible refine w_nil ?_ | with_reducible refine w_cons ?_ | with_reducible refine w_eqI ?_ | with_reducible refine w_eqS ?_ | with_reducible refine w_neI ?_ | with_reducible refine w_neS ?_ | with_reducible refine w_andV ?_ | with_reducible refine w_orV ?_ | with_reducible refine w_notV ?_ | with_reducible refine w_and ?_ | with_reducible refine w_or ?_ | with_reducible refine w_not ?_ | with_reducible refine w_ifE ?_ | with_reducible refine w_chain ?_ | with_reducible refine w_B ?_ | with_reducible refine w_drop ?_ | with_reducible refine w_next ?_ | with_reducible refine w_un ?_ | with_reducible refine w_iu ?_ | with_reducible refine w_isN ?_ | with_reducible refine w_notN ?_ | with_reducible refine w_int1 ?_ | with_reducible refine w_abs ?_ | with_reducible refine w_min ?_ | with_reducible refine w_max ?_ | with_reducible refine w_tup ?_ | with_reducible refine w_lst ?_ | with_reducible refine w_sl ?_ | with_reducible refine w_noPart ?_ | with_reducible refine w_part ?_ | with_reducible refine w_pi ?_ | with_reducible refine w_bm ?_ | with_reducible refine w_tyS ?_ | with_reducible refine w_m1 ?_ | with_reducible refine w_str ?_ | with_reducible refine w_forL ?_ | with_reducible refine w_forT ?_ | with_reducible refine w_forR1 ?_ | with_reducible refine w_forS ?_ | with_reducible refine w_lcL ?_ | with_reducible refine w_lcT ?_ | with_reducible refine w_lcR1 ?_ | with_reducible refine w_lcR2 ?_ | with_reducible refine w_yes ?_ | with_reducible refine w_asgSub ?_ | with_reducible refine w_callS ?_ | with_reducible refine w_forQ ?_ | with_reducible refine w_forM ?_ | with_reducible refine w_forZ ?_ | with_reducible refine w_forE ?_ | with_reducible refine w_par ?_ | with_reducible refine w_two ?_ | with_reducible refine w_dget2 ?_))
open PySem.Spec PyProof.Rows L2H
/-- the block's context, p still at hand -/
abbrev blkP (X : Cx) (s : Shared) (H : Hp) (scope : Scope) (ce : Env) (fp : List Addr) (p : Addr × Obj) : Cx := { X.blk s H scope ce fp with pn := [p] }
section
variable {X : Cx} {p : Addr × Obj}
theorem blkP_ok {s : Shared} {H : Hp} {scope : Scope} {ce : Env} {fp : List Addr} (o : (X.blk s H scope ce fp).Ok) : (blkP X s H scope ce fp p).Ok :=
  ⟨o.mod, o.kind, o.glob, o.blt, o.above, o.inj, o.has, o.cab, o.hd, o.frames, o.stk, o.exf, o.bs, o.bsz, o.noex, o.exfs, o.funs, o.frf⟩
theorem pe_lcP {elt tg iter : Expr} {scope : Scope} {own : List (Str × Nat)} {pos : Pos} {wi : TI} {g : TG} {te : TE} (hc : HotP X p) (hN : X.N.Nodup) (hi : PIH X tg iter wi) (ok : BlkOk X.N X.env.scope scope own)
    (hg : ∀ (s : Shared) (H : Hp) (C : Addr) (cl : List (Str × Addr)) (fp : List Addr), PG (blkP X s H scope (compEnvC scope cl C X.env) fp p) tg g)
    (he : ∀ (s : Shared) (H : Hp) (C : Addr) (cl : List (Str × Addr)) (fp : List Addr), PE (blkP X s H scope (compEnvC scope cl C X.env) fp p) elt te) (hs : ∀ x, foldedSetIterable iter X.env x = pure x := by intro _; rfl) :
    PE X (.ListComp elt [⟨tg, iter, [], 0⟩] scope pos) (tLc wi g tYes te (own.map (·.2))) := by
  refine ⟨fun pins s σ H Q I h => ?_⟩
  rw [eval_ListComp]
  have lookup : ∀ y ∈ scope.names, y.2 = .free → ∃ c, X.env.cells.lookup y.1 = some c := fun y hy e => (ok.free y hy e).elim (fun k => I.ok.has _ (.inl k)) (fun k => I.ok.has _ (.inr k))
  refine wpAny_comprehension_free (use := none) rfl hs (closure_ok lookup) ok.kind (fun y hy e => by rw [ok.uniq y hy, e]) (thn (hi.run pins s σ H _ I h) fun xv s1 hx => thn hx ?_)
  rintro _ s2 ⟨it, fp, tn, J, H2, rfl, I2, T, st2, f2, q⟩
  refine wpAny_newObj_type (newEnv_comp ?_) (by show 0 ≤ sizeLine; decide)
  have lst : ∃ D, D = s2.heap.objs.size := ⟨_, rfl⟩
  obtain ⟨D, hD⟩ := lst
  rw [← hD]
  have freeD : H2 D = none := I2.hok.fresh (Nat.le_of_eq hD.symm)
  obtain ⟨W, ⟨m0, w0⟩, turn⟩ := q D freeD
  generalize hs3 : ({ s2 with heap := s2.heap.push { cls := .type "list", data := .seq ([] : List Value).toArray } } : Shared) = s3
  have heap3 : s3.heap = s2.heap.push { cls := .type "list", data := .seq ([] : List Value).toArray } := by rw [← hs3]
  have I3 : Inv X pins σ (upd H2 D (.lst [])) s3 := by
    rw [← hs3]
    exact I2.laid (t' := s2.toks) (fun b o e => Heap.get?_push_of_some _ e) (Nat.le_of_eq hD.symm) ⟨Nat.zero_le _, [], 0, .nil, by rw [hD]; exact Heap.get?_push_size _ rfl⟩
  generalize hH3 : upd H2 D (.lst []) = H3 at I3 w0
  have small : ∀ b ∈ fp, b < s2.heap.objs.size := fun b hb => (T.obj _ _ st2 b hb).elim fun o e => Heap.lt_size e.1
  have f3 : ∀ b ∈ fp, FpOk X pins H3 b ∧ b < s3.heap.objs.size := fun b hb => by
    refine ⟨⟨?_, (f2 b hb).2⟩, by rw [heap3, Heap.size_push]; exact Nat.lt_succ_of_lt (small b hb)⟩
    rw [← hH3, upd_ne (by rw [hD]; exact Nat.ne_of_lt (small b hb))]
    exact (f2 b hb).1
  have st3 : tn 0 s3.heap := T.keep _ _ _ st2 fun b _ o e => by rw [heap3]; exact Heap.get?_push_of_some _ e
  have I4 := block_start I3 ok hN f3
  have pg := hg s3 H3 s3.heap.objs.size (cellsFrom (s3.heap.objs.size + 1) scope.names (cloFrom X.env.cells scope.names [])) fp
  have pe := he s3 H3 s3.heap.objs.size (cellsFrom (s3.heap.objs.size + 1) scope.names (cloFrom X.env.cells scope.names [])) fp
  show codeAny _ _ (.compStart (.ListComp elt [⟨tg, iter, [], 0⟩] scope pos) 0 (.ref it) (.ref D) (compEnvC scope (cellsFrom (s3.heap.objs.size + 1) scope.names (cloFrom X.env.cells scope.names [])) s3.heap.objs.size X.env)) _ { s3 with heap := pushCells (s3.heap.push { cls := .type "dict", data := .dict #[] }) scope.names }
  generalize hce : compEnvC scope (cellsFrom (s3.heap.objs.size + 1) scope.names (cloFrom X.env.cells scope.names [])) s3.heap.objs.size X.env = ce at I4 pg pe ⊢
  have cL : ce.locals = s3.heap.objs.size := by rw [← hce]; rfl
  have old4 : ∀ b o, s3.heap.get? b = some o → (pushCells (s3.heap.push { cls := .type "dict", data := .dict #[] }) scope.names).get? b = some o := fun b o e => pushCells_keeps _ _ _ _ (Heap.get?_push_of_some _ e)
  obtain ⟨p1, p2, p3, p4, p5⟩ := I3.pin p (List.mem_append_left _ hc.2)
  have stk : p.1 ∉ frs X.stack := fun m => (List.mem_cons.mp (I3.stkSub p.1 m)).elim p3 p4
  generalize hs4 : ({ s3 with heap := pushCells (s3.heap.push { cls := .type "dict", data := .dict #[] }) scope.names } : Shared) = s4 at I4 ⊢
  have heap4 : s4.heap = pushCells (s3.heap.push { cls := .type "dict", data := .dict #[] }) scope.names := by rw [← hs4]
  have I5 : Inv (blkP X s3 H3 scope ce fp p) [] (wipe σ (own.map (·.2))) H3 s4 :=
    { ok := blkP_ok I4.ok, os := I4.os, bare := I4.bare, base := I4.base, loc := I4.loc, cell := I4.cell, free := I4.free, freeC := I4.freeC, hok := I4.hok, len := I4.len
      pin := fun r hr => by
        have e : r = p := by simpa using (show r ∈ [p] ++ ([] : List (Addr × Obj)) from hr)
        rw [e]
        exact ⟨by rw [heap4]; exact old4 _ _ p1, p2, by show p.1 ≠ ce.locals; rw [cL]; exact Nat.ne_of_lt (Heap.lt_size p1), stk, p5⟩ }
  have hotB : HotC (blkP X s3 H3 scope ce fp p) := ⟨p, hc.1, List.mem_singleton.mpr rfl⟩
  have st4 : tn 0 s4.heap := T.keep _ _ _ st3 fun b _ o e => by rw [heap4]; exact old4 _ _ e
  have stat : ∀ {τ : St} {H' : Hp} {s' : Shared}, Inv (blkP X s3 H3 scope ce fp p) [] τ H' s' → (∀ b ∈ fp, H' b = none) → ∀ b ∈ fp, FpOk (blkP X s3 H3 scope ce fp p) [] H' b := fun J nb b hb =>
    ⟨nb b hb, (J.ok.exf b hb).1, J.ok.exfs b hb, .inl hb, fun x c e => (J.ok.exf b hb).2 x c e, fun r hr => by
      have e : r = p := by simpa using (show r ∈ [p] ++ ([] : List (Addr × Obj)) from hr)
      rw [e]
      exact (f3 b hb).1.2.2.2.2.2 p (List.mem_append_left _ hc.2)⟩
  refine codeAny_compStart_list ?_ (T.self X.A 0 _ _ _ st4 ?_) <;>
  · refine compLoop_any (fun n s' => ∃ i H', Inv (blkP X s3 H3 scope ce fp p) [] (wipe σ (own.map (·.2))) H' s' ∧ tn i s'.heap ∧ (∀ b ∈ fp, H' b = none) ∧ W i n H') ?_ m0 ⟨0, H3, I5, st4, fun b hb => (f3 b hb).1.1, w0⟩
    rintro n s5 ⟨i, H5, J5, st5, n5, w5⟩
    rcases turn i n H5 w5 with ⟨stop, fin⟩ | ⟨go, Nx, hNx, step⟩
    · refine thnF (T.done (blkP X s3 H3 scope ce fp p) rfl rfl rfl hotB i [] s5 _ H5 (fun _ _ => False) J5 (stat J5 n5) st5 stop) ?_
      rintro _ s6 ⟨rfl, J6⟩
      have I7 : Inv X pins σ H5 s6 := I3.call' (ch := fp) J6.os J6.base J6.hok J6.bare fun b hb => ⟨(f3 b hb).1.2.2.2.1, (f3 b hb).1.2.1, (f3 b hb).1.2.2.2.2.1, (f3 b hb).1.2.2.2.2.2⟩
      have freeC : H5 s3.heap.objs.size = none := by
        rw [← cL]
        exact J6.free
      obtain ⟨m, hm, _⟩ := J6.loc
      have hm : s6.heap.Ns ce.locals m := hm
      rw [cL] at hm
      obtain ⟨g0, g1, g2, g3, g4, g5⟩ := I3.fpOk (H' := H5) (Nat.le_refl _) freeC
      exact ⟨m, hm, fun h2 sb => ⟨.ref D, H5, I7.turned (t' := s6.toks) (fun b o hb e => (sb.2 b hb).trans e) g0 g1 g3 g4 g5, rfl, fin⟩⟩
    · refine thnF (T.item (blkP X s3 H3 scope ce fp p) rfl rfl rfl hotB i [] s5 _ H5 (fun _ _ => False) J5 (stat J5 n5) st5 go) ?_
      rintro _ s6 ⟨u, rfl, h6⟩
      refine thnF h6 ?_
      rintro _ s7 ⟨x, H7, J7, r7, y7, st7, n7⟩
      refine thnF (pg.run _ s7 _ H7 x u _ (J7.pinned (stat J7 n7) (T.obj _ _ st7)) r7 (step x H7 y7)) ?_
      rintro _ s8 ⟨σ8, H8, J8, hw8, q8⟩
      refine thnF ((pts_nil (X := blkP X s3 H3 scope ce fp p)).run _ s8 σ8 H8 _ J8 q8) ?_
      rintro b s9 ⟨H9, J9, q9⟩
      have next : ∀ {s' : Shared} {H' : Hp}, Inv (blkP X s3 H3 scope ce fp p) ([] ++ pinsAt fp s7.heap) σ8 H' s' → Nx H' → ∃ m, m < n ∧ ∃ i H', Inv (blkP X s3 H3 scope ce fp p) [] (wipe σ (own.map (·.2))) H' s' ∧ tn i s'.heap ∧ (∀ b ∈ fp, H' b = none) ∧ W i m H' := fun {s' H'} J nx => by
        obtain ⟨m, hm, w'⟩ := hNx H' nx
        have stay : ∀ b ∈ fp, ∀ o, s7.heap.get? b = some o → s'.heap.get? b = some o ∧ H' b = none := fun b hb o e => by
          have z := J.pin (b, o) (List.mem_append_right _ (List.mem_append_right _ (mem_pinsAt hb e)))
          exact ⟨z.1, z.2.1⟩
        refine ⟨m, hm, i + 1, H', (J.unpinned (pins := [])).weak (by rw [← hw8, wipe_length]) (fun j v e => ?_), T.keep _ _ _ st7 fun b hb o e => (stay b hb o e).1, fun b hb => ?_, w'⟩
        · rw [← hw8] at e
          exact (wipe_some e).1
        · obtain ⟨o, e, _⟩ := T.obj _ _ st7 b hb
          exact (stay b hb o e).2
      cases b with
      | false =>
        simp only [Bool.false_eq_true, if_false] at q9 ⊢
        exact next J9 q9
      | true =>
        simp only [if_true] at q9 ⊢
        refine thnF (pe.run _ s9 σ8 H9 _ J9 q9) ?_
        rintro z s10 ⟨yv, H10, J10, r10, acc, hD10, hz10, nx⟩
        exact app_ok (X := blkP X s3 H3 scope ce fp p) J10 hD10 hz10 r10 fun s11 J11 => next J11 nx
end
end K17
namespace K17
open PySem L2
/-! _law_kinds, _law_only, while an exception is handled. -/
local macro_rules | `(tactic| walk_at "gg") => `(tactic| repeat (first | with_reducible refine w_nt ?_ | with_reducible refine w_nf ?_ | with_reducible refine w_raise ?_ | with_reducible refine w_orS (by with_unfolding_all rfl) ?_ | with_reducible refine iteT ?_ | with_reducible refine iteF ?_ | with_reducible refine w_isNN ?_ | with_reducible refine w_isNI ?_ | with_reducible refine w_isNR ?_ | with_reducible refine w_notNN ?_ | with_reducible refine w_notNI ?_ | with_reducible refine w_notNR ?_ | with_reducible refine w_var (by with_unfolding_all rfl) ?_ | with_reducible refine w_c ?_ | with_reducible refine w_seq ?_ | with_reducible refine w_set ?_ | with_reducible refine w_ret ?_ | with_reducible refine w_if ?_ | with_reducible refine w_op ?_ | with_reducible refine w_ii ?_ | with_reducible refine w_test ?_ | with_reducible refine w_bl ?_ | with_reducible refine w_cb ?_ | with_reducible refine w_call ?_ | with_reducible refine w_nil ?_ | with_reducible refine w_cons ?_ | with_reducible refine w_eqI ?_ | with_reducible refine w_eqS ?_ | with_reducible refine w_neI ?_ | with_reducible refine w_neS ?_ | with_reducible refine w_andV ?_ | with_reducible refine w_orV ?_ | with_reducible refine w_notV ?_ | with_reducible refine w_and ?_ | with_reducible refine w_or ?_ | with_reducible refine w_not ?_ | with_reducible refine w_ifE ?_ | with_reducible refine w_chain ?_ | with_reducible refine w_B ?_ | with_reducible refine w_drop ?_ | with_reducible refine w_next ?_ | with_reducible refine w_un ?_ | with_reducible refine w_iu ?_ | with_reducible refine w_isN ?_ | with_reducible refine w_notN ?_ | with_reducible refine w_int1 ?_ | with_reducible refine w_abs ?_ | with_reducible refine w_min ?_ | with_reducible refine w_max ?_ | with_reducible refine w_tup ?_ | with_reducible refine w_lst ?_ | with_reducible refine w_sl ?_ | with_reducible refine w_noPart ?_ | with_reducible refine w_part ?_ | with_reducible refine w_pi ?_ | with_reducible refine w_bm ?_ | with_reducible refine w_tyS ?_ | with_reducible refine w_m1 ?_ | with_reducible refine w_str ?_ | with_reducible refine w_forL ?_ | with_reducible refine w_forT ?_ | with_reducible refine w_forR1 ?_ | with_reducible refine w_forS ?_ | with_reducible refine w_lcL ?_ | with_reducible refine w_lcT ?_ | with_reducible refine w_lcR1 ?_ | with_reducible refine w_lcR2 ?_ | with_reducible refine w_yes ?_ | with_reducible refine w_asgSub ?_ | with_reducible refine w_callS ?_ | with_reducible refine w_forQ ?_ | with_reducible refine w_forM ?_ | with_reducible refine w_forZ ?_ | with_reducible refine w_forE ?_ | with_reducible refine w_par ?_ | with_reducible refine w_two ?_ | with_reducible refine w_dget2 ?_))
open PySem.Spec PyProof.Rows L2H
theorem roomH_units {k : Nat} {A : Around} (r : RoomH k A) : A.units + 64 < cLine := by
  have := r.un
  omega
/-- the exception of the class D, the n-th of eleven -/
structure EKind (K : PySem.W.Frag) (a : Ad) (D f : Addr) (fld : Str) (n : Int) : Prop where
  ef : ExcF K D f fld
  je : PySem.W.kitOne K (.ref D) (.ref a.C_JointError) = some true
  ve : PySem.W.kitOne K (.ref D) (.type "ValueError") = some true
  k0 : PySem.W.kitOne K (.ref D) (.ref a.C_BadStructure) = some (decide (((0 : Nat) : Int) = n))
  k1 : PySem.W.kitOne K (.ref D) (.ref a.C_BadModulus) = some (decide (((1 : Nat) : Int) = n))
  k2 : PySem.W.kitOne K (.ref D) (.ref a.C_BadProgram) = some (decide (((2 : Nat) : Int) = n))
  k3 : PySem.W.kitOne K (.ref D) (.ref a.C_BadInputs) = some (decide (((3 : Nat) : Int) = n))
  k4 : PySem.W.kitOne K (.ref D) (.ref a.C_BadGroup) = some (decide (((4 : Nat) : Int) = n))
  k5 : PySem.W.kitOne K (.ref D) (.ref a.C_BadTable) = some (decide (((5 : Nat) : Int) = n))
  k6 : PySem.W.kitOne K (.ref D) (.ref a.C_BadText) = some (decide (((6 : Nat) : Int) = n))
  k7 : PySem.W.kitOne K (.ref D) (.ref a.C_BadCoins) = some (decide (((7 : Nat) : Int) = n))
  k8 : PySem.W.kitOne K (.ref D) (.ref a.C_BadLies) = some (decide (((8 : Nat) : Int) = n))
  k9 : PySem.W.kitOne K (.ref D) (.ref a.C_BadTurn) = some (decide (((9 : Nat) : Int) = n))
  k10 : PySem.W.kitOne K (.ref D) (.ref a.C_BadTalk) = some (decide (((10 : Nat) : Int) = n))
def kindB (n : Int) (j : Nat) : V := .bl (decide ((j : Int) = n))
section
variable {P : Program} {w : World} {K : PySem.W.Frag} {mg : Str → Option Value} {base : Heap} {a : Ad}
theorem ek_text (T : Txt K mg w a) : EKind K a a.C_BadText a.g_BadText "place" 6 := ⟨T.X_BadText, T.is_BadText_JointError, T.is_BadText_VE, T.is_BadText_BadStructure, T.is_BadText_BadModulus, T.is_BadText_BadProgram, T.is_BadText_BadInputs, T.is_BadText_BadGroup, T.is_BadText_BadTable, T.is_BadText_BadText, T.is_BadText_BadCoins, T.is_BadText_BadLies, T.is_BadText_BadTurn, T.is_BadText_BadTalk⟩
theorem ek_prog (T : Txt K mg w a) : EKind K a a.C_BadProgram a.g_BadProgram "row" 2 := ⟨T.X_BadProgram, T.is_BadProgram_JointError, T.is_BadProgram_VE, T.is_BadProgram_BadStructure, T.is_BadProgram_BadModulus, T.is_BadProgram_BadProgram, T.is_BadProgram_BadInputs, T.is_BadProgram_BadGroup, T.is_BadProgram_BadTable, T.is_BadProgram_BadText, T.is_BadProgram_BadCoins, T.is_BadProgram_BadLies, T.is_BadProgram_BadTurn, T.is_BadProgram_BadTalk⟩
/-- isinstance of it -/
theorem w_isX {D p dd C : Addr} {b : Bool} {fs : List (Str × V)} {H : Hp} {Q : VK} (hd : H dd = some (.xd fs)) (e : PySem.W.kitOne K (.ref D) (.ref C) = some b) (q : Q (.bl b) H) : rIsX K D p dd [.ref p, .ref C] H Q := ⟨.ref C, .ref C, b, fs, rfl, fun u r => r, hd, e, q⟩
theorem w_isXT {D p dd : Addr} {n : String} {b : Bool} {fs : List (Str × V)} {H : Hp} {Q : VK} (hd : H dd = some (.xd fs)) (e : PySem.W.kitOne K (.ref D) (.type n) = some b) (q : Q (.bl b) H) : rIsX K D p dd [.ref p, .ty n] H Q := ⟨.ty n, .type n, b, fs, rfl, fun u r => r, hd, e, q⟩
/-- what is at hand of p -/
structure XAt (K : PySem.W.Frag) (a : Ad) (D f dd : Addr) (fld : Str) (n : Int) (p : Addr × Obj) : Prop where
  ek : EKind K a D f fld n
  hz : Zc (.ref D) (some dd) p.2
  hf : ∃ vs, p.2.data = .fields vs
def spKinds (K : PySem.W.Frag) (a : Ad) (p : Addr × Obj) : Sp := fun vs H Q _ => ∃ (D f dd : Addr) (fld : Str) (n : Int) (fs : List (Str × V)), XAt K a D f dd fld n p ∧ vs = [.ref p.1] ∧ H dd = some (.xd fs) ∧ ∀ H' l, Same H H' → H' l = some (.lst ((List.range 11).map (kindB n))) → Q (.ref l) H'
theorem i_spKinds {D f dd : Addr} {fld : Str} {n : Int} {fs : List (Str × V)} {p : Addr × Obj} {H : Hp} {Q : VK} {E : XK} (x : XAt K a D f dd fld n p) (hd : H dd = some (.xd fs)) (q : ∀ H' l, Same H H' → H' l = some (.lst ((List.range 11).map (kindB n))) → Q (.ref l) H') : spKinds K a p [.ref p.1] H Q E :=
  ⟨D, f, dd, fld, n, fs, x, rfl, hd, q⟩
theorem ok__law_kinds (T : Txt K mg w a) : ∃ fd, FnE P w K mg base 1 a.f__law_kinds fd ["_law_error"] (spKinds K a) ∧ L2.Binds K fd ["_law_error"] [] := by
  obtain ⟨fd, F, b⟩ := T.F__law_kinds
  refine ⟨fd, okE F sc__law_kinds (fun p vs H Q E h => ?_) (fun p cdv A outer s H vs Q hot hr h => ?_), b⟩
  · obtain ⟨D, f, dd, fld, n, fs, x, rfl, _⟩ := h
    rfl
  · obtain ⟨D, f, dd, fld, n, fs, ⟨ek, hz, hf⟩, rfl, hd, q⟩ := h
    refine ⟨_, (pss_cons (ps_set (i := 1) sc__law_kinds.nd rfl (Or.inl rfl) (pe_lst (pa_cons (pe_callB (call_isX (p := p) (List.mem_singleton.mpr rfl) hz hf ek.ef T.sp_class T.tk_class) (by rfl) T.z_isinstance bt_isinstance (pa_cons (pv 0) (pa_cons (pe_glob (v := .ref a.C_BadStructure) rfl T.A_BadStructure rfl) pa_nil))) (pa_cons (pe_callB (call_isX (p := p) (List.mem_singleton.mpr rfl) hz hf ek.ef T.sp_class T.tk_class) (by rfl) T.z_isinstance bt_isinstance (pa_cons (pv 0) (pa_cons (pe_glob (v := .ref a.C_BadModulus) rfl T.A_BadModulus rfl) pa_nil))) (pa_cons (pe_callB (call_isX (p := p) (List.mem_singleton.mpr rfl) hz hf ek.ef T.sp_class T.tk_class) (by rfl) T.z_isinstance bt_isinstance (pa_cons (pv 0) (pa_cons (pe_glob (v := .ref a.C_BadProgram) rfl T.A_BadProgram rfl) pa_nil))) pa_nil)))))
      (pss_cons (ps_set (i := 1) sc__law_kinds.nd rfl (Or.inl rfl) (pe_op op_cat (pv 1) (pe_lst (pa_cons (pe_callB (call_isX (p := p) (List.mem_singleton.mpr rfl) hz hf ek.ef T.sp_class T.tk_class) (by rfl) T.z_isinstance bt_isinstance (pa_cons (pv 0) (pa_cons (pe_glob (v := .ref a.C_BadInputs) rfl T.A_BadInputs rfl) pa_nil))) (pa_cons (pe_callB (call_isX (p := p) (List.mem_singleton.mpr rfl) hz hf ek.ef T.sp_class T.tk_class) (by rfl) T.z_isinstance bt_isinstance (pa_cons (pv 0) (pa_cons (pe_glob (v := .ref a.C_BadGroup) rfl T.A_BadGroup rfl) pa_nil))) (pa_cons (pe_callB (call_isX (p := p) (List.mem_singleton.mpr rfl) hz hf ek.ef T.sp_class T.tk_class) (by rfl) T.z_isinstance bt_isinstance (pa_cons (pv 0) (pa_cons (pe_glob (v := .ref a.C_BadTable) rfl T.A_BadTable rfl) pa_nil))) pa_nil))))))
      (pss_cons (ps_set (i := 1) sc__law_kinds.nd rfl (Or.inl rfl) (pe_op op_cat (pv 1) (pe_lst (pa_cons (pe_callB (call_isX (p := p) (List.mem_singleton.mpr rfl) hz hf ek.ef T.sp_class T.tk_class) (by rfl) T.z_isinstance bt_isinstance (pa_cons (pv 0) (pa_cons (pe_glob (v := .ref a.C_BadText) rfl T.A_BadText rfl) pa_nil))) (pa_cons (pe_callB (call_isX (p := p) (List.mem_singleton.mpr rfl) hz hf ek.ef T.sp_class T.tk_class) (by rfl) T.z_isinstance bt_isinstance (pa_cons (pv 0) (pa_cons (pe_glob (v := .ref a.C_BadCoins) rfl T.A_BadCoins rfl) pa_nil))) (pa_cons (pe_callB (call_isX (p := p) (List.mem_singleton.mpr rfl) hz hf ek.ef T.sp_class T.tk_class) (by rfl) T.z_isinstance bt_isinstance (pa_cons (pv 0) (pa_cons (pe_glob (v := .ref a.C_BadLies) rfl T.A_BadLies rfl) pa_nil))) pa_nil))))))
      (pss_one (ps_ret (pe_op op_cat (pv 1) (pe_lst (pa_cons (pe_callB (call_isX (p := p) (List.mem_singleton.mpr rfl) hz hf ek.ef T.sp_class T.tk_class) (by rfl) T.z_isinstance bt_isinstance (pa_cons (pv 0) (pa_cons (pe_glob (v := .ref a.C_BadTurn) rfl T.A_BadTurn rfl) pa_nil))) (pa_cons (pe_callB (call_isX (p := p) (List.mem_singleton.mpr rfl) hz hf ek.ef T.sp_class T.tk_class) (by rfl) T.z_isinstance bt_isinstance (pa_cons (pv 0) (pa_cons (pe_glob (v := .ref a.C_BadTalk) rfl T.A_BadTalk rfl) pa_nil))) pa_nil))))))))), ?_⟩
    walk_at "gg"
    refine w_isX hd ek.k0 ?_
    walk_at "gg"
    refine w_isX hd ek.k1 ?_
    walk_at "gg"
    refine w_isX hd ek.k2 ?_
    walk_at "gg"
    refine w_newL (by show 3 ≤ 1000000; decide) (fun l1 H1 _ s1 e1 => ?_)
    have hd1 := s1 _ _ hd
    walk_at "gg"
    refine w_isX hd1 ek.k3 ?_
    walk_at "gg"
    refine w_isX hd1 ek.k4 ?_
    walk_at "gg"
    refine w_isX hd1 ek.k5 ?_
    walk_at "gg"
    refine w_newL (by show 3 ≤ 1000000; decide) (fun l2 H2 _ s2 e2 => ?_)
    walk_at "gg"
    refine w_catL (s2 _ _ e1) e2 (by show 3 + 3 ≤ 1000000; decide) (fun l3 H3 _ s3 e3 => ?_)
    have hd3 := s3 _ _ (s2 _ _ hd1)
    walk_at "gg"
    refine w_isX hd3 ek.k6 ?_
    walk_at "gg"
    refine w_isX hd3 ek.k7 ?_
    walk_at "gg"
    refine w_isX hd3 ek.k8 ?_
    walk_at "gg"
    refine w_newL (by show 3 ≤ 1000000; decide) (fun l4 H4 _ s4 e4 => ?_)
    walk_at "gg"
    refine w_catL (s4 _ _ e3) e4 (by show 6 + 3 ≤ 1000000; decide) (fun l5 H5 _ s5 e5 => ?_)
    have hd5 := s5 _ _ (s4 _ _ hd3)
    walk_at "gg"
    refine w_isX hd5 ek.k9 ?_
    walk_at "gg"
    refine w_isX hd5 ek.k10 ?_
    walk_at "gg"
    refine w_newL (by show 2 ≤ 1000000; decide) (fun l6 H6 _ s6 e6 => ?_)
    walk_at "gg"
    refine w_catL (s6 _ _ e5) e6 (by show 9 + 2 ≤ 1000000; decide) (fun l7 H7 _ s7 e7 => ?_)
    exact q H7 l7 (s1.trans (s2.trans (s3.trans (s4.trans (s5.trans (s6.trans s7)))))) e7
theorem datL_bools {H : Hp} : ∀ bs : List Bool, DatL (fun _ => True) H (bs.map V.bl) (bs.map PyData.bool)
  | [] => .nil
  | b :: r => .cons (.bl b) (datL_bools r)
theorem canLay_bools : ∀ bs : List Bool, PyData.canLayAll0 (bs.map PyData.bool) = true
  | [] => rfl
  | n :: ns => by
    show (PyData.canLay0 (.bool n) && PyData.canLayAll0 (ns.map PyData.bool)) = true
    rw [canLay_bools ns]
    rfl
theorem depth_bools : ∀ bs : List Bool, PyData.depthAll (bs.map PyData.bool) = 0
  | [] => rfl
  | n :: ns => by
    show max (PyData.depth (.bool n)) (PyData.depthAll (ns.map PyData.bool)) = 0
    rw [depth_bools ns]
    rfl
theorem shaped_bools (bs : List Bool) : PyData.canLay0 (.list (bs.map PyData.bool)) = true ∧ SeqAt.shaped (.list (bs.map PyData.bool)) = true := by
  have h1 : PyData.canLay0 (.list (bs.map PyData.bool)) = true := canLay_bools bs
  have h2 : PyData.depth (.list (bs.map PyData.bool)) = 1 := by
    show PyData.depthAll (bs.map PyData.bool) + 1 = 1
    rw [depth_bools]
  refine ⟨h1, ?_⟩
  unfold SeqAt.shaped
  rw [h1, h2]
  rfl
def spOnly (K : PySem.W.Frag) (a : Ad) (p : Addr × Obj) : Sp := fun vs H Q _ => ∃ (D f dd : Addr) (fld : Str) (n : Int) (fs : List (Str × V)), XAt K a D f dd fld n p ∧ vs = [.ref p.1, .int n] ∧ H dd = some (.xd fs) ∧ ∀ H', Same H H' → Q (.bl true) H'
theorem i_spOnly {D f dd : Addr} {fld : Str} {n : Int} {fs : List (Str × V)} {p : Addr × Obj} {H : Hp} {Q : VK} {E : XK} (x : XAt K a D f dd fld n p) (hd : H dd = some (.xd fs)) (q : ∀ H', Same H H' → Q (.bl true) H') : spOnly K a p [.ref p.1, .int n] H Q E := ⟨D, f, dd, fld, n, fs, x, rfl, hd, q⟩
theorem ok__law_only (T : Txt K mg w a) : ∃ fd, FnE P w K mg base 2 a.f__law_only fd ["_law_error", "_law_at"] (spOnly K a) ∧ L2.Binds K fd ["_law_error", "_law_at"] [] := by
  obtain ⟨fd, F, b⟩ := T.F__law_only
  obtain ⟨fd1, G__law_kinds, b__law_kinds⟩ := ok__law_kinds (P := P) (base := base) T
  refine ⟨fd, okE F sc__law_only (fun p vs H Q E h => ?_) (fun p cdv A outer s H vs Q hot hr h => ?_), b⟩
  · obtain ⟨D, f, dd, fld, n, fs, x, rfl, _⟩ := h
    rfl
  · obtain ⟨D, f, dd, fld, n, fs, ⟨ek, hz, hf⟩, rfl, hd, q⟩ := h
    refine ⟨_, (pss_cons (ps_if (PW.pt (pw_or (pt_not (pt_val (pe_callB (call_isX (p := p) (List.mem_singleton.mpr rfl) hz hf ek.ef T.sp_class T.tk_class) (by rfl) T.z_isinstance bt_isinstance (pa_cons (pv 0) (pa_cons (pe_glob (v := .ref a.C_JointError) rfl T.A_JointError rfl) pa_nil))))) (pw_or1 (pt_not (pt_val (pe_callB (call_isX (p := p) (List.mem_singleton.mpr rfl) hz hf ek.ef T.sp_class T.tk_class) (by rfl) T.z_isinstance bt_isinstance (pa_cons (pv 0) (pa_cons (pe_bltn (v := .ty "ValueError") rfl T.z_ValueError bt_ValueError rfl) pa_nil)))))))) (pss_one (ps_ret pe_bl)) pss_nil)
      (pss_one (ps_ret (pe_cmpR (op_eqD (roomH_units hr)) (pe_callE G__law_kinds (hr.mono (by decide)) (p := p) ⟨⟨hot.1, hot.2⟩, List.mem_singleton.mpr rfl⟩ (by rfl) T.a__law_kinds T.k__law_kinds b__law_kinds (pa_cons (pv 0) pa_nil)) (pe_lcP (own := [("_law_k", 2)]) (g := gName 2) (p := p) ⟨⟨hot.1, hot.2⟩, List.mem_singleton.mpr rfl⟩ sc__law_only.nd (pi_range1H (by rfl) T.z_range (pa_cons pe_int pa_nil)) (blkOk_by (own := [("_law_k", 2)]) (N := ["_law_error", "_law_at", "_law_k"]) (sc := defScope s__law_only) (by decide +kernel)) (fun _ _ _ _ _ => pg_name (i := 2) sc__law_only.nd rfl (Or.inl rfl)) (fun _ _ _ _ _ => (pe_cmpR op_eq (pv 2) (pv 1) (nomark _)))) (nomark _))))), ?_⟩
    walk_at "gg"
    refine w_isX hd ek.je ?_
    walk_at "gg"
    refine w_isXT hd ek.ve ?_
    walk_at "gg"
    refine i_spKinds ⟨ek, hz, hf⟩ hd (fun H1 l1 s1 e1 => ?_)
    walk_at "gg"
    refine ⟨by decide, by decide, ?_⟩
    refine w_compR (fun x => rfl) (by decide) (fun j acc H' => Same H1 H' ∧ acc = (List.range j).map (kindB n)) (fun H' s => ⟨s, rfl⟩) (fun d j acc H' o hd' r => ⟨fun b x e => by rw [upd_ne (ne_of_none e hd')]; exact r.1 b x e, r.2⟩)
      (fun d j acc H' hj r nd ed la PP NN hP hN => ?_) (fun d acc H' r nd ed la => ?_)
    · obtain ⟨s2, rfl⟩ := r
      walk_at "gg"
      refine hP _ _ ed ⟨s2, ?_⟩
      rw [List.range_succ, List.map_append]
      show _ = _ ++ [V.bl (decide ((j : Int) = n))]
      rw [Int.zero_add]
    · obtain ⟨s2, rfl⟩ := r
      have eb : (List.range 11).map (kindB n) = ((List.range 11).map fun j => decide (((j : Nat) : Int) = n)).map V.bl := by rw [List.map_map]; rfl
      have sh := shaped_bools ((List.range 11).map fun j => decide (((j : Nat) : Int) = n))
      have ed : H' d = some (.lst ((List.range 11).map (kindB n))) := ed
      have e1 := s2 _ _ e1
      rw [eb] at ed e1
      refine w_eqD (Dat.dp (.lst (ok := fun _ => True) trivial e1 (datL_bools _))) (Dat.dp (.lst (ok := fun _ => True) trivial ed (datL_bools _))) sh.2 sh.2 ?_
      rw [SeqAt.eqv_refl _ sh.1]
      exact q H' (s1.trans s2)
end
end K17
namespace K17
open PySem L2
/-! The program's checker: is_earlier, is_right, check_program. -/
local macro_rules | `(tactic| walk_at "gg") => `(tactic| repeat (first | with_reducible refine w_nt ?_ | with_reducible refine w_nf ?_ | with_reducible refine w_raise ?_ | with_reducible refine w_orS (by with_unfolding_all rfl) ?_ | with_reducible refine iteT ?_ | with_reducible refine iteF ?_ | with_reducible refine w_isNN ?_ | with_reducible refine w_isNI ?_ | with_reducible refine w_isNR ?_ | with_reducible refine w_notNN ?_ | with_reducible refine w_notNI ?_ | with_reducible refine w_notNR ?_ | with_reducible refine w_var (by with_unfolding_all rfl) ?_ | with_reducible refine w_c ?_ | with_reducible refine w_seq ?_ | with_reducible refine w_set ?_ | with_reducible refine w_ret ?_ | with_reducible refine w_if ?_ | with_reducible refine w_op ?_ | with_reducible refine w_ii ?_ | with_reducible refine w_test ?_ | with_reducible refine w_bl ?_ | with_reducible refine w_cb ?_ | with_reducible refine w_call ?_ | with_reducible refine w_nil ?_ | with_reducible refine w_cons ?_ | with_reducible refine w_eqI ?_ | with_reducible refine w_eqS ?_ | with_reducible refine w_neI ?_ | with_reducible refine w_neS ?_ | with_reducible refine w_andV ?_ | with_reducible refine w_orV ?_ | with_reducible refine w_notV ?_ | with_reducible refine w_and ?_ | with_reducible refine w_or ?_ | with_reducible refine w_not ?_ | with_reducible refine w_ifE ?_ | with_reducible refine w_chain ?_ | with_reducible refine w_B ?_ | with_reducible refine w_drop ?_ | with_reducible refine w_next ?_ | with_reducible refine w_un ?_ | with_reducible refine w_iu ?_ | with_reducible refine w_isN ?_ | with_reducible refine w_notN ?_ | with_reducible refine w_int1 ?_ | with_reducible refine w_abs ?_ | with_reducible refine w_min ?_ | with_reducible refine w_max ?_ | with_reducible refine w_tup ?_ | with_reducible refine w_lst ?_ | with_reducible refine w_sl ?_ | with_reducible refine w_noPart ?_ | with_reducible refine w_part ?_ | with_reducible refine w_pi ?_ | with_reducible refine w_bm ?_ | with_reducible refine w_tyS ?_ | with_reducible refine w_m1 ?_ | with_reducible refine w_str ?_ | with_reducible refine w_forL ?_ | with_reducible refine w_forT ?_ | with_reducible refine w_forR1 ?_ | with_reducible refine w_forS ?_ | with_reducible refine w_lcL ?_ | with_reducible refine w_lcT ?_ | with_reducible refine w_lcR1 ?_ | with_reducible refine w_lcR2 ?_ | with_reducible refine w_yes ?_ | with_reducible refine w_asgSub ?_ | with_reducible refine w_callS ?_ | with_reducible refine w_forQ ?_ | with_reducible refine w_forM ?_ | with_reducible refine w_forZ ?_ | with_reducible refine w_forE ?_ | with_reducible refine w_par ?_ | with_reducible refine w_two ?_ | with_reducible refine w_dget2 ?_))
/-- sizes of a row's parts -/
def partSm : PyData → Prop
  | .tuple ps => ps.length ≤ 100
  | _ => True
def rowSm (m : Nat) : PyData → Prop
  | .tuple es => es.length ≤ m ∧ ∀ e ∈ es, partSm e
  | _ => True
theorem tells_get {ds : List PyData} {n i : Nat} {k : Str} {rest : List PyData} (hi : i < n) (hn : n ≤ ds.length) (h : ds[i]? = some (.tuple (.str k :: rest))) : ((ds.take n).map isTell).getD i true = decide (k = "tell") := by
  rw [List.getD_eq_getElem?_getD, List.getElem?_map, List.getElem?_take_of_lt hi, h]
  rfl
theorem tells_len {ds : List PyData} {n : Nat} (hn : n ≤ ds.length) : ((ds.take n).map isTell).length = n := by
  rw [List.length_map, List.length_take, Nat.min_eq_left hn]
/-- the rows so far: each a tuple, a text first -/
def preOk (ds : List PyData) (n : Nat) : Prop := ∀ i, i < n → ∃ k rest, ds[i]? = some (.tuple (.str k :: rest))
theorem use_not {tells : List Bool} {d : PyData} (h : isIntD d = false) : useOk tells d = false := by
  cases d <;> first | rfl | cases h
theorem use_eq {tells : List Bool} (i : Int) : useOk tells (.int i) = (decide (0 ≤ i) && (decide (i < (tells.length : Int)) && !(tells.getD i.toNat true))) := rfl
section
variable {P : Program} {w : World} {K : PySem.W.Frag} {mg : Str → Option Value} {base : Heap} {a : Ad}
def spEarlier : Sp := fun vs H Q _ => ∃ (p : Addr) (xs : List V) (ds : List PyData) (n : Nat) (v : V) (d : PyData) (ok ok' : Addr → Prop), vs = [.ref p, .int n, v] ∧ H p = some (.tup xs) ∧ DatL ok H xs ds ∧ n ≤ ds.length ∧ preOk ds n ∧ Dat ok' H v d ∧ Q (.bl (useOk ((ds.take n).map isTell) d)) H
theorem i_spEarlier {p : Addr} {xs : List V} {ds : List PyData} {n : Nat} {v : V} {d : PyData} {ok ok' : Addr → Prop} {H : Hp} {Q : VK} {E : XK} (h1 : H p = some (.tup xs)) (h2 : DatL ok H xs ds) (h3 : n ≤ ds.length) (h4 : preOk ds n) (h5 : Dat ok' H v d) (q : Q (.bl (useOk ((ds.take n).map isTell) d)) H) :
    spEarlier [.ref p, .int n, v] H Q E := ⟨p, xs, ds, n, v, d, ok, ok', rfl, h1, h2, h3, h4, h5, q⟩
theorem ok_is_earlier (T : Txt K mg w a) : Ok P w K mg base 2 a.f_is_earlier ["program", "number", "value"] spEarlier := by
  obtain ⟨fd, F, b⟩ := T.F_is_earlier
  obtain ⟨fd1, G_is_integer, b_is_integer⟩ := ok_is_integer (P := P) (base := base) T
  refine ⟨fd, F.ok sc_is_earlier (fun vs H Q E h => ?_) (fun cdv A outer s H vs Q E hr h => ?_), b⟩
  · obtain ⟨p, xs, ds, n, v, d, ok, ok', rfl, _⟩ := h
    rfl
  · obtain ⟨p, xs, ds, n, v, d, ok, ok', rfl, hp, hds, hn, pre, hd, q⟩ := h
    refine ⟨_, (pss_one (ps_ret (pe_and (pe_call G_is_integer (hr.mono (by decide)) (by rfl) T.a_is_integer T.k_is_integer b_is_integer .nil pass0 (pa_cons (pv 2) pa_nil)) (pe_and (pe_chain op_le op_lt pe_int (pv 2) (pv 1)) (pe_one (pe_cmpR op_ne (pe_ix ix_tup (pe_ix ix_tup (pv 0) (pv 2) (fun _ _ => rfl)) pe_int (fun _ _ => rfl)) pe_str (nomark _))))))), ?_⟩
    walk_at "gg"
    refine i_spInt hd ?_
    walk_at "gg"
    refine w_ite (fun e => ?_) (fun e => ?_)
    · obtain ⟨i, rfl, rfl⟩ := int_of hd e
      rw [use_eq, tells_len hn] at q
      walk_at "gg"
      refine w_dec (fun c => ?_) (fun c => ?_)
      · walk_at "gg"
        refine w_dec (fun c2 => ?_) (fun c2 => ?_)
        · obtain ⟨j, rfl⟩ := Int.eq_ofNat_of_zero_le c
          have hj : j < n := by omega
          obtain ⟨k, rest, hk⟩ := pre j hj
          obtain ⟨x, hx, dx⟩ := hds.get' hk
          cases dx with
          | tup hr2 hrd =>
            cases hrd with
            | cons hs hrest =>
              cases hs
              walk_at "gg"
              refine w_ixT hp (atI_nat hx) ?_
              walk_at "gg"
              refine w_ixT hr2 at_hd ?_
              walk_at "gg"
              rw [decide_eq_true c, decide_eq_true c2, Bool.true_and, Bool.true_and, show ((j : Nat) : Int).toNat = j from rfl, tells_get hj hn hk] at q
              exact q
        · rw [decide_eq_false c2, Bool.false_and, Bool.and_false] at q
          exact q
      · walk_at "gg"
        rw [decide_eq_false c, Bool.false_and] at q
        exact q
    · rw [use_not e] at q
      exact q
def spRight : Sp := fun vs H Q _ => ∃ (p : Addr) (xs : List V) (ds : List PyData) (n : Nat) (m : Int) (d : PyData) (ok : Addr → Prop), vs = [.ref p, .int n, .int m] ∧ H p = some (.tup xs) ∧ DatL ok H xs ds ∧ ds[n]? = some d ∧ rowSm 1000 d ∧ preOk ds n ∧ ∀ H', Same H H' → Q (.bl (rowRight ((ds.take n).map isTell) m d)) H'
theorem right_cons {tells : List Bool} {n : Int} {k : Str} {rest : List PyData} : rowRight tells n (.tuple (.str k :: rest)) = if k = "put" ∨ k = "number" then oneOk k n rest else twoOk k tells n rest := rfl
theorem one_len {k : Str} {n : Int} {rest : List PyData} (h : rest.length ≠ 1) : oneOk k n rest = false := by
  match rest, h with
  | [], _ => rfl
  | [_], h => exact absurd rfl h
  | .none :: _ :: _, _ => rfl
  | .bool _ :: _ :: _, _ => rfl
  | .int _ :: _ :: _, _ => rfl
  | .str _ :: _ :: _, _ => rfl
  | .list _ :: _ :: _, _ => rfl
  | .tuple _ :: _ :: _, _ => rfl
  | .dict _ :: _ :: _, _ => rfl
theorem one_not {k : Str} {n : Int} {d : PyData} (h : isIntD d = false) : oneOk k n [d] = false := by
  cases d <;> first | rfl | cases h
theorem one_put {n p : Int} : oneOk "put" n [.int p] = decide (1 ≤ p ∧ p ≤ n) := rfl
theorem one_num {n : Int} {d : PyData} : oneOk "number" n [d] = cOk d := by
  cases d with
  | int i => rfl
  | _ => rfl
theorem two_len {k : Str} {tells : List Bool} {n : Int} {rest : List PyData} (h : rest.length ≠ 2) : twoOk k tells n rest = false := by
  match rest, h with
  | [], _ => rfl
  | [_], _ => rfl
  | [_, _], h => exact absurd rfl h
  | _ :: _ :: _ :: _, _ => rfl
theorem two_eq {k : Str} {tells : List Bool} {n : Int} {d e : PyData} : twoOk k tells n [d, e] = if k = "scale" then cOk d && useOk tells e else if k = "tell" then useOk tells d && groupOk n e
      else if k = "add" ∨ k = "less" ∨ k = "times" then useOk tells d && useOk tells e else false := rfl
theorem right_strange {tells : List Bool} {n : Int} {d : PyData} {rest : List PyData} (h : isStrD d = false) : rowRight tells n (.tuple (d :: rest)) = false := by
  cases d <;> first | rfl | cases h
theorem right_nil {tells : List Bool} {n : Int} : rowRight tells n (.tuple []) = false := rfl
theorem right_not {tells : List Bool} {n : Int} {d : PyData} (h : isTupD d = false) : rowRight tells n d = false := by
  cases d <;> first | rfl | cases h
theorem right_shape {tells : List Bool} {n : Int} {d : PyData} (h : rowRight tells n d = true) : ∃ k rest, d = .tuple (.str k :: rest) := by
  cases d with
  | tuple es =>
    cases es with
    | nil => cases h
    | cons x r =>
      cases x with
      | str k => exact ⟨k, r, rfl⟩
      | _ => cases h
  | _ => cases h
theorem i_spRight {p : Addr} {xs : List V} {ds : List PyData} {n : Nat} {m : Int} {d : PyData} {ok : Addr → Prop} {H : Hp} {Q : VK} {E : XK} (h1 : H p = some (.tup xs)) (h2 : DatL ok H xs ds) (h3 : ds[n]? = some d) (h4 : rowSm 1000 d) (h5 : preOk ds n)
    (q : ∀ H', Same H H' → Q (.bl (rowRight ((ds.take n).map isTell) m d)) H') : spRight [.ref p, .int n, .int m] H Q E := ⟨p, xs, ds, n, m, d, ok, rfl, h1, h2, h3, h4, h5, q⟩
theorem len_ge2 {α : Type} {x y : α} {r : List α} : ¬ (((x :: y :: r).length : Nat) : Int) < 2 := by simp only [List.length_cons]; omega
theorem str_or {ok : Addr → Prop} {H : Hp} {v : V} {d : PyData} (h : Dat ok H v d) : (∃ k, v = .str k ∧ d = .str k) ∨ isStrD d = false := by
  cases h with
  | str k => exact .inl ⟨k, rfl, rfl⟩
  | _ => exact .inr rfl
theorem right_one {tells : List Bool} {n : Int} {d : PyData} : rowRight tells n (.tuple [d]) = false := by
  cases d with
  | str k =>
    rw [right_cons, two_len (by decide), one_len (by decide)]
    split <;> rfl
  | _ => rfl
theorem at_third {x y z : V} {xs : List V} : atI (x :: y :: z :: xs) 2 = some z := atI_nat (j := 2) rfl
theorem mem3 {k x y z : Str} : k ∈ [x, y, z] ↔ k = x ∨ k = y ∨ k = z := by simp
theorem group_eq {n : Int} {ps : List PyData} : groupOk n (.tuple ps) = (decide (0 < ps.length) && peopleOk n 0 ps) := by
  cases ps with
  | nil => rfl
  | cons p r =>
    show peopleOk n 0 (p :: r) = _
    rw [decide_eq_true (by simp), Bool.true_and]
theorem ok_is_right (T : Txt K mg w a) : Ok P w K mg base 4 a.f_is_right ["program", "number", "n"] spRight := by
  obtain ⟨fd, F, b⟩ := T.F_is_right
  obtain ⟨fd1, G_is_integer, b_is_integer⟩ := ok_is_integer (P := P) (base := base) T
  obtain ⟨fd2, G_is_constant, b_is_constant⟩ := ok_is_constant (P := P) (base := base) T
  obtain ⟨fd3, G_is_earlier, b_is_earlier⟩ := ok_is_earlier (P := P) (base := base) T
  obtain ⟨fd4, G_are_people, b_are_people⟩ := ok_are_people (P := P) (base := base) T
  refine ⟨fd, F.ok sc_is_right (fun vs H Q E h => ?_) (fun cdv A outer s H vs Q E hr h => ?_), b⟩
  · obtain ⟨p, xs, ds, n, m, d, ok, rfl, _⟩ := h
    rfl
  · obtain ⟨p, xs, ds, n, m, d, ok, rfl, hp, hds, hn, hsm, pre, q⟩ := h
    have hnl : n ≤ ds.length := Nat.le_of_lt (List.getElem?_eq_some_iff.mp hn).1
    obtain ⟨x, hx, dx⟩ := hds.get' hn
    have q0 := q H (Same.refl H)
    generalize htl : (ds.take n).map isTell = tells at q q0
    refine ⟨_, (pss_cons (ps_set (i := 3) sc_is_right.nd rfl (Or.inl rfl) (pe_ix ix_tup (pv 0) (pv 1) (fun _ _ => rfl)))
      (pss_cons (ps_if (PW.pt (pw_or (pt_not (pt_val (pe_callB call_isi (by rfl) T.z_isinstance bt_isinstance (pa_cons (pv 3) (pa_cons (pe_bltn (v := .ty "tuple") rfl T.z_tuple bt_tuple rfl) pa_nil))))) (pw_or (pt_cmpR op_lt (pe_callB c_len (by rfl) T.z_len bt_len (pa_cons (pv 3) pa_nil)) pe_int (nomark _)) (pw_or1 (pt_not (pt_val (pe_callB call_isi (by rfl) T.z_isinstance bt_isinstance (pa_cons (pe_ix ix_tup (pv 3) pe_int (fun _ _ => rfl)) (pa_cons (pe_bltn (v := .ty "str") rfl T.z_str bt_str rfl) pa_nil))))))))) (pss_one (ps_ret pe_bl)) pss_nil)
      (pss_cons (ps_if (pt_cmpR op_eq (pe_ix ix_tup (pv 3) pe_int (fun _ _ => rfl)) pe_str (nomark _)) (pss_one (ps_ret (pe_and (pe_cmpR op_eq (pe_callB c_len (by rfl) T.z_len bt_len (pa_cons (pv 3) pa_nil)) pe_int (nomark _)) (pe_and (pe_call G_is_integer (hr.mono (by decide)) (by rfl) T.a_is_integer T.k_is_integer b_is_integer .nil pass0 (pa_cons (pe_ix ix_tup (pv 3) pe_int (fun _ _ => rfl)) pa_nil)) (pe_one (pe_chain op_le op_le pe_int (pe_ix ix_tup (pv 3) pe_int (fun _ _ => rfl)) (pv 2))))))) pss_nil)
      (pss_cons (ps_if (pt_cmpR op_eq (pe_ix ix_tup (pv 3) pe_int (fun _ _ => rfl)) pe_str (nomark _)) (pss_one (ps_ret (pe_and (pe_cmpR op_eq (pe_callB c_len (by rfl) T.z_len bt_len (pa_cons (pv 3) pa_nil)) pe_int (nomark _)) (pe_one (pe_call G_is_constant (hr.mono (by decide)) (by rfl) T.a_is_constant T.k_is_constant b_is_constant .nil pass0 (pa_cons (pe_ix ix_tup (pv 3) pe_int (fun _ _ => rfl)) pa_nil)))))) pss_nil)
      (pss_cons (ps_if (pt_cmpR op_ne (pe_callB c_len (by rfl) T.z_len bt_len (pa_cons (pv 3) pa_nil)) pe_int (nomark _)) (pss_one (ps_ret pe_bl)) pss_nil)
      (pss_cons (ps_if (pt_cmpR op_eq (pe_ix ix_tup (pv 3) pe_int (fun _ _ => rfl)) pe_str (nomark _)) (pss_one (ps_ret (pe_and (pe_call G_is_constant (hr.mono (by decide)) (by rfl) T.a_is_constant T.k_is_constant b_is_constant .nil pass0 (pa_cons (pe_ix ix_tup (pv 3) pe_int (fun _ _ => rfl)) pa_nil)) (pe_one (pe_call G_is_earlier (hr.mono (by decide)) (by rfl) T.a_is_earlier T.k_is_earlier b_is_earlier .nil pass0 (pa_cons (pv 0) (pa_cons (pv 1) (pa_cons (pe_ix ix_tup (pv 3) pe_int (fun _ _ => rfl)) pa_nil)))))))) pss_nil)
      (pss_cons (ps_if (pt_cmpR op_eq (pe_ix ix_tup (pv 3) pe_int (fun _ _ => rfl)) pe_str (nomark _)) (pss_one (ps_ret (pe_and (pe_call G_is_earlier (hr.mono (by decide)) (by rfl) T.a_is_earlier T.k_is_earlier b_is_earlier .nil pass0 (pa_cons (pv 0) (pa_cons (pv 1) (pa_cons (pe_ix ix_tup (pv 3) pe_int (fun _ _ => rfl)) pa_nil)))) (pe_and (pe_call G_are_people (hr.mono (by decide)) (by rfl) T.a_are_people T.k_are_people b_are_people .nil pass0 (pa_cons (pe_ix ix_tup (pv 3) pe_int (fun _ _ => rfl)) (pa_cons (pv 2) pa_nil))) (pe_one (pe_cmpR op_gt (pe_callB c_len (by rfl) T.z_len bt_len (pa_cons (pe_ix ix_tup (pv 3) pe_int (fun _ _ => rfl)) pa_nil)) pe_int (nomark _))))))) pss_nil)
      (pss_cons (ps_if (pt_cmpR op_notIn_seq (pe_ix ix_tup (pv 3) pe_int (fun _ _ => rfl)) (pe_tup (pa_cons pe_str (pa_cons pe_str (pa_cons pe_str pa_nil)))) (by with_unfolding_all rfl)) (pss_one (ps_ret pe_bl)) pss_nil)
      (pss_one (ps_ret (pe_and (pe_call G_is_earlier (hr.mono (by decide)) (by rfl) T.a_is_earlier T.k_is_earlier b_is_earlier .nil pass0 (pa_cons (pv 0) (pa_cons (pv 1) (pa_cons (pe_ix ix_tup (pv 3) pe_int (fun _ _ => rfl)) pa_nil)))) (pe_one (pe_call G_is_earlier (hr.mono (by decide)) (by rfl) T.a_is_earlier T.k_is_earlier b_is_earlier .nil pass0 (pa_cons (pv 0) (pa_cons (pv 1) (pa_cons (pe_ix ix_tup (pv 3) pe_int (fun _ _ => rfl)) pa_nil)))))))))))))))), ?_⟩
    walk_at "gg"
    refine w_ixT hp (atI_nat hx) ?_
    walk_at "gg"
    refine w_isi dx (kit_tuple d dx.nd) ?_
    walk_at "gg"
    rcases tup_or dx with ⟨e, r, ys, es, rfl, rfl, hr2, hes⟩ | e
    case inr =>
      rw [e]
      walk_at "gg"
      rw [right_not e] at q0
      exact q0
    rw [e]
    clear e
    walk_at "gg"
    refine w_lenT hr2 ?_
    walk_at "gg"
    match ys, es, hes, hr2, hsm, q, q0 with
    | _, [], .nil, hr2, hsm, q, q0 =>
      refine w_dec (fun c => ?_) (fun c => absurd (show (0 : Int) < 2 by decide) c)
      walk_at "gg"
      exact q0
    | _, [_], .cons hv .nil, hr2, hsm, q, q0 =>
      refine w_dec (fun c => ?_) (fun c => absurd (show (1 : Int) < 2 by decide) c)
      walk_at "gg"
      rw [right_one] at q0
      exact q0
    | x :: y :: vr, d0 :: d1 :: r2, .cons hv (.cons hw hrest), hr2, hsm, q, q0 =>
      refine w_dec (fun c => absurd c len_ge2) (fun c => ?_)
      walk_at "gg"
      refine w_ixT hr2 at_hd ?_
      walk_at "gg"
      refine w_isi hv (kit_str d0 hv.nd) ?_
      walk_at "gg"
      rcases str_or hv with ⟨k, rfl, rfl⟩ | e
      case inr =>
        rw [e]
        walk_at "gg"
        rw [right_strange e] at q0
        exact q0
      show (if (!true) = true then _ else _)
      walk_at "gg"
      refine w_ixT hr2 at_hd ?_
      rw [right_cons] at q0
      simp only [right_cons] at q
      have lys := hrest.length
      walk_at "gg"
      refine w_dec (fun c1 => ?_) (fun c1 => ?_)
      · subst c1
        rw [if_pos (.inl rfl)] at q0
        walk_at "gg"
        refine w_lenT hr2 ?_
        walk_at "gg"
        refine w_dec (fun c2 => ?_) (fun c2 => ?_)
        · match vr, r2, hrest, c2, hr2, q0 with
          | _, [], .nil, c2, hr2, q0 =>
            walk_at "gg"
            refine w_ixT hr2 at_snd ?_
            walk_at "gg"
            refine i_spInt hw ?_
            walk_at "gg"
            refine w_ite (fun e => ?_) (fun e => ?_)
            · obtain ⟨i, rfl, rfl⟩ := int_of hw e
              walk_at "gg"
              refine w_ixT hr2 at_snd ?_
              walk_at "gg"
              rw [one_put] at q0
              refine w_dec (fun c3 => ?_) (fun c3 => ?_)
              · walk_at "gg"
                rw [show decide (1 ≤ i ∧ i ≤ m) = decide (i ≤ m) from decide_eq_decide.mpr ⟨fun z => z.2, fun z => ⟨c3, z⟩⟩] at q0
                exact q0
              · walk_at "gg"
                rw [show decide (1 ≤ i ∧ i ≤ m) = false from decide_eq_false fun z => c3 z.1] at q0
                exact q0
            · rw [one_not e] at q0
              exact q0
          | _, _ :: _, .cons _ _, c2, hr2, q0 =>
            exfalso
            simp only [List.length_cons] at c2
            omega
        · rw [one_len (fun z => c2 (by simp only [List.length_cons] at z ⊢; omega))] at q0
          exact q0
      walk_at "gg"
      refine w_ixT hr2 at_hd ?_
      walk_at "gg"
      refine w_dec (fun c2 => ?_) (fun c2 => ?_)
      · subst c2
        rw [if_pos (.inr rfl)] at q0
        walk_at "gg"
        refine w_lenT hr2 ?_
        walk_at "gg"
        refine w_dec (fun c2 => ?_) (fun c2 => ?_)
        · match vr, r2, hrest, c2, hr2, q0 with
          | _, [], .nil, c2, hr2, q0 =>
            walk_at "gg"
            refine w_ixT hr2 at_snd ?_
            walk_at "gg"
            refine i_spConst hw ?_
            rw [one_num] at q0
            exact q0
          | _, _ :: _, .cons _ _, c2, hr2, q0 =>
            exfalso
            simp only [List.length_cons] at c2
            omega
        · rw [one_len (fun z => c2 (by simp only [List.length_cons] at z ⊢; omega))] at q0
          exact q0
      have c12 : ¬ (k = "put" ∨ k = "number") := fun z => z.elim c1 c2
      rw [if_neg c12] at q0
      walk_at "gg"
      refine w_lenT hr2 ?_
      walk_at "gg"
      refine w_ndec (fun c3 => ?_) (fun c3 => ?_)
      · walk_at "gg"
        rw [two_len (fun z => c3 (by simp only [List.length_cons] at z ⊢; omega))] at q0
        exact q0
      match vr, r2, hrest, c3, hr2, q, q0, hsm with
      | _, [], .nil, c3, _, _, _, _ => exact absurd c3 (by show ¬ (2 : Int) = 3; decide)
      | _, _ :: _ :: _, .cons _ (.cons _ _), c3, _, _, _, _ =>
        exfalso
        simp only [List.length_cons] at c3
        omega
      | z :: _, d2 :: [], .cons hz .nil, c3, hr2, q, q0, hsm =>
        simp only [if_neg c12, two_eq] at q
        rw [two_eq] at q0
        have early : ∀ {v : V} {d : PyData} {E : XK} {Q' : VK}, Dat ok H v d → Q' (.bl (useOk tells d)) H → spEarlier [.ref p, .int n, v] H Q' E := fun dv q' => i_spEarlier hp hds hnl pre dv (by rw [htl]; exact q')
        walk_at "gg"
        refine w_ixT hr2 at_hd ?_
        walk_at "gg"
        refine w_dec (fun c4 => ?_) (fun c4 => ?_)
        · rw [if_pos c4] at q0
          walk_at "gg"
          refine w_ixT hr2 at_snd ?_
          walk_at "gg"
          refine i_spConst hw ?_
          walk_at "gg"
          refine w_ite (fun e => ?_) (fun e => ?_)
          · rw [e, Bool.true_and] at q0
            walk_at "gg"
            refine w_ixT hr2 at_third ?_
            walk_at "gg"
            exact early hz q0
          · rw [e, Bool.false_and] at q0
            exact q0
        rw [if_neg c4] at q0
        simp only [if_neg c4] at q
        walk_at "gg"
        refine w_ixT hr2 at_hd ?_
        walk_at "gg"
        refine w_dec (fun c5 => ?_) (fun c5 => ?_)
        · rw [if_pos c5] at q0
          simp only [if_pos c5] at q
          walk_at "gg"
          refine w_ixT hr2 at_snd ?_
          walk_at "gg"
          refine early hw ?_
          walk_at "gg"
          refine w_ite (fun e => ?_) (fun e => ?_)
          · simp only [e, Bool.true_and] at q
            walk_at "gg"
            refine w_ixT hr2 at_third ?_
            walk_at "gg"
            refine i_spPeople hz (fun ps e3 => by rw [e3] at hsm; exact Nat.le_trans (show ps.length ≤ 100 from hsm.2 (.tuple ps) (by simp)) (by decide)) (fun H1 s1 => ?_)
            walk_at "gg"
            refine w_ite (fun e4 => ?_) (fun e4 => ?_)
            · have q1 := q H1 s1
              rcases tup_or hz with ⟨_, g, gs, ps, rfl, rfl, hg, hgs⟩ | e5
              · rw [group_eq] at q1
                rw [show peopleOk m 0 ps = true from e4, Bool.and_true] at q1
                walk_at "gg"
                refine w_ixT (s1 _ _ hr2) at_third ?_
                walk_at "gg"
                refine w_lenT (s1 _ _ hg) ?_
                walk_at "gg"
                rw [show decide (0 < ps.length) = decide ((0 : Int) < (gs.length : Int)) from decide_eq_decide.mpr (by rw [hgs.length]; omega)] at q1
                exact q1
              · exfalso
                cases d2 with
                | tuple ps => cases e5
                | _ => cases e4
            · have q1 := q H1 s1
              rw [show groupOk m d2 = false by
                cases d2 with
                | tuple ps => rw [group_eq, show peopleOk m 0 ps = false from e4, Bool.and_false]
                | _ => rfl] at q1
              exact q1
          · rw [e, Bool.false_and] at q0
            exact q0
        rw [if_neg c5] at q0
        simp only [if_neg c5] at q
        walk_at "gg"
        refine w_ixT hr2 at_hd ?_
        walk_at "gg"
        refine w_newT (by show 3 ≤ 1000000; decide) (fun t H1 nt s1 et => ?_)
        walk_at "gg"
        refine w_notInT (zs := ["add", "less", "times"]) et ?_
        walk_at "gg"
        have q1 := q H1 s1
        have early1 : ∀ {v : V} {d : PyData} {E : XK} {Q' : VK}, Dat ok H v d → Q' (.bl (useOk tells d)) H1 → spEarlier [.ref p, .int n, v] H1 Q' E := fun dv q' => i_spEarlier (s1 _ _ hp) (hds.same s1) hnl pre (dv.same s1) (by rw [htl]; exact q')
        have hr3 := s1 _ _ hr2
        refine w_ndec (fun c6 => ?_) (fun c6 => ?_)
        · rw [if_neg (fun z => c6 (mem3.mpr z))] at q1
          walk_at "gg"
          exact q1
        · rw [if_pos (mem3.mp c6)] at q1
          walk_at "gg"
          refine w_ixT hr3 at_snd ?_
          walk_at "gg"
          refine early1 hw ?_
          walk_at "gg"
          refine w_ite (fun e => ?_) (fun e => ?_)
          · rw [e, Bool.true_and] at q1
            walk_at "gg"
            refine w_ixT hr3 at_third ?_
            walk_at "gg"
            exact early1 hz q1
          · rw [e, Bool.false_and] at q1
            exact q1
def noE (H : Hp) (C : Addr) (f : Str) (i : Nat) (E : XK) : Prop := ∀ H' d, Same H H' → H' d = some (.xd [(f, .int i)]) → E (.ref C) (some d) H'
def spCheck (a : Ad) : Sp := fun vs H Q E => ∃ (v : V) (d : PyData) (n : Int) (ok : Addr → Prop), vs = [v, .int n] ∧ Dat ok H v d ∧ (∀ ds, d = .tuple ds → ds.length ≤ 400 ∧ ∀ e ∈ ds, rowSm 1000 e) ∧ (faultOf n d = none → ∀ H', Same H H' → Q .non H') ∧
  ∀ i : Nat, faultOf n d = some i → noE H a.C_BadProgram "row" i E
theorem i_spCheck {v : V} {d : PyData} {n : Int} {ok : Addr → Prop} {H : Hp} {Q : VK} {E : XK} (h1 : Dat ok H v d) (h2 : ∀ ds, d = .tuple ds → ds.length ≤ 400 ∧ ∀ e ∈ ds, rowSm 1000 e) (q : faultOf n d = none → ∀ H', Same H H' → Q .non H')
    (o : ∀ i : Nat, faultOf n d = some i → noE H a.C_BadProgram "row" i E) : spCheck a [v, .int n] H Q E := ⟨v, d, n, ok, rfl, h1, h2, q, o⟩
theorem fault_cons {n : Int} {r : PyData} {rs : List PyData} : faultOf n (.tuple (r :: rs)) = firstBad n [] (r :: rs) := rfl
theorem fault_not {n : Int} {d : PyData} (h : isTupD d = false) : faultOf n d = some 0 := by
  cases d with
  | tuple _ => cases h
  | _ => rfl
theorem pre_next {ds : List PyData} {j : Nat} {k : Str} {rest : List PyData} (h : preOk ds j) (e : ds[j]? = some (.tuple (.str k :: rest))) : preOk ds (j + 1) := fun i hi => by
  by_cases hij : i < j
  · exact h i hij
  · have : i = j := by omega
    subst this
    exact ⟨k, rest, e⟩
theorem ok_check_program (T : Txt K mg w a) : OkN P w K mg base 5 a.f_check_program ["program", "n"] (spCheck a) := by
  obtain ⟨fd, F, b⟩ := T.F_check_program
  obtain ⟨fd1, G_is_right, b_is_right⟩ := ok_is_right (P := P) (base := base) T
  obtain ⟨fd2, G_init_BadProgram, b_init_BadProgram⟩ := ok_init_BadProgram (P := P) (base := base) T
  refine ⟨fd, okN F sc_check_program (fun vs H Q E h => ?_) (fun cdv A outer s H vs Q E hr h => ?_), b⟩
  · obtain ⟨v, d, n, ok, rfl, _⟩ := h
    rfl
  · obtain ⟨v, d, n, ok, rfl, dv, hsm, ret, out⟩ := h
    refine ⟨_, (pss_cons (ps_if (PW.pt (pw_or (pt_not (pt_val (pe_callB call_isi (by rfl) T.z_isinstance bt_isinstance (pa_cons (pv 0) (pa_cons (pe_bltn (v := .ty "tuple") rfl T.z_tuple bt_tuple rfl) pa_nil))))) (pw_or1 (pt_cmpR op_eq (pe_callB c_len (by rfl) T.z_len bt_len (pa_cons (pv 0) pa_nil)) pe_int (nomark _))))) (pss_one (ps_raiseN rfl (L2N.takes_of rfl rfl rfl rfl) (pmkN T.X_BadProgram.oex T.X_BadProgram.ini T.X_BadProgram.tyI G_init_BadProgram (hr.mono (by decide)) b_init_BadProgram (by rfl) T.A_BadProgram (pa_cons pe_int pa_nil)))) pss_nil)
      (pss_cons (ps_for (passes_of rfl) rfl (pi_range1 (by rfl) T.z_range (pa_cons (pe_callB (c_min rfl) (by rfl) T.z_min bt_min (pa_cons (pe_callB c_len (by rfl) T.z_len bt_len (pa_cons (pv 0) pa_nil)) (pa_cons (pe_glob (v := .int 400) rfl T.g_MOST_ROWS ⟨_, rfl⟩) pa_nil))) pa_nil)) (pg_name (i := 2) sc_check_program.nd rfl (Or.inl rfl)) (pss_one (ps_if (pt_not (pt_val (pe_call G_is_right (hr.mono (by decide)) (by rfl) T.a_is_right T.k_is_right b_is_right .nil pass0 (pa_cons (pv 0) (pa_cons (pv 2) (pa_cons (pv 1) pa_nil)))))) (pss_one (ps_raiseN rfl (L2N.takes_of rfl rfl rfl rfl) (pmkN T.X_BadProgram.oex T.X_BadProgram.ini T.X_BadProgram.tyI G_init_BadProgram (hr.mono (by decide)) b_init_BadProgram (by rfl) T.A_BadProgram (pa_cons (pv 2) pa_nil)))) pss_nil)))
      (pss_one (ps_if (pt_cmpR op_gt (pe_callB c_len (by rfl) T.z_len bt_len (pa_cons (pv 0) pa_nil)) (pe_glob (v := .int 400) rfl T.g_MOST_ROWS ⟨_, rfl⟩) (nomark _)) (pss_one (ps_raiseN rfl (L2N.takes_of rfl rfl rfl rfl) (pmkN T.X_BadProgram.oex T.X_BadProgram.ini T.X_BadProgram.tyI G_init_BadProgram (hr.mono (by decide)) b_init_BadProgram (by rfl) T.A_BadProgram (pa_cons (pe_glob (v := .int 400) rfl T.g_MOST_ROWS ⟨_, rfl⟩) pa_nil)))) pss_nil)))), ?_⟩
    walk_at "gg"
    refine w_isi dv (kit_tuple d dv.nd) ?_
    walk_at "gg"
    rcases tup_or dv with ⟨e, p, xs, ds, rfl, rfl, hp, hds⟩ | e
    case inr =>
      rw [e]
      walk_at "gg"
      exact w_mkQ (out 0 (fault_not e))
    rw [e]
    clear e
    obtain ⟨hl, hsm⟩ := hsm ds rfl
    walk_at "gg"
    refine w_lenT hp ?_
    have hx := hds.length
    walk_at "gg"
    refine w_dec (fun c1 => ?_) (fun c1 => ?_)
    · walk_at "gg"
      have e0 : ds = [] := List.length_eq_zero_iff.mp (by omega)
      subst e0
      exact w_mkQ (out 0 rfl)
    · have hf : faultOf n (.tuple ds) = firstBad n [] ds := by
        cases ds with
        | nil => exact absurd (by rw [hx]; rfl) c1
        | cons r rs => rfl
      rw [hf] at ret out
      walk_at "gg"
      refine w_lenT hp ?_
      walk_at "gg"
      rw [show (if (400 : Int) < (xs.length : Int) then (400 : Int) else (xs.length : Int)) = (ds.length : Int) by rw [if_neg (by omega), hx]]
      refine w_loopR1 (by omega) (by omega) (fun j σ' H' => ∃ y, σ' = [some (.ref p), some (.int n), y] ∧ Same H H' ∧ j ≤ ds.length ∧ preOk ds j ∧ firstBad n [] ds = firstBad n ((ds.take j).map isTell) (ds.drop j))
        ⟨none, rfl, Same.refl H, Nat.zero_le _, fun i hi => absurd hi (Nat.not_lt_zero i), by rw [List.take_zero, List.drop_zero]; rfl⟩ (fun j σ' H' hj ⟨y, e1, s1, _, pre, fb⟩ => ?_) (fun σ' H' ⟨y, e1, s1, _, pre, fb⟩ => ?_)
      · subst e1
        have hj : j < ds.length := by simpa using hj
        obtain ⟨dj, hdj⟩ : ∃ d, ds[j]? = some d := ⟨_, List.getElem?_eq_getElem hj⟩
        rw [drop_next hdj] at fb
        walk_at "gg"
        refine i_spRight (s1 _ _ hp) (hds.same s1) hdj (hsm dj (List.mem_of_getElem? hdj)) pre (fun H2 s2 => ?_)
        walk_at "gg"
        refine w_nite (fun e => ?_) (fun e => ?_)
        · walk_at "gg"
          rw [firstBad_no e, tells_len (Nat.le_of_lt hj)] at fb
          exact w_mkQ fun H3 d3 s3 e3 => out j fb H3 d3 ((s1.trans s2).trans s3) e3
        · walk_at "gg"
          obtain ⟨k, rest, rfl⟩ := right_shape e
          rw [firstBad_ok e] at fb
          exact ⟨_, rfl, s1.trans s2, hj, pre_next pre hdj, by rw [fb, take_next hdj, List.map_append]; rfl⟩
      · subst e1
        rw [show ((ds.length : Nat) : Int).toNat = ds.length from rfl, List.drop_length] at fb
        walk_at "gg"
        refine w_lenT (s1 _ _ hp) ?_
        walk_at "gg"
        refine w_dec (fun c2 => ?_) (fun c2 => ?_)
        · exfalso
          omega
        · walk_at "gg"
          exact ret fb H' s1
end
end K17
namespace K17
open PySem L2
/-! The law's checker: _law_row_right, _law_fault. -/
local macro_rules | `(tactic| walk_at "gg") => `(tactic| repeat (first | with_reducible refine w_nt ?_ | with_reducible refine w_nf ?_ | with_reducible refine w_raise ?_ | with_reducible refine w_orS (by with_unfolding_all rfl) ?_ | with_reducible refine iteT ?_ | with_reducible refine iteF ?_ | with_reducible refine w_isNN ?_ | with_reducible refine w_isNI ?_ | with_reducible refine w_isNR ?_ | with_reducible refine w_notNN ?_ | with_reducible refine w_notNI ?_ | with_reducible refine w_notNR ?_ | with_reducible refine w_var (by with_unfolding_all rfl) ?_ | with_reducible refine w_c ?_ | with_reducible refine w_seq ?_ | with_reducible refine w_set ?_ | with_reducible refine w_ret ?_ | with_reducible refine w_if ?_ | with_reducible refine w_op ?_ | with_reducible refine w_ii ?_ | with_reducible refine w_test ?_ | with_reducible refine w_bl ?_ | with_reducible refine w_cb ?_ | with_reducible refine w_call ?_ | with_reducible refine w_nil ?_ | with_reducible refine w_cons ?_ | with_reducible refine w_eqI ?_ | with_reducible refine w_eqS ?_ | with_reducible refine w_neI ?_ | with_reducible refine w_neS ?_ | with_reducible refine w_andV ?_ | with_reducible refine w_orV ?_ | with_reducible refine w_notV ?_ | with_reducible refine w_and ?_ | with_reducible refine w_or ?_ | with_reducible refine w_not ?_ | with_reducible refine w_ifE ?_ | with_reducible refine w_chain ?_ | with_reducible refine w_B ?_ | with_reducible refine w_drop ?_ | with_reducible refine w_next ?_ | with_reducible refine w_un ?_ | with_reducible refine w_iu ?_ | with_reducible refine w_isN ?_ | with_reducible refine w_notN ?_ | with_reducible refine w_int1 ?_ | with_reducible refine w_abs ?_ | with_reducible refine w_min ?_ | with_reducible refine w_max ?_ | with_reducible refine w_tup ?_ | with_reducible refine w_lst ?_ | with_reducible refine w_sl ?_ | with_reducible refine w_noPart ?_ | with_reducible refine w_part ?_ | with_reducible refine w_pi ?_ | with_reducible refine w_bm ?_ | with_reducible refine w_tyS ?_ | with_reducible refine w_m1 ?_ | with_reducible refine w_str ?_ | with_reducible refine w_forL ?_ | with_reducible refine w_forT ?_ | with_reducible refine w_forR1 ?_ | with_reducible refine w_forS ?_ | with_reducible refine w_lcL ?_ | with_reducible refine w_lcT ?_ | with_reducible refine w_lcR1 ?_ | with_reducible refine w_lcR2 ?_ | with_reducible refine w_yes ?_ | with_reducible refine w_asgSub ?_ | with_reducible refine w_callS ?_ | with_reducible refine w_forQ ?_ | with_reducible refine w_forM ?_ | with_reducible refine w_forZ ?_ | with_reducible refine w_forE ?_ | with_reducible refine w_par ?_ | with_reducible refine w_two ?_ | with_reducible refine w_dget2 ?_))
section
variable {P : Program} {w : World} {K : PySem.W.Frag} {mg : Str → Option Value} {base : Heap} {a : Ad}
def spLRight : Sp := fun vs H Q _ => ∃ (v : V) (d : PyData) (t : Addr) (tells : List Bool) (m : Int) (ok : Addr → Prop), vs = [v, .int tells.length, .ref t, .int m] ∧ Dat ok H v d ∧ rowSm 1000 d ∧ H t = some (.lst (tells.map V.bl)) ∧ ∀ H', Same H H' → Q (.bl (rowRight tells m d)) H'
theorem i_spLRight {v : V} {d : PyData} {t : Addr} {tells : List Bool} {m : Int} {ok : Addr → Prop} {H : Hp} {Q : VK} {E : XK} (h1 : Dat ok H v d) (h2 : rowSm 1000 d) (h3 : H t = some (.lst (tells.map V.bl))) (q : ∀ H', Same H H' → Q (.bl (rowRight tells m d)) H') :
    spLRight [v, .int tells.length, .ref t, .int m] H Q E := ⟨v, d, t, tells, m, ok, rfl, h1, h2, h3, q⟩
theorem c_eq (i : Int) : cOk (.int i) = decide ((if i < 0 then -i else i) < 10 ^ (60 : Int).toNat) := by
  show decide (i.natAbs < 10 ^ 60) = _
  rw [ten60]
  refine decide_eq_decide.mpr ?_
  split <;> omega
theorem use_all {tells : List Bool} {ds : List PyData} {j : Nat} {d : PyData} (h : ds[j]? = some d) : (ds.drop j).all (useOk tells) = (useOk tells d && (ds.drop (j + 1)).all (useOk tells)) := by
  rw [drop_next h]
  rfl
theorem ok__law_row_right (T : Txt K mg w a) : Ok P w K mg base 2 a.f__law_row_right ["_law_row", "_law_at", "_law_tells", "_law_n"] spLRight := by
  obtain ⟨fd, F, b⟩ := T.F__law_row_right
  obtain ⟨fd1, G__law_integer, b__law_integer⟩ := ok__law_integer (P := P) (base := base) T
  refine ⟨fd, F.ok sc__law_row_right (fun vs H Q E h => ?_) (fun cdv A outer s H vs Q E hr h => ?_), b⟩
  · obtain ⟨v, d, t, tells, m, ok, rfl, _⟩ := h
    rfl
  · obtain ⟨v, d, t, tells, m, ok, rfl, dx, hsm, ht, q⟩ := h
    have q0 := q H (Same.refl H)
    refine ⟨_, (pss_cons (ps_if (PW.pt (pw_or (pt_not (pt_val (pe_callB call_isi (by rfl) T.z_isinstance bt_isinstance (pa_cons (pv 0) (pa_cons (pe_bltn (v := .ty "tuple") rfl T.z_tuple bt_tuple rfl) pa_nil))))) (pw_or (pt_cmpR op_lt (pe_callB c_len (by rfl) T.z_len bt_len (pa_cons (pv 0) pa_nil)) pe_int (nomark _)) (pw_or1 (pt_not (pt_val (pe_callB call_isi (by rfl) T.z_isinstance bt_isinstance (pa_cons (pe_ix ix_tup (pv 0) pe_int (fun _ _ => rfl)) (pa_cons (pe_bltn (v := .ty "str") rfl T.z_str bt_str rfl) pa_nil))))))))) (pss_one (ps_ret pe_bl)) pss_nil)
      (pss_cons (ps_if (pt_cmpR op_eq (pe_ix ix_tup (pv 0) pe_int (fun _ _ => rfl)) pe_str (nomark _)) (pss_one (ps_ret (pe_and (pe_cmpR op_eq (pe_callB c_len (by rfl) T.z_len bt_len (pa_cons (pv 0) pa_nil)) pe_int (nomark _)) (pe_and (pe_call G__law_integer (hr.mono (by decide)) (by rfl) T.a__law_integer T.k__law_integer b__law_integer .nil pass0 (pa_cons (pe_ix ix_tup (pv 0) pe_int (fun _ _ => rfl)) pa_nil)) (pe_one (pe_chain op_le op_le pe_int (pe_ix ix_tup (pv 0) pe_int (fun _ _ => rfl)) (pv 3))))))) pss_nil)
      (pss_cons (ps_if (pt_cmpR op_eq (pe_ix ix_tup (pv 0) pe_int (fun _ _ => rfl)) pe_str (nomark _)) (pss_one (ps_ret (pe_and (pe_cmpR op_eq (pe_callB c_len (by rfl) T.z_len bt_len (pa_cons (pv 0) pa_nil)) pe_int (nomark _)) (pe_and (pe_call G__law_integer (hr.mono (by decide)) (by rfl) T.a__law_integer T.k__law_integer b__law_integer .nil pass0 (pa_cons (pe_ix ix_tup (pv 0) pe_int (fun _ _ => rfl)) pa_nil)) (pe_one (pe_cmpR op_lt (pe_callB c_abs (by rfl) T.z_abs bt_abs (pa_cons (pe_ix ix_tup (pv 0) pe_int (fun _ _ => rfl)) pa_nil)) (pe_op op_pow pe_int pe_int) (nomark _))))))) pss_nil)
      (pss_cons (ps_if (pt_cmpR op_ne (pe_callB c_len (by rfl) T.z_len bt_len (pa_cons (pv 0) pa_nil)) pe_int (nomark _)) (pss_one (ps_ret pe_bl)) pss_nil)
      (pss_cons (ps_set (i := 4) sc__law_row_right.nd rfl (Or.inl rfl) (pe_lst (pa_cons (pe_ix ix_tup (pv 0) pe_int (fun _ _ => rfl)) (pa_cons (pe_ix ix_tup (pv 0) pe_int (fun _ _ => rfl)) pa_nil))))
      (Evl.pss_cut (ps_if (pt_cmpR op_eq (pe_ix ix_tup (pv 0) pe_int (fun _ _ => rfl)) pe_str (nomark _)) (pss_cons (ps_if (PW.pt (pw_or (pt_not (pt_val (pe_call G__law_integer (hr.mono (by decide)) (by rfl) T.a__law_integer T.k__law_integer b__law_integer .nil pass0 (pa_cons (pe_ix ix_tup (pv 0) pe_int (fun _ _ => rfl)) pa_nil)))) (pw_or1 (pt_cmpR op_ge (pe_callB c_abs (by rfl) T.z_abs bt_abs (pa_cons (pe_ix ix_tup (pv 0) pe_int (fun _ _ => rfl)) pa_nil)) (pe_op op_pow pe_int pe_int) (nomark _))))) (pss_one (ps_ret pe_bl)) pss_nil)
      (pss_one (ps_set (i := 4) sc__law_row_right.nd rfl (Or.inl rfl) (pe_lst (pa_cons (pe_ix ix_tup (pv 0) pe_int (fun _ _ => rfl)) pa_nil))))) (pss_one (ps_if (pt_cmpR op_eq (pe_ix ix_tup (pv 0) pe_int (fun _ _ => rfl)) pe_str (nomark _)) (pss_cons (ps_set (i := 4) sc__law_row_right.nd rfl (Or.inl rfl) (pe_lst (pa_cons (pe_ix ix_tup (pv 0) pe_int (fun _ _ => rfl)) pa_nil)))
      (pss_cons (ps_if (PW.pt (pw_or (pt_not (pt_val (pe_callB call_isi (by rfl) T.z_isinstance bt_isinstance (pa_cons (pe_ix ix_tup (pv 0) pe_int (fun _ _ => rfl)) (pa_cons (pe_bltn (v := .ty "tuple") rfl T.z_tuple bt_tuple rfl) pa_nil))))) (pw_or1 (pt_cmpR op_lt (pe_callB c_len (by rfl) T.z_len bt_len (pa_cons (pe_ix ix_tup (pv 0) pe_int (fun _ _ => rfl)) pa_nil)) pe_int (nomark _))))) (pss_one (ps_ret pe_bl)) pss_nil)
      (pss_cons (ps_set (i := 5) sc__law_row_right.nd rfl (Or.inl rfl) pe_int)
      (pss_one (ps_for PassesOwn.never rfl (pi_tup (pe_ix ix_tup (pv 0) pe_int (fun _ _ => rfl))) (pg_name (i := 6) sc__law_row_right.nd rfl (Or.inl rfl)) (pss_cons (ps_if (PW.pt (pw_or (pt_not (pt_val (pe_call G__law_integer (hr.mono (by decide)) (by rfl) T.a__law_integer T.k__law_integer b__law_integer .nil pass0 (pa_cons (pv 6) pa_nil)))) (pw_or (pt_cmpR op_le (pv 6) (pv 5) (nomark _)) (pw_or1 (pt_cmpR op_gt (pv 6) (pv 3) (nomark _)))))) (pss_one (ps_ret pe_bl)) pss_nil)
      (pss_one (ps_set (i := 5) sc__law_row_right.nd rfl (Or.inl rfl) (pv 6))))))))) (pss_one (ps_if (pt_cmpR op_notIn_seq (pe_ix ix_tup (pv 0) pe_int (fun _ _ => rfl)) (pe_tup (pa_cons pe_str (pa_cons pe_str (pa_cons pe_str pa_nil)))) (by with_unfolding_all rfl)) (pss_one (ps_ret pe_bl)) pss_nil)))))
      (pss_cons (ps_for PassesOwn.never rfl (pi_list (pv 4)) (pg_name (i := 7) sc__law_row_right.nd rfl (Or.inl rfl)) (pss_one (ps_if (PW.pt (pw_or (pt_not (pt_val (pe_call G__law_integer (hr.mono (by decide)) (by rfl) T.a__law_integer T.k__law_integer b__law_integer .nil pass0 (pa_cons (pv 7) pa_nil)))) (pw_or (pt_cmpR op_lt (pv 7) pe_int (nomark _)) (pw_or (pt_cmpR op_ge (pv 7) (pv 1) (nomark _)) (pw_or1 (pt_val (pe_ix ix_list (pv 2) (pv 7) (fun _ _ => rfl)))))))) (pss_one (ps_ret pe_bl)) pss_nil)))
      (pss_one (ps_ret pe_bl))))))))), ?_⟩
    walk_at "gg"
    refine w_isi dx (kit_tuple d dx.nd) ?_
    walk_at "gg"
    rcases tup_or dx with ⟨e, r, ys, es, rfl, rfl, hr2, hes⟩ | e
    case inr =>
      rw [e]
      walk_at "gg"
      rw [right_not e] at q0
      exact q0
    rw [e]
    clear e
    walk_at "gg"
    refine w_lenT hr2 ?_
    walk_at "gg"
    match ys, es, hes, hr2, hsm, q, q0 with
    | _, [], .nil, hr2, hsm, q, q0 =>
      refine w_dec (fun c => ?_) (fun c => absurd (show (0 : Int) < 2 by decide) c)
      walk_at "gg"
      exact q0
    | _, [_], .cons hv .nil, hr2, hsm, q, q0 =>
      refine w_dec (fun c => ?_) (fun c => absurd (show (1 : Int) < 2 by decide) c)
      walk_at "gg"
      rw [right_one] at q0
      exact q0
    | x :: y :: vr, d0 :: d1 :: r2, .cons hv (.cons hw hrest), hr2, hsm, q, q0 =>
      refine w_dec (fun c => absurd c len_ge2) (fun c => ?_)
      walk_at "gg"
      refine w_ixT hr2 at_hd ?_
      walk_at "gg"
      refine w_isi hv (kit_str d0 hv.nd) ?_
      walk_at "gg"
      rcases str_or hv with ⟨k, rfl, rfl⟩ | e
      case inr =>
        rw [e]
        walk_at "gg"
        rw [right_strange e] at q0
        exact q0
      show (if (!true) = true then _ else _)
      walk_at "gg"
      refine w_ixT hr2 at_hd ?_
      rw [right_cons] at q0
      simp only [right_cons] at q
      have lys := hrest.length
      walk_at "gg"
      refine w_dec (fun c1 => ?_) (fun c1 => ?_)
      · subst c1
        rw [if_pos (.inl rfl)] at q0
        walk_at "gg"
        refine w_lenT hr2 ?_
        walk_at "gg"
        refine w_dec (fun c2 => ?_) (fun c2 => ?_)
        · match vr, r2, hrest, c2, hr2, q0 with
          | _, [], .nil, c2, hr2, q0 =>
            walk_at "gg"
            refine w_ixT hr2 at_snd ?_
            walk_at "gg"
            refine i_spInt hw ?_
            walk_at "gg"
            refine w_ite (fun e => ?_) (fun e => ?_)
            · obtain ⟨i, rfl, rfl⟩ := int_of hw e
              walk_at "gg"
              refine w_ixT hr2 at_snd ?_
              walk_at "gg"
              rw [one_put] at q0
              refine w_dec (fun c3 => ?_) (fun c3 => ?_)
              · walk_at "gg"
                rw [show decide (1 ≤ i ∧ i ≤ m) = decide (i ≤ m) from decide_eq_decide.mpr ⟨fun z => z.2, fun z => ⟨c3, z⟩⟩] at q0
                exact q0
              · walk_at "gg"
                rw [show decide (1 ≤ i ∧ i ≤ m) = false from decide_eq_false fun z => c3 z.1] at q0
                exact q0
            · rw [one_not e] at q0
              exact q0
          | _, _ :: _, .cons _ _, c2, hr2, q0 =>
            exfalso
            simp only [List.length_cons] at c2
            omega
        · rw [one_len (fun z => c2 (by simp only [List.length_cons] at z ⊢; omega))] at q0
          exact q0
      walk_at "gg"
      refine w_ixT hr2 at_hd ?_
      walk_at "gg"
      refine w_dec (fun c2 => ?_) (fun c2 => ?_)
      · subst c2
        rw [if_pos (.inr rfl)] at q0
        walk_at "gg"
        refine w_lenT hr2 ?_
        walk_at "gg"
        refine w_dec (fun c2 => ?_) (fun c2 => ?_)
        · match vr, r2, hrest, c2, hr2, q0 with
          | _, [], .nil, c2, hr2, q0 =>
            rw [one_num] at q0
            walk_at "gg"
            refine w_ixT hr2 at_snd ?_
            walk_at "gg"
            refine i_spInt hw ?_
            walk_at "gg"
            refine w_ite (fun e => ?_) (fun e => ?_)
            · obtain ⟨i, rfl, rfl⟩ := int_of hw e
              walk_at "gg"
              refine w_ixT hr2 at_snd ?_
              walk_at "gg"
              refine w_iic pow_ok ?_
              walk_at "gg"
              rw [c_eq] at q0
              exact q0
            · rw [c_not e] at q0
              exact q0
          | _, _ :: _, .cons _ _, c2, hr2, q0 =>
            exfalso
            simp only [List.length_cons] at c2
            omega
        · rw [one_len (fun z => c2 (by simp only [List.length_cons] at z ⊢; omega))] at q0
          exact q0
      have c12 : ¬ (k = "put" ∨ k = "number") := fun z => z.elim c1 c2
      rw [if_neg c12] at q0
      walk_at "gg"
      refine w_lenT hr2 ?_
      walk_at "gg"
      refine w_ndec (fun c3 => ?_) (fun c3 => ?_)
      · walk_at "gg"
        rw [two_len (fun z => c3 (by simp only [List.length_cons] at z ⊢; omega))] at q0
        exact q0
      match vr, r2, hrest, c3, hr2, q, q0, hsm with
      | _, [], .nil, c3, _, _, _, _ => exact absurd c3 (by show ¬ (2 : Int) = 3; decide)
      | _, _ :: _ :: _, .cons _ (.cons _ _), c3, _, _, _, _ =>
        exfalso
        simp only [List.length_cons] at c3
        omega
      | z :: _, d2 :: [], .cons hz .nil, c3, hr2, q, q0, hsm =>
        clear q0
        simp only [if_neg c12, two_eq] at q
        walk_at "gg"
        refine w_ixT hr2 at_snd ?_
        walk_at "gg"
        refine w_ixT hr2 at_third ?_
        walk_at "gg"
        refine w_newL (by show 2 ≤ 1000000; decide) (fun u0 H1 _ s1 e1 => ?_)
        have q1 := q H1 s1
        have hr3 := s1 _ _ hr2
        have hw1 := hw.same s1
        have hz1 := hz.same s1
        refine w_cut (fun σ' H' => ∃ (u : Addr) (vs' : List V) (ds' : List PyData) (y5 y6 : Option V), σ' = [some (.ref r), some (.int tells.length), some (.ref t), some (.int m), some (.ref u), y5, y6, none] ∧ Same H H' ∧ H' u = some (.lst vs') ∧ DatL ok H' vs' ds' ∧
          (if k = "scale" then cOk d1 && useOk tells d2 else if k = "tell" then useOk tells d1 && groupOk m d2 else if k = "add" ∨ k = "less" ∨ k = "times" then useOk tells d1 && useOk tells d2 else false) = ds'.all (useOk tells)) ?_ ?_
        · walk_at "gg"
          refine w_ixT hr3 at_hd ?_
          walk_at "gg"
          refine w_dec (fun c4 => ?_) (fun c4 => ?_)
          · simp only [if_pos c4] at q1 ⊢
            walk_at "gg"
            refine w_ixT hr3 at_snd ?_
            walk_at "gg"
            refine i_spInt hw1 ?_
            walk_at "gg"
            refine w_nite (fun e => ?_) (fun e => ?_)
            · walk_at "gg"
              rw [c_not e, Bool.false_and] at q1
              exact q1
            · obtain ⟨i, rfl, rfl⟩ := int_of hw1 e
              walk_at "gg"
              refine w_ixT hr3 at_snd ?_
              walk_at "gg"
              refine w_iic pow_ok ?_
              walk_at "gg"
              refine w_dec (fun c5 => ?_) (fun c5 => ?_)
              · walk_at "gg"
                rw [c_eq, decide_eq_false (Int.not_lt.mpr c5), Bool.false_and] at q1
                exact q1
              · walk_at "gg"
                refine w_ixT hr3 at_third ?_
                walk_at "gg"
                refine w_newL (by show 1 ≤ 1000000; decide) (fun u H2 _ s2 e2 => ?_)
                refine ⟨u, _, [d2], _, _, rfl, s1.trans s2, e2, .cons (hz1.same s2) .nil, ?_⟩
                rw [c_eq, decide_eq_true (Int.not_le.mp c5), Bool.true_and]
                show _ = (useOk tells d2 && true)
                rw [Bool.and_true]
          simp only [if_neg c4] at q1 ⊢
          walk_at "gg"
          refine w_ixT hr3 at_hd ?_
          walk_at "gg"
          refine w_dec (fun c5 => ?_) (fun c5 => ?_)
          · simp only [if_pos c5] at q1 ⊢
            walk_at "gg"
            refine w_ixT hr3 at_snd ?_
            walk_at "gg"
            refine w_newL (by show 1 ≤ 1000000; decide) (fun u H2 _ s2 e2 => ?_)
            have hr4 := s2 _ _ hr3
            have hz2 := hz1.same s2
            have q2 : groupOk m d2 = false → ∀ H3, Same H2 H3 → Q (.bl false) H3 := fun e H3 s3 => by
              have := q H3 ((s1.trans s2).trans s3)
              simp only [if_neg c4, if_pos c5, e, Bool.and_false] at this
              exact this
            walk_at "gg"
            refine w_ixT hr4 at_third ?_
            walk_at "gg"
            refine w_isi hz2 (kit_tuple d2 hz2.nd) ?_
            walk_at "gg"
            rcases tup_or hz2 with ⟨e, g, gs, ps, rfl, rfl, hg, hgs⟩ | e
            case inr =>
              rw [e]
              walk_at "gg"
              exact q2 (by cases d2 with
                | tuple ps => cases e
                | _ => rfl) H2 (Same.refl H2)
            rw [e]
            clear e
            walk_at "gg"
            refine w_ixT hr4 at_third ?_
            walk_at "gg"
            refine w_lenT hg ?_
            have hgl := hgs.length
            walk_at "gg"
            refine w_dec (fun c6 => ?_) (fun c6 => ?_)
            · walk_at "gg"
              exact q2 (by rw [group_eq, decide_eq_false (by omega), Bool.false_and]) H2 (Same.refl H2)
            · walk_at "gg"
              refine w_ixT hr4 at_third ?_
              have ge : groupOk m (.tuple ps) = peopleOk m 0 ps := by rw [group_eq, decide_eq_true (by omega), Bool.true_and]
              rw [ge] at q2 ⊢
              refine w_loopT (SqT.of hg) (fun j σ' H' => ∃ (last : Int) (y6 : Option V), σ' = [some (.ref r), some (.int tells.length), some (.ref t), some (.int m), some (.ref u), some (.int last), y6, none] ∧ H' = H2 ∧ peopleOk m 0 ps = peopleOk m last (ps.drop j))
                ⟨0, none, rfl, rfl, by rw [List.drop_zero]⟩ (fun j σ' H' ⟨_, _, _, e, _⟩ => by rw [e]; exact SqT.of hg) (fun j x σ' H' hi ⟨last, y6, e3, e4, e5⟩ => ?_) (fun σ' H' ⟨last, y6, e3, e4, e5⟩ => ?_)
              · subst e3 e4
                obtain ⟨dj, hdj, dxj⟩ := hgs.get hi
                rw [drop_next hdj] at e5
                walk_at "gg"
                refine i_spInt dxj ?_
                walk_at "gg"
                refine w_nite (fun e => ?_) (fun e => ?_)
                · walk_at "gg"
                  exact q2 (by rw [e5]; cases dj <;> first | rfl | cases e) H' (Same.refl H')
                · obtain ⟨i, rfl, rfl⟩ := int_of dxj e
                  rw [people_cons] at e5
                  walk_at "gg"
                  refine w_dec (fun c7 => ?_) (fun c7 => ?_)
                  · walk_at "gg"
                    exact q2 (by rw [e5, decide_eq_false (fun z => by omega), Bool.false_and]) H' (Same.refl H')
                  · walk_at "gg"
                    refine w_dec (fun c8 => ?_) (fun c8 => ?_)
                    · walk_at "gg"
                      exact q2 (by rw [e5, decide_eq_false (fun z => by omega), Bool.false_and]) H' (Same.refl H')
                    · walk_at "gg"
                      exact ⟨i, _, rfl, rfl, by rw [e5, decide_eq_true ⟨by omega, by omega⟩, Bool.true_and]⟩
              · subst e3 e4
                rw [hgl, List.drop_length] at e5
                refine ⟨u, _, [d1], _, _, rfl, s1.trans s2, e2, .cons (hw1.same s2) .nil, ?_⟩
                rw [e5]
                rfl
          simp only [if_neg c5] at q1 ⊢
          walk_at "gg"
          refine w_ixT hr3 at_hd ?_
          walk_at "gg"
          refine w_newT (by show 3 ≤ 1000000; decide) (fun tt H2 _ s2 et => ?_)
          walk_at "gg"
          refine w_notInT (zs := ["add", "less", "times"]) et ?_
          walk_at "gg"
          refine w_ndec (fun c6 => ?_) (fun c6 => ?_)
          · walk_at "gg"
            have q2 := q H2 (s1.trans s2)
            simp only [if_neg c4, if_neg c5, if_neg (fun z => c6 (mem3.mpr z))] at q2
            exact q2
          · walk_at "gg"
            refine ⟨u0, _, [d1, d2], _, _, rfl, s1.trans s2, s2 _ _ e1, .cons (hw1.same s2) (.cons (hz1.same s2) .nil), ?_⟩
            rw [if_pos (mem3.mp c6)]
            show _ = (useOk tells d1 && (useOk tells d2 && true))
            rw [Bool.and_true]
        · rintro σ' H2 ⟨u, vs', ds', y5, y6, rfl, s2, eu, du, val⟩
          walk_at "gg"
          have q2 : ∀ H3, Same H2 H3 → Q (.bl (ds'.all (useOk tells))) H3 := fun H3 s3 => by
            have := q H3 (s2.trans s3)
            rw [val] at this
            exact this
          refine w_loopL (SqL.of eu) (fun j σ' H' => ∃ y7, σ' = [some (.ref r), some (.int tells.length), some (.ref t), some (.int m), some (.ref u), y5, y6, y7] ∧ H' = H2 ∧ ds'.all (useOk tells) = (ds'.drop j).all (useOk tells)) ⟨none, rfl, rfl, by rw [List.drop_zero]⟩
            (fun j σ' H' ⟨_, _, e, _⟩ => by rw [e]; exact SqL.of eu) (fun j x σ' H' hi ⟨y7, e1, e2, va⟩ => ?_) (fun σ' H' ⟨y7, e1, e2, va⟩ => ?_)
          · subst e1 e2
            obtain ⟨dj, hdj, dxj⟩ := du.get hi
            rw [use_all hdj] at va
            have no : useOk tells dj = false → Q (.bl false) H' := fun e => by
              rw [e, Bool.false_and] at va
              have := q2 H' (Same.refl H')
              rw [va] at this
              exact this
            walk_at "gg"
            refine i_spInt dxj ?_
            walk_at "gg"
            refine w_nite (fun e => ?_) (fun e => ?_)
            · walk_at "gg"
              exact no (use_not e)
            · obtain ⟨i, rfl, rfl⟩ := int_of dxj e
              rw [use_eq] at no va
              walk_at "gg"
              refine w_dec (fun c3 => ?_) (fun c3 => ?_)
              · walk_at "gg"
                exact no (by rw [decide_eq_false (show ¬ (0 ≤ i) by omega), Bool.false_and])
              · walk_at "gg"
                refine w_dec (fun c4 => ?_) (fun c4 => ?_)
                · walk_at "gg"
                  exact no (by rw [decide_eq_false (show ¬ (i < (tells.length : Int)) by omega), Bool.false_and, Bool.and_false])
                · obtain ⟨l, rfl⟩ := Int.eq_ofNat_of_zero_le (show 0 ≤ i by omega)
                  have hl : l < tells.length := by omega
                  have eg : tells.getD ((l : Nat) : Int).toNat true = tells[l] := by
                    show tells.getD l true = _
                    rw [List.getD_eq_getElem?_getD, List.getElem?_eq_getElem hl]
                    rfl
                  rw [decide_eq_true (show (0 : Int) ≤ (l : Int) by omega), decide_eq_true (show (l : Int) < (tells.length : Int) by omega), eg, Bool.true_and, Bool.true_and] at no va
                  walk_at "gg"
                  refine w_ixL (v := .bl tells[l]) (s2 _ _ ht) (atI_nat (by rw [List.getElem?_map, List.getElem?_eq_getElem hl]; rfl)) ?_
                  walk_at "gg"
                  refine w_ite (fun e => ?_) (fun e => ?_)
                  · walk_at "gg"
                    exact no (by rw [e]; rfl)
                  · walk_at "gg"
                    refine ⟨_, rfl, rfl, ?_⟩
                    rw [va, e]
                    rfl
          · subst e1 e2
            rw [du.length, List.drop_length] at va
            walk_at "gg"
            have := q2 H' (Same.refl H')
            rw [va] at this
            exact this
/-- None, or a number -/
def optN : Option Nat → V
  | none => .non
  | some i => .int i
def spFault : Sp := fun vs H Q _ => ∃ (v : V) (d : PyData) (n : Int) (ok : Addr → Prop), vs = [v, .int n] ∧ Dat ok H v d ∧ (∀ ds, d = .tuple ds → ds.length ≤ 400 ∧ ∀ e ∈ ds, rowSm 1000 e) ∧ ∀ H', Same H H' → Q (optN (faultOf n d)) H'
theorem i_spFault {v : V} {d : PyData} {n : Int} {ok : Addr → Prop} {H : Hp} {Q : VK} {E : XK} (h1 : Dat ok H v d) (h2 : ∀ ds, d = .tuple ds → ds.length ≤ 400 ∧ ∀ e ∈ ds, rowSm 1000 e) (q : ∀ H', Same H H' → Q (optN (faultOf n d)) H') : spFault [v, .int n] H Q E := ⟨v, d, n, ok, rfl, h1, h2, q⟩
theorem tell_bl {k : Str} {rest : List PyData} : isTell (.tuple (.str k :: rest)) = decide (k = "tell") := rfl
theorem ok__law_fault (T : Txt K mg w a) : Ok P w K mg base 3 a.f__law_fault ["_law_program_here", "_law_n"] spFault := by
  obtain ⟨fd, F, b⟩ := T.F__law_fault
  obtain ⟨fd1, G__law_row_right, b__law_row_right⟩ := ok__law_row_right (P := P) (base := base) T
  refine ⟨fd, F.ok sc__law_fault (fun vs H Q E h => ?_) (fun cdv A outer s H vs Q E hr h => ?_), b⟩
  · obtain ⟨v, d, n, ok, rfl, _⟩ := h
    rfl
  · obtain ⟨v, d, n, ok, rfl, dv, hsm, ret⟩ := h
    refine ⟨_, (pss_cons (ps_if (PW.pt (pw_or (pt_not (pt_val (pe_callB call_isi (by rfl) T.z_isinstance bt_isinstance (pa_cons (pv 0) (pa_cons (pe_bltn (v := .ty "tuple") rfl T.z_tuple bt_tuple rfl) pa_nil))))) (pw_or1 (pt_cmpR op_eq (pe_callB c_len (by rfl) T.z_len bt_len (pa_cons (pv 0) pa_nil)) pe_int (nomark _))))) (pss_one (ps_ret pe_int)) pss_nil)
      (pss_cons (ps_set (i := 2) sc__law_fault.nd rfl (Or.inl rfl) (pe_lst pa_nil))
      (pss_cons (ps_for PassesOwn.never rfl (pi_range1 (by rfl) T.z_range (pa_cons (pe_callB (c_min rfl) (by rfl) T.z_min bt_min (pa_cons pe_int (pa_cons (pe_callB c_len (by rfl) T.z_len bt_len (pa_cons (pv 0) pa_nil)) pa_nil))) pa_nil)) (pg_name (i := 3) sc__law_fault.nd rfl (Or.inl rfl)) (pss_cons (ps_if (pt_not (pt_val (pe_call G__law_row_right (hr.mono (by decide)) (by rfl) T.a__law_row_right T.k__law_row_right b__law_row_right .nil pass0 (pa_cons (pe_ix ix_tup (pv 0) (pv 3) (fun _ _ => rfl)) (pa_cons (pv 3) (pa_cons (pv 2) (pa_cons (pv 1) pa_nil))))))) (pss_one (ps_ret (pv 3))) pss_nil)
      (pss_one (ps_expr (pe_bm PySem.F.plainAttrs_list PySem.F.slot_list_append PySem.F.type_list_append mt_append (pv 2) (pa_cons (pe_cmpR op_eq (pe_ix ix_tup (pe_ix ix_tup (pv 0) (pv 3) (fun _ _ => rfl)) pe_int (fun _ _ => rfl)) pe_str (nomark _)) pa_nil))))))
      (pss_cons (ps_if (pt_cmpR op_gt (pe_callB c_len (by rfl) T.z_len bt_len (pa_cons (pv 0) pa_nil)) pe_int (nomark _)) (pss_one (ps_ret pe_int)) pss_nil)
      (pss_one (ps_ret pe_non)))))), ?_⟩
    walk_at "gg"
    refine w_isi dv (kit_tuple d dv.nd) ?_
    walk_at "gg"
    rcases tup_or dv with ⟨e, p, xs, ds, rfl, rfl, hp, hds⟩ | e
    case inr =>
      rw [e]
      walk_at "gg"
      have := ret H (Same.refl H)
      rw [fault_not e] at this
      exact this
    rw [e]
    clear e
    obtain ⟨hl, hsm⟩ := hsm ds rfl
    walk_at "gg"
    refine w_lenT hp ?_
    have hx := hds.length
    walk_at "gg"
    refine w_dec (fun c1 => ?_) (fun c1 => ?_)
    · walk_at "gg"
      have e0 : ds = [] := List.length_eq_zero_iff.mp (by omega)
      subst e0
      exact ret H (Same.refl H)
    · have hf : faultOf n (.tuple ds) = firstBad n [] ds := by
        cases ds with
        | nil => exact absurd (by rw [hx]; rfl) c1
        | cons r rs => rfl
      rw [hf] at ret
      walk_at "gg"
      refine w_newL (by show 0 ≤ 1000000; decide) (fun t H1 nt s1 et => ?_)
      walk_at "gg"
      refine w_lenT (s1 _ _ hp) ?_
      walk_at "gg"
      rw [show (if (xs.length : Int) < (400 : Int) then (xs.length : Int) else (400 : Int)) = (ds.length : Int) by split <;> omega]
      refine w_loopR1 (by omega) (by omega) (fun j σ' H' => ∃ y, σ' = [some (.ref p), some (.int n), some (.ref t), y] ∧ Same H H' ∧ j ≤ ds.length ∧ preOk ds j ∧ H' t = some (.lst (((ds.take j).map isTell).map V.bl)) ∧ firstBad n [] ds = firstBad n ((ds.take j).map isTell) (ds.drop j))
        ⟨none, rfl, s1, Nat.zero_le _, fun i hi => absurd hi (Nat.not_lt_zero i), et, by rw [List.take_zero, List.drop_zero]; rfl⟩ (fun j σ' H' hj ⟨y, e1, s2, _, pre, et2, fb⟩ => ?_) (fun σ' H' ⟨y, e1, s2, _, pre, et2, fb⟩ => ?_)
      · subst e1
        have hj : j < ds.length := by simpa using hj
        have htl := tells_len (ds := ds) (Nat.le_of_lt hj)
        obtain ⟨dj, hdj⟩ : ∃ d, ds[j]? = some d := ⟨_, List.getElem?_eq_getElem hj⟩
        obtain ⟨xj, hxj, dxj⟩ := (hds.same s2).get' hdj
        rw [drop_next hdj] at fb
        walk_at "gg"
        refine w_ixT (s2 _ _ hp) (atI_nat hxj) ?_
        walk_at "gg"
        have call := i_spLRight (m := n) (Q := ?Q) (E := E0) dxj (hsm dj (List.mem_of_getElem? hdj)) et2
        rw [htl] at call
        refine call (fun H3 s3 => ?_)
        have s23 := s2.trans s3
        walk_at "gg"
        refine w_nite (fun e => ?_) (fun e => ?_)
        · walk_at "gg"
          rw [firstBad_no e, htl] at fb
          have := ret H3 s23
          rw [fb] at this
          exact this
        · obtain ⟨k, rest, rfl⟩ := right_shape e
          rw [firstBad_ok e] at fb
          cases dxj.same s3 with
          | tup hrw hrd =>
            cases hrd with
            | cons hk _ =>
              cases hk
              walk_at "gg"
              refine w_tyL (s3 _ _ et2) ?_
              walk_at "gg"
              refine w_ixT (s23 _ _ hp) (atI_nat hxj) ?_
              walk_at "gg"
              refine w_ixT hrw at_hd ?_
              walk_at "gg"
              refine v_app (s3 _ _ et2) (by rw [List.length_map, htl]; omega) (fun H4 c4 e4 => ?_)
              walk_at "gg"
              refine ⟨_, rfl, same_new2 s23 nt c4, hj, pre_next pre hdj, ?_, ?_⟩
              · rw [e4, take_next hdj, List.map_append, List.map_append]
                rfl
              · rw [fb, take_next hdj, List.map_append]
                rfl
      · subst e1
        rw [show ((ds.length : Nat) : Int).toNat = ds.length from rfl, List.drop_length] at fb
        walk_at "gg"
        refine w_lenT (s2 _ _ hp) ?_
        walk_at "gg"
        refine w_dec (fun c2 => ?_) (fun c2 => ?_)
        · exfalso
          omega
        · walk_at "gg"
          have := ret H' s2
          rw [fb] at this
          exact this
end
end K17
namespace K17
open PySem L2
/-! Texts of rows: _law_written, write_program; rows compared: _law_same. -/
local macro_rules | `(tactic| walk_at "gg") => `(tactic| repeat (first | with_reducible refine w_nt ?_ | with_reducible refine w_nf ?_ | with_reducible refine w_raise ?_ | with_reducible refine w_orS (by with_unfolding_all rfl) ?_ | with_reducible refine iteT ?_ | with_reducible refine iteF ?_ | with_reducible refine w_isNN ?_ | with_reducible refine w_isNI ?_ | with_reducible refine w_isNR ?_ | with_reducible refine w_notNN ?_ | with_reducible refine w_notNI ?_ | with_reducible refine w_notNR ?_ | with_reducible refine w_var (by with_unfolding_all rfl) ?_ | with_reducible refine w_c ?_ | with_reducible refine w_seq ?_ | with_reducible refine w_set ?_ | with_reducible refine w_ret ?_ | with_reducible refine w_if ?_ | with_reducible refine w_op ?_ | with_reducible refine w_ii ?_ | with_reducible refine w_test ?_ | with_reducible refine w_bl ?_ | with_reducible refine w_cb ?_ | with_reducible refine w_call ?_ | with_reducible refine w_nil ?_ | with_reducible refine w_cons ?_ | with_reducible refine w_eqI ?_ | with_reducible refine w_eqS ?_ | with_reducible refine w_neI ?_ | with_reducible refine w_neS ?_ | with_reducible refine w_andV ?_ | with_reducible refine w_orV ?_ | with_reducible refine w_notV ?_ | with_reducible refine w_and ?_ | with_reducible refine w_or ?_ | with_reducible refine w_not ?_ | with_reducible refine w_ifE ?_ | with_reducible refine w_chain ?_ | with_reducible refine w_B ?_ | with_reducible refine w_drop ?_ | with_reducible refine w_next ?_ | with_reducible refine w_un ?_ | with_reducible refine w_iu ?_ | with_reducible refine w_isN ?_ | with_reducible refine w_notN ?_ | with_reducible refine w_int1 ?_ | with_reducible refine w_abs ?_ | with_reducible refine w_min ?_ | with_reducible refine w_max ?_ | with_reducible refine w_tup ?_ | with_reducible refine w_lst ?_ | with_reducible refine w_sl ?_ | with_reducible refine w_noPart ?_ | with_reducible refine w_part ?_ | with_reducible refine w_pi ?_ | with_reducible refine w_bm ?_ | with_reducible refine w_tyS ?_ | with_reducible refine w_m1 ?_ | with_reducible refine w_str ?_ | with_reducible refine w_forL ?_ | with_reducible refine w_forT ?_ | with_reducible refine w_forR1 ?_ | with_reducible refine w_forS ?_ | with_reducible refine w_lcL ?_ | with_reducible refine w_lcT ?_ | with_reducible refine w_lcR1 ?_ | with_reducible refine w_lcR2 ?_ | with_reducible refine w_yes ?_ | with_reducible refine w_asgSub ?_ | with_reducible refine w_callS ?_ | with_reducible refine w_forQ ?_ | with_reducible refine w_forM ?_ | with_reducible refine w_forZ ?_ | with_reducible refine w_forE ?_ | with_reducible refine w_par ?_ | with_reducible refine w_two ?_ | with_reducible refine w_dget2 ?_))
/-- a row that can be written -/
def rowW : RD → Prop
  | .tell n ps => n.natAbs < 10 ^ 61 ∧ ps.length ≤ 100 ∧ ∀ p ∈ ps, p.natAbs < 10 ^ 61
  | .op k ns => k.length ≤ 10 ∧ k ≠ "tell" ∧ ns.length ≤ 100 ∧ ∀ n ∈ ns, n.natAbs < 10 ^ 61
theorem log_small {n : Int} (h : n.natAbs < 10 ^ 61) : n.natAbs.log2 < 1920 := by
  by_cases h0 : n.natAbs = 0
  · rw [h0]
    decide
  · have h1 : n.natAbs < 2 ^ 1920 := Nat.lt_of_lt_of_le h (by decide +kernel)
    exact (Nat.log2_lt h0).mpr h1
theorem str_len {n : Int} (h : n.natAbs < 10 ^ 61) : (strI n).length ≤ 62 := strI_len (by decide) h
theorem words_len {r : RD} (h : rowW r) : (∀ z ∈ wordsOf r, z.length ≤ 62) ∧ (wordsOf r).length ≤ 102 := by
  cases r with
  | tell n ps =>
    obtain ⟨h1, h2, h3⟩ := h
    refine ⟨fun z hz => ?_, by show (ps.map strI).length + 1 + 1 ≤ 102; rw [List.length_map]; omega⟩
    rcases List.mem_cons.mp hz with e | hz
    · rw [e]; decide +kernel
    rcases List.mem_cons.mp hz with e | hz
    · rw [e]; exact str_len h1
    · obtain ⟨p, hp, e⟩ := List.mem_map.mp hz
      rw [← e]; exact str_len (h3 p hp)
  | op k ns =>
    obtain ⟨h1, h2, h3, h4⟩ := h
    refine ⟨fun z hz => ?_, by show (ns.map strI).length + 1 ≤ 102; rw [List.length_map]; omega⟩
    rcases List.mem_cons.mp hz with e | hz
    · rw [e]; omega
    · obtain ⟨p, hp, e⟩ := List.mem_map.mp hz
      rw [← e]; exact str_len (h4 p hp)
theorem sp_len : (" " : Str).length = 1 := by decide +kernel
theorem nl_len : ("\n" : Str).length = 1 := by decide +kernel
theorem line_len {r : RD} (h : rowW r) : (lineOf r).length ≤ 6426 ∧ ((wordsOf r).map (·.length)).sum + (wordsOf r).length * (" " : Str).length ≤ 16777216 := by
  obtain ⟨h1, h2⟩ := words_len h
  obtain ⟨h3, h4⟩ := len_join_le (y := " ") h1
  rw [sp_len] at h3 h4 ⊢
  have h5 : (wordsOf r).length * (62 + 1) ≤ 102 * (62 + 1) := Nat.mul_le_mul_right _ h2
  unfold lineOf
  exact ⟨by omega, Nat.le_trans h4 (by omega)⟩
theorem text_len {rs : List RD} (hl : rs.length ≤ 14) (h : ∀ r ∈ rs, rowW r) : (textOf rs).length ≤ 90000 ∧ ((rs.map lineOf).map (·.length)).sum + (rs.map lineOf).length * ("\n" : Str).length ≤ 16777216 := by
  have h1 : ∀ p ∈ rs.map lineOf, p.length ≤ 6426 := fun p hp => by
    obtain ⟨r, hr, e⟩ := List.mem_map.mp hp
    rw [← e]
    exact (line_len (h r hr)).1
  obtain ⟨h3, h4⟩ := len_join_le (y := "\n") h1
  rw [nl_len, List.length_map] at h3
  rw [nl_len] at h4 ⊢
  rw [List.length_map] at h4 ⊢
  have h5 : rs.length * (6426 + 1) ≤ 14 * (6426 + 1) := Nat.mul_le_mul_right _ hl
  unfold textOf
  exact ⟨by omega, Nat.le_trans h4 (by omega)⟩
theorem ten_up {n : Int} (h : n.natAbs < 10 ^ 60) : n.natAbs < 10 ^ 61 := by omega
theorem num_up {n : Int} (h : rowNum n) : n.natAbs < 10 ^ 61 := by
  obtain ⟨h1, h2⟩ := h
  omega
theorem forms_len {k : Str} {ks : List Str} (h : forms k = some ks) : k.length ≤ 10 ∧ ks.length ≤ 2 := by
  rcases forms_cases h with ⟨rfl, rfl⟩ | ⟨rfl, rfl⟩ | ⟨rfl, rfl⟩ | ⟨rfl, rfl⟩ | ⟨rfl, rfl⟩ | ⟨rfl, rfl⟩ <;> exact ⟨by decide +kernel, by decide⟩
theorem zip_num {ns : List Int} {ks : List Str} (hl : ks.length = ns.length) (h : ∀ p ∈ ns.zip ks, if p.2 = "row" then rowNum p.1 else p.1.natAbs < 10 ^ 60) : ∀ n ∈ ns, n.natAbs < 10 ^ 61 := fun n hn => by
  obtain ⟨i, hi, e⟩ := List.mem_iff_getElem.mp hn
  have hz : (n, ks[i]'(by omega)) ∈ ns.zip ks := by
    rw [List.mem_iff_getElem]
    exact ⟨i, by rw [List.length_zip]; omega, by rw [List.getElem_zip, e]⟩
  have q := h _ hz
  split at q
  · exact num_up q
  · exact ten_up q
theorem good_w {r : RD} (h : good r) (hs : rowSm 1000 r.data) : rowW r := by
  cases r with
  | tell n ps =>
    obtain ⟨h1, _, h2⟩ := h
    have h3 : (ps.map PyData.int).length ≤ 100 := hs.2 (.tuple (ps.map PyData.int)) (by simp)
    rw [List.length_map] at h3
    exact ⟨num_up h1, h3, fun p hp => num_up (h2 p hp)⟩
  | op k ns =>
    obtain ⟨ks, h1, h2, h3⟩ := h
    obtain ⟨h4, h5⟩ := forms_len h1
    exact ⟨h4, forms_tell h1, by omega, zip_num h2 h3⟩
theorem append_str (l : List V) (z : Str) (zs : List Str) (h : l = zs.map V.str) : l ++ [.str z] = (zs ++ [z]).map V.str := by
  rw [h, List.map_append]
  rfl
section
variable {P : Program} {w : World} {K : PySem.W.Frag} {mg : Str → Option Value} {base : Heap} {a : Ad}
/-- rows, in a list or in a tuple: their text -/
def spWritten : Sp := fun vs H Q _ => ∃ (p : Addr) (xs : List V) (rs : List RD), vs = [.ref p] ∧ (H p = some (.lst xs) ∨ H p = some (.tup xs)) ∧ DatL noL H xs (rs.map RD.data) ∧ rs.length ≤ 14 ∧ (∀ r ∈ rs, rowW r) ∧ ∀ H', Same H H' → Q (.str (textOf rs)) H'
theorem i_spWritten {p : Addr} {xs : List V} {rs : List RD} {H : Hp} {Q : VK} {E : XK} (h1 : H p = some (.lst xs) ∨ H p = some (.tup xs)) (h2 : DatL noL H xs (rs.map RD.data)) (h3 : rs.length ≤ 14) (h4 : ∀ r ∈ rs, rowW r) (q : ∀ H', Same H H' → Q (.str (textOf rs)) H') : spWritten [.ref p] H Q E :=
  ⟨p, xs, rs, rfl, h1, h2, h3, h4, q⟩
theorem isi_int {i : Int} {H : Hp} {Q : VK} (q : Q (.bl false) H) : rIsi K [.int i, .ty "tuple"] H Q := w_isi (d := .int i) (ok := noL) (.int i) (kit_tuple (.int i) (fun _ z => by cases z)) q
theorem isi_ref {p : Addr} {xs : List V} {H : Hp} {Q : VK} (h : H p = some (.tup xs)) (q : Q (.bl true) H) : rIsi K [.ref p, .ty "tuple"] H Q :=
  ⟨.ref p, .ty "tuple", _, _, true, rfl, .ty "tuple", .base (.tup h), kit_ty (by decide +kernel : kitB "tuple" "tuple" = some true), q⟩
/-- [str(x) for x in a tuple of numbers] -/
theorem comp_str {σ : St} {H : Hp} {Q : VK} {k : Nat} {vs : List Nat} {p : Addr} {ns : List Int} {te : TE} (hte : te = tCB rStrI (tCons (tVar k) tNil)) (hp : H p = some (.tup (ns.map V.int))) (hw : ∀ x, wipe ((wipe σ vs).set k (some x)) vs = wipe σ vs) (hk : ∀ x, ((wipe σ vs).set k (some x))[k]? = some (some x)) (hn : ns.length ≤ 1000) (hb : ∀ n ∈ ns, n.natAbs < 10 ^ 61)
    (q : ∀ d H', H d = none → Same H H' → H' d = some (.lst ((ns.map strI).map V.str)) → Q (.ref d) H') : CompT K (gName k) tYes te vs σ (.ref p) H Q := by
  subst hte
  have hl : (ns.map V.int).length = ns.length := List.length_map _
  refine w_compT (SqT.of hp) hw (by rw [hl]; omega) (fun j acc H' => Same H H' ∧ acc = ((ns.take j).map strI).map V.str) (fun H' s => ⟨s, rfl⟩)
    (fun d j acc H' o hd r => ⟨fun b x e => by rw [upd_ne (ne_of_none e hd)]; exact r.1 b x e, r.2⟩) (fun j acc H' r => SqT.of (r.1 _ _ hp)) (fun d j x acc H' hi r e la PP NN hP hN => ?_) (fun d acc H' r hd e => ?_)
  · obtain ⟨s2, rfl⟩ := r
    obtain ⟨n, hn2, rfl⟩ := map_at hi
    refine w_yes (iteT ?_)
    refine w_cb (w_cons (w_var (hk _) (w_nil (w_strI (log_small (hb n (List.mem_of_getElem? hn2))) (hP _ _ e ⟨s2, ?_⟩)))))
    rw [take_next hn2, List.map_append, List.map_append]
    rfl
  · obtain ⟨s2, rfl⟩ := r
    rw [hl, List.take_length] at e
    exact q d H' hd s2 e
theorem ok__law_written (T : Txt K mg w a) : Ok P w K mg base 1 a.f__law_written ["_law_program_here"] spWritten := by
  obtain ⟨fd, F, b⟩ := T.F__law_written
  refine ⟨fd, F.ok sc__law_written (fun vs H Q E h => ?_) (fun cdv A outer s H vs Q E hr h => ?_), b⟩
  · obtain ⟨p, xs, rs, rfl, _⟩ := h
    rfl
  · obtain ⟨p, xs, rs, rfl, hp, hds, hl, hw, q⟩ := h
    have hxl : xs.length = rs.length := by rw [hds.length, List.length_map]
    refine ⟨_, (pss_cons (ps_set (i := 1) sc__law_written.nd rfl (Or.inl rfl) (pe_lst pa_nil))
      (pss_cons (ps_for PassesOwn.never rfl (pi_seq (pv 0)) (pg_name (i := 2) sc__law_written.nd rfl (Or.inl rfl)) (pss_cons (ps_set (i := 3) sc__law_written.nd rfl (Or.inl rfl) (pe_lst (pa_cons (pe_ix ix_tup (pv 2) pe_int (fun _ _ => rfl)) pa_nil)))
      (Evl.pss_cut (ps_for PassesOwn.never rfl (pi_tup (pe_slice sl_tupA (pv 2) (po_some pe_int) po_none)) (pg_name (i := 4) sc__law_written.nd rfl (Or.inl rfl)) (pss_one (ps_if (pt_val (pe_callB call_isi (by rfl) T.z_isinstance bt_isinstance (pa_cons (pv 4) (pa_cons (pe_bltn (v := .ty "tuple") rfl T.z_tuple bt_tuple rfl) pa_nil)))) (pss_one (ps_set (i := 3) sc__law_written.nd rfl (Or.inl rfl) (pe_op op_cat (pv 3) (pe_lc (own := [("_law_person", 5)]) (g := gName 5) (tt := tYes) (by rfl) sc__law_written.nd (pi_tup (pv 4)) (blkOk_by (own := [("_law_person", 5)]) (N := ["_law_program_here", "_law_lines", "_law_row", "_law_words", "_law_part", "_law_person"]) (sc := defScope s__law_written) (by decide +kernel)) (fun _ _ _ _ _ => pg_name (i := 5) sc__law_written.nd rfl (Or.inl rfl)) (fun _ _ _ _ _ => pts_nil) (fun _ _ _ _ _ => (pe_callTy c_strI (by rfl) T.z_str bt_str (pa_cons (pv 5) pa_nil))))))) (pss_one (ps_expr (pe_bm PySem.F.plainAttrs_list PySem.F.slot_list_append PySem.F.type_list_append mt_append (pv 3) (pa_cons (pe_callTy c_strI (by rfl) T.z_str bt_str (pa_cons (pv 4) pa_nil)) pa_nil)))))))
      (pss_one (ps_expr (pe_bm PySem.F.plainAttrs_list PySem.F.slot_list_append PySem.F.type_list_append mt_append (pv 1) (pa_cons (e_join pe_str (pv 3)) pa_nil)))))))
      (pss_one (ps_ret (e_join pe_str (pv 1)))))), ?_⟩
    walk_at "gg"
    refine w_newL (by show 0 ≤ 1000000; decide) (fun l H1 nl s1 el => ?_)
    walk_at "gg"
    refine w_loopQ (hp.imp (fun z => SqL.of (s1 _ _ z)) (fun z => SqT.of (s1 _ _ z))) (fun j σ' H' => ∃ y2 y3 y4, σ' = [some (.ref p), some (.ref l), y2, y3, y4, none] ∧ Same H H' ∧ H' l = some (.lst (((rs.take j).map lineOf).map V.str)))
      ⟨none, none, none, rfl, s1, el⟩ (fun j σ' H' ⟨_, _, _, _, s2, _⟩ => ?_) (fun j x σ' H' hi ⟨y2, y3, y4, e1, s2, e2⟩ => ?_) (fun σ' H' ⟨y2, y3, y4, e1, s2, e2⟩ => ?_)
    · intro o ho
      rcases hp with hp | hp
      · rw [s1 _ _ hp] at ho
        cases ho
        exact s2 _ _ hp
      · rw [s1 _ _ hp] at ho
        cases ho
        exact s2 _ _ hp
    · subst e1
      obtain ⟨dj, hdj, dx⟩ := hds.get hi
      obtain ⟨r, hr0, rfl⟩ := map_at hdj
      have hrw := hw r (List.mem_of_getElem? hr0)
      have dx := dx.same s2
      have rest : ∀ (y3 : V) (y4 : Option V) (u : Addr) H5, Same H' H5 → H5 u = some (.lst ((wordsOf r).map V.str)) → y3 = .ref u →
          tDrop (tBM K "list" rAppend (tVar 1) (tCons (tM1 (rJoin K) (tC (.str " ")) (tVar 3)) tNil)) { nx := fun σ' H' => ∃ y2 y3 y4, σ' = [some (.ref p), some (.ref l), y2, y3, y4, none] ∧ Same H H' ∧ H' l = some (.lst (((rs.take (j + 1)).map lineOf).map V.str)), rt := Q }
            [some (.ref p), some (.ref l), some x, some y3, y4, none] H5 := fun y3 y4 u H5 s5 e5 ey => by
        subst ey
        have e6 := s5 _ _ e2
        walk_at "gg"
        refine w_tyL e6 ?_
        walk_at "gg"
        refine w_join e5 (line_len hrw).2 ?_
        walk_at "gg"
        refine v_app e6 (by rw [List.length_map, List.length_map, List.length_take]; omega) (fun H6 c6 e7 => ?_)
        walk_at "gg"
        refine ⟨_, _, _, rfl, same_new2 (s2.trans s5) nl c6, ?_⟩
        rw [e7, take_next hr0, List.map_append, List.map_append]
        rfl
      cases r with
      | op k ns =>
        obtain ⟨ra, rfl, hra⟩ := row_op dx
        obtain ⟨b1, b2, b3, b4⟩ := hrw
        walk_at "gg"
        refine w_ixT hra at_hd ?_
        walk_at "gg"
        refine w_newL (by show 1 ≤ 1000000; decide) (fun u H3 nu s3 e3 => ?_)
        refine w_cut (fun σ' H5 => ∃ y4, σ' = [some (.ref p), some (.ref l), some (.ref ra), some (.ref u), y4, none] ∧ Same H' H5 ∧ H5 u = some (.lst ((wordsOf (.op k ns)).map V.str))) ?_ ?_
        · walk_at "gg"
          refine w_slT (s3 _ _ hra) (fun q4 H4 s4 eq4 => ?_)
          rw [show cutV (V.str k :: ns.map V.int) (some 1) none = ns.map V.int from cutV_from _ 1] at eq4
          have hnl : (ns.map V.int).length = ns.length := List.length_map _
          refine w_loopT (SqT.of eq4) (fun i σ' H5 => ∃ y4, σ' = [some (.ref p), some (.ref l), some (.ref ra), some (.ref u), y4, none] ∧ Same H' H5 ∧ Ch u H4 H5 ∧ H5 u = some (.lst ((k :: (ns.take i).map strI).map V.str)))
            ⟨y4, rfl, s3.trans s4, Ch.refl _ _, s4 _ _ e3⟩ (fun i σ' H5 ⟨_, _, _, c5, _⟩ => SqT.of (c5 _ _ (ne_of (s4 _ _ e3) eq4 (by intro z; cases z)).symm eq4)) (fun i x σ' H5 hi ⟨y4, e5, s5, c5, e6⟩ => ?_) (fun σ' H5 ⟨y4, e5, s5, c5, e6⟩ => ?_)
          · subst e5
            obtain ⟨n, hn, rfl⟩ := map_at hi
            walk_at "gg"
            refine isi_int ?_
            walk_at "gg"
            refine w_tyL e6 ?_
            walk_at "gg"
            refine w_strI (log_small (b4 n (List.mem_of_getElem? hn))) ?_
            walk_at "gg"
            refine v_app e6 (by simp only [List.length_map, List.length_cons, List.length_take]; omega) (fun H6 c6 e7 => ?_)
            walk_at "gg"
            refine ⟨_, rfl, same_new2 s5 nu c6, c5.trans c6, ?_⟩
            rw [e7, take_next hn]
            simp
          · subst e5
            rw [hnl, List.take_length] at e6
            exact ⟨_, rfl, s5, e6⟩
        · rintro σ' H5 ⟨y4, rfl, s5, e5⟩
          exact rest _ _ u H5 s5 e5 rfl
      | tell n ps =>
        obtain ⟨ra, pp, rfl, hra, hpp⟩ := row_tell dx
        obtain ⟨b1, b2, b3⟩ := hrw
        walk_at "gg"
        refine w_ixT hra at_hd ?_
        walk_at "gg"
        refine w_newL (by show 1 ≤ 1000000; decide) (fun u H3 nu s3 e3 => ?_)
        refine w_cut (fun σ' H5 => ∃ u y4, σ' = [some (.ref p), some (.ref l), some (.ref ra), some (.ref u), y4, none] ∧ Same H' H5 ∧ H5 u = some (.lst ((wordsOf (.tell n ps)).map V.str))) ?_ ?_
        · walk_at "gg"
          refine w_slT (s3 _ _ hra) (fun q4 H4 s4 eq4 => ?_)
          rw [show cutV [V.str "tell", V.int n, V.ref pp] (some 1) none = [V.int n, V.ref pp] from cutV_from _ 1] at eq4
          have hpp4 := s4 _ _ (s3 _ _ hpp)
          refine w_loopT (SqT.of eq4) (fun i σ' H5 => ∃ y4 u5, σ' = [some (.ref p), some (.ref l), some (.ref ra), some (.ref u5), y4, none] ∧ Same H' H5 ∧ (i < 2 → u5 = u) ∧ Ch u H4 H5 ∧ H5 u5 = some (.lst ((match i with | 0 => ([("tell" : Str)] : List Str) | 1 => [("tell" : Str), strI n] | _ => wordsOf (.tell n ps)).map V.str)))
            ⟨y4, u, rfl, s3.trans s4, fun _ => rfl, Ch.refl _ _, s4 _ _ e3⟩ (fun i σ' H5 ⟨_, _, _, _, _, c5, _⟩ => SqT.of (c5 _ _ (ne_of (s4 _ _ e3) eq4 (by intro z; cases z)).symm eq4)) (fun i x σ' H5 hi ⟨y4, u5, e5, s5, eu, c5, e6⟩ => ?_) (fun σ' H5 ⟨y4, u5, e5, s5, _, c5, e6⟩ => ?_)
          · subst e5
            match i, hi, eu, e6 with
            | 0, hi, eu, e6 =>
              obtain rfl := eu (by decide)
              obtain rfl : x = .int n := by simpa using hi.symm
              walk_at "gg"
              refine isi_int ?_
              walk_at "gg"
              refine w_tyL e6 ?_
              walk_at "gg"
              refine w_strI (log_small b1) ?_
              walk_at "gg"
              refine v_app e6 (by show 1 < 1000000; decide) (fun H6 c6 e7 => ?_)
              walk_at "gg"
              exact ⟨_, u5, rfl, same_new2 s5 nu c6, fun _ => rfl, c5.trans c6, e7⟩
            | 1, hi, eu, e6 =>
              obtain rfl := eu (by decide)
              obtain rfl : x = .ref pp := by simpa using hi.symm
              have hpp5 := s5 _ _ hpp
              walk_at "gg"
              refine isi_ref hpp5 ?_
              walk_at "gg"
              refine comp_str rfl hpp5 (fun x => rfl) (fun x => rfl) (by omega) b3 (fun d H6 nd s6 e7 => ?_)
              refine w_catL (s6 _ _ e6) e7 (by simp only [List.length_map, List.length_cons, List.length_nil]; omega) (fun u7 H7 n7 s7 e8 => ?_)
              exact ⟨_, u7, rfl, (s5.trans s6).trans s7, fun z => absurd z (by decide), c5.trans (Ch.of (s6.trans s7)), by rw [e8, ← List.map_append]; rfl⟩
            | i + 2, hi, _, _ => simp at hi
          · subst e5
            exact ⟨_, _, rfl, s5, e6⟩
        · rintro σ' H5 ⟨u5, y4, rfl, s5, e5⟩
          exact rest _ _ u5 H5 s5 e5 rfl
    · subst e1
      rw [hxl, List.take_length] at e2
      walk_at "gg"
      refine w_join e2 (text_len hl hw).2 ?_
      exact q H' s2
end
end K17
namespace K17
open PySem L2
/-! write_program; rows compared: _law_same. -/
local macro_rules | `(tactic| walk_at "gg") => `(tactic| repeat (first | with_reducible refine w_nt ?_ | with_reducible refine w_nf ?_ | with_reducible refine w_raise ?_ | with_reducible refine w_orS (by with_unfolding_all rfl) ?_ | with_reducible refine iteT ?_ | with_reducible refine iteF ?_ | with_reducible refine w_isNN ?_ | with_reducible refine w_isNI ?_ | with_reducible refine w_isNR ?_ | with_reducible refine w_notNN ?_ | with_reducible refine w_notNI ?_ | with_reducible refine w_notNR ?_ | with_reducible refine w_var (by with_unfolding_all rfl) ?_ | with_reducible refine w_c ?_ | with_reducible refine w_seq ?_ | with_reducible refine w_set ?_ | with_reducible refine w_ret ?_ | with_reducible refine w_if ?_ | with_reducible refine w_op ?_ | with_reducible refine w_ii ?_ | with_reducible refine w_test ?_ | with_reducible refine w_bl ?_ | with_reducible refine w_cb ?_ | with_reducible refine w_call ?_ | with_reducible refine w_nil ?_ | with_reducible refine w_cons ?_ | with_reducible refine w_eqI ?_ | with_reducible refine w_eqS ?_ | with_reducible refine w_neI ?_ | with_reducible refine w_neS ?_ | with_reducible refine w_andV ?_ | with_reducible refine w_orV ?_ | with_reducible refine w_notV ?_ | with_reducible refine w_and ?_ | with_reducible refine w_or ?_ | with_reducible refine w_not ?_ | with_reducible refine w_ifE ?_ | with_reducible refine w_chain ?_ | with_reducible refine w_B ?_ | with_reducible refine w_drop ?_ | with_reducible refine w_next ?_ | with_reducible refine w_un ?_ | with_reducible refine w_iu ?_ | with_reducible refine w_isN ?_ | with_reducible refine w_notN ?_ | with_reducible refine w_int1 ?_ | with_reducible refine w_abs ?_ | with_reducible refine w_min ?_ | with_reducible refine w_max ?_ | with_reducible refine w_tup ?_ | with_reducible refine w_lst ?_ | with_reducible refine w_sl ?_ | with_reducible refine w_noPart ?_ | with_reducible refine w_part ?_ | with_reducible refine w_pi ?_ | with_reducible refine w_bm ?_ | with_reducible refine w_tyS ?_ | with_reducible refine w_m1 ?_ | with_reducible refine w_str ?_ | with_reducible refine w_forL ?_ | with_reducible refine w_forT ?_ | with_reducible refine w_forR1 ?_ | with_reducible refine w_forS ?_ | with_reducible refine w_lcL ?_ | with_reducible refine w_lcT ?_ | with_reducible refine w_lcR1 ?_ | with_reducible refine w_lcR2 ?_ | with_reducible refine w_yes ?_ | with_reducible refine w_asgSub ?_ | with_reducible refine w_callS ?_ | with_reducible refine w_forQ ?_ | with_reducible refine w_forM ?_ | with_reducible refine w_forZ ?_ | with_reducible refine w_forE ?_ | with_reducible refine w_par ?_ | with_reducible refine w_two ?_ | with_reducible refine w_dget2 ?_))
/-- a row whose kind is one of the seven -/
def rowK : RD → Prop
  | .tell _ _ => True
  | .op k _ => ∃ ks, forms k = some ks
theorem good_k {r : RD} (h : good r) : rowK r := by
  cases r with
  | tell n ps => trivial
  | op k ns =>
    obtain ⟨ks, h, _⟩ := h
    exact ⟨ks, h⟩
theorem forms_lay {k : Str} {ks : List Str} (h : forms k = some ks) : PyData.canLay0 (.str k) = true := by
  rcases forms_cases h with ⟨rfl, rfl⟩ | ⟨rfl, rfl⟩ | ⟨rfl, rfl⟩ | ⟨rfl, rfl⟩ | ⟨rfl, rfl⟩ | ⟨rfl, rfl⟩ <;> decide +kernel
theorem row_shaped {r : RD} (h : rowK r) : PyData.canLay0 r.data = true ∧ SeqAt.shaped r.data = true := by
  have key : PyData.canLay0 r.data = true ∧ r.data.depth ≤ 64 := by
    cases r with
    | tell n ps =>
      constructor
      · show (PyData.canLay0 (.str "tell") && (PyData.canLay0 (.int n) && (PyData.canLayAll0 (ps.map PyData.int) && true))) = true
        rw [canLay_ints, Bool.and_true, show PyData.canLay0 (.int n) = true from rfl, Bool.and_true]
        decide +kernel
      · show max (PyData.depth (.str "tell")) (max (PyData.depth (.int n)) (max (PyData.depthAll (ps.map PyData.int) + 1) 0)) + 1 ≤ 64
        rw [depth_ints]
        exact (by decide : max 0 (max 0 (max (0 + 1) 0)) + 1 ≤ 64)
    | op k ns =>
      obtain ⟨ks, h⟩ := h
      constructor
      · show (PyData.canLay0 (.str k) && PyData.canLayAll0 (ns.map PyData.int)) = true
        rw [canLay_ints, forms_lay h]
        rfl
      · show max (PyData.depth (.str k)) (PyData.depthAll (ns.map PyData.int)) + 1 ≤ 64
        rw [depth_ints]
        exact (by decide : max 0 0 + 1 ≤ 64)
  refine ⟨key.1, ?_⟩
  unfold SeqAt.shaped
  rw [key.1, decide_eq_true key.2]
  rfl
/-- rows that are read are of the seven kinds -/
theorem line_k {l : Str} {r : RD} (h : rowOfLine l = some r) : rowK r := by
  unfold rowOfLine at h
  cases ew : Txt.split l " " with
  | nil =>
    rw [ew] at h
    cases h
  | cons k rest =>
    rw [ew, rowOf_cons] at h
    cases hk : kindsOf k rest with
    | none => rw [hk] at h; cases h
    | some ks =>
      rw [hk] at h
      have h : (numbersOf rest ks).map (mkRow k) = some r := h
      cases hn : numbersOf rest ks with
      | none => rw [hn] at h; cases h
      | some ns =>
        rw [hn] at h
        have h : some (mkRow k ns) = some r := h
        injection h with h
        by_cases ht : k = "tell"
        · rw [← h]
          unfold mkRow
          rw [if_pos ht]
          trivial
        · rw [← h, mk_op ht]
          unfold kindsOf at hk
          rw [if_neg ht] at hk
          cases hf : forms k with
          | none => rw [hf] at hk; cases hk
          | some ks' => exact ⟨ks', hf⟩
theorem scan_k : ∀ {ls : List Str} {rs : List RD}, scan ls = .inr rs → ∀ r ∈ rs, rowK r
  | [], rs, h => by
    have h : Sum.inr ([] : List RD) = (Sum.inr rs : Nat ⊕ List RD) := h
    cases h
    intro r hr
    cases hr
  | l :: ls, rs, h => by
    cases e : rowOfLine l with
    | none =>
      rw [scan_none e] at h
      cases h
    | some r0 =>
      rw [scan_some e] at h
      cases e2 : scan ls with
      | inl i => rw [e2] at h; cases h
      | inr q =>
        rw [e2] at h
        cases h
        intro r hr
        rcases List.mem_cons.mp hr with z | z
        · rw [z]; exact line_k e
        · exact scan_k e2 r z
section
variable {P : Program} {w : World} {K : PySem.W.Frag} {mg : Str → Option Value} {base : Heap} {a : Ad}
/-- two tuples of the same rows -/
def spSame : Sp := fun vs H Q _ => ∃ (v u : V) (rs : List RD), vs = [v, u] ∧ rowsAt H v rs ∧ rowsAt H u rs ∧ (∀ r ∈ rs, rowK r) ∧ rs.length ≤ 99000 ∧ (∀ r ∈ rs, (wordsOf r).length ≤ 99000) ∧ ∀ H', Same H H' → Q (.bl true) H'
theorem i_spSame {v u : V} {rs : List RD} {H : Hp} {Q : VK} {E : XK} (h1 : rowsAt H v rs) (h2 : rowsAt H u rs) (h3 : ∀ r ∈ rs, rowK r) (h4 : rs.length ≤ 99000) (h5 : ∀ r ∈ rs, (wordsOf r).length ≤ 99000) (q : ∀ H', Same H H' → Q (.bl true) H') : spSame [v, u] H Q E := ⟨v, u, rs, rfl, h1, h2, h3, h4, h5, q⟩
theorem ok__law_same (T : Txt K mg w a) : Ok P w K mg base 2 a.f__law_same ["_law_got", "_law_due"] spSame := by
  obtain ⟨fd, F, b⟩ := T.F__law_same
  obtain ⟨fd1, G__law_integer, b__law_integer⟩ := ok__law_integer (P := P) (base := base) T
  refine ⟨fd, F.ok sc__law_same (fun vs H Q E h => ?_) (fun cdv A outer s H vs Q E hr h => ?_), b⟩
  · obtain ⟨v, u, rs, rfl, _⟩ := h
    rfl
  · obtain ⟨v, u, rs, rfl, ⟨c1, xs, rfl, e1, d1⟩, ⟨c2, ys, rfl, e2, d2⟩, hk, hl, hwl, q⟩ := h
    have hx : xs.length = rs.length := by rw [d1.length, List.length_map]
    have hy : ys.length = rs.length := by rw [d2.length, List.length_map]
    refine ⟨_, (pss_cons (ps_if (PW.pt (pw_or (pt_not (pt_val (pe_callB call_isi (by rfl) T.z_isinstance bt_isinstance (pa_cons (pv 0) (pa_cons (pe_bltn (v := .ty "tuple") rfl T.z_tuple bt_tuple rfl) pa_nil))))) (pw_or1 (pt_cmpR op_ne (pe_callB c_len (by rfl) T.z_len bt_len (pa_cons (pv 0) pa_nil)) (pe_callB c_len (by rfl) T.z_len bt_len (pa_cons (pv 1) pa_nil)) (nomark _))))) (pss_one (ps_ret pe_bl)) pss_nil)
      (pss_cons (ps_for PassesOwn.never rfl (RZ.pi_zipA (by rfl) T.z_zip (pa_cons (pv 0) (pa_cons (pv 1) pa_nil))) (pg_tup rfl (pgs_cons (pg_name (i := 2) sc__law_same.nd rfl (Or.inl rfl)) (pgs_cons (pg_name (i := 3) sc__law_same.nd rfl (Or.inl rfl)) pgs_nil))) (pss_cons (ps_if (PW.pt (pw_or (pt_not (pt_val (pe_callB call_isi (by rfl) T.z_isinstance bt_isinstance (pa_cons (pv 2) (pa_cons (pe_bltn (v := .ty "tuple") rfl T.z_tuple bt_tuple rfl) pa_nil))))) (pw_or1 (pt_cmpR (op_neD hr.units) (pv 2) (pv 3) (nomark _))))) (pss_one (ps_ret pe_bl)) pss_nil)
      (pss_cons (ps_set (i := 4) sc__law_same.nd rfl (Or.inl rfl) (pe_slice sl_tupA (pv 2) (po_some pe_int) po_none))
      (Evl.pss_cut (ps_if (pt_cmpR op_eq (pe_ix ix_tup (pv 2) pe_int (fun _ _ => rfl)) pe_str (nomark _)) (pss_one (ps_set (i := 4) sc__law_same.nd rfl (Or.inl rfl) (pe_op op_catA (pe_tup (pa_cons (pe_ix ix_tup (pv 2) pe_int (fun _ _ => rfl)) pa_nil)) (pe_ix ix_tup (pv 2) pe_int (fun _ _ => rfl))))) pss_nil)
      (pss_one (ps_if (pt_cmpR op_gt (pe_callB c_len (by rfl) T.z_len bt_len (pa_cons (pe_lc (own := [("_law_number_here", 5)]) (g := gName 5) (by rfl) sc__law_same.nd (pi_tup (pv 4)) (blkOk_by (own := [("_law_number_here", 5)]) (N := ["_law_got", "_law_due", "_law_row", "_law_other", "_law_people_here", "_law_number_here"]) (sc := defScope s__law_same) (by decide +kernel)) (fun _ _ _ _ _ => pg_name (i := 5) sc__law_same.nd rfl (Or.inl rfl)) (fun _ _ _ _ _ => (pts_one (pt_not (pt_val (pe_call G__law_integer (hr.mono (by decide)) (by rfl) T.a__law_integer T.k__law_integer b__law_integer .nil pass0 (pa_cons (pv 5) pa_nil)))))) (fun _ _ _ _ _ => (pv 5))) pa_nil)) pe_int (nomark _)) (pss_one (ps_ret pe_bl)) pss_nil))))))
      (pss_one (ps_ret pe_bl)))), ?_⟩
    walk_at "gg"
    refine isi_ref e1 ?_
    walk_at "gg"
    refine w_lenT e1 ?_
    walk_at "gg"
    refine w_lenT e2 ?_
    walk_at "gg"
    refine w_ndec (fun c => absurd (by rw [hx, hy]) c) (fun c => ?_)
    walk_at "gg"
    refine w_loopTT (SqT.of e1) (SqT.of e2) (by rw [hx, hy]) (fun j σ' H' => ∃ y2 y3 y4, σ' = [some (.ref c1), some (.ref c2), y2, y3, y4, none] ∧ Same H H') ⟨none, none, none, rfl, Same.refl H⟩
      (fun j σ' H' ⟨_, _, _, _, s⟩ => ⟨SqT.of (s _ _ e1), SqT.of (s _ _ e2)⟩) (fun j x y σ' H' H2 hx1 hy1 ⟨y2, y3, y4, e3, s1⟩ s2 => ?_) (fun σ' H' ⟨y2, y3, y4, e3, s1⟩ => ?_)
    · subst e3
      have s12 := s1.trans s2
      obtain ⟨dj, hdj, dx⟩ := d1.get hx1
      obtain ⟨r, hr0, rfl⟩ := map_at hdj
      obtain ⟨dj, hdj2, dy⟩ := d2.get hy1
      rw [hdj] at hdj2
      cases hdj2
      have dx := dx.same s12
      have dy := dy.same s12
      have rk := hk r (List.mem_of_getElem? hr0)
      obtain ⟨sh1, sh2⟩ := row_shaped rk
      have wl := hwl r (List.mem_of_getElem? hr0)
      obtain ⟨rx, rfl⟩ := row_ref dx
      have tail : ∀ (p : Addr) (ns : List Int) y4 H5, ns.length ≤ 99000 → y4 = V.ref p → H5 p = some (.tup (ns.map V.int)) → Same H H5 →
          tIfS (tTest (tOp (rI0 fun i j => V.bl (decide (i > j))) (tCB (rLen K) (tCons (tLc (iTup K (tVar 4)) (gName 5) (tNot (tB (tCall spInt [] E0 (tCons (tVar 5) tNil)))) (tVar 5) [5]) tNil)) (tC (V.int 0)))) (tRet (tC (V.bl false))) tNext
            { nx := fun σ' H' => ∃ y2 y3 y4, σ' = [some (.ref c1), some (.ref c2), y2, y3, y4, none] ∧ Same H H', rt := Q } [some (.ref c1), some (.ref c2), some (.ref rx), some y, some y4, none] H5 := fun p ns y4 H5 hns ey e5 s5 => by
        subst ey
        have hnl : (ns.map V.int).length = ns.length := List.length_map _
        walk_at "gg"
        refine w_compT (SqT.of e5) (fun x => rfl) (by rw [hnl]; omega) (fun j acc H' => Same H5 H' ∧ acc = []) (fun H' s => ⟨s, rfl⟩)
          (fun d j acc H' o hd r => ⟨fun b x e => by rw [upd_ne (ne_of_none e hd)]; exact r.1 b x e, r.2⟩) (fun j acc H' r => SqT.of (r.1 _ _ e5)) (fun d j x acc H' hi r e la PP NN hP hN => ?_) (fun d acc H' r hd e => ?_)
        · obtain ⟨s6, rfl⟩ := r
          obtain ⟨n, hn, rfl⟩ := map_at hi
          walk_at "gg"
          refine i_spInt (d := .int n) (ok := noL) (.int n) ?_
          show ∃ c, V.bl true = .bl c ∧ _
          walk_at "gg"
          exact hN _ e ⟨s6, rfl⟩
        · obtain ⟨s6, rfl⟩ := r
          walk_at "gg"
          refine w_lenL e ?_
          walk_at "gg"
          refine w_dec (fun c => absurd c (by decide)) (fun c => ?_)
          walk_at "gg"
          exact ⟨_, _, _, rfl, s5.trans s6⟩
      cases r with
      | op k ns =>
        have kk : k ≠ "tell" := by
          obtain ⟨ks, hf⟩ := rk
          exact forms_tell hf
        have wl : (ns.map strI).length + 1 ≤ 99000 := wl
        rw [List.length_map] at wl
        obtain ⟨ra, er, hra⟩ := row_op dx
        cases er
        walk_at "gg"
        refine isi_ref hra ?_
        walk_at "gg"
        refine w_neD dx.dp dy.dp sh2 sh2 ?_
        rw [SeqAt.eqv_refl _ sh1]
        show ∃ c, V.bl false = .bl c ∧ _
        walk_at "gg"
        refine w_slT hra (fun p H3 s3 ep => ?_)
        rw [show cutV (V.str k :: ns.map V.int) (some 1) none = ns.map V.int from cutV_from _ 1] at ep
        refine w_cut (fun σ' H5 => ∃ p, σ' = [some (.ref c1), some (.ref c2), some (.ref rx), some y, some (.ref p), none] ∧ Same H H5 ∧ H5 p = some (.tup (ns.map V.int))) ?_ ?_
        · walk_at "gg"
          refine w_ixT (s3 _ _ hra) at_hd ?_
          walk_at "gg"
          refine w_dec (fun c => absurd c kk) (fun c => ?_)
          walk_at "gg"
          exact ⟨p, rfl, s12.trans s3, ep⟩
        · rintro σ' H5 ⟨p, rfl, s5, e5⟩
          exact tail p ns _ H5 (by omega) rfl e5 s5
      | tell n ps =>
        have wl : (ps.map strI).length + 1 + 1 ≤ 99000 := wl
        rw [List.length_map] at wl
        obtain ⟨ra, pp, er, hra, hpp⟩ := row_tell dx
        cases er
        walk_at "gg"
        refine isi_ref hra ?_
        walk_at "gg"
        refine w_neD dx.dp dy.dp sh2 sh2 ?_
        rw [SeqAt.eqv_refl _ sh1]
        show ∃ c, V.bl false = .bl c ∧ _
        walk_at "gg"
        refine w_slT hra (fun p H3 s3 ep => ?_)
        refine w_cut (fun σ' H5 => ∃ p, σ' = [some (.ref c1), some (.ref c2), some (.ref rx), some y, some (.ref p), none] ∧ Same H H5 ∧ H5 p = some (.tup ((n :: ps).map V.int))) ?_ ?_
        · have hra3 := s3 _ _ hra
          walk_at "gg"
          refine w_ixT hra3 at_hd ?_
          walk_at "gg"
          refine w_dec (fun c => ?_) (fun c => absurd rfl c)
          walk_at "gg"
          refine w_ixT hra3 at_snd ?_
          walk_at "gg"
          refine w_newT (by show 1 ≤ 1000000; decide) (fun t H4 nt s4 et => ?_)
          walk_at "gg"
          refine w_ixT (s4 _ _ hra3) at_third ?_
          refine w_catT et (s4 _ _ (s3 _ _ hpp)) (by rw [List.length_map]; show 1 + ps.length ≤ 1000000; omega) (fun u H5 s5 eu => ?_)
          exact ⟨u, rfl, s12.trans (s3.trans (s4.trans s5)), eu⟩
        · rintro σ' H5 ⟨p, rfl, s5, e5⟩
          exact tail p (n :: ps) _ H5 (by show ps.length + 1 ≤ 99000; omega) rfl e5 s5
    · subst e3
      walk_at "gg"
      exact q H' s1
end
end K17
namespace K17
open PySem L2
/-! write_program. -/
local macro_rules | `(tactic| walk_at "gg") => `(tactic| repeat (first | with_reducible refine w_nt ?_ | with_reducible refine w_nf ?_ | with_reducible refine w_raise ?_ | with_reducible refine w_orS (by with_unfolding_all rfl) ?_ | with_reducible refine iteT ?_ | with_reducible refine iteF ?_ | with_reducible refine w_isNN ?_ | with_reducible refine w_isNI ?_ | with_reducible refine w_isNR ?_ | with_reducible refine w_notNN ?_ | with_reducible refine w_notNI ?_ | with_reducible refine w_notNR ?_ | with_reducible refine w_var (by with_unfolding_all rfl) ?_ | with_reducible refine w_c ?_ | with_reducible refine w_seq ?_ | with_reducible refine w_set ?_ | with_reducible refine w_ret ?_ | with_reducible refine w_if ?_ | with_reducible refine w_op ?_ | with_reducible refine w_ii ?_ | with_reducible refine w_test ?_ | with_reducible refine w_bl ?_ | with_reducible refine w_cb ?_ | with_reducible refine w_call ?_ | with_reducible refine w_nil ?_ | with_reducible refine w_cons ?_ | with_reducible refine w_eqI ?_ | with_reducible refine w_eqS ?_ | with_reducible refine w_neI ?_ | with_reducible refine w_neS ?_ | with_reducible refine w_andV ?_ | with_reducible refine w_orV ?_ | with_reducible refine w_notV ?_ | with_reducible refine w_and ?_ | with_reducible refine w_or ?_ | with_reducible refine w_not ?_ | with_reducible refine w_ifE ?_ | with_reducible refine w_chain ?_ | with_reducible refine w_B ?_ | with_reducible refine w_drop ?_ | with_reducible refine w_next ?_ | with_reducible refine w_un ?_ | with_reducible refine w_iu ?_ | with_reducible refine w_isN ?_ | with_reducible refine w_notN ?_ | with_reducible refine w_int1 ?_ | with_reducible refine w_abs ?_ | with_reducible refine w_min ?_ | with_reducible refine w_max ?_ | with_reducible refine w_tup ?_ | with_reducible refine w_lst ?_ | with_reducible refine w_sl ?_ | with_reducible refine w_noPart ?_ | with_reducible refine w_part ?_ | with_reducible refine w_pi ?_ | with_reducible refine w_bm ?_ | with_reducible refine w_tyS ?_ | with_reducible refine w_m1 ?_ | with_reducible refine w_str ?_ | with_reducible refine w_forL ?_ | with_reducible refine w_forT ?_ | with_reducible refine w_forR1 ?_ | with_reducible refine w_forS ?_ | with_reducible refine w_lcL ?_ | with_reducible refine w_lcT ?_ | with_reducible refine w_lcR1 ?_ | with_reducible refine w_lcR2 ?_ | with_reducible refine w_yes ?_ | with_reducible refine w_asgSub ?_ | with_reducible refine w_callS ?_ | with_reducible refine w_forQ ?_ | with_reducible refine w_forM ?_ | with_reducible refine w_forZ ?_ | with_reducible refine w_forE ?_ | with_reducible refine w_par ?_ | with_reducible refine w_two ?_ | with_reducible refine w_dget2 ?_))
section
variable {P : Program} {w : World} {K : PySem.W.Frag} {mg : Str → Option Value} {base : Heap} {a : Ad}
def progSm (d : PyData) : Prop := ∀ ds, d = .tuple ds → ds.length ≤ 14 ∧ ∀ e ∈ ds, rowSm 1000 e
def spWriteP (a : Ad) : Sp := fun vs H Q E => ∃ (v : V) (d : PyData) (ok : Addr → Prop), vs = [v] ∧ Dat ok H v d ∧ progSm d ∧ (∀ rs : List RD, d = .tuple (rs.map RD.data) → rs ≠ [] → (∀ r ∈ rs, good r) → (∀ r ∈ rs, rowW r) → rs.length ≤ 14 → faultOf 8 d = none → ∀ H', Same H H' → Q (.str (textOf rs)) H') ∧
  ∀ i : Nat, faultOf 8 d = some i → noE H a.C_BadProgram "row" i E
theorem i_spWriteP {v : V} {d : PyData} {ok : Addr → Prop} {H : Hp} {Q : VK} {E : XK} (h1 : Dat ok H v d) (h2 : progSm d) (q : ∀ rs : List RD, d = .tuple (rs.map RD.data) → rs ≠ [] → (∀ r ∈ rs, good r) → (∀ r ∈ rs, rowW r) → rs.length ≤ 14 → faultOf 8 d = none → ∀ H', Same H H' → Q (.str (textOf rs)) H')
    (o : ∀ i : Nat, faultOf 8 d = some i → noE H a.C_BadProgram "row" i E) : spWriteP a [v] H Q E := ⟨v, d, ok, rfl, h1, h2, q, o⟩
theorem ok_write_program (T : Txt K mg w a) : OkN P w K mg base 6 a.f_write_program ["program"] (spWriteP a) := by
  obtain ⟨fd, F, b⟩ := T.F_write_program
  obtain ⟨fd1, G_check_program, b_check_program⟩ := ok_check_program (P := P) (base := base) T
  refine ⟨fd, okN F sc_write_program (fun vs H Q E h => ?_) (fun cdv A outer s H vs Q E hr h => ?_), b⟩
  · obtain ⟨v, d, ok, rfl, _⟩ := h
    rfl
  · obtain ⟨v, d, ok, rfl, dv, hsm, ret, out⟩ := h
    refine ⟨_, (pss_cons (ps_expr (pe_call G_check_program (hr.mono (by decide)) (by rfl) T.a_check_program T.k_check_program b_check_program .nil (L2N.passes_call (L2N.takes_of rfl rfl rfl rfl) (fun _ _ _ _ h => h)) (pa_cons (pv 0) (pa_cons (pe_glob (v := .int 8) rfl T.g_MOST_PEOPLE ⟨_, rfl⟩) pa_nil))))
      (pss_cons (ps_set (i := 1) sc_write_program.nd rfl (Or.inl rfl) (pe_lst pa_nil))
      (pss_cons (ps_for (passes_of rfl) rfl (pi_tup (pv 0)) (pg_name (i := 2) sc_write_program.nd rfl (Or.inl rfl)) (pss_cons (ps_set (i := 3) sc_write_program.nd rfl (Or.inl rfl) (pe_slice sl_tupA (pv 2) (po_some pe_int) po_none))
      (Evl.pss_cut (ps_if (pt_cmpR op_eq (pe_ix ix_tup (pv 2) pe_int (fun _ _ => rfl)) pe_str (nomark _)) (pss_one (ps_set (i := 3) sc_write_program.nd rfl (Or.inl rfl) (pe_op op_catA (pe_tup (pa_cons (pe_ix ix_tup (pv 2) pe_int (fun _ _ => rfl)) pa_nil)) (pe_ix ix_tup (pv 2) pe_int (fun _ _ => rfl))))) pss_nil)
      (pss_one (ps_expr (pe_bm PySem.F.plainAttrs_list PySem.F.slot_list_append PySem.F.type_list_append mt_append (pv 1) (pa_cons (e_join pe_str (pe_op op_cat (pe_lst (pa_cons (pe_ix ix_tup (pv 2) pe_int (fun _ _ => rfl)) pa_nil)) (pe_lc (own := [("number", 4)]) (g := gName 4) (tt := tYes) (by rfl) sc_write_program.nd (pi_tup (pv 3)) (blkOk_by (own := [("number", 4)]) (N := ["program", "lines", "row", "numbers", "number"]) (sc := defScope s_write_program) (by decide +kernel)) (fun _ _ _ _ _ => pg_name (i := 4) sc_write_program.nd rfl (Or.inl rfl)) (fun _ _ _ _ _ => pts_nil) (fun _ _ _ _ _ => (pe_callTy c_strI (by rfl) T.z_str bt_str (pa_cons (pv 4) pa_nil)))))) pa_nil)))))))
      (pss_one (ps_ret (e_join pe_str (pv 1))))))), ?_⟩
    walk_at "gg"
    refine i_spCheck dv (fun ds e => ⟨Nat.le_trans (hsm ds e).1 (by decide), (hsm ds e).2⟩) (fun hf H1 s1 => ?_) (fun i hi => out i hi)
    walk_at "gg"
    rcases tup_or dv with ⟨_, p, xs, ds, rfl, rfl, hp, hds⟩ | e
    case inr =>
      rw [fault_not e] at hf
      cases hf
    obtain ⟨hl, hrow⟩ := hsm ds rfl
    obtain ⟨rs, rfl, hne, hgood⟩ := fault_none (by decide) rfl (by omega) hf
    rw [List.length_map] at hl
    have hw : ∀ r ∈ rs, rowW r := fun r hr => good_w (hgood r hr) (hrow _ (List.mem_map.mpr ⟨r, hr, rfl⟩))
    have ret := ret rs rfl hne hgood hw hl hf
    have hp1 := s1 _ _ hp
    have hx : xs.length = rs.length := by rw [hds.length, List.length_map]
    refine w_newL (by show 0 ≤ 1000000; decide) (fun l H2 nl s2 el => ?_)
    walk_at "gg"
    refine w_loopT (SqT.of (s2 _ _ hp1)) (fun j σ' H' => ∃ y2 y3, σ' = [some (.ref p), some (.ref l), y2, y3, none] ∧ Same H H' ∧ H' l = some (.lst (((rs.take j).map lineOf).map V.str)))
      ⟨none, none, rfl, s1.trans s2, el⟩ (fun j σ' H' ⟨_, _, _, s3, _⟩ => SqT.of (s3 _ _ hp)) (fun j x σ' H' hi ⟨y2, y3, e1, s3, e3⟩ => ?_) (fun σ' H' ⟨y2, y3, e1, s3, e3⟩ => ?_)
    · subst e1
      obtain ⟨dj, hdj, dx⟩ := hds.get hi
      obtain ⟨r, hr0, rfl⟩ := map_at hdj
      have dx := dx.same s3
      have hrw := hw r (List.mem_of_getElem? hr0)
      have rest : ∀ (k : Str) (ns : List Int) (rx q : Addr) (ys : List V) H5, wordsOf r = k :: ns.map strI → ns.length ≤ 1000 → (∀ n ∈ ns, n.natAbs < 10 ^ 61) → H5 rx = some (.tup (.str k :: ys)) → H5 q = some (.tup (ns.map V.int)) → Same H' H5 →
          tDrop (tBM K "list" rAppend (tVar 1) (tCons (tM1 (rJoin K) (tC (.str " ")) (tOp rCat (tLst (tCons (tOp (rIxT K) (tVar 2) (tC (.int 0))) tNil)) (tLc (iTup K (tVar 3)) (gName 4) tYes (tCB rStrI (tCons (tVar 4) tNil)) [4]))) tNil))
            { nx := fun σ' H' => ∃ y2 y3, σ' = [some (.ref p), some (.ref l), y2, y3, none] ∧ Same H H' ∧ H' l = some (.lst (((rs.take (j + 1)).map lineOf).map V.str)), rt := Q }
            [some (.ref p), some (.ref l), some (.ref rx), some (.ref q), none] H5 := fun k ns rx q ys H5 ew hn hb erx eq s5 => by
        have e5 := s5 _ _ e3
        walk_at "gg"
        refine w_tyL e5 ?_
        walk_at "gg"
        refine w_ixT erx at_hd ?_
        walk_at "gg"
        refine w_newL (by show 1 ≤ 1000000; decide) (fun u H6 nu s6 eu => ?_)
        walk_at "gg"
        refine comp_str rfl (s6 _ _ eq) (fun x => rfl) (fun x => rfl) hn hb (fun d H7 nd s7 ed => ?_)
        refine w_catL (s7 _ _ eu) ed (by simp only [List.length_map, List.length_cons, List.length_nil]; omega) (fun u2 H8 _ s8 eu2 => ?_)
        have ejoin : H8 u2 = some (.lst ((wordsOf r).map V.str)) := by rw [eu2, ew]; rfl
        refine w_join ejoin (line_len hrw).2 ?_
        have s58 := s6.trans (s7.trans s8)
        walk_at "gg"
        refine v_app (s58 _ _ e5) (by rw [List.length_map, List.length_map, List.length_take]; omega) (fun H9 c9 e9 => ?_)
        walk_at "gg"
        have nl0 : H l = none := s1.free nl
        refine ⟨_, _, rfl, same_new2 ((s3.trans s5).trans s58) nl0 c9, ?_⟩
        rw [e9, take_next hr0, List.map_append, List.map_append]
        rfl
      cases r with
      | op k ns =>
        obtain ⟨b1, b2, b3, b4⟩ := hrw
        obtain ⟨ra, rfl, hra⟩ := row_op dx
        walk_at "gg"
        refine w_slT hra (fun q H5 s5 eq => ?_)
        rw [show cutV (V.str k :: ns.map V.int) (some 1) none = ns.map V.int from cutV_from _ 1] at eq
        refine w_cut (fun σ' H6 => ∃ q, σ' = [some (.ref p), some (.ref l), some (.ref ra), some (.ref q), none] ∧ Same H' H6 ∧ H6 q = some (.tup (ns.map V.int))) ?_ ?_
        · walk_at "gg"
          refine w_ixT (s5 _ _ hra) at_hd ?_
          walk_at "gg"
          refine w_dec (fun c => absurd c b2) (fun c => ?_)
          walk_at "gg"
          exact ⟨q, rfl, s5, eq⟩
        · rintro σ' H6 ⟨q, rfl, s6, e6⟩
          exact rest k ns ra q _ H6 rfl (by omega) b4 (s6 _ _ hra) e6 s6
      | tell n ps =>
        obtain ⟨b1, b2, b3⟩ := hrw
        obtain ⟨ra, pp, rfl, hra, hpp⟩ := row_tell dx
        walk_at "gg"
        refine w_slT hra (fun q H5 s5 eq => ?_)
        refine w_cut (fun σ' H6 => ∃ q, σ' = [some (.ref p), some (.ref l), some (.ref ra), some (.ref q), none] ∧ Same H' H6 ∧ H6 q = some (.tup ((n :: ps).map V.int))) ?_ ?_
        · have hra3 := s5 _ _ hra
          walk_at "gg"
          refine w_ixT hra3 at_hd ?_
          walk_at "gg"
          refine w_dec (fun c => ?_) (fun c => absurd rfl c)
          walk_at "gg"
          refine w_ixT hra3 at_snd ?_
          walk_at "gg"
          refine w_newT (by show 1 ≤ 1000000; decide) (fun t H6 nt s6 et => ?_)
          walk_at "gg"
          refine w_ixT (s6 _ _ hra3) at_third ?_
          refine w_catT et (s6 _ _ (s5 _ _ hpp)) (by rw [List.length_map]; show 1 + ps.length ≤ 1000000; omega) (fun u H7 s7 eu => ?_)
          exact ⟨u, rfl, s5.trans (s6.trans s7), eu⟩
        · rintro σ' H6 ⟨q, rfl, s6, e6⟩
          refine rest "tell" (n :: ps) ra q _ H6 rfl (by show ps.length + 1 ≤ 1000; omega) (fun m hm => ?_) (s6 _ _ hra) e6 s6
          rcases List.mem_cons.mp hm with z | z
          · rw [z]; exact b1
          · exact b3 m z
    · subst e1
      rw [hx, List.take_length] at e3
      walk_at "gg"
      refine w_join e3 (text_len hl hw).2 ?_
      exact ret H' s3
end
end K17
namespace K17
open PySem L2
/-! Rows that the law draws: _law_program, _law_any_rows. -/
local macro_rules | `(tactic| walk_at "gg") => `(tactic| repeat (first | with_reducible refine w_nt ?_ | with_reducible refine w_nf ?_ | with_reducible refine w_raise ?_ | with_reducible refine w_orS (by with_unfolding_all rfl) ?_ | with_reducible refine iteT ?_ | with_reducible refine iteF ?_ | with_reducible refine w_isNN ?_ | with_reducible refine w_isNI ?_ | with_reducible refine w_isNR ?_ | with_reducible refine w_notNN ?_ | with_reducible refine w_notNI ?_ | with_reducible refine w_notNR ?_ | with_reducible refine w_var (by with_unfolding_all rfl) ?_ | with_reducible refine w_c ?_ | with_reducible refine w_seq ?_ | with_reducible refine w_set ?_ | with_reducible refine w_ret ?_ | with_reducible refine w_if ?_ | with_reducible refine w_op ?_ | with_reducible refine w_ii ?_ | with_reducible refine w_test ?_ | with_reducible refine w_bl ?_ | with_reducible refine w_cb ?_ | with_reducible refine w_call ?_ | with_reducible refine w_nil ?_ | with_reducible refine w_cons ?_ | with_reducible refine w_eqI ?_ | with_reducible refine w_eqS ?_ | with_reducible refine w_neI ?_ | with_reducible refine w_neS ?_ | with_reducible refine w_andV ?_ | with_reducible refine w_orV ?_ | with_reducible refine w_notV ?_ | with_reducible refine w_and ?_ | with_reducible refine w_or ?_ | with_reducible refine w_not ?_ | with_reducible refine w_ifE ?_ | with_reducible refine w_chain ?_ | with_reducible refine w_B ?_ | with_reducible refine w_drop ?_ | with_reducible refine w_next ?_ | with_reducible refine w_un ?_ | with_reducible refine w_iu ?_ | with_reducible refine w_isN ?_ | with_reducible refine w_notN ?_ | with_reducible refine w_int1 ?_ | with_reducible refine w_abs ?_ | with_reducible refine w_min ?_ | with_reducible refine w_max ?_ | with_reducible refine w_tup ?_ | with_reducible refine w_lst ?_ | with_reducible refine w_sl ?_ | with_reducible refine w_noPart ?_ | with_reducible refine w_part ?_ | with_reducible refine w_pi ?_ | with_reducible refine w_bm ?_ | with_reducible refine w_tyS ?_ | with_reducible refine w_m1 ?_ | with_reducible refine w_str ?_ | with_reducible refine w_forL ?_ | with_reducible refine w_forT ?_ | with_reducible refine w_forR1 ?_ | with_reducible refine w_forS ?_ | with_reducible refine w_lcL ?_ | with_reducible refine w_lcT ?_ | with_reducible refine w_lcR1 ?_ | with_reducible refine w_lcR2 ?_ | with_reducible refine w_yes ?_ | with_reducible refine w_asgSub ?_ | with_reducible refine w_callS ?_ | with_reducible refine w_forQ ?_ | with_reducible refine w_forM ?_ | with_reducible refine w_forZ ?_ | with_reducible refine w_forE ?_ | with_reducible refine w_par ?_ | with_reducible refine w_two ?_ | with_reducible refine w_dget2 ?_))
/-- rows being gathered in the list at f -/
structure Mk (H0 : Hp) (z : StA) (f : Addr) (H : Hp) (vs : List V) (rs : List RD) : Prop where
  c : Ch z.st H0 H
  o : StOk H z
  e : H f = some (.lst vs)
  d : DatL noL H vs (rs.map RD.data)
  w : ∀ r ∈ rs, rowW r
theorem ch_app {st f : Addr} {H0 H H2 : Hp} (c : Ch st H0 H) (n : H0 f = none) (c2 : Ch f H H2) : Ch st H0 H2 := fun b o nb e => c2 b o (ne_of_none e n) (c b o nb e)
section
variable {H0 H H2 : Hp} {z : StA} {f u : Addr} {vs us : List V} {rs : List RD} {v : V} {r : RD}
theorem Mk.draw (m : Mk H0 z f H vs rs) (nf : f ≠ z.st) (c : Ch z.st H H2) (o : StOk H2 z) : Mk H0 z f H2 vs rs := ⟨m.c.trans c, o, c _ _ nf m.e, m.d.tk (m.o.tk c), m.w⟩
theorem Mk.same (m : Mk H0 z f H vs rs) (s : Same H H2) : Mk H0 z f H2 vs rs := ⟨m.c.trans (Ch.of s), m.o.same s, s _ _ m.e, m.d.same s, m.w⟩
theorem Mk.app (m : Mk H0 z f H vs rs) (o0 : StOk H0 z) (n : H0 f = none) (c : Ch f H H2) (e : H2 f = some (.lst (vs ++ [v]))) (d : Dat noL H v r.data) (hw : rowW r) : Mk H0 z f H2 (vs ++ [v]) (rs ++ [r]) :=
  ⟨ch_app m.c n c, m.o.ch c (o0.ne n).1 (o0.ne n).2, e, datL_one (m.d.tk (TK.ch c m.e)) (d.tk (TK.ch c m.e)), fun q hq => (List.mem_append.mp hq).elim (m.w q) fun h => by rw [List.mem_singleton.mp h]; exact hw⟩
theorem Mk.other (m : Mk H0 z f H vs rs) (o0 : StOk H0 z) (n : H0 u = none) (nf : f ≠ u) (eu : H u = some (.lst us)) (c : Ch u H H2) : Mk H0 z f H2 vs rs := ⟨ch_app m.c n c, m.o.ch c (o0.ne n).1 (o0.ne n).2, c _ _ nf m.e, m.d.tk (TK.ch c eu), m.w⟩
end
theorem atI_in {xs : List V} {i : Int} (h0 : 0 ≤ i) (h1 : i < xs.length) : ∃ x, xs[i.toNat]? = some x ∧ atI xs i = some x := by
  obtain ⟨j, rfl⟩ := Int.eq_ofNat_of_zero_le h0
  have hj : j < xs.length := by omega
  exact ⟨xs[j], List.getElem?_eq_getElem hj, atI_nat (List.getElem?_eq_getElem hj)⟩
theorem at_str {ks : List Str} {i : Int} (h0 : 0 ≤ i) (h1 : i < ks.length) : ∃ k, k ∈ ks ∧ atI (ks.map V.str) i = some (.str k) := by
  obtain ⟨x, h2, h3⟩ := atI_in (xs := ks.map V.str) h0 (by rw [List.length_map]; exact h1)
  obtain ⟨k, h4, rfl⟩ := map_at h2
  exact ⟨k, List.mem_of_getElem? h4, h3⟩
theorem at_int {ns : List Int} {i : Int} (h0 : 0 ≤ i) (h1 : i < ns.length) : ∃ n, n ∈ ns ∧ atI (ns.map V.int) i = some (.int n) := by
  obtain ⟨x, h2, h3⟩ := atI_in (xs := ns.map V.int) h0 (by rw [List.length_map]; exact h1)
  obtain ⟨k, h4, rfl⟩ := map_at h2
  exact ⟨k, List.mem_of_getElem? h4, h3⟩
def kinds8 : List Str := ["put", "number", "add", "less", "times", "scale", "tell", "times"]
theorem kinds8_len : ∀ k ∈ kinds8, k.length ≤ 10 := by decide +kernel
def kinds7 : List Str := ["put", "number", "add", "less", "times", "scale", "tell"]
theorem kinds7_len : ∀ k ∈ kinds7, k.length ≤ 10 := by decide +kernel
theorem w_one {k : Str} {n : Int} (hk : k.length ≤ 10) (ht : k ≠ "tell") (h : n.natAbs < 10 ^ 61) : rowW (.op k [n]) := ⟨hk, ht, by simp, fun m hm => by rw [List.mem_singleton.mp hm]; exact h⟩
theorem w_two2 {k : Str} {n m : Int} (hk : k.length ≤ 10) (ht : k ≠ "tell") (h : n.natAbs < 10 ^ 61) (h2 : m.natAbs < 10 ^ 61) : rowW (.op k [n, m]) := ⟨hk, ht, by simp, fun l hl => by
  rcases List.mem_cons.mp hl with e | e
  · rw [e]; exact h
  · rw [List.mem_singleton.mp e]; exact h2⟩
theorem abs_small {n : Int} (h : -(10 ^ 61) < n) (h2 : n < 10 ^ 61) : n.natAbs < 10 ^ 61 := by omega
section
variable {P : Program} {w : World} {K : PySem.W.Frag} {mg : Str → Option Value} {base : Heap} {a : Ad}
/-- a tuple of rows, each of two or three parts, writable -/
def spProg : Sp := fun vs H Q _ => ∃ (z : StA), vs = [.ref z.st, .int 8, .int 12] ∧ StOk H z ∧ ∀ H' p xs (rs : List RD), Ch z.st H H' → StOk H' z → H' p = some (.tup xs) → DatL noL H' xs (rs.map RD.data) → rs ≠ [] → rs.length ≤ 12 → (∀ r ∈ rs, rowW r) → Q (.ref p) H'
theorem i_spProg {z : StA} {H : Hp} {Q : VK} {E : XK} (h : StOk H z) (q : ∀ H' p xs (rs : List RD), Ch z.st H H' → StOk H' z → H' p = some (.tup xs) → DatL noL H' xs (rs.map RD.data) → rs ≠ [] → rs.length ≤ 12 → (∀ r ∈ rs, rowW r) → Q (.ref p) H') : spProg [.ref z.st, .int 8, .int 12] H Q E := ⟨z, rfl, h, q⟩
theorem ok__law_program (T : Txt K mg w a) : Ok P w K mg base 4 a.f__law_program ["_law_state", "_law_n", "_law_most"] spProg := by
  obtain ⟨fd, F, b⟩ := T.F__law_program
  obtain ⟨fd1, G__law_draw, b__law_draw⟩ := ok__law_draw (P := P) (base := base) T
  obtain ⟨fd2, G__law_constant, b__law_constant⟩ := ok__law_constant (P := P) (base := base) T
  obtain ⟨fd3, G__law_people, b__law_people⟩ := ok__law_people (P := P) (base := base) T
  refine ⟨fd, F.ok sc__law_program (fun vs H Q E h => ?_) (fun cdv A outer s H vs Q E hr h => ?_), b⟩
  · obtain ⟨z, rfl, _⟩ := h
    rfl
  · obtain ⟨z, rfl, hst, q⟩ := h
    refine ⟨_, (pss_cons (ps_set (i := 3) sc__law_program.nd rfl (Or.inl rfl) (pe_lst (pa_cons (pe_tup (pa_cons pe_str (pa_cons (pe_op op_add pe_int (pe_call G__law_draw (hr.mono (by decide)) (by rfl) T.a__law_draw T.k__law_draw b__law_draw .nil pass0 (pa_cons (pv 0) (pa_cons (pv 1) pa_nil)))) pa_nil))) pa_nil)))
      (Evl.pss_cut (ps_if (pt_cmpR op_eq (pe_call G__law_draw (hr.mono (by decide)) (by rfl) T.a__law_draw T.k__law_draw b__law_draw .nil pass0 (pa_cons (pv 0) (pa_cons pe_int pa_nil))) pe_int (nomark _)) (pss_one (ps_set (i := 3) sc__law_program.nd rfl (Or.inl rfl) (pe_lst (pa_cons (pe_tup (pa_cons pe_str (pa_cons (pe_call G__law_constant (hr.mono (by decide)) (by rfl) T.a__law_constant T.k__law_constant b__law_constant .nil pass0 (pa_cons (pv 0) pa_nil)) pa_nil))) pa_nil)))) pss_nil)
      (pss_cons (ps_set (i := 4) sc__law_program.nd rfl (Or.inl rfl) (pe_lst (pa_cons pe_int pa_nil)))
      (pss_cons (ps_for PassesOwn.never rfl (pi_range1 (by rfl) T.z_range (pa_cons (pe_call G__law_draw (hr.mono (by decide)) (by rfl) T.a__law_draw T.k__law_draw b__law_draw .nil pass0 (pa_cons (pv 0) (pa_cons (pv 2) pa_nil))) pa_nil)) (pg_name (i := 5) sc__law_program.nd rfl (Or.inl rfl)) (pss_cons (ps_set (i := 6) sc__law_program.nd rfl (Or.inl rfl) (pe_ix ix_list (pe_lst (pa_cons pe_str (pa_cons pe_str (pa_cons pe_str (pa_cons pe_str (pa_cons pe_str (pa_cons pe_str (pa_cons pe_str (pa_cons pe_str pa_nil))))))))) (pe_call G__law_draw (hr.mono (by decide)) (by rfl) T.a__law_draw T.k__law_draw b__law_draw .nil pass0 (pa_cons (pv 0) (pa_cons pe_int pa_nil))) (fun _ _ => rfl)))
      (pss_cons (ps_set (i := 7) sc__law_program.nd rfl (Or.inl rfl) (pe_ix ix_list (pv 4) (pe_call G__law_draw (hr.mono (by decide)) (by rfl) T.a__law_draw T.k__law_draw b__law_draw .nil pass0 (pa_cons (pv 0) (pa_cons (pe_callB c_len (by rfl) T.z_len bt_len (pa_cons (pv 4) pa_nil)) pa_nil))) (fun _ _ => rfl)))
      (pss_cons (ps_set (i := 8) sc__law_program.nd rfl (Or.inl rfl) (pe_ix ix_list (pv 4) (pe_op op_sub (pe_op op_sub (pe_callB c_len (by rfl) T.z_len bt_len (pa_cons (pv 4) pa_nil)) pe_int) (pe_call G__law_draw (hr.mono (by decide)) (by rfl) T.a__law_draw T.k__law_draw b__law_draw .nil pass0 (pa_cons (pv 0) (pa_cons (pe_callB (c_min rfl) (by rfl) T.z_min bt_min (pa_cons pe_int (pa_cons (pe_callB c_len (by rfl) T.z_len bt_len (pa_cons (pv 4) pa_nil)) pa_nil))) pa_nil)))) (fun _ _ => rfl)))
      (Evl.pss_cut (ps_if (pt_cmpR op_eq (pe_call G__law_draw (hr.mono (by decide)) (by rfl) T.a__law_draw T.k__law_draw b__law_draw .nil pass0 (pa_cons (pv 0) (pa_cons pe_int pa_nil))) pe_int (nomark _)) (pss_one (ps_set (i := 8) sc__law_program.nd rfl (Or.inl rfl) (pe_ix ix_list (pv 4) (pe_call G__law_draw (hr.mono (by decide)) (by rfl) T.a__law_draw T.k__law_draw b__law_draw .nil pass0 (pa_cons (pv 0) (pa_cons (pe_callB c_len (by rfl) T.z_len bt_len (pa_cons (pv 4) pa_nil)) pa_nil))) (fun _ _ => rfl)))) pss_nil)
      (Evl.pss_cut (ps_if (pt_cmpR op_eq (pv 6) pe_str (nomark _)) (pss_one (ps_set (i := 9) sc__law_program.nd rfl (Or.inl rfl) (pe_tup (pa_cons (pv 6) (pa_cons (pe_op op_add pe_int (pe_call G__law_draw (hr.mono (by decide)) (by rfl) T.a__law_draw T.k__law_draw b__law_draw .nil pass0 (pa_cons (pv 0) (pa_cons (pv 1) pa_nil)))) pa_nil))))) (pss_one (ps_if (pt_cmpR op_eq (pv 6) pe_str (nomark _)) (pss_one (ps_set (i := 9) sc__law_program.nd rfl (Or.inl rfl) (pe_tup (pa_cons (pv 6) (pa_cons (pe_call G__law_constant (hr.mono (by decide)) (by rfl) T.a__law_constant T.k__law_constant b__law_constant .nil pass0 (pa_cons (pv 0) pa_nil)) pa_nil))))) (pss_one (ps_if (pt_cmpR op_eq (pv 6) pe_str (nomark _)) (pss_one (ps_set (i := 9) sc__law_program.nd rfl (Or.inl rfl) (pe_tup (pa_cons (pv 6) (pa_cons (pe_call G__law_constant (hr.mono (by decide)) (by rfl) T.a__law_constant T.k__law_constant b__law_constant .nil pass0 (pa_cons (pv 0) pa_nil)) (pa_cons (pv 8) pa_nil)))))) (pss_one (ps_if (pt_cmpR op_eq (pv 6) pe_str (nomark _)) (pss_one (ps_set (i := 9) sc__law_program.nd rfl (Or.inl rfl) (pe_tup (pa_cons (pv 6) (pa_cons (pv 8) (pa_cons (pe_call G__law_people (hr.mono (by decide)) (by rfl) T.a__law_people T.k__law_people b__law_people .nil pass0 (pa_cons (pv 0) (pa_cons (pv 1) pa_nil))) pa_nil)))))) (pss_one (ps_set (i := 9) sc__law_program.nd rfl (Or.inl rfl) (pe_tup (pa_cons (pv 6) (pa_cons (pv 7) (pa_cons (pv 8) pa_nil)))))))))))))
      (Evl.pss_cut (ps_if (pt_cmpR op_ne (pv 6) pe_str (nomark _)) (pss_one (ps_expr (pe_bm PySem.F.plainAttrs_list PySem.F.slot_list_append PySem.F.type_list_append mt_append (pv 4) (pa_cons (pe_callB c_len (by rfl) T.z_len bt_len (pa_cons (pv 3) pa_nil)) pa_nil)))) pss_nil)
      (pss_one (ps_expr (pe_bm PySem.F.plainAttrs_list PySem.F.slot_list_append PySem.F.type_list_append mt_append (pv 3) (pa_cons (pv 9) pa_nil)))))))))))
      (pss_one (ps_ret (pe_callTy c_tupOf (by rfl) T.z_tuple bt_tuple (pa_cons (pv 3) pa_nil)))))))), ?_⟩
    walk_at "gg"
    refine i_spDraw (by decide) hst (fun H1 r1 c1 o1 r0 r1' => ?_)
    walk_at "gg"
    refine w_newT (by show 2 ≤ 1000000; decide) (fun t H2 nt s2 et => ?_)
    walk_at "gg"
    refine w_newL (by show 1 ≤ 1000000; decide) (fun f H3 nf s3 ef => ?_)
    have c3 := (c1.trans (Ch.of s2)).trans (Ch.of s3)
    have o3 := (o1.same s2).same s3
    have none0 : ∀ {p : Addr} {H' : Hp}, Ch z.st H H' → StOk H' z → H' p = none → H p = none := fun {p H'} c o n => by
      cases e : H p with
      | none => rfl
      | some x =>
        have h1 := c p x (Ne.symm (o.ne n).1) e
        rw [n] at h1
        cases h1
    have m3 : Mk H z f H3 [.ref t] [.op "put" [1 + r1]] := ⟨c3, o3, ef, .cons (dat_op (s3 _ _ et)) .nil, fun r hr => by rw [List.mem_singleton.mp hr]; exact w_one (by decide +kernel) (by decide +kernel) (by omega)⟩
    refine w_cut (fun σ' H' => ∃ f vs rs, σ' = [some (.ref z.st), some (.int 8), some (.int 12), some (.ref f), none, none, none, none, none, none] ∧ Mk H z f H' vs rs ∧ H f = none ∧ rs.length = 1) ?_ ?_
    · walk_at "gg"
      refine i_spDraw (by decide) o3 (fun H4 r4 c4 o4 _ _ => ?_)
      have m4 := m3.draw (Ne.symm (o1.same s2 |>.ne nf).1) c4 o4
      walk_at "gg"
      refine w_dec (fun c => ?_) (fun c => ?_)
      · walk_at "gg"
        refine i_spNum o4 (fun H5 r5 c5 o5 r6 r7 => ?_)
        walk_at "gg"
        refine w_newT (by show 2 ≤ 1000000; decide) (fun t6 H6 nt6 s6 et6 => ?_)
        walk_at "gg"
        refine w_newL (by show 1 ≤ 1000000; decide) (fun f7 H7 nf7 s7 ef7 => ?_)
        have c6 := (m4.c.trans c5).trans (Ch.of s6)
        exact ⟨f7, _, [.op "number" [r5]], rfl, ⟨c6.trans (Ch.of s7), (o5.same s6).same s7, ef7, .cons (dat_op (s7 _ _ et6)) .nil, fun r hr => by rw [List.mem_singleton.mp hr]; exact w_one (by decide +kernel) (by decide +kernel) (abs_small r6 r7)⟩, none0 c6 (o5.same s6) nf7, rfl⟩
      · walk_at "gg"
        exact ⟨f, _, _, rfl, m4, none0 (c1.trans (Ch.of s2)) (o1.same s2) nf, rfl⟩
    rintro σ' H4 ⟨f, vs, rs, rfl, m4, nf0, l4⟩
    have nfs : f ≠ z.st := Ne.symm (hst.ne nf0).1
    walk_at "gg"
    refine w_newL (by show 1 ≤ 1000000; decide) (fun u H5 nu s5 eu => ?_)
    have nu0 : H u = none := none0 m4.c m4.o nu
    have nus : u ≠ z.st := Ne.symm (hst.ne nu0).1
    have nfu : f ≠ u := ne_of_none m4.e nu
    have m5 := m4.same s5
    walk_at "gg"
    refine i_spDraw (by decide) m5.o (fun H6 r6 c6 o6 p0 p1 => ?_)
    have m6 := m5.draw nfs c6 o6
    walk_at "gg"
    refine w_loopR1 (by omega) (by omega) (fun j σ' H' => ∃ (us : List Int) (vs : List V) (rs : List RD) (y5 y6 y7 y8 y9 : Option V), σ' = [some (.ref z.st), some (.int 8), some (.int 12), some (.ref f), some (.ref u), y5, y6, y7, y8, y9] ∧ Mk H z f H' vs rs ∧ rs.length = j + 1 ∧ H' u = some (.lst (us.map V.int)) ∧ us ≠ [] ∧ us.length ≤ j + 1 ∧ ∀ i ∈ us, 0 ≤ i ∧ i ≤ 100)
      ⟨[0], vs, rs, _, _, _, _, _, rfl, m6, l4, c6 _ _ nus eu, by simp, Nat.le_refl _, fun i hi => by rw [List.mem_singleton.mp hi]; omega⟩ (fun j σ' H' hj h => ?_) (fun σ' H' h => ?_)
    · obtain ⟨us, vs, rs, y5, y6, y7, y8, y9, rfl, m, lr, eu, une, lu, hu⟩ := h
      have hj11 : j < 11 := by omega
      have ul : 1 ≤ us.length := by
        cases us with
        | nil => exact absurd rfl une
        | cons _ _ => simp
      have um : (us.map V.int).length = us.length := List.length_map _
      walk_at "gg"
      refine w_newL (by show 8 ≤ 1000000; decide) (fun kl H7 nkl s7 ekl => ?_)
      have nks : kl ≠ z.st := Ne.symm (m.o.ne nkl).1
      have m7 := m.same s7
      have eu7 := s7 _ _ eu
      walk_at "gg"
      refine i_spDraw (by decide) m7.o (fun H8 r8 c8 o8 q0 q1 => ?_)
      have m8 := m7.draw nfs c8 o8
      have eu8 := c8 _ _ nus eu7
      obtain ⟨k, hk, ek⟩ := at_str (ks := kinds8) q0 (by show r8 < 8; omega)
      have hkl := kinds8_len k hk
      refine w_ixL (c8 _ _ nks ekl) ek ?_
      walk_at "gg"
      refine w_lenL eu8 ?_
      rw [um]
      walk_at "gg"
      refine i_spDraw (by omega) m8.o (fun H9 r9 c9 o9 q2 q3 => ?_)
      have m9 := m8.draw nfs c9 o9
      have eu9 := c9 _ _ nus eu8
      obtain ⟨i1, hi1, ei1⟩ := at_int (ns := us) q2 (by omega)
      refine w_ixL eu9 ei1 ?_
      walk_at "gg"
      refine w_lenL eu9 ?_
      rw [um]
      walk_at "gg"
      refine w_lenL eu9 ?_
      rw [um]
      walk_at "gg"
      refine i_spDraw (by split <;> omega) m9.o (fun H10 r10 c10 o10 q4 q5 => ?_)
      have m10 := m9.draw nfs c10 o10
      have eu10 := c10 _ _ nus eu9
      walk_at "gg"
      have q6 : 0 ≤ (us.length : Int) - 1 - r10 ∧ (us.length : Int) - 1 - r10 < us.length := by
        split at q5 <;> omega
      obtain ⟨j1, hj1, ej1⟩ := at_int (ns := us) q6.1 q6.2
      refine w_ixL eu10 ej1 ?_
      refine w_cut (fun σ' H' => ∃ j1 : Int, j1 ∈ us ∧ σ' = [some (.ref z.st), some (.int 8), some (.int 12), some (.ref f), some (.ref u), some (.int j), some (.str k), some (.int i1), some (.int j1), y9] ∧ Mk H z f H' vs rs ∧ H' u = some (.lst (us.map V.int))) ?_ ?_
      · walk_at "gg"
        refine i_spDraw (by decide) m10.o (fun H11 r11 c11 o11 _ _ => ?_)
        have m11 := m10.draw nfs c11 o11
        have eu11 := c11 _ _ nus eu10
        walk_at "gg"
        refine w_dec (fun c => ?_) (fun c => ?_)
        · walk_at "gg"
          refine w_lenL eu11 ?_
          rw [um]
          walk_at "gg"
          refine i_spDraw (by omega) m11.o (fun H12 r12 c12 o12 q7 q8 => ?_)
          obtain ⟨j2, hj2, ej2⟩ := at_int (ns := us) q7 (by omega)
          refine w_ixL (c12 _ _ nus eu11) ej2 ?_
          exact ⟨j2, hj2, rfl, m11.draw nfs c12 o12, c12 _ _ nus eu11⟩
        · walk_at "gg"
          exact ⟨j1, hj1, rfl, m11, eu11⟩
      clear hj1 ej1
      rintro σ' H11 ⟨j1, hj1, rfl, m11, eu11⟩
      have bi : i1.natAbs < 10 ^ 61 := by
        have := hu i1 hi1
        omega
      have bj : j1.natAbs < 10 ^ 61 := by
        have := hu j1 hj1
        omega
      refine w_cut (fun σ' H' => ∃ (v : V) (r : RD), σ' = [some (.ref z.st), some (.int 8), some (.int 12), some (.ref f), some (.ref u), some (.int j), some (.str k), some (.int i1), some (.int j1), some v] ∧ Mk H z f H' vs rs ∧ H' u = some (.lst (us.map V.int)) ∧ Dat noL H' v r.data ∧ rowW r) ?_ ?_
      · walk_at "gg"
        refine w_dec (fun c => ?_) (fun c => ?_)
        · walk_at "gg"
          refine i_spDraw (by decide) m11.o (fun H12 r12 c12 o12 q7 q8 => ?_)
          walk_at "gg"
          refine w_newT (by show 2 ≤ 1000000; decide) (fun t H13 nt s13 et => ?_)
          exact ⟨_, .op k [1 + r12], rfl, (m11.draw nfs c12 o12).same s13, s13 _ _ (c12 _ _ nus eu11), dat_op et, w_one hkl (by rw [c]; decide +kernel) (by omega)⟩
        walk_at "gg"
        refine w_dec (fun c => ?_) (fun c => ?_)
        · walk_at "gg"
          refine i_spNum m11.o (fun H12 r12 c12 o12 q7 q8 => ?_)
          walk_at "gg"
          refine w_newT (by show 2 ≤ 1000000; decide) (fun t H13 nt s13 et => ?_)
          exact ⟨_, .op k [r12], rfl, (m11.draw nfs c12 o12).same s13, s13 _ _ (c12 _ _ nus eu11), dat_op et, w_one hkl (by rw [c]; decide +kernel) (abs_small q7 q8)⟩
        walk_at "gg"
        refine w_dec (fun c => ?_) (fun c => ?_)
        · walk_at "gg"
          refine i_spNum m11.o (fun H12 r12 c12 o12 q7 q8 => ?_)
          walk_at "gg"
          refine w_newT (by show 3 ≤ 1000000; decide) (fun t H13 nt s13 et => ?_)
          exact ⟨_, .op k [r12, j1], rfl, (m11.draw nfs c12 o12).same s13, s13 _ _ (c12 _ _ nus eu11), dat_op et, w_two2 hkl (by rw [c]; decide +kernel) (abs_small q7 q8) bj⟩
        walk_at "gg"
        refine w_dec (fun c => ?_) (fun c => ?_)
        · subst c
          walk_at "gg"
          refine i_spPs (by decide) (by decide) m11.o (fun H12 pp ps c12 o12 ep pne pl pin => ?_)
          walk_at "gg"
          refine w_newT (by show 3 ≤ 1000000; decide) (fun t H13 nt s13 et => ?_)
          exact ⟨_, .tell j1 ps, rfl, (m11.draw nfs c12 o12).same s13, s13 _ _ (c12 _ _ nus eu11), dat_tell et (s13 _ _ ep), bj, pl, fun p hp => by
            have := pin p hp
            omega⟩
        · walk_at "gg"
          refine w_newT (by show 3 ≤ 1000000; decide) (fun t H13 nt s13 et => ?_)
          exact ⟨_, .op k [i1, j1], rfl, m11.same s13, s13 _ _ eu11, dat_op et, w_two2 hkl c bi bj⟩
      rintro σ' H12 ⟨v, r, rfl, m12, eu12, dr, wr⟩
      have vl : vs.length = rs.length := by rw [m12.d.length, List.length_map]
      refine w_cut (fun σ' H' => σ' = [some (.ref z.st), some (.int 8), some (.int 12), some (.ref f), some (.ref u), some (.int j), some (.str k), some (.int i1), some (.int j1), some v] ∧ Mk H z f H' vs rs ∧ Dat noL H' v r.data ∧ ∃ us2 : List Int, H' u = some (.lst (us2.map V.int)) ∧ us2 ≠ [] ∧ us2.length ≤ j + 1 + 1 ∧ ∀ i ∈ us2, 0 ≤ i ∧ i ≤ 100) ?_ ?_
      · walk_at "gg"
        refine w_ndec (fun c => ?_) (fun c => ?_)
        · walk_at "gg"
          refine w_tyL eu12 ?_
          walk_at "gg"
          refine w_lenL m12.e ?_
          walk_at "gg"
          refine v_app eu12 (by rw [um]; omega) (fun H13 c13 e13 => ?_)
          walk_at "gg"
          refine ⟨rfl, m12.other hst nu0 nfu eu12 c13, dr.tk (TK.ch c13 eu12), us ++ [(vs.length : Int)], by rw [e13, List.map_append]; rfl, by simp, by rw [List.length_append]; show us.length + 1 ≤ _; omega, fun i hi => ?_⟩
          rcases List.mem_append.mp hi with hi | hi
          · exact hu i hi
          · rw [List.mem_singleton.mp hi]
            omega
        · walk_at "gg"
          exact ⟨rfl, m12, dr, us, eu12, une, by omega, hu⟩
      rintro σ' H13 ⟨rfl, m13, dr13, us2, eu13, une2, lu2, hu2⟩
      walk_at "gg"
      refine w_tyL m13.e ?_
      walk_at "gg"
      refine v_app m13.e (by omega) (fun H14 c14 e14 => ?_)
      walk_at "gg"
      exact ⟨us2, _, rs ++ [r], _, _, _, _, _, rfl, m13.app hst nf0 c14 e14 dr13 wr, by rw [List.length_append]; show rs.length + 1 = j + 1 + 1; omega, c14 _ _ (Ne.symm nfu) eu13, une2, lu2, hu2⟩
    · obtain ⟨us, vs, rs, y5, y6, y7, y8, y9, rfl, m, lr, eu, une, lu, hu⟩ := h
      walk_at "gg"
      refine w_tupL m.e (fun p H7 np s7 ep => ?_)
      have m7 := m.same s7
      refine q H7 p vs rs m7.c m7.o ep m7.d (fun z => by rw [z] at lr; cases lr) (by omega) m7.w
end
end K17
namespace K17
open PySem L2
/-! Rows that the law draws: _law_any_rows. -/
local macro_rules | `(tactic| walk_at "gg") => `(tactic| repeat (first | with_reducible refine w_nt ?_ | with_reducible refine w_nf ?_ | with_reducible refine w_raise ?_ | with_reducible refine w_orS (by with_unfolding_all rfl) ?_ | with_reducible refine iteT ?_ | with_reducible refine iteF ?_ | with_reducible refine w_isNN ?_ | with_reducible refine w_isNI ?_ | with_reducible refine w_isNR ?_ | with_reducible refine w_notNN ?_ | with_reducible refine w_notNI ?_ | with_reducible refine w_notNR ?_ | with_reducible refine w_var (by with_unfolding_all rfl) ?_ | with_reducible refine w_c ?_ | with_reducible refine w_seq ?_ | with_reducible refine w_set ?_ | with_reducible refine w_ret ?_ | with_reducible refine w_if ?_ | with_reducible refine w_op ?_ | with_reducible refine w_ii ?_ | with_reducible refine w_test ?_ | with_reducible refine w_bl ?_ | with_reducible refine w_cb ?_ | with_reducible refine w_call ?_ | with_reducible refine w_nil ?_ | with_reducible refine w_cons ?_ | with_reducible refine w_eqI ?_ | with_reducible refine w_eqS ?_ | with_reducible refine w_neI ?_ | with_reducible refine w_neS ?_ | with_reducible refine w_andV ?_ | with_reducible refine w_orV ?_ | with_reducible refine w_notV ?_ | with_reducible refine w_and ?_ | with_reducible refine w_or ?_ | with_reducible refine w_not ?_ | with_reducible refine w_ifE ?_ | with_reducible refine w_chain ?_ | with_reducible refine w_B ?_ | with_reducible refine w_drop ?_ | with_reducible refine w_next ?_ | with_reducible refine w_un ?_ | with_reducible refine w_iu ?_ | with_reducible refine w_isN ?_ | with_reducible refine w_notN ?_ | with_reducible refine w_int1 ?_ | with_reducible refine w_abs ?_ | with_reducible refine w_min ?_ | with_reducible refine w_max ?_ | with_reducible refine w_tup ?_ | with_reducible refine w_lst ?_ | with_reducible refine w_sl ?_ | with_reducible refine w_noPart ?_ | with_reducible refine w_part ?_ | with_reducible refine w_pi ?_ | with_reducible refine w_bm ?_ | with_reducible refine w_tyS ?_ | with_reducible refine w_m1 ?_ | with_reducible refine w_str ?_ | with_reducible refine w_forL ?_ | with_reducible refine w_forT ?_ | with_reducible refine w_forR1 ?_ | with_reducible refine w_forS ?_ | with_reducible refine w_lcL ?_ | with_reducible refine w_lcT ?_ | with_reducible refine w_lcR1 ?_ | with_reducible refine w_lcR2 ?_ | with_reducible refine w_yes ?_ | with_reducible refine w_asgSub ?_ | with_reducible refine w_callS ?_ | with_reducible refine w_forQ ?_ | with_reducible refine w_forM ?_ | with_reducible refine w_forZ ?_ | with_reducible refine w_forE ?_ | with_reducible refine w_par ?_ | with_reducible refine w_two ?_ | with_reducible refine w_dget2 ?_))
section
variable {P : Program} {w : World} {K : PySem.W.Frag} {mg : Str → Option Value} {base : Heap} {a : Ad}
def spRows : Sp := fun vs H Q _ => ∃ (z : StA), vs = [.ref z.st] ∧ StOk H z ∧ ∀ H' f xs (rs : List RD), Mk H z f H' xs rs → H f = none → rs.length ≤ 14 → Q (.ref f) H'
theorem i_spRows {z : StA} {H : Hp} {Q : VK} {E : XK} (h : StOk H z) (q : ∀ H' f xs (rs : List RD), Mk H z f H' xs rs → H f = none → rs.length ≤ 14 → Q (.ref f) H') : spRows [.ref z.st] H Q E := ⟨z, rfl, h, q⟩
theorem ok__law_any_rows (T : Txt K mg w a) : Ok P w K mg base 4 a.f__law_any_rows ["_law_state"] spRows := by
  obtain ⟨fd, F, b⟩ := T.F__law_any_rows
  obtain ⟨fd1, G__law_draw, b__law_draw⟩ := ok__law_draw (P := P) (base := base) T
  obtain ⟨fd2, G__law_number, b__law_number⟩ := ok__law_number (P := P) (base := base) T
  refine ⟨fd, F.ok sc__law_any_rows (fun vs H Q E h => ?_) (fun cdv A outer s H vs Q E hr h => ?_), b⟩
  · obtain ⟨z, rfl, _⟩ := h
    rfl
  · obtain ⟨z, rfl, hst, q⟩ := h
    refine ⟨_, (pss_cons (ps_set (i := 1) sc__law_any_rows.nd rfl (Or.inl rfl) (pe_lst pa_nil))
      (pss_cons (ps_for PassesOwn.never rfl (pi_range1 (by rfl) T.z_range (pa_cons (pe_op op_add pe_int (pe_call G__law_draw (hr.mono (by decide)) (by rfl) T.a__law_draw T.k__law_draw b__law_draw .nil pass0 (pa_cons (pv 0) (pa_cons pe_int pa_nil)))) pa_nil)) (pg_name (i := 2) sc__law_any_rows.nd rfl (Or.inl rfl)) (pss_cons (ps_set (i := 3) sc__law_any_rows.nd rfl (Or.inl rfl) (pe_ix ix_list (pe_lst (pa_cons pe_str (pa_cons pe_str (pa_cons pe_str (pa_cons pe_str (pa_cons pe_str (pa_cons pe_str (pa_cons pe_str pa_nil)))))))) (pe_call G__law_draw (hr.mono (by decide)) (by rfl) T.a__law_draw T.k__law_draw b__law_draw .nil pass0 (pa_cons (pv 0) (pa_cons pe_int pa_nil))) (fun _ _ => rfl)))
      (pss_cons (ps_set (i := 4) sc__law_any_rows.nd rfl (Or.inl rfl) (pe_call G__law_number (hr.mono (by decide)) (by rfl) T.a__law_number T.k__law_number b__law_number .nil pass0 (pa_cons (pv 0) pa_nil)))
      (Evl.pss_cut (ps_if (PW.pt (pw_and (PW.pt (pw_or (pt_cmpR op_eq (pv 3) pe_str (nomark _)) (pw_or1 (pt_cmpR op_eq (pv 3) pe_str (nomark _))))) (pw_and1 (pt_cmpR op_eq (pe_call G__law_draw (hr.mono (by decide)) (by rfl) T.a__law_draw T.k__law_draw b__law_draw .nil pass0 (pa_cons (pv 0) (pa_cons pe_int pa_nil))) pe_int (nomark _))))) (pss_one (ps_set (i := 4) sc__law_any_rows.nd rfl (Or.inl rfl) (pe_op op_sub pe_int (pv 4)))) pss_nil)
      (pss_one (ps_if (pt_cmpR op_eq (pv 3) pe_str (nomark _)) (pss_one (ps_expr (pe_bm PySem.F.plainAttrs_list PySem.F.slot_list_append PySem.F.type_list_append mt_append (pv 1) (pa_cons (pe_tup (pa_cons (pv 3) (pa_cons (pv 4) (pa_cons (pe_callTy c_tupOf (by rfl) T.z_tuple bt_tuple (pa_cons (pe_lc (own := [("_law_person", 5)]) (g := gName 5) (tt := tYes) (by rfl) sc__law_any_rows.nd (pi_range1 (by rfl) T.z_range (pa_cons (pe_op op_add pe_int (pe_call G__law_draw (hr.mono (by decide)) (by rfl) T.a__law_draw T.k__law_draw b__law_draw .nil pass0 (pa_cons (pv 0) (pa_cons pe_int pa_nil)))) pa_nil)) (blkOk_by (own := [("_law_person", 5)]) (N := ["_law_state", "_law_found", "_law_k", "_law_kind", "_law_first", "_law_person"]) (sc := defScope s__law_any_rows) (by decide +kernel)) (fun _ _ _ _ _ => pg_name (i := 5) sc__law_any_rows.nd rfl (Or.inl rfl)) (fun _ _ _ _ _ => pts_nil) (fun _ _ _ _ _ => (pe_call G__law_number (hr.mono (by decide)) (by rfl) T.a__law_number T.k__law_number b__law_number .nil pass0 (pa_cons (pv 0) pa_nil)))) pa_nil)) pa_nil)))) pa_nil)))) (pss_one (ps_if (PW.pt (pw_or (pt_cmpR op_eq (pv 3) pe_str (nomark _)) (pw_or1 (pt_cmpR op_eq (pv 3) pe_str (nomark _))))) (pss_one (ps_expr (pe_bm PySem.F.plainAttrs_list PySem.F.slot_list_append PySem.F.type_list_append mt_append (pv 1) (pa_cons (pe_tup (pa_cons (pv 3) (pa_cons (pv 4) pa_nil))) pa_nil)))) (pss_one (ps_expr (pe_bm PySem.F.plainAttrs_list PySem.F.slot_list_append PySem.F.type_list_append mt_append (pv 1) (pa_cons (pe_tup (pa_cons (pv 3) (pa_cons (pv 4) (pa_cons (pe_call G__law_number (hr.mono (by decide)) (by rfl) T.a__law_number T.k__law_number b__law_number .nil pass0 (pa_cons (pv 0) pa_nil)) pa_nil)))) pa_nil))))))))))))
      (pss_one (ps_ret (pv 1))))), ?_⟩
    walk_at "gg"
    refine w_newL (by show 0 ≤ 1000000; decide) (fun f H1 nf s1 ef => ?_)
    have nfs : f ≠ z.st := Ne.symm (hst.ne nf).1
    have m1 : Mk H z f H1 [] [] := ⟨Ch.of s1, hst.same s1, ef, .nil, fun r hr => by cases hr⟩
    walk_at "gg"
    refine i_spDraw (by decide) m1.o (fun H2 r2 c2 o2 p0 p1 => ?_)
    have m2 := m1.draw nfs c2 o2
    walk_at "gg"
    refine w_loopR1 (by omega) (by omega) (fun j σ' H' => ∃ (vs : List V) (rs : List RD) (y2 y3 y4 : Option V), σ' = [some (.ref z.st), some (.ref f), y2, y3, y4, none] ∧ Mk H z f H' vs rs ∧ rs.length = j)
      ⟨[], [], _, _, _, rfl, m2, rfl⟩ (fun j σ' H' hj h => ?_) (fun σ' H' h => ?_)
    · obtain ⟨vs, rs, y2, y3, y4, rfl, m, lr⟩ := h
      have hj10 : j < 10 := by omega
      have vl : vs.length = rs.length := by rw [m.d.length, List.length_map]
      walk_at "gg"
      refine w_newL (by show 7 ≤ 1000000; decide) (fun kl H7 nkl s7 ekl => ?_)
      have nks : kl ≠ z.st := Ne.symm (m.o.ne nkl).1
      have m7 := m.same s7
      walk_at "gg"
      refine i_spDraw (by decide) m7.o (fun H8 r8 c8 o8 q0 q1 => ?_)
      have m8 := m7.draw nfs c8 o8
      obtain ⟨k, hk, ek⟩ := at_str (ks := kinds7) q0 (by show r8 < 7; omega)
      have hkl := kinds7_len k hk
      refine w_ixL (c8 _ _ nks ekl) ek ?_
      walk_at "gg"
      refine i_spNat m8.o (fun H9 r9 c9 o9 q2 q3 => ?_)
      have m9 := m8.draw nfs c9 o9
      refine w_cut (fun σ' H' => ∃ n : Int, n.natAbs < 10 ^ 61 ∧ σ' = [some (.ref z.st), some (.ref f), some (.int j), some (.str k), some (.int n), none] ∧ Mk H z f H' vs rs) ?_ ?_
      · have small : ((0 : Int) - r9).natAbs < 10 ^ 61 ∧ r9.natAbs < 10 ^ 61 := ⟨by omega, by omega⟩
        walk_at "gg"
        refine w_dec (fun c => ?_) (fun c => ?_)
        · walk_at "gg"
          refine i_spDraw (by decide) m9.o (fun H10 r10 c10 o10 _ _ => ?_)
          walk_at "gg"
          refine w_dec (fun c => ?_) (fun c => ?_)
          · walk_at "gg"
            exact ⟨0 - r9, small.1, rfl, m9.draw nfs c10 o10⟩
          · walk_at "gg"
            exact ⟨r9, small.2, rfl, m9.draw nfs c10 o10⟩
        walk_at "gg"
        refine w_dec (fun c => ?_) (fun c => ?_)
        · walk_at "gg"
          refine i_spDraw (by decide) m9.o (fun H10 r10 c10 o10 _ _ => ?_)
          walk_at "gg"
          refine w_dec (fun c => ?_) (fun c => ?_)
          · walk_at "gg"
            exact ⟨0 - r9, small.1, rfl, m9.draw nfs c10 o10⟩
          · walk_at "gg"
            exact ⟨r9, small.2, rfl, m9.draw nfs c10 o10⟩
        · walk_at "gg"
          exact ⟨r9, small.2, rfl, m9⟩
      rintro σ' H9 ⟨n, bn, rfl, m9⟩
      walk_at "gg"
      refine w_dec (fun c => ?_) (fun c => ?_)
      · subst c
        walk_at "gg"
        refine w_tyL m9.e ?_
        walk_at "gg"
        refine i_spDraw (by decide) m9.o (fun H10 r10 c10 o10 q4 q5 => ?_)
        have m10 := m9.draw nfs c10 o10
        walk_at "gg"
        refine ⟨by omega, by omega, ?_⟩
        refine w_compR (fun x => rfl) (by omega) (fun i acc H' => Ch z.st H10 H' ∧ StOk H' z ∧ ∃ ps : List Int, acc = ps.map V.int ∧ ps.length ≤ i ∧ ∀ p ∈ ps, p.natAbs < 10 ^ 61) (fun H' s => ⟨Ch.of s, o10.same s, [], rfl, Nat.le_refl _, fun p hp => by cases hp⟩)
          (fun d i acc H' o hd ⟨c, o1, r⟩ => ⟨ch_new c hd, o1.new o10 hd, r⟩) (fun d i acc H' hi ⟨c, o1, ps, ea, hl, hp⟩ nd ed la PP NN hP hN => ?_) (fun d acc H' ⟨c, o1, ps, ea, hl, hp⟩ nd ed la => ?_)
        · subst ea
          walk_at "gg"
          have nst : d ≠ z.st := Ne.symm (o10.ne nd).1
          refine i_spNat o1 (fun H2 r c2 o2 r0 r1 => ?_)
          refine hP _ _ (c2 _ _ nst ed) ⟨c.trans c2, o2, ps ++ [r], by rw [List.map_append]; rfl, by rw [List.length_append]; show ps.length + 1 ≤ i + 1; omega, fun p hp2 => ?_⟩
          rcases List.mem_append.mp hp2 with z1 | z1
          · exact hp p z1
          · rw [List.mem_singleton.mp z1]
            omega
        · subst ea
          have m11 := m10.draw nfs c o1
          walk_at "gg"
          refine w_tupL ed (fun pp H12 np s12 ep => ?_)
          have m12 := m11.same s12
          walk_at "gg"
          refine w_newT (by show 3 ≤ 1000000; decide) (fun t H13 nt s13 et => ?_)
          have m13 := m12.same s13
          walk_at "gg"
          refine v_app m13.e (by omega) (fun H14 c14 e14 => ?_)
          walk_at "gg"
          exact ⟨_, rs ++ [.tell n ps], _, _, _, rfl, m13.app (r := .tell n ps) hst nf c14 e14 (dat_tell et (s13 _ _ ep)) ⟨bn, by omega, hp⟩, by rw [List.length_append, lr]; rfl⟩
      walk_at "gg"
      refine w_dec (fun c1 => ?_) (fun c1 => ?_)
      · walk_at "gg"
        refine w_tyL m9.e ?_
        walk_at "gg"
        refine w_newT (by show 2 ≤ 1000000; decide) (fun t H13 nt s13 et => ?_)
        have m13 := m9.same s13
        walk_at "gg"
        refine v_app m13.e (by omega) (fun H14 c14 e14 => ?_)
        walk_at "gg"
        exact ⟨_, rs ++ [.op k [n]], _, _, _, rfl, m13.app hst nf c14 e14 (dat_op et) (w_one hkl c bn), by rw [List.length_append, lr]; rfl⟩
      walk_at "gg"
      refine w_dec (fun c2 => ?_) (fun c2 => ?_)
      · walk_at "gg"
        refine w_tyL m9.e ?_
        walk_at "gg"
        refine w_newT (by show 2 ≤ 1000000; decide) (fun t H13 nt s13 et => ?_)
        have m13 := m9.same s13
        walk_at "gg"
        refine v_app m13.e (by omega) (fun H14 c14 e14 => ?_)
        walk_at "gg"
        exact ⟨_, rs ++ [.op k [n]], _, _, _, rfl, m13.app hst nf c14 e14 (dat_op et) (w_one hkl c bn), by rw [List.length_append, lr]; rfl⟩
      walk_at "gg"
      refine w_tyL m9.e ?_
      walk_at "gg"
      refine i_spNat m9.o (fun H10 r10 c10 o10 q4 q5 => ?_)
      have m10 := m9.draw nfs c10 o10
      walk_at "gg"
      refine w_newT (by show 3 ≤ 1000000; decide) (fun t H13 nt s13 et => ?_)
      have m13 := m10.same s13
      walk_at "gg"
      refine v_app m13.e (by omega) (fun H14 c14 e14 => ?_)
      walk_at "gg"
      exact ⟨_, rs ++ [.op k [n, r10]], _, _, _, rfl, m13.app hst nf c14 e14 (dat_op et) (w_two2 hkl c bn (by omega)), by rw [List.length_append, lr]; rfl⟩
    · obtain ⟨vs, rs, y2, y3, y4, rfl, m, lr⟩ := h
      walk_at "gg"
      exact q H' f vs rs m nf (by omega)
end
end K17
namespace K17
open PySem L2
/-! _law_changed, _law_odd. -/
local macro_rules | `(tactic| walk_at "gg") => `(tactic| repeat (first | with_reducible refine w_nt ?_ | with_reducible refine w_nf ?_ | with_reducible refine w_raise ?_ | with_reducible refine w_orS (by with_unfolding_all rfl) ?_ | with_reducible refine iteT ?_ | with_reducible refine iteF ?_ | with_reducible refine w_isNN ?_ | with_reducible refine w_isNI ?_ | with_reducible refine w_isNR ?_ | with_reducible refine w_notNN ?_ | with_reducible refine w_notNI ?_ | with_reducible refine w_notNR ?_ | with_reducible refine w_var (by with_unfolding_all rfl) ?_ | with_reducible refine w_c ?_ | with_reducible refine w_seq ?_ | with_reducible refine w_set ?_ | with_reducible refine w_ret ?_ | with_reducible refine w_if ?_ | with_reducible refine w_op ?_ | with_reducible refine w_ii ?_ | with_reducible refine w_test ?_ | with_reducible refine w_bl ?_ | with_reducible refine w_cb ?_ | with_reducible refine w_call ?_ | with_reducible refine w_nil ?_ | with_reducible refine w_cons ?_ | with_reducible refine w_eqI ?_ | with_reducible refine w_eqS ?_ | with_reducible refine w_neI ?_ | with_reducible refine w_neS ?_ | with_reducible refine w_andV ?_ | with_reducible refine w_orV ?_ | with_reducible refine w_notV ?_ | with_reducible refine w_and ?_ | with_reducible refine w_or ?_ | with_reducible refine w_not ?_ | with_reducible refine w_ifE ?_ | with_reducible refine w_chain ?_ | with_reducible refine w_B ?_ | with_reducible refine w_drop ?_ | with_reducible refine w_next ?_ | with_reducible refine w_un ?_ | with_reducible refine w_iu ?_ | with_reducible refine w_isN ?_ | with_reducible refine w_notN ?_ | with_reducible refine w_int1 ?_ | with_reducible refine w_abs ?_ | with_reducible refine w_min ?_ | with_reducible refine w_max ?_ | with_reducible refine w_tup ?_ | with_reducible refine w_lst ?_ | with_reducible refine w_sl ?_ | with_reducible refine w_noPart ?_ | with_reducible refine w_part ?_ | with_reducible refine w_pi ?_ | with_reducible refine w_bm ?_ | with_reducible refine w_tyS ?_ | with_reducible refine w_m1 ?_ | with_reducible refine w_str ?_ | with_reducible refine w_forL ?_ | with_reducible refine w_forT ?_ | with_reducible refine w_forR1 ?_ | with_reducible refine w_forS ?_ | with_reducible refine w_lcL ?_ | with_reducible refine w_lcT ?_ | with_reducible refine w_lcR1 ?_ | with_reducible refine w_lcR2 ?_ | with_reducible refine w_yes ?_ | with_reducible refine w_asgSub ?_ | with_reducible refine w_callS ?_ | with_reducible refine w_forQ ?_ | with_reducible refine w_forM ?_ | with_reducible refine w_forZ ?_ | with_reducible refine w_forE ?_ | with_reducible refine w_par ?_ | with_reducible refine w_two ?_ | with_reducible refine w_dget2 ?_))
open TL
theorem cutS_to {z : Str} {i : Int} (h0 : 0 ≤ i) : (cutS z none (some i)).length ≤ i.toNat ∧ (cutS z none (some i)).length ≤ z.length := by
  obtain ⟨k, rfl⟩ := Int.eq_ofNat_of_zero_le h0
  rw [len_tl (cutS z none (some (k : Int))), tl_cut, HT.sIx_none, HT.sIx_nat, List.drop_zero, Nat.sub_zero, List.length_take, len_tl z]
  show _ ≤ k ∧ _
  omega
theorem cutS_from {z : Str} {i : Int} (h0 : 0 ≤ i) : (cutS z (some i) none).length ≤ z.length - min i.toNat z.length := by
  obtain ⟨k, rfl⟩ := Int.eq_ofNat_of_zero_le h0
  rw [len_tl (cutS z (some (k : Int)) none), tl_cut, HT.sIx_none, HT.sIx_nat, List.length_take]
  exact Nat.min_le_left _ _
theorem app_len (x y : Str) : (x ++ y).length = x.length + y.length := PySem.Str.length_append x y
theorem signs_len : (tl (" \n0159-+putaelsmdb,_Tx\t" : Str)).length = 23 := by decide +kernel
theorem atN_in {xs : List Nat} {i : Int} (h0 : 0 ≤ i) (h1 : i < xs.length) : ∃ x, atI xs i = some x := by
  obtain ⟨j, rfl⟩ := Int.eq_ofNat_of_zero_le h0
  have hj : j < xs.length := by omega
  exact ⟨xs[j], atI_nat (List.getElem?_eq_getElem hj)⟩
section
variable {P : Program} {w : World} {K : PySem.W.Frag} {mg : Str → Option Value} {base : Heap} {a : Ad}
def spChanged : Sp := fun vs H Q _ => ∃ (z : StA) (t : Str), vs = [.ref z.st, .str t] ∧ StOk H z ∧ t.length ≤ 97000 ∧ ∀ H' t', Ch z.st H H' → StOk H' z → t'.length ≤ t.length + 3 → Q (.str t') H'
theorem i_spChanged {z : StA} {t : Str} {H : Hp} {Q : VK} {E : XK} (h : StOk H z) (h2 : t.length ≤ 97000) (q : ∀ H' t', Ch z.st H H' → StOk H' z → t'.length ≤ t.length + 3 → Q (.str t') H') : spChanged [.ref z.st, .str t] H Q E := ⟨z, t, rfl, h, h2, q⟩
theorem ok__law_changed (T : Txt K mg w a) : Ok P w K mg base 2 a.f__law_changed ["_law_state", "_law_text"] spChanged := by
  obtain ⟨fd, F, b⟩ := T.F__law_changed
  obtain ⟨fd1, G__law_draw, b__law_draw⟩ := ok__law_draw (P := P) (base := base) T
  refine ⟨fd, F.ok sc__law_changed (fun vs H Q E h => ?_) (fun cdv A outer s H vs Q E hr h => ?_), b⟩
  · obtain ⟨z, t, rfl, _⟩ := h
    rfl
  · obtain ⟨z, t, rfl, hst, ht, q⟩ := h
    refine ⟨_, (pss_cons (ps_set (i := 2) sc__law_changed.nd rfl (Or.inl rfl) (pv 1))
      (pss_cons (ps_for PassesOwn.never rfl (pi_range1 (by rfl) T.z_range (pa_cons (pe_op op_add pe_int (pe_call G__law_draw (hr.mono (by decide)) (by rfl) T.a__law_draw T.k__law_draw b__law_draw .nil pass0 (pa_cons (pv 0) (pa_cons pe_int pa_nil)))) pa_nil)) (pg_name (i := 3) sc__law_changed.nd rfl (Or.inl rfl)) (pss_cons (ps_set (i := 4) sc__law_changed.nd rfl (Or.inl rfl) (pe_call G__law_draw (hr.mono (by decide)) (by rfl) T.a__law_draw T.k__law_draw b__law_draw .nil pass0 (pa_cons (pv 0) (pa_cons (pe_op op_add (pe_callB c_lenS (by rfl) T.z_len bt_len (pa_cons (pv 2) pa_nil)) pe_int) pa_nil))))
      (pss_cons (ps_set (i := 5) sc__law_changed.nd rfl (Or.inl rfl) (pe_ix ix_str pe_str (pe_call G__law_draw (hr.mono (by decide)) (by rfl) T.a__law_draw T.k__law_draw b__law_draw .nil pass0 (pa_cons (pv 0) (pa_cons pe_int pa_nil))) (fun _ _ => rfl)))
      (pss_cons (ps_set (i := 6) sc__law_changed.nd rfl (Or.inl rfl) (pe_call G__law_draw (hr.mono (by decide)) (by rfl) T.a__law_draw T.k__law_draw b__law_draw .nil pass0 (pa_cons (pv 0) (pa_cons pe_int pa_nil))))
      (pss_one (ps_if (pt_cmpR op_eq (pv 6) pe_int (nomark _)) (pss_one (ps_set (i := 2) sc__law_changed.nd rfl (Or.inl rfl) (pe_op o_addS (pe_op o_addS (pe_slice sl_str (pv 2) po_none (po_some (pv 4))) (pv 5)) (pe_slice sl_str (pv 2) (po_some (pv 4)) po_none)))) (pss_one (ps_if (pt_cmpR op_eq (pv 6) pe_int (nomark _)) (pss_one (ps_set (i := 2) sc__law_changed.nd rfl (Or.inl rfl) (pe_op o_addS (pe_slice sl_str (pv 2) po_none (po_some (pv 4))) (pe_slice sl_str (pv 2) (po_some (pe_op op_add (pv 4) pe_int)) po_none)))) (pss_one (ps_set (i := 2) sc__law_changed.nd rfl (Or.inl rfl) (pe_op o_addS (pe_op o_addS (pe_slice sl_str (pv 2) po_none (po_some (pv 4))) (pv 5)) (pe_slice sl_str (pv 2) (po_some (pe_op op_add (pv 4) pe_int)) po_none))))))))))))
      (pss_one (ps_ret (pv 2))))), ?_⟩
    walk_at "gg"
    refine i_spDraw (by decide) hst (fun H1 r1 c1 o1 p0 p1 => ?_)
    walk_at "gg"
    refine w_loopR1 (by omega) (by omega) (fun j σ' H' => ∃ (m : Str) (y3 y4 y5 y6 : Option V), σ' = [some (.ref z.st), some (.str t), some (.str m), y3, y4, y5, y6] ∧ Ch z.st H H' ∧ StOk H' z ∧ m.length ≤ t.length + j ∧ j ≤ 3)
      ⟨t, _, _, _, _, rfl, c1, o1, Nat.le_refl _, by decide⟩ (fun j σ' H' hj h => ?_) (fun σ' H' h => ?_)
    · obtain ⟨m, y3, y4, y5, y6, rfl, c2, o2, lm, _⟩ := h
      have hj3 : j < 3 := by omega
      walk_at "gg"
      refine w_lenS (sz_of (by omega)) ?_
      walk_at "gg"
      refine i_spDraw (by omega) o2 (fun H3 r3 c3 o3 q0 q1 => ?_)
      walk_at "gg"
      refine i_spDraw (by decide) o3 (fun H4 r4 c4 o4 q2 q3 => ?_)
      obtain ⟨c, ec⟩ := atN_in (xs := tl (" \n0159-+putaelsmdb,_Tx\t" : Str)) q2 (by rw [signs_len]; omega)
      refine w_ixS (sz_of (by decide +kernel)) ec ?_
      walk_at "gg"
      refine i_spDraw (by decide) o4 (fun H5 r5 c5 o5 _ _ => ?_)
      have cc := ((c2.trans c3).trans c4).trans c5
      obtain ⟨t1, t2⟩ := cutS_to (z := m) q0
      have f1 := cutS_from (z := m) q0
      have f2 := cutS_from (z := m) (i := r3 + 1) (by omega)
      have sl : (⟨#[c]⟩ : Str).length = 1 := rfl
      have sz : m.length ≤ sizeLine := sz_of (by omega)
      walk_at "gg"
      refine w_dec (fun c7 => ?_) (fun c7 => ?_)
      · walk_at "gg"
        refine w_slS sz ?_
        walk_at "gg"
        refine w_addS (sz_of (by rw [sl]; omega)) ?_
        walk_at "gg"
        refine w_slS sz ?_
        refine w_addS (sz_of (by rw [app_len, sl]; omega)) ?_
        walk_at "gg"
        exact ⟨_, _, _, _, _, rfl, cc, o5, by rw [app_len, app_len, sl]; omega, hj3⟩
      walk_at "gg"
      refine w_dec (fun c8 => ?_) (fun c8 => ?_)
      · walk_at "gg"
        refine w_slS sz ?_
        walk_at "gg"
        refine w_slS sz ?_
        refine w_addS (sz_of (by omega)) ?_
        walk_at "gg"
        exact ⟨_, _, _, _, _, rfl, cc, o5, by rw [app_len]; omega, hj3⟩
      · walk_at "gg"
        refine w_slS sz ?_
        walk_at "gg"
        refine w_addS (sz_of (by rw [sl]; omega)) ?_
        walk_at "gg"
        refine w_slS sz ?_
        refine w_addS (sz_of (by rw [app_len, sl]; omega)) ?_
        walk_at "gg"
        exact ⟨_, _, _, _, _, rfl, cc, o5, by rw [app_len, app_len, sl]; omega, hj3⟩
    · obtain ⟨m, y3, y4, y5, y6, rfl, c2, o2, lm, l3⟩ := h
      walk_at "gg"
      exact q H' m c2 o2 (by omega)
/-- any odd value, its list new -/
def spOdd : Sp := fun vs H Q _ => ∃ (z : StA), vs = [.ref z.st] ∧ StOk H z ∧ ∀ H' v d, Ch z.st H H' → StOk H' z → Dat (fun p => H p = none) H' v d → partSm d ∧ rowSm 3 d → Q v H'
theorem i_spOdd {z : StA} {H : Hp} {Q : VK} {E : XK} (h : StOk H z) (q : ∀ H' v d, Ch z.st H H' → StOk H' z → Dat (fun p => H p = none) H' v d → partSm d ∧ rowSm 3 d → Q v H') : spOdd [.ref z.st] H Q E := ⟨z, rfl, h, q⟩
theorem st_free {z : StA} {H H' : Hp} {p : Addr} (c : Ch z.st H H') (o : StOk H' z) (n : H' p = none) : H p = none := by
  cases e : H p with
  | none => rfl
  | some x =>
    have h1 := c p x (Ne.symm (o.ne n).1) e
    rw [n] at h1
    cases h1
theorem ok__law_odd (T : Txt K mg w a) : Ok P w K mg base 3 a.f__law_odd ["_law_state"] spOdd := by
  obtain ⟨fd, F, b⟩ := T.F__law_odd
  obtain ⟨fd1, G__law_draw, b__law_draw⟩ := ok__law_draw (P := P) (base := base) T
  obtain ⟨fd2, G__law_wide, b__law_wide⟩ := ok__law_wide (P := P) (base := base) T
  refine ⟨fd, F.ok sc__law_odd (fun vs H Q E h => ?_) (fun cdv A outer s H vs Q E hr h => ?_), b⟩
  · obtain ⟨z, rfl, _⟩ := h
    rfl
  · obtain ⟨z, rfl, hst, q⟩ := h
    refine ⟨_, (pss_cons (ps_set (i := 1) sc__law_odd.nd rfl (Or.inl rfl) (pe_call G__law_draw (hr.mono (by decide)) (by rfl) T.a__law_draw T.k__law_draw b__law_draw .nil pass0 (pa_cons (pv 0) (pa_cons pe_int pa_nil))))
      (pss_cons (ps_if (pt_cmpR op_eq (pv 1) pe_int (nomark _)) (pss_one (ps_ret pe_non)) pss_nil)
      (pss_cons (ps_if (pt_cmpR op_eq (pv 1) pe_int (nomark _)) (pss_one (ps_ret (pe_cmpR op_eq (pe_call G__law_draw (hr.mono (by decide)) (by rfl) T.a__law_draw T.k__law_draw b__law_draw .nil pass0 (pa_cons (pv 0) (pa_cons pe_int pa_nil))) pe_int (nomark _)))) pss_nil)
      (pss_cons (ps_if (pt_cmpR op_eq (pv 1) pe_int (nomark _)) (pss_one (ps_ret (pe_op op_sub (pe_op op_sub pe_int pe_int) (pe_op op_mul (pe_call G__law_draw (hr.mono (by decide)) (by rfl) T.a__law_draw T.k__law_draw b__law_draw .nil pass0 (pa_cons (pv 0) (pa_cons pe_int pa_nil))) (pe_call G__law_wide (hr.mono (by decide)) (by rfl) T.a__law_wide T.k__law_wide b__law_wide .nil pass0 (pa_cons (pv 0) pa_nil)))))) pss_nil)
      (pss_cons (ps_if (pt_cmpR op_eq (pv 1) pe_int (nomark _)) (pss_one (ps_ret (pe_callTy c_strI (by rfl) T.z_str bt_str (pa_cons (pe_op op_add pe_int (pe_call G__law_draw (hr.mono (by decide)) (by rfl) T.a__law_draw T.k__law_draw b__law_draw .nil pass0 (pa_cons (pv 0) (pa_cons pe_int pa_nil)))) pa_nil)))) pss_nil)
      (pss_cons (ps_if (pt_cmpR op_eq (pv 1) pe_int (nomark _)) (pss_one (ps_ret (pe_lst (pa_cons (pe_op op_add pe_int (pe_call G__law_draw (hr.mono (by decide)) (by rfl) T.a__law_draw T.k__law_draw b__law_draw .nil pass0 (pa_cons (pv 0) (pa_cons pe_int pa_nil)))) pa_nil)))) pss_nil)
      (pss_cons (ps_if (pt_cmpR op_eq (pv 1) pe_int (nomark _)) (pss_one (ps_ret (pe_op op_add pe_int (pe_op op_mul (pe_call G__law_draw (hr.mono (by decide)) (by rfl) T.a__law_draw T.k__law_draw b__law_draw .nil pass0 (pa_cons (pv 0) (pa_cons pe_int pa_nil))) (pe_call G__law_wide (hr.mono (by decide)) (by rfl) T.a__law_wide T.k__law_wide b__law_wide .nil pass0 (pa_cons (pv 0) pa_nil)))))) pss_nil)
      (pss_cons (ps_if (pt_cmpR op_eq (pv 1) pe_int (nomark _)) (pss_one (ps_ret (pe_tup (pa_cons (pe_op op_add pe_int (pe_call G__law_draw (hr.mono (by decide)) (by rfl) T.a__law_draw T.k__law_draw b__law_draw .nil pass0 (pa_cons (pv 0) (pa_cons pe_int pa_nil)))) pa_nil)))) pss_nil)
      (pss_one (ps_ret (pe_op op_sub (pv 1) pe_int))))))))))), ?_⟩
    walk_at "gg"
    refine i_spDraw (by decide) hst (fun H1 r1 c1 o1 p0 p1 => ?_)
    walk_at "gg"
    refine w_dec (fun c => ?_) (fun c => ?_)
    · walk_at "gg"
      exact q H1 _ _ c1 o1 .non ⟨trivial, trivial⟩
    walk_at "gg"
    refine w_dec (fun c => ?_) (fun c => ?_)
    · walk_at "gg"
      refine i_spDraw (by decide) o1 (fun H2 r2 c2 o2 _ _ => ?_)
      walk_at "gg"
      exact q H2 _ _ (c1.trans c2) o2 (.bl _) ⟨trivial, trivial⟩
    walk_at "gg"
    refine w_dec (fun c => ?_) (fun c => ?_)
    · walk_at "gg"
      refine i_spDraw (by decide) o1 (fun H2 r2 c2 o2 q0 q1 => ?_)
      walk_at "gg"
      refine i_spWide o2 (fun H3 r3 c3 o3 _ _ => ?_)
      walk_at "gg"
      refine w_iic (.inl ⟨by omega, by omega⟩) ?_
      walk_at "gg"
      exact q H3 _ _ ((c1.trans c2).trans c3) o3 (.int _) ⟨trivial, trivial⟩
    walk_at "gg"
    refine w_dec (fun c => ?_) (fun c => ?_)
    · walk_at "gg"
      refine i_spDraw (by decide) o1 (fun H2 r2 c2 o2 q0 q1 => ?_)
      walk_at "gg"
      refine w_strI (log_small (by omega)) ?_
      exact q H2 _ _ (c1.trans c2) o2 (.str _) ⟨trivial, trivial⟩
    walk_at "gg"
    refine w_dec (fun c => ?_) (fun c => ?_)
    · walk_at "gg"
      refine i_spDraw (by decide) o1 (fun H2 r2 c2 o2 q0 q1 => ?_)
      walk_at "gg"
      refine w_newL (by show 1 ≤ 1000000; decide) (fun l H3 nl s3 el => ?_)
      have c12 := c1.trans c2
      exact q H3 _ _ (c12.trans (Ch.of s3)) (o2.same s3) (.lst (st_free c12 o2 nl) el (.cons (.int _) .nil)) ⟨trivial, trivial⟩
    walk_at "gg"
    refine w_dec (fun c => ?_) (fun c => ?_)
    · walk_at "gg"
      refine i_spDraw (by decide) o1 (fun H2 r2 c2 o2 q0 q1 => ?_)
      walk_at "gg"
      refine i_spWide o2 (fun H3 r3 c3 o3 _ _ => ?_)
      walk_at "gg"
      refine w_iic (.inl ⟨by omega, by omega⟩) ?_
      walk_at "gg"
      exact q H3 _ _ ((c1.trans c2).trans c3) o3 (.int _) ⟨trivial, trivial⟩
    walk_at "gg"
    refine w_dec (fun c => ?_) (fun c => ?_)
    · walk_at "gg"
      refine i_spDraw (by decide) o1 (fun H2 r2 c2 o2 q0 q1 => ?_)
      walk_at "gg"
      refine w_newT (by show 1 ≤ 1000000; decide) (fun l H3 nl s3 el => ?_)
      exact q H3 _ _ ((c1.trans c2).trans (Ch.of s3)) (o2.same s3) (.tup el (.cons (.int _) .nil)) ⟨by show 1 ≤ 100; decide, by show 1 ≤ 3; decide, fun e he => by rw [List.mem_singleton.mp he]; trivial⟩
    · walk_at "gg"
      exact q H1 _ _ c1 o1 (.int _) ⟨trivial, trivial⟩
end
end K17
namespace K17
open PySem L2
/-! _law_bad_row, _law_spoilt. -/
local macro_rules | `(tactic| walk_at "gg") => `(tactic| repeat (first | with_reducible refine w_nt ?_ | with_reducible refine w_nf ?_ | with_reducible refine w_raise ?_ | with_reducible refine w_orS (by with_unfolding_all rfl) ?_ | with_reducible refine iteT ?_ | with_reducible refine iteF ?_ | with_reducible refine w_isNN ?_ | with_reducible refine w_isNI ?_ | with_reducible refine w_isNR ?_ | with_reducible refine w_notNN ?_ | with_reducible refine w_notNI ?_ | with_reducible refine w_notNR ?_ | with_reducible refine w_var (by with_unfolding_all rfl) ?_ | with_reducible refine w_c ?_ | with_reducible refine w_seq ?_ | with_reducible refine w_set ?_ | with_reducible refine w_ret ?_ | with_reducible refine w_if ?_ | with_reducible refine w_op ?_ | with_reducible refine w_ii ?_ | with_reducible refine w_test ?_ | with_reducible refine w_bl ?_ | with_reducible refine w_cb ?_ | with_reducible refine w_call ?_ | with_reducible refine w_nil ?_ | with_reducible refine w_cons ?_ | with_reducible refine w_eqI ?_ | with_reducible refine w_eqS ?_ | with_reducible refine w_neI ?_ | with_reducible refine w_neS ?_ | with_reducible refine w_andV ?_ | with_reducible refine w_orV ?_ | with_reducible refine w_notV ?_ | with_reducible refine w_and ?_ | with_reducible refine w_or ?_ | with_reducible refine w_not ?_ | with_reducible refine w_ifE ?_ | with_reducible refine w_chain ?_ | with_reducible refine w_B ?_ | with_reducible refine w_drop ?_ | with_reducible refine w_next ?_ | with_reducible refine w_un ?_ | with_reducible refine w_iu ?_ | with_reducible refine w_isN ?_ | with_reducible refine w_notN ?_ | with_reducible refine w_int1 ?_ | with_reducible refine w_abs ?_ | with_reducible refine w_min ?_ | with_reducible refine w_max ?_ | with_reducible refine w_tup ?_ | with_reducible refine w_lst ?_ | with_reducible refine w_sl ?_ | with_reducible refine w_noPart ?_ | with_reducible refine w_part ?_ | with_reducible refine w_pi ?_ | with_reducible refine w_bm ?_ | with_reducible refine w_tyS ?_ | with_reducible refine w_m1 ?_ | with_reducible refine w_str ?_ | with_reducible refine w_forL ?_ | with_reducible refine w_forT ?_ | with_reducible refine w_forR1 ?_ | with_reducible refine w_forS ?_ | with_reducible refine w_lcL ?_ | with_reducible refine w_lcT ?_ | with_reducible refine w_lcR1 ?_ | with_reducible refine w_lcR2 ?_ | with_reducible refine w_yes ?_ | with_reducible refine w_asgSub ?_ | with_reducible refine w_callS ?_ | with_reducible refine w_forQ ?_ | with_reducible refine w_forM ?_ | with_reducible refine w_forZ ?_ | with_reducible refine w_forE ?_ | with_reducible refine w_par ?_ | with_reducible refine w_two ?_ | with_reducible refine w_dget2 ?_))
theorem dat_or {ok ok' : Addr → Prop} {H : Hp} {v : V} {d : PyData} (h : Dat ok H v d) : Dat (fun p => ok p ∨ ok' p) H v d := h.weak fun _ z => .inl z
theorem datL_or {ok ok' : Addr → Prop} {H : Hp} {vs : List V} {ds : List PyData} (h : DatL ok H vs ds) : DatL (fun p => ok p ∨ ok' p) H vs ds := h.weak fun _ z => .inl z
theorem row_sm {m : Nat} {es : List PyData} (h1 : es.length ≤ m) (h2 : ∀ e ∈ es, partSm e) : rowSm m (.tuple es) := ⟨h1, h2⟩
theorem mem_take' {α : Type} {l : List α} {n : Nat} {x : α} (h : x ∈ l.take n) : x ∈ l := List.mem_of_mem_take h
theorem mem_drop' {α : Type} {l : List α} {n : Nat} {x : α} (h : x ∈ l.drop n) : x ∈ l := List.mem_of_mem_drop h
section
variable {P : Program} {w : World} {K : PySem.W.Frag} {mg : Str → Option Value} {base : Heap} {a : Ad}
def spBad : Sp := fun vs H Q _ => ∃ (z : StA) (m r : Addr) (xs ys : List V) (es : List PyData) (n i : Nat) (ok : Addr → Prop), vs = [.ref z.st, .ref m, .int i, .int 8] ∧ StOk H z ∧ m ≠ z.st ∧ H m = some (.lst xs) ∧ xs[i]? = some (.ref r) ∧ i ≤ 100 ∧ H r = some (.tup ys) ∧ DatL ok H ys es ∧ (∀ p, ok p → p ≠ z.st) ∧ 2 ≤ es.length ∧ es.length ≤ n ∧ 3 ≤ n ∧ n ≤ 900 ∧ (∀ e ∈ es, partSm e) ∧
  ∀ H' v d, Ch z.st H H' → StOk H' z → Dat (fun p => ok p ∨ H p = none) H' v d → rowSm (n + 1) d → Q v H'
theorem i_spBad {z : StA} {m r : Addr} {xs ys : List V} {es : List PyData} {n i : Nat} {ok : Addr → Prop} {H : Hp} {Q : VK} {E : XK} (h1 : StOk H z) (h2 : m ≠ z.st) (h3 : H m = some (.lst xs)) (h4 : xs[i]? = some (.ref r)) (h5 : i ≤ 100) (h6 : H r = some (.tup ys)) (h7 : DatL ok H ys es) (h8 : ∀ p, ok p → p ≠ z.st) (h9 : 2 ≤ es.length) (h10 : es.length ≤ n) (h12 : 3 ≤ n) (h13 : n ≤ 900) (h11 : ∀ e ∈ es, partSm e)
    (q : ∀ H' v d, Ch z.st H H' → StOk H' z → Dat (fun p => ok p ∨ H p = none) H' v d → rowSm (n + 1) d → Q v H') : spBad [.ref z.st, .ref m, .int i, .int 8] H Q E := ⟨z, m, r, xs, ys, es, n, i, ok, rfl, h1, h2, h3, h4, h5, h6, h7, h8, h9, h10, h12, h13, h11, q⟩
theorem ok__law_bad_row (T : Txt K mg w a) : Ok P w K mg base 4 a.f__law_bad_row ["_law_state", "_law_program_here", "_law_at", "_law_n"] spBad := by
  obtain ⟨fd, F, b⟩ := T.F__law_bad_row
  obtain ⟨fd1, G__law_draw, b__law_draw⟩ := ok__law_draw (P := P) (base := base) T
  obtain ⟨fd2, G__law_odd, b__law_odd⟩ := ok__law_odd (P := P) (base := base) T
  refine ⟨fd, F.ok sc__law_bad_row (fun vs H Q E h => ?_) (fun cdv A outer s H vs Q E hr h => ?_), b⟩
  · obtain ⟨z, m, r, xs, ys, es, n, i, ok, rfl, _⟩ := h
    rfl
  · obtain ⟨z, m, r, xs, ys, es, n, i, ok, rfl, hst, hm, em, hi, hi2, er, hes, hok, h2, hn, hn3, hn9, hsm, q⟩ := h
    obtain ⟨stv, est⟩ := hst.lst
    have hyl : ys.length = es.length := hes.length
    refine ⟨_, (pss_cons (ps_set (i := 4) sc__law_bad_row.nd rfl (Or.inl rfl) (pe_ix ix_list (pv 1) (pv 2) (fun _ _ => rfl)))
      (pss_cons (ps_set (i := 5) sc__law_bad_row.nd rfl (Or.inl rfl) (pe_call G__law_draw (hr.mono (by decide)) (by rfl) T.a__law_draw T.k__law_draw b__law_draw .nil pass0 (pa_cons (pv 0) (pa_cons pe_int pa_nil))))
      (pss_cons (ps_set (i := 6) sc__law_bad_row.nd rfl (Or.inl rfl) (pe_op op_add pe_int (pe_call G__law_draw (hr.mono (by decide)) (by rfl) T.a__law_draw T.k__law_draw b__law_draw .nil pass0 (pa_cons (pv 0) (pa_cons (pe_op op_sub (pe_callB c_len (by rfl) T.z_len bt_len (pa_cons (pv 4) pa_nil)) pe_int) pa_nil)))))
      (pss_cons (ps_if (pt_cmpR op_eq (pv 5) pe_int (nomark _)) (pss_one (ps_ret (pe_callTy c_listOf (by rfl) T.z_list bt_list (pa_cons (pv 4) pa_nil)))) pss_nil)
      (pss_cons (ps_if (pt_cmpR op_eq (pv 5) pe_int (nomark _)) (pss_one (ps_ret (pe_slice sl_tupA (pv 4) po_none (po_some (pe_op op_sub (pe_callB c_len (by rfl) T.z_len bt_len (pa_cons (pv 4) pa_nil)) pe_int))))) pss_nil)
      (pss_cons (ps_if (pt_cmpR op_eq (pv 5) pe_int (nomark _)) (pss_one (ps_ret (pe_op op_catA (pv 4) (pe_tup (pa_cons (pe_call G__law_draw (hr.mono (by decide)) (by rfl) T.a__law_draw T.k__law_draw b__law_draw .nil pass0 (pa_cons (pv 0) (pa_cons pe_int pa_nil))) pa_nil))))) pss_nil)
      (pss_cons (ps_if (pt_cmpR op_eq (pv 5) pe_int (nomark _)) (pss_one (ps_ret (pe_op op_catA (pe_tup (pa_cons (pe_ix ix_list (pe_lst (pa_cons pe_str (pa_cons pe_str (pa_cons pe_str (pa_cons pe_non (pa_cons pe_int (pa_cons pe_str (pa_cons pe_str (pa_cons pe_str pa_nil))))))))) (pe_call G__law_draw (hr.mono (by decide)) (by rfl) T.a__law_draw T.k__law_draw b__law_draw .nil pass0 (pa_cons (pv 0) (pa_cons pe_int pa_nil))) (fun _ _ => rfl)) pa_nil)) (pe_slice sl_tupA (pv 4) (po_some pe_int) po_none)))) pss_nil)
      (pss_cons (ps_if (pt_cmpR op_eq (pv 5) pe_int (nomark _)) (pss_cons (ps_set (i := 7) sc__law_bad_row.nd rfl (Or.inl rfl) (pe_ix ix_list (pe_lst (pa_cons (pe_tup (pa_cons pe_int (pa_cons pe_int pa_nil))) (pa_cons (pe_tup (pa_cons pe_int (pa_cons pe_int pa_nil))) (pa_cons (pe_tup pa_nil) (pa_cons (pe_lst (pa_cons pe_int pa_nil)) (pa_cons (pe_tup (pa_cons pe_int (pa_cons pe_int pa_nil))) (pa_cons (pe_tup (pa_cons (pv 3) (pa_cons (pe_op op_add (pv 3) pe_int) pa_nil))) (pa_cons (pe_tup (pa_cons pe_int (pa_cons pe_bl pa_nil))) (pa_cons pe_int pa_nil))))))))) (pe_call G__law_draw (hr.mono (by decide)) (by rfl) T.a__law_draw T.k__law_draw b__law_draw .nil pass0 (pa_cons (pv 0) (pa_cons pe_int pa_nil))) (fun _ _ => rfl)))
      (pss_one (ps_ret (pe_tup (pa_cons pe_str (pa_cons (pe_call G__law_draw (hr.mono (by decide)) (by rfl) T.a__law_draw T.k__law_draw b__law_draw .nil pass0 (pa_cons (pv 0) (pa_cons (pe_op op_add (pv 2) pe_int) pa_nil))) (pa_cons (pv 7) pa_nil))))))) pss_nil)
      (pss_cons (ps_if (pt_cmpR op_eq (pv 5) pe_int (nomark _)) (pss_one (ps_ret (pe_tup (pa_cons pe_str (pa_cons (pe_ix ix_list (pe_lst (pa_cons (pe_op op_pow pe_int pe_int) (pa_cons (pe_op op_sub pe_int (pe_op op_pow pe_int pe_int)) (pa_cons (pe_op op_sub (pe_op op_pow pe_int pe_int) pe_int) (pa_cons (pe_op op_sub pe_int (pe_op op_pow pe_int pe_int)) (pa_cons pe_bl pa_nil)))))) (pe_call G__law_draw (hr.mono (by decide)) (by rfl) T.a__law_draw T.k__law_draw b__law_draw .nil pass0 (pa_cons (pv 0) (pa_cons pe_int pa_nil))) (fun _ _ => rfl)) pa_nil))))) pss_nil)
      (pss_cons (ps_if (pt_cmpR op_eq (pv 5) pe_int (nomark _)) (pss_one (ps_ret (pe_tup (pa_cons (pe_ix ix_list (pe_lst (pa_cons pe_str (pa_cons pe_str (pa_cons pe_str pa_nil)))) (pe_call G__law_draw (hr.mono (by decide)) (by rfl) T.a__law_draw T.k__law_draw b__law_draw .nil pass0 (pa_cons (pv 0) (pa_cons pe_int pa_nil))) (fun _ _ => rfl)) (pa_cons (pe_call G__law_draw (hr.mono (by decide)) (by rfl) T.a__law_draw T.k__law_draw b__law_draw .nil pass0 (pa_cons (pv 0) (pa_cons (pe_op op_add (pv 2) pe_int) pa_nil))) (pa_cons (pe_call G__law_draw (hr.mono (by decide)) (by rfl) T.a__law_draw T.k__law_draw b__law_draw .nil pass0 (pa_cons (pv 0) (pa_cons (pe_op op_add (pv 2) pe_int) pa_nil))) pa_nil)))))) pss_nil)
      (pss_cons (ps_if (pt_cmpR op_eq (pv 5) pe_int (nomark _)) (pss_one (ps_ret (pe_tup (pa_cons pe_str (pa_cons (pe_ix ix_list (pe_lst (pa_cons (pe_op op_pow pe_int pe_int) (pa_cons pe_int (pa_cons (pe_op op_sub pe_int (pe_op op_pow pe_int pe_int)) (pa_cons pe_non pa_nil))))) (pe_call G__law_draw (hr.mono (by decide)) (by rfl) T.a__law_draw T.k__law_draw b__law_draw .nil pass0 (pa_cons (pv 0) (pa_cons pe_int pa_nil))) (fun _ _ => rfl)) (pa_cons (pe_call G__law_draw (hr.mono (by decide)) (by rfl) T.a__law_draw T.k__law_draw b__law_draw .nil pass0 (pa_cons (pv 0) (pa_cons (pe_op op_add (pv 2) pe_int) pa_nil))) pa_nil)))))) pss_nil)
      (pss_cons (ps_if (pt_cmpR op_eq (pv 5) pe_int (nomark _)) (pss_one (ps_ret (pe_call G__law_odd (hr.mono (by decide)) (by rfl) T.a__law_odd T.k__law_odd b__law_odd .nil pass0 (pa_cons (pv 0) pa_nil)))) pss_nil)
      (pss_one (ps_ret (pe_op op_catA (pe_op op_catA (pe_slice sl_tupA (pv 4) po_none (po_some (pv 6))) (pe_tup (pa_cons (pe_call G__law_odd (hr.mono (by decide)) (by rfl) T.a__law_odd T.k__law_odd b__law_odd .nil pass0 (pa_cons (pv 0) pa_nil)) pa_nil))) (pe_slice sl_tupA (pv 4) (po_some (pe_op op_add (pv 6) pe_int)) po_none)))))))))))))))), ?_⟩
    walk_at "gg"
    refine w_ixL em (atI_nat hi) ?_
    walk_at "gg"
    refine i_spDraw (by decide) hst (fun H1 kd c1 o1 _ _ => ?_)
    have er1 := c1 _ _ (ne_of er est (by intro z; cases z)) er
    walk_at "gg"
    refine w_lenT er1 ?_
    walk_at "gg"
    refine i_spDraw (by omega) o1 (fun H2 pl c2 o2 p0 p1 => ?_)
    have c12 := c1.trans c2
    -- the row's parts, now and later
    have now : ∀ H3, Ch z.st H H3 → H3 r = some (.tup ys) ∧ DatL (fun p => ok p ∨ H p = none) H3 ys es := fun H3 c => ⟨c _ _ (ne_of er est (by intro z; cases z)) er, datL_or (hes.ch c est hok)⟩
    have no : ∀ p, H p = none → p ≠ z.st := fun p hp e => by
      rw [e, est] at hp
      cases hp
    have okN : ∀ p, (ok p ∨ H p = none) → p ≠ z.st := fun p hp => hp.elim (hok p) (no p)
    have er2 := (now H2 c12).1
    walk_at "gg"
    refine w_dec (fun c => ?_) (fun c => ?_)
    · walk_at "gg"
      refine w_listL (.inr (SqT.of er2)) (fun l H3 nl s3 el => ?_)
      exact q H3 _ (.list es) (c12.trans (Ch.of s3)) (o2.same s3) (.lst (.inr (st_free c12 o2 nl)) el ((now H2 c12).2.same s3)) trivial
    walk_at "gg"
    refine w_dec (fun c => ?_) (fun c => ?_)
    · walk_at "gg"
      refine w_lenT er2 ?_
      walk_at "gg"
      obtain ⟨k, hk⟩ : ∃ k : Nat, (ys.length : Int) - 1 = (k : Int) := ⟨ys.length - 1, by omega⟩
      rw [hk]
      refine w_slT er2 (fun u H3 s3 eu => ?_)
      rw [cutV_to] at eu
      exact q H3 _ (.tuple (es.take k)) (c12.trans (Ch.of s3)) (o2.same s3) (.tup eu (((now H2 c12).2.same s3).take k)) (row_sm (by rw [List.length_take]; omega) fun e he => hsm e (mem_take' he))
    walk_at "gg"
    refine w_dec (fun c => ?_) (fun c => ?_)
    · walk_at "gg"
      refine i_spDraw (by decide) o2 (fun H3 r3 c3 o3 q0 q1 => ?_)
      have c13 := c12.trans c3
      obtain ⟨er3, de3⟩ := now H3 c13
      walk_at "gg"
      refine w_newT (by show 1 ≤ 1000000; decide) (fun t H4 nt s4 et => ?_)
      refine w_catT (s4 _ _ er3) et (by show ys.length + 1 ≤ 1000000; omega) (fun u H5 s5 eu => ?_)
      have s45 := s4.trans s5
      exact q H5 _ (.tuple (es ++ [.int r3])) (c13.trans (Ch.of s45)) (o3.same s45) (.tup eu ((de3.same s45).append (.cons (.int _) .nil))) (row_sm (by rw [List.length_append]; show es.length + 1 ≤ _; omega) fun e he => (List.mem_append.mp he).elim (hsm e) fun z => by rw [List.mem_singleton.mp z]; trivial)
    walk_at "gg"
    refine w_dec (fun c => ?_) (fun c => ?_)
    · walk_at "gg"
      refine w_newL (by show 8 ≤ 1000000; decide) (fun l H3 nl s3 el => ?_)
      have c13 := c12.trans (Ch.of s3)
      have o3 := o2.same s3
      walk_at "gg"
      refine i_spDraw (by decide) o3 (fun H4 r4 c4 o4 q0 q1 => ?_)
      have c14 := c13.trans c4
      have di : DatL noL H4 [.str "Put", .str "adds", .str "", .non, .int 3, .str "tell", .str "put", .str "scale"] [.str "Put", .str "adds", .str "", .none, .int 3, .str "tell", .str "put", .str "scale"] :=
        .cons (.str _) (.cons (.str _) (.cons (.str _) (.cons .non (.cons (.int _) (.cons (.str _) (.cons (.str _) (.cons (.str _) .nil)))))))
      obtain ⟨x, hx, ex⟩ := atI_in (xs := [V.str "Put", .str "adds", .str "", .non, .int 3, .str "tell", .str "put", .str "scale"]) q0 (by show r4 < 8; omega)
      obtain ⟨dd, hdd, dx⟩ := di.get hx
      have hp : partSm dd := by
        have hm := List.mem_of_getElem? hdd
        simp only [List.mem_cons, List.not_mem_nil, or_false] at hm
        rcases hm with rfl | rfl | rfl | rfl | rfl | rfl | rfl | rfl <;> trivial
      refine w_ixL (c4 _ _ (Ne.symm (o2.ne nl).1) el) ex ?_
      obtain ⟨er4, de4⟩ := now H4 c14
      walk_at "gg"
      refine w_newT (by show 1 ≤ 1000000; decide) (fun t H5 nt s5 et => ?_)
      walk_at "gg"
      refine w_slT (s5 _ _ er4) (fun u H6 s6 eu => ?_)
      rw [show cutV ys (some 1) none = ys.drop 1 from cutV_from ys 1] at eu
      refine w_catT (s6 _ _ et) eu (by rw [List.length_drop]; show 1 + (ys.length - 1) ≤ 1000000; omega) (fun g H7 s7 eg => ?_)
      have s57 := s5.trans (s6.trans s7)
      exact q H7 _ (.tuple ([dd] ++ es.drop 1)) (c14.trans (Ch.of s57)) (o4.same s57) (.tup eg (.append (.cons ((dat_any dx).same s57) .nil) ((de4.same s57).drop 1))) (row_sm (by rw [List.length_append, List.length_drop]; show 1 + (es.length - 1) ≤ _; omega) fun e he => (List.mem_append.mp he).elim (fun z => by rw [List.mem_singleton.mp z]; exact hp) fun z => hsm e (mem_drop' z))
    walk_at "gg"
    refine w_dec (fun c => ?_) (fun c => ?_)
    · walk_at "gg"
      refine w_newT (by show 2 ≤ 1000000; decide) (fun t1 I1 n1 s1 e1 => ?_)
      walk_at "gg"
      refine w_newT (by show 2 ≤ 1000000; decide) (fun t2 I2 n2 s2 e2 => ?_)
      walk_at "gg"
      refine w_newT (by show 0 ≤ 1000000; decide) (fun t3 I3 n3 s3 e3 => ?_)
      walk_at "gg"
      refine w_newL (by show 1 ≤ 1000000; decide) (fun t4 I4 n4 s4 e4 => ?_)
      walk_at "gg"
      refine w_newT (by show 2 ≤ 1000000; decide) (fun t5 I5 n5 s5 e5 => ?_)
      walk_at "gg"
      refine w_newT (by show 2 ≤ 1000000; decide) (fun t6 I6 n6 s6 e6 => ?_)
      walk_at "gg"
      refine w_newT (by show 2 ≤ 1000000; decide) (fun t7 I7 n7 s7 e7 => ?_)
      walk_at "gg"
      refine w_newL (by show 8 ≤ 1000000; decide) (fun l I8 n8 s8 e8 => ?_)
      have a8 := s8
      have a7 := s7.trans a8
      have a6 := s6.trans a7
      have a5 := s5.trans a6
      have a4 := s4.trans a5
      have a3 := s3.trans a4
      have a2 := s2.trans a3
      have a1 := s1.trans a2
      have c3 := c12.trans (Ch.of ((s1.trans s2).trans s3))
      have o3 := o2.same ((s1.trans s2).trans s3)
      have di : DatL (fun p => ok p ∨ H p = none) I8 [.ref t1, .ref t2, .ref t3, .ref t4, .ref t5, .ref t6, .ref t7, .int 1] [.tuple [.int 2, .int 1], .tuple [.int 1, .int 1], .tuple [], .list [.int 1], .tuple [.int 0, .int 1], .tuple [.int 8, .int (8 + 1)], .tuple [.int 1, .bool true], .int 1] :=
        .cons (.tup (a2 _ _ e1) (.cons (.int _) (.cons (.int _) .nil))) (.cons (.tup (a3 _ _ e2) (.cons (.int _) (.cons (.int _) .nil))) (.cons (.tup (a4 _ _ e3) .nil) (.cons (.lst (.inr (st_free c3 o3 n4)) (a5 _ _ e4) (.cons (.int _) .nil))
          (.cons (.tup (a6 _ _ e5) (.cons (.int _) (.cons (.int _) .nil))) (.cons (.tup (a7 _ _ e6) (.cons (.int _) (.cons (.int _) .nil))) (.cons (.tup (a8 _ _ e7) (.cons (.int _) (.cons (.bl _) .nil))) (.cons (.int _) .nil)))))))
      have c8 := c12.trans (Ch.of a1)
      have o8 := o2.same a1
      walk_at "gg"
      refine i_spDraw (by decide) o8 (fun H4 r4 c4 o4 q0 q1 => ?_)
      obtain ⟨x, hx, ex⟩ := atI_in (xs := [V.ref t1, .ref t2, .ref t3, .ref t4, .ref t5, .ref t6, .ref t7, .int 1]) q0 (by show r4 < 8; omega)
      obtain ⟨st8, est8⟩ := o8.lst
      obtain ⟨dd, hdd, dx⟩ := (di.ch c4 est8 okN).get hx
      have hp : partSm dd := by
        have hm := List.mem_of_getElem? hdd
        simp only [List.mem_cons, List.not_mem_nil, or_false] at hm
        rcases hm with rfl | rfl | rfl | rfl | rfl | rfl | rfl | rfl <;> first | trivial | exact (by decide : 2 ≤ 100) | exact (by decide : 0 ≤ 100)
      refine w_ixL (c4 _ _ (Ne.symm ((o2.same (((((((s1.trans s2).trans s3).trans s4).trans s5).trans s6).trans s7))).ne n8).1) e8) ex ?_
      walk_at "gg"
      refine i_spDraw (by omega) o4 (fun H5 r5 c5 o5 _ _ => ?_)
      obtain ⟨st4, est4⟩ := o4.lst
      walk_at "gg"
      refine w_newT (by show 3 ≤ 1000000; decide) (fun t H6 nt s6' et => ?_)
      exact q H6 _ (.tuple [.str "tell", .int r5, dd]) (((c8.trans c4).trans c5).trans (Ch.of s6')) (o5.same s6') (.tup et (.cons (.str _) (.cons (.int _) (.cons ((dx.ch c5 est4 okN).same s6') .nil)))) (row_sm (by show 3 ≤ n + 1; omega) fun e he => by
        simp only [List.mem_cons, List.not_mem_nil, or_false] at he
        rcases he with rfl | rfl | rfl
        · trivial
        · trivial
        · exact hp)
    walk_at "gg"
    refine w_dec (fun c => ?_) (fun c => ?_)
    · walk_at "gg"
      refine w_iic pow_ok ?_
      walk_at "gg"
      refine w_iic pow_ok ?_
      walk_at "gg"
      refine w_iic pow_ok ?_
      walk_at "gg"
      refine w_iic pow_ok ?_
      walk_at "gg"
      refine w_newL (by show 5 ≤ 1000000; decide) (fun l H3 nl s3 el => ?_)
      have o3 := o2.same s3
      walk_at "gg"
      refine i_spDraw (by decide) o3 (fun H4 r4 c4 o4 q0 q1 => ?_)
      have c14 := (c12.trans (Ch.of s3)).trans c4
      have di : DatL noL H4 [.int (10 ^ (60 : Int).toNat), .int (0 - 10 ^ (60 : Int).toNat), .int (10 ^ (60 : Int).toNat - 1), .int (1 - 10 ^ (60 : Int).toNat), .bl true] [.int (10 ^ (60 : Int).toNat), .int (0 - 10 ^ (60 : Int).toNat), .int (10 ^ (60 : Int).toNat - 1), .int (1 - 10 ^ (60 : Int).toNat), .bool true] :=
        .cons (.int _) (.cons (.int _) (.cons (.int _) (.cons (.int _) (.cons (.bl _) .nil))))
      obtain ⟨x, hx, ex⟩ := atI_in (xs := [V.int (10 ^ (60 : Int).toNat), .int (0 - 10 ^ (60 : Int).toNat), .int (10 ^ (60 : Int).toNat - 1), .int (1 - 10 ^ (60 : Int).toNat), .bl true]) q0 (by show r4 < 5; omega)
      obtain ⟨dd, hdd, dx⟩ := di.get hx
      have hp : partSm dd := by
        have hm := List.mem_of_getElem? hdd
        simp only [List.mem_cons, List.not_mem_nil, or_false] at hm
        rcases hm with rfl | rfl | rfl | rfl | rfl <;> trivial
      refine w_ixL (c4 _ _ (Ne.symm (o2.ne nl).1) el) ex ?_
      walk_at "gg"
      refine w_newT (by show 2 ≤ 1000000; decide) (fun t H5 nt s5 et => ?_)
      exact q H5 _ (.tuple [.str "number", dd]) (c14.trans (Ch.of s5)) (o4.same s5) (.tup et (.cons (.str _) (.cons ((dat_any dx).same s5) .nil))) (row_sm (by show 2 ≤ n + 1; omega) fun e he => by
        simp only [List.mem_cons, List.not_mem_nil, or_false] at he
        rcases he with rfl | rfl
        · trivial
        · exact hp)
    walk_at "gg"
    refine w_dec (fun c => ?_) (fun c => ?_)
    · walk_at "gg"
      refine w_newL (by show 3 ≤ 1000000; decide) (fun l H3 nl s3 el => ?_)
      have o3 := o2.same s3
      walk_at "gg"
      refine i_spDraw (by decide) o3 (fun H4 r4 c4 o4 q0 q1 => ?_)
      have c14 := (c12.trans (Ch.of s3)).trans c4
      obtain ⟨k, hk, ex⟩ := at_str (ks := ["add", "less", "times"]) q0 (by show r4 < 3; omega)
      refine w_ixL (c4 _ _ (Ne.symm (o2.ne nl).1) el) ex ?_
      walk_at "gg"
      refine i_spDraw (by omega) o4 (fun H5 r5 c5 o5 _ _ => ?_)
      walk_at "gg"
      refine i_spDraw (by omega) o5 (fun H6 r6 c6 o6 _ _ => ?_)
      walk_at "gg"
      refine w_newT (by show 3 ≤ 1000000; decide) (fun t H7 nt s7 et => ?_)
      exact q H7 _ (.tuple [.str k, .int r5, .int r6]) (((c14.trans c5).trans c6).trans (Ch.of s7)) (o6.same s7) (.tup et (.cons (.str _) (.cons (.int _) (.cons (.int _) .nil)))) (row_sm (by show 3 ≤ n + 1; omega) fun e he => by
        simp only [List.mem_cons, List.not_mem_nil, or_false] at he
        rcases he with rfl | rfl | rfl <;> trivial)
    walk_at "gg"
    refine w_dec (fun c => ?_) (fun c => ?_)
    · walk_at "gg"
      refine w_iic pow_ok ?_
      walk_at "gg"
      refine w_iic pow_ok ?_
      walk_at "gg"
      refine w_newL (by show 4 ≤ 1000000; decide) (fun l H3 nl s3 el => ?_)
      have o3 := o2.same s3
      walk_at "gg"
      refine i_spDraw (by decide) o3 (fun H4 r4 c4 o4 q0 q1 => ?_)
      have c14 := (c12.trans (Ch.of s3)).trans c4
      have di : DatL noL H4 [.int (10 ^ (60 : Int).toNat), .int 2, .int (1 - 10 ^ (60 : Int).toNat), .non] [.int (10 ^ (60 : Int).toNat), .int 2, .int (1 - 10 ^ (60 : Int).toNat), .none] := .cons (.int _) (.cons (.int _) (.cons (.int _) (.cons .non .nil)))
      obtain ⟨x, hx, ex⟩ := atI_in (xs := [V.int (10 ^ (60 : Int).toNat), .int 2, .int (1 - 10 ^ (60 : Int).toNat), .non]) q0 (by show r4 < 4; omega)
      obtain ⟨dd, hdd, dx⟩ := di.get hx
      have hp : partSm dd := by
        have hm := List.mem_of_getElem? hdd
        simp only [List.mem_cons, List.not_mem_nil, or_false] at hm
        rcases hm with rfl | rfl | rfl | rfl <;> trivial
      refine w_ixL (c4 _ _ (Ne.symm (o2.ne nl).1) el) ex ?_
      walk_at "gg"
      refine i_spDraw (by omega) o4 (fun H5 r5 c5 o5 _ _ => ?_)
      walk_at "gg"
      refine w_newT (by show 3 ≤ 1000000; decide) (fun t H6 nt s6 et => ?_)
      exact q H6 _ (.tuple [.str "scale", dd, .int r5]) ((c14.trans c5).trans (Ch.of s6)) (o5.same s6) (.tup et (.cons (.str _) (.cons (((dat_any (ok := fun p => ok p ∨ H p = none) (dx.tk (o4.tk c5)))).same s6) (.cons (.int _) .nil)))) (row_sm (by show 3 ≤ n + 1; omega) fun e he => by
        simp only [List.mem_cons, List.not_mem_nil, or_false] at he
        rcases he with rfl | rfl | rfl
        · trivial
        · exact hp
        · trivial)
    walk_at "gg"
    refine w_dec (fun c => ?_) (fun c => ?_)
    · walk_at "gg"
      refine i_spOdd o2 (fun H3 v d c3 o3 dv dp => ?_)
      refine q H3 v d (c12.trans c3) o3 (dv.weak fun p hp => .inr (st_free c12 o2 hp)) ?_
      have dr := dp.2
      cases d with
      | tuple ps => exact ⟨by have := dr.1; omega, dr.2⟩
      | _ => trivial
    walk_at "gg"
    obtain ⟨k, rfl⟩ := Int.eq_ofNat_of_zero_le p0
    rw [show (1 : Int) + (k : Int) = ((k + 1 : Nat) : Int) by omega]
    refine w_slT er2 (fun u H3 s3 eu => ?_)
    rw [cutV_to] at eu
    walk_at "gg"
    have c13 := c12.trans (Ch.of s3)
    have o3 := o2.same s3
    refine i_spOdd o3 (fun H4 v d c4 o4 dv dp => ?_)
    have c14 := c13.trans c4
    walk_at "gg"
    refine w_newT (by show 1 ≤ 1000000; decide) (fun t H5 nt s5 et => ?_)
    obtain ⟨st3, est3⟩ := o3.lst
    have eu4 := c4 _ _ (ne_of eu est3 (by intro z; cases z)) eu
    refine w_catT (s5 _ _ eu4) et (by rw [List.length_take]; show min (k + 1) ys.length + 1 ≤ 1000000; omega) (fun g H6 s6 eg => ?_)
    have s56 := s5.trans s6
    have c16 := c14.trans (Ch.of s56)
    walk_at "gg"
    rw [show ((k + 1 : Nat) : Int) + 1 = ((k + 2 : Nat) : Int) by omega]
    refine w_slT (now H6 c16).1 (fun g2 H7 s7 eg2 => ?_)
    rw [cutV_from] at eg2
    refine w_catT (s7 _ _ eg) eg2 (by rw [List.length_append, List.length_take, List.length_drop]; show min (k + 1) ys.length + 1 + (ys.length - (k + 2)) ≤ 1000000; omega) (fun g3 H8 s8 eg3 => ?_)
    have s58 := s56.trans (s7.trans s8)
    have d8 := (now H8 (c14.trans (Ch.of s58))).2
    have dv8 : Dat (fun p => ok p ∨ H p = none) H8 v d := (dv.weak fun p hp => Or.inr (st_free c13 o3 hp)).same s58
    refine q H8 _ (.tuple (es.take (k + 1) ++ [d] ++ es.drop (k + 2))) (c14.trans (Ch.of s58)) (o4.same s58) (.tup eg3 (((d8.take (k + 1)).append (.cons dv8 .nil)).append (d8.drop (k + 2)))) (row_sm ?_ fun e he => ?_)
    · rw [List.length_append, List.length_append, List.length_take, List.length_drop]
      show min (k + 1) es.length + 1 + (es.length - (k + 2)) ≤ n + 1
      omega
    · rcases List.mem_append.mp he with he | he
      · rcases List.mem_append.mp he with he | he
        · exact hsm e (mem_take' he)
        · rw [List.mem_singleton.mp he]
          exact dp.1
      · exact hsm e (mem_drop' he)
end
end K17
namespace K17
open PySem L2
/-! _law_spoilt. -/
local macro_rules | `(tactic| walk_at "gg") => `(tactic| repeat (first | with_reducible refine w_nt ?_ | with_reducible refine w_nf ?_ | with_reducible refine w_raise ?_ | with_reducible refine w_orS (by with_unfolding_all rfl) ?_ | with_reducible refine iteT ?_ | with_reducible refine iteF ?_ | with_reducible refine w_isNN ?_ | with_reducible refine w_isNI ?_ | with_reducible refine w_isNR ?_ | with_reducible refine w_notNN ?_ | with_reducible refine w_notNI ?_ | with_reducible refine w_notNR ?_ | with_reducible refine w_var (by with_unfolding_all rfl) ?_ | with_reducible refine w_c ?_ | with_reducible refine w_seq ?_ | with_reducible refine w_set ?_ | with_reducible refine w_ret ?_ | with_reducible refine w_if ?_ | with_reducible refine w_op ?_ | with_reducible refine w_ii ?_ | with_reducible refine w_test ?_ | with_reducible refine w_bl ?_ | with_reducible refine w_cb ?_ | with_reducible refine w_call ?_ | with_reducible refine w_nil ?_ | with_reducible refine w_cons ?_ | with_reducible refine w_eqI ?_ | with_reducible refine w_eqS ?_ | with_reducible refine w_neI ?_ | with_reducible refine w_neS ?_ | with_reducible refine w_andV ?_ | with_reducible refine w_orV ?_ | with_reducible refine w_notV ?_ | with_reducible refine w_and ?_ | with_reducible refine w_or ?_ | with_reducible refine w_not ?_ | with_reducible refine w_ifE ?_ | with_reducible refine w_chain ?_ | with_reducible refine w_B ?_ | with_reducible refine w_drop ?_ | with_reducible refine w_next ?_ | with_reducible refine w_un ?_ | with_reducible refine w_iu ?_ | with_reducible refine w_isN ?_ | with_reducible refine w_notN ?_ | with_reducible refine w_int1 ?_ | with_reducible refine w_abs ?_ | with_reducible refine w_min ?_ | with_reducible refine w_max ?_ | with_reducible refine w_tup ?_ | with_reducible refine w_lst ?_ | with_reducible refine w_sl ?_ | with_reducible refine w_noPart ?_ | with_reducible refine w_part ?_ | with_reducible refine w_pi ?_ | with_reducible refine w_bm ?_ | with_reducible refine w_tyS ?_ | with_reducible refine w_m1 ?_ | with_reducible refine w_str ?_ | with_reducible refine w_forL ?_ | with_reducible refine w_forT ?_ | with_reducible refine w_forR1 ?_ | with_reducible refine w_forS ?_ | with_reducible refine w_lcL ?_ | with_reducible refine w_lcT ?_ | with_reducible refine w_lcR1 ?_ | with_reducible refine w_lcR2 ?_ | with_reducible refine w_yes ?_ | with_reducible refine w_asgSub ?_ | with_reducible refine w_callS ?_ | with_reducible refine w_forQ ?_ | with_reducible refine w_forM ?_ | with_reducible refine w_forZ ?_ | with_reducible refine w_forE ?_ | with_reducible refine w_par ?_ | with_reducible refine w_two ?_ | with_reducible refine w_dget2 ?_))
theorem row_data_sm {r : RD} (h : rowW r) : ∃ es, r.data = .tuple es ∧ 1 ≤ es.length ∧ rowSm 102 r.data := by
  cases r with
  | tell n ps =>
    refine ⟨_, rfl, by simp, by simp, fun e he => ?_⟩
    simp only [List.mem_cons, List.not_mem_nil, or_false] at he
    rcases he with rfl | rfl | rfl
    · trivial
    · trivial
    · show (ps.map PyData.int).length ≤ 100
      rw [List.length_map]
      exact h.2.1
  | op k ns =>
    refine ⟨_, rfl, by simp, ?_, fun e he => ?_⟩
    · show (ns.map PyData.int).length + 1 ≤ 102
      rw [List.length_map]
      have := h.2.2.1
      omega
    · rcases List.mem_cons.mp he with rfl | he
      · trivial
      · obtain ⟨i, _, rfl⟩ := List.mem_map.mp he
        trivial
theorem row_sm_up {m n : Nat} {d : PyData} (h : rowSm m d) (hm : m ≤ n) : rowSm n d := by
  cases d with
  | tuple es => exact ⟨Nat.le_trans h.1 hm, h.2⟩
  | _ => trivial
section
variable {P : Program} {w : World} {K : PySem.W.Frag} {mg : Str → Option Value} {base : Heap} {a : Ad}
def spSpoilt : Sp := fun vs H Q _ => ∃ (z : StA) (p : Addr) (xs : List V) (rs : List RD), vs = [.ref z.st, .ref p, .int 8] ∧ StOk H z ∧ H p = some (.tup xs) ∧ DatL noL H xs (rs.map RD.data) ∧ rs ≠ [] ∧ rs.length ≤ 12 ∧ (∀ r ∈ rs, rowW r) ∧
  ∀ H' q ds, Ch z.st H H' → StOk H' z → Dat (fun b => b ≠ z.st) H' (.ref q) (.tuple ds) → progSm (.tuple ds) → Q (.ref q) H'
theorem i_spSpoilt {z : StA} {p : Addr} {xs : List V} {rs : List RD} {H : Hp} {Q : VK} {E : XK} (h1 : StOk H z) (h2 : H p = some (.tup xs)) (h3 : DatL noL H xs (rs.map RD.data)) (h4 : rs ≠ []) (h5 : rs.length ≤ 12) (h6 : ∀ r ∈ rs, rowW r)
    (q : ∀ H' q ds, Ch z.st H H' → StOk H' z → Dat (fun b => b ≠ z.st) H' (.ref q) (.tuple ds) → progSm (.tuple ds) → Q (.ref q) H') : spSpoilt [.ref z.st, .ref p, .int 8] H Q E := ⟨z, p, xs, rs, rfl, h1, h2, h3, h4, h5, h6, q⟩
theorem ixN_nat {n k : Nat} (h : k < n) : ixN n (k : Int) = some k := by
  unfold ixN
  rw [if_pos (Int.natCast_nonneg k), if_pos (by omega)]
  rfl
theorem ok__law_spoilt (T : Txt K mg w a) : Ok P w K mg base 5 a.f__law_spoilt ["_law_state", "_law_program_here", "_law_n"] spSpoilt := by
  obtain ⟨fd, F, b⟩ := T.F__law_spoilt
  obtain ⟨fd1, G__law_draw, b__law_draw⟩ := ok__law_draw (P := P) (base := base) T
  obtain ⟨fd2, G__law_bad_row, b__law_bad_row⟩ := ok__law_bad_row (P := P) (base := base) T
  refine ⟨fd, F.ok sc__law_spoilt (fun vs H Q E h => ?_) (fun cdv A outer s H vs Q E hr h => ?_), b⟩
  · obtain ⟨z, p, xs, rs, rfl, _⟩ := h
    rfl
  · obtain ⟨z, p, xs, rs, rfl, hst, hp, hds, hne, hl, hw, q⟩ := h
    refine ⟨_, (pss_cons (ps_set (i := 3) sc__law_spoilt.nd rfl (Or.inl rfl) (pe_callTy c_listOf (by rfl) T.z_list bt_list (pa_cons (pv 1) pa_nil)))
      (pss_cons (ps_for PassesOwn.never rfl (pi_range1 (by rfl) T.z_range (pa_cons (pe_op op_add pe_int (pe_call G__law_draw (hr.mono (by decide)) (by rfl) T.a__law_draw T.k__law_draw b__law_draw .nil pass0 (pa_cons (pv 0) (pa_cons pe_int pa_nil)))) pa_nil)) (pg_name (i := 4) sc__law_spoilt.nd rfl (Or.inl rfl)) (pss_cons (ps_set (i := 5) sc__law_spoilt.nd rfl (Or.inl rfl) (pe_call G__law_draw (hr.mono (by decide)) (by rfl) T.a__law_draw T.k__law_draw b__law_draw .nil pass0 (pa_cons (pv 0) (pa_cons (pe_callB c_len (by rfl) T.z_len bt_len (pa_cons (pv 3) pa_nil)) pa_nil))))
      (pss_one (ps_if (PW.pt (pw_and (pt_val (pe_callB call_isi (by rfl) T.z_isinstance bt_isinstance (pa_cons (pe_ix ix_list (pv 3) (pv 5) (fun _ _ => rfl)) (pa_cons (pe_bltn (v := .ty "tuple") rfl T.z_tuple bt_tuple rfl) pa_nil)))) (pw_and1 (pt_cmpR op_gt (pe_callB c_len (by rfl) T.z_len bt_len (pa_cons (pe_ix ix_list (pv 3) (pv 5) (fun _ _ => rfl)) pa_nil)) pe_int (nomark _))))) (pss_one (ps_asg (pe_call G__law_bad_row (hr.mono (by decide)) (by rfl) T.a__law_bad_row T.k__law_bad_row b__law_bad_row .nil pass0 (pa_cons (pv 0) (pa_cons (pv 3) (pa_cons (pv 5) (pa_cons (pv 2) pa_nil))))) (pg_sub (pv 3) (pv 5) set_list))) pss_nil))))
      (pss_one (ps_ret (pe_callTy c_tupOf (by rfl) T.z_tuple bt_tuple (pa_cons (pv 3) pa_nil)))))), ?_⟩
    walk_at "gg"
    refine w_listL (.inr (SqT.of hp)) (fun m H1 nm s1 em => ?_)
    have hms : m ≠ z.st := Ne.symm (hst.ne nm).1
    walk_at "gg"
    refine i_spDraw (by decide) (hst.same s1) (fun H2 r2 c2 o2 p0 p1 => ?_)
    have c12 := (Ch.of (st := z.st) s1).trans c2
    have d2 : DatL (fun b => b ≠ z.st ∧ b ≠ m) H2 xs (rs.map RD.data) := datL_any ((hds.same s1).tk ((hst.same s1).tk c2))
    walk_at "gg"
    refine w_loopR1 (by omega) (by omega) (fun j σ' H' => ∃ (xs : List V) (ds : List PyData) (y4 y5 : Option V), σ' = [some (.ref z.st), some (.ref p), some (.int 8), some (.ref m), y4, y5] ∧ Ch z.st H H' ∧ StOk H' z ∧ H' m = some (.lst xs) ∧ DatL (fun b => b ≠ z.st ∧ b ≠ m) H' xs ds ∧ ds.length = rs.length ∧ (∀ e ∈ ds, rowSm (102 + j) e) ∧ j ≤ 2)
      ⟨xs, rs.map RD.data, _, _, rfl, c12, o2, c2 _ _ hms em, d2, List.length_map _, fun e he => by
        obtain ⟨r, hr, rfl⟩ := List.mem_map.mp he
        exact (row_data_sm (hw r hr)).choose_spec.2.2, by decide⟩ (fun j σ' H' hj h => ?_) (fun σ' H' h => ?_)
    · obtain ⟨xs, ds, y4, y5, rfl, c, o, e, d, l, sm, _⟩ := h
      have hj2 : j < 2 := by omega
      have hx : xs.length = rs.length := by rw [d.length, l]
      have hr1 : 1 ≤ rs.length := by
        cases rs with
        | nil => exact absurd rfl hne
        | cons _ _ => simp
      walk_at "gg"
      refine w_lenL e ?_
      walk_at "gg"
      refine i_spDraw (by omega) o (fun H3 r3 c3 o3 q0 q1 => ?_)
      obtain ⟨st0, est0⟩ := o.lst
      have e3 := c3 _ _ hms e
      have d3 := d.ch c3 est0 (fun b hb => hb.1)
      have c13 := c.trans c3
      obtain ⟨k, rfl⟩ := Int.eq_ofNat_of_zero_le q0
      have hk : k < xs.length := by omega
      obtain ⟨x, hxk⟩ : ∃ x, xs[k]? = some x := ⟨_, List.getElem?_eq_getElem hk⟩
      obtain ⟨dk, hdk, dx⟩ := d3.get hxk
      walk_at "gg"
      refine w_ixL e3 (atI_nat hxk) ?_
      walk_at "gg"
      refine w_isi dx (kit_tuple dk dx.nd) ?_
      walk_at "gg"
      have skip : ∃ (xs : List V) (ds : List PyData) (y4 y5 : Option V), [some (.ref z.st), some (.ref p), some (.int 8), some (.ref m), some (.int j), some (.int k)] = [some (.ref z.st), some (.ref p), some (.int 8), some (.ref m), y4, y5] ∧ Ch z.st H H3 ∧ StOk H3 z ∧ H3 m = some (.lst xs) ∧ DatL (fun b => b ≠ z.st ∧ b ≠ m) H3 xs ds ∧ ds.length = rs.length ∧ (∀ e ∈ ds, rowSm (102 + (j + 1)) e) ∧ j + 1 ≤ 2 :=
        ⟨xs, ds, _, _, rfl, c13, o3, e3, d3, l, fun e he => row_sm_up (sm e he) (by omega), hj2⟩
      rcases tup_or dx with ⟨et, r, ys, es, rfl, rfl, hr4, hes⟩ | et
      case inr =>
        rw [et]
        walk_at "gg"
        exact skip
      rw [et]
      walk_at "gg"
      refine w_ixL e3 (atI_nat hxk) ?_
      walk_at "gg"
      refine w_lenT hr4 ?_
      walk_at "gg"
      refine w_dec (fun c5 => ?_) (fun c5 => ?_)
      · walk_at "gg"
        have smk := sm _ (List.mem_of_getElem? hdk)
        refine i_spBad (n := 102 + j) o3 hms e3 hxk (by omega) hr4 hes (fun b hb => hb.1) (by rw [← hes.length]; omega) smk.1 (by omega) (by omega) smk.2 (fun H4 v d4 c4 o4 dv sv => ?_)
        obtain ⟨st3, est3⟩ := o3.lst
        have e4 := c4 _ _ hms e3
        have d4' := d3.ch c4 est3 (fun b hb => hb.1)
        have dv4 : Dat (fun b => b ≠ z.st ∧ b ≠ m) H4 v d4 := dv.weak fun b hb => hb.elim id fun nb => ⟨fun z1 => (by rw [z1, est3] at nb; cases nb), fun z1 => (by rw [z1, e3] at nb; cases nb)⟩
        walk_at "gg"
        refine v_set e4 (ixN_nat hk) (fun H5 c5 e5 => ?_)
        have d5 := (d4'.set dv4 k).ch c5 e4 (fun b hb => hb.2)
        refine ⟨_, ds.set k d4, _, _, rfl, ch_app (c13.trans c4) nm c5, o4.ch c5 (hst.ne nm).1 (hst.ne nm).2, e5, d5, by rw [List.length_set, l], fun e he => ?_, hj2⟩
        rcases List.mem_or_eq_of_mem_set he with he | he
        · exact row_sm_up (sm e he) (by omega)
        · rw [he]; exact row_sm_up sv (by omega)
      · walk_at "gg"
        exact skip
    · obtain ⟨xs, ds, y4, y5, rfl, c, o, e, d, l, sm, hj2⟩ := h
      walk_at "gg"
      refine w_tupL e (fun t H3 nt s3 et => ?_)
      refine q H3 t ds (c.trans (Ch.of s3)) (o.same s3) (.tup et ((d.same s3).weak fun b hb => hb.1)) (fun ds' eds => ?_)
      cases eds
      exact ⟨by omega, fun e he => row_sm_up (sm e he) (by omega)⟩
end
end K17
namespace K17
open PySem L2
/-! try .. except C as e; _law_read_is, _law_write_is. -/
local macro_rules | `(tactic| walk_at "gg") => `(tactic| repeat (first | with_reducible refine w_nt ?_ | with_reducible refine w_nf ?_ | with_reducible refine w_raise ?_ | with_reducible refine w_orS (by with_unfolding_all rfl) ?_ | with_reducible refine iteT ?_ | with_reducible refine iteF ?_ | with_reducible refine w_isNN ?_ | with_reducible refine w_isNI ?_ | with_reducible refine w_isNR ?_ | with_reducible refine w_notNN ?_ | with_reducible refine w_notNI ?_ | with_reducible refine w_notNR ?_ | with_reducible refine w_var (by with_unfolding_all rfl) ?_ | with_reducible refine w_c ?_ | with_reducible refine w_seq ?_ | with_reducible refine w_set ?_ | with_reducible refine w_ret ?_ | with_reducible refine w_if ?_ | with_reducible refine w_op ?_ | with_reducible refine w_ii ?_ | with_reducible refine w_test ?_ | with_reducible refine w_bl ?_ | with_reducible refine w_cb ?_ | with_reducible refine w_call ?_ | with_reducible refine w_nil ?_ | with_reducible refine w_cons ?_ | with_reducible refine w_eqI ?_ | with_reducible refine w_eqS ?_ | with_reducible refine w_neI ?_ | with_reducible refine w_neS ?_ | with_reducible refine w_andV ?_ | with_reducible refine w_orV ?_ | with_reducible refine w_notV ?_ | with_reducible refine w_and ?_ | with_reducible refine w_or ?_ | with_reducible refine w_not ?_ | with_reducible refine w_ifE ?_ | with_reducible refine w_chain ?_ | with_reducible refine w_B ?_ | with_reducible refine w_drop ?_ | with_reducible refine w_next ?_ | with_reducible refine w_un ?_ | with_reducible refine w_iu ?_ | with_reducible refine w_isN ?_ | with_reducible refine w_notN ?_ | with_reducible refine w_int1 ?_ | with_reducible refine w_abs ?_ | with_reducible refine w_min ?_ | with_reducible refine w_max ?_ | with_reducible refine w_tup ?_ | with_reducible refine w_lst ?_ | with_reducible refine w_sl ?_ | with_reducible refine w_noPart ?_ | with_reducible refine w_part ?_ | with_reducible refine w_pi ?_ | with_reducible refine w_bm ?_ | with_reducible refine w_tyS ?_ | with_reducible refine w_m1 ?_ | with_reducible refine w_str ?_ | with_reducible refine w_forL ?_ | with_reducible refine w_forT ?_ | with_reducible refine w_forR1 ?_ | with_reducible refine w_forS ?_ | with_reducible refine w_lcL ?_ | with_reducible refine w_lcT ?_ | with_reducible refine w_lcR1 ?_ | with_reducible refine w_lcR2 ?_ | with_reducible refine w_yes ?_ | with_reducible refine w_asgSub ?_ | with_reducible refine w_callS ?_ | with_reducible refine w_forQ ?_ | with_reducible refine w_forM ?_ | with_reducible refine w_forZ ?_ | with_reducible refine w_forE ?_ | with_reducible refine w_par ?_ | with_reducible refine w_two ?_ | with_reducible refine w_dget2 ?_))
open PySem.Spec PyProof.Rows L2H
theorem takesN0 {X : Cx} : L2N.Takes X (fun _ _ _ _ => False) := fun _ _ x => by
  obtain ⟨_, _, _, _, _, _, _, _, _, _, _, _, _, _, _, _, w⟩ := x
  exact w.elim
/-- the suite's reading may speak of the exception's object -/
def tTryE (K : PySem.W.Frag) (c : Value) (i : Nat) (tb : WX → TS) (tS : Addr → Obj → Value → Option Addr → TS) : TS := fun D σ H =>
  tb (wAs K c i (fun x cls d D σ H => ∀ oe, L2N.Zn cls d oe → (∃ vs, oe.data = .fields vs) → tS x oe cls d D σ H) (fun _ _ _ _ => False) D) D σ H
theorem ps_tryE {X : Cx} {x n : Str} {c : Value} {i : Nat} {body suite : List Stmt} {b₀ : Stmt} {np pos pos' : Pos} {tb : WX → TS} {tS : Addr → Obj → Value → Option Addr → TS} (hs : X.stack = X.env :: X.outer) (hf : X.env.frame = some X.env.locals) (hN : X.N.Nodup) (hi : X.N[i]? = some n) (hln : X.env.kindOf n = some .local) (hc : Names X x c)
    (hb : ∀ (W : WX) (pn : List (Addr × Obj)) (xe : Value → Shared → Prop), L2N.Takes (X.tr pn xe) W → PassesOwn (model X.prog X.w) X.A X.env xe → PSs (X.tr pn xe) body (tb W))
    (hsu : ∀ (a : Addr) (oe : Obj) (cls : Value) (d : Option Addr) (pn : List (Addr × Obj)), L2N.Zn cls d oe → (∃ vs, oe.data = .fields vs) → PSs (X.suite a ((a, oe) :: pn)) (b₀ :: suite) (tS a oe cls d)) :
    PS X (.Try body [.ExceptHandler (some (.Name x np)) (some n) (b₀ :: suite) pos'] [] [] pos) (tTryE X.K c i tb tS) :=
  L2N.ps_try_as hs hf hN hi hln hc takesN0 hb fun a oe cls d pn hz hf2 => ⟨fun pins s σ H D I h => (hsu a oe cls d pn hz hf2).run pins s σ H D I (h oe hz hf2)⟩
theorem w_try {K : PySem.W.Frag} {c : Value} {i : Nat} {tb : WX → TS} {tS : Addr → Obj → Value → Option Addr → TS} {D : Ends} {σ : St} {H : Hp} (h : tb (wAs K c i (fun x cls d D σ H => ∀ oe, L2N.Zn cls d oe → (∃ vs, oe.data = .fields vs) → tS x oe cls d D σ H) (fun _ _ _ _ => False) D) D σ H) : tTryE K c i tb tS D σ H := h
theorem w_xf {x C dd : Addr} {f : Str} {k : Nat} {σ : St} {H : Hp} {Q : VK} {v : V} (e : σ[k]? = some (some (.ref x))) (hd : H dd = some (.xd [(f, v)])) (q : Q v H) : tXf x (.ref C) (some dd) C f (tVar k) σ H Q := ⟨_, e, rfl, rfl, dd, _, v, rfl, hd, look_one, q⟩
theorem hot_suite {X : Cx} {x : Addr} {oe : Obj} {cls : Value} {d : Option Addr} {pn : List (Addr × Obj)} (hz : L2N.Zn cls d oe) (hf : ∃ vs, oe.data = .fields vs) : HotP (X.suite x ((x, oe) :: pn)) (x, oe) := by
  obtain ⟨vs, e⟩ := hf
  exact ⟨⟨rfl, vs, e, hz.2.2 vs e⟩, List.mem_cons_self⟩
theorem w_asgU {K : PySem.W.Frag} {te : TE} {n : Nat} {t : TGs} {D : Ends} {σ : St} {H : Hp} (h : te σ H fun v H1 => gUnl K n t v σ H1 fun σ' H' => D.nx σ' H') : tAsg te (gUnl K n t) D σ H := h
section
variable {P : Program} {w : World} {K : PySem.W.Frag} {mg : Str → Option Value} {base : Heap} {a : Ad}
theorem ok__law_integerE (T : Txt K mg w a) : ∃ fd, FnE P w K mg base 1 a.f__law_integer fd ["_law_value"] (fun _ => spInt) ∧ L2.Binds K fd ["_law_value"] [] := by
  obtain ⟨fd, F, b⟩ := T.F__law_integer
  refine ⟨fd, okE F sc__law_integer (fun p vs H Q E h => ?_) (fun p cdv A outer s H vs Q hot hr h => ?_), b⟩
  · obtain ⟨v, d, ok, rfl, _⟩ := h
    rfl
  · obtain ⟨v, d, ok, rfl, hd, q⟩ := h
    refine ⟨_, (pss_one (ps_ret (pe_and (pe_callB call_isi (by rfl) T.z_isinstance bt_isinstance (pa_cons (pv 0) (pa_cons (pe_bltn (v := .ty "int") rfl T.z_int bt_int rfl) pa_nil))) (pe_one (pe_not (pe_callB call_isi (by rfl) T.z_isinstance bt_isinstance (pa_cons (pv 0) (pa_cons (pe_bltn (v := .ty "bool") rfl T.z_bool bt_bool rfl) pa_nil)))))))), ?_⟩
    walk_at "gg"
    refine w_isi hd (kit_int d hd.nd) ?_
    walk_at "gg"
    rw [← isi_eq] at q
    refine w_ite (fun e => ?_) (fun e => ?_)
    · walk_at "gg"
      refine w_isi hd (kit_bool d hd.nd) ?_
      walk_at "gg"
      rw [e, Bool.true_and] at q
      exact q
    · rw [e, Bool.false_and] at q
      exact q
def spReadIs : Sp := fun vs H Q _ => ∃ (t : Str), vs = [.str t] ∧ t.length ≤ 98000 ∧ ∀ H', Same H H' → Q (.bl true) H'
theorem i_spReadIs {t : Str} {H : Hp} {Q : VK} {E : XK} (h : t.length ≤ 98000) (q : ∀ H', Same H H' → Q (.bl true) H') : spReadIs [.str t] H Q E := ⟨t, rfl, h, q⟩
theorem line_words {l : Str} {r : RD} (h : rowOfLine l = some r) : (wordsOf r).length ≤ l.length + 2 := by
  obtain ⟨_, sp2, _⟩ := split_sp l
  unfold rowOfLine at h
  cases ew : Txt.split l " " with
  | nil =>
    rw [ew] at h
    cases h
  | cons k rest =>
    rw [ew] at h sp2
    rw [rowOf_cons] at h
    have hl : rest.length + 1 ≤ l.length + 1 := sp2
    cases hk : kindsOf k rest with
    | none => rw [hk] at h; cases h
    | some ks =>
      rw [hk] at h
      have h : (numbersOf rest ks).map (mkRow k) = some r := h
      cases hn : numbersOf rest ks with
      | none => rw [hn] at h; cases h
      | some ns =>
        rw [hn] at h
        have h : some (mkRow k ns) = some r := h
        injection h with h
        have hnl := allSome_len hn
        rw [List.length_zipWith] at hnl
        rw [← h]
        unfold mkRow
        by_cases ht : k = "tell"
        · rw [if_pos ht]
          show (ns.tail.map strI).length + 1 + 1 ≤ l.length + 2
          rw [List.length_map, List.length_tail]
          omega
        · rw [if_neg ht]
          show (ns.map strI).length + 1 ≤ l.length + 2
          rw [List.length_map]
          omega
theorem scan_all : ∀ {ls : List Str} {rs : List RD} {b : Nat}, scan ls = .inr rs → (∀ l ∈ ls, l.length ≤ b) → rs.length = ls.length ∧ ∀ r ∈ rs, (wordsOf r).length ≤ b + 2
  | [], rs, b, h, _ => by
    have h : Sum.inr ([] : List RD) = (Sum.inr rs : Nat ⊕ List RD) := h
    cases h
    exact ⟨rfl, fun r hr => by cases hr⟩
  | l :: ls, rs, b, h, hb => by
    cases e : rowOfLine l with
    | none =>
      rw [scan_none e] at h
      cases h
    | some r0 =>
      rw [scan_some e] at h
      cases e2 : scan ls with
      | inl i => rw [e2] at h; cases h
      | inr q =>
        rw [e2] at h
        cases h
        obtain ⟨h1, h2⟩ := scan_all (b := b) e2 fun l hl => hb l (List.mem_cons_of_mem _ hl)
        refine ⟨by rw [List.length_cons, List.length_cons, h1], fun r hr => ?_⟩
        rcases List.mem_cons.mp hr with z | z
        · rw [z]
          have := line_words e
          have := hb l List.mem_cons_self
          omega
        · exact h2 r z
theorem read_all {t : Str} {rs : List RD} (h : readOf t = .inr rs) : (∀ r ∈ rs, rowK r) ∧ rs.length ≤ t.length + 1 ∧ ∀ r ∈ rs, (wordsOf r).length ≤ t.length + 2 := by
  unfold readOf at h
  obtain ⟨sp1, sp2, _⟩ := split_nl t
  obtain ⟨h1, h2⟩ := scan_all h sp1
  exact ⟨scan_k h, by omega, h2⟩
theorem ok__law_read_is (T : Txt K mg w a) : Ok P w K mg base 5 a.f__law_read_is ["_law_text"] spReadIs := by
  obtain ⟨fd, F, b⟩ := T.F__law_read_is
  obtain ⟨fd1, G__law_read, b__law_read⟩ := ok__law_read (P := P) (base := base) T
  obtain ⟨fd2, G_read_program, b_read_program⟩ := ok_read_program (P := P) (base := base) T
  obtain ⟨fd3, G__law_only, b__law_only⟩ := ok__law_only (P := P) (base := base) T
  obtain ⟨fd4, G__law_integer, b__law_integer⟩ := ok__law_integerE (P := P) (base := base) T
  obtain ⟨fd5, G__law_same, b__law_same⟩ := ok__law_same (P := P) (base := base) T
  refine ⟨fd, F.ok sc__law_read_is (fun vs H Q E h => ?_) (fun cdv A outer s H vs Q E hr h => ?_), b⟩
  · obtain ⟨t, rfl, _⟩ := h
    rfl
  · obtain ⟨t, rfl, ht, q⟩ := h
    refine ⟨_, (pss_cons (ps_asg (pe_call G__law_read (hr.mono (by decide)) (by rfl) T.a__law_read T.k__law_read b__law_read .nil pass0 (pa_cons (pv 0) pa_nil)) (pg_unl rfl (pgs_cons (pg_name (i := 1) sc__law_read_is.nd rfl (Or.inl rfl)) (pgs_cons (pg_name (i := 2) sc__law_read_is.nd rfl (Or.inl rfl)) pgs_nil))))
      (pss_cons (ps_tryE (i := 4) (tb := fun W => tAsg (tCallS (spReadP a) (WE W) (tCons (tVar 0) tNil)) (gName 3)) rfl rfl sc__law_read_is.nd rfl rfl ⟨rfl, by decide, Or.inl T.A_BadText⟩
        (fun W pn xe tk _ => pss_one (ps_set (i := 3) sc__law_read_is.nd rfl (Or.inl rfl) (by exact (pe_callS G_read_program (hr.mono (by decide)) rfl T.a_read_program T.k_read_program b_read_program (fun σ => L2N.passAt tk σ) (by exact (pa_cons (pv 0) pa_nil))))))
        (fun x oe cls d pn hz hf => pss_one (ps_ret (pe_and (pe_cmpR o_isN (pv 2) pe_non (nomark _)) (pe_and (pe_callE G__law_only (roomH_mark (hr.mono (by decide)) _) (p := (x, oe)) (hot_suite hz hf) (by rfl) T.a__law_only T.k__law_only b__law_only (pa_cons (pv 4) (pa_cons pe_int pa_nil)))
          (pe_and (pe_callE G__law_integer (roomH_mark (hr.mono (by decide)) _) (p := (x, oe)) (hot_suite hz hf) (by rfl) T.a__law_integer T.k__law_integer b__law_integer (pa_cons (pe_xf T.X_BadText.xf T.X_BadText.nf hz.zc hf (pv 4)) pa_nil)) (pe_one (pe_cmpR op_eq (pe_xf T.X_BadText.xf T.X_BadText.nf hz.zc hf (pv 4)) (pv 1) (nomark _)))))))))
      (pss_one (ps_ret (pe_and (pe_cmpR o_notN (pv 2) pe_non (nomark _)) (pe_one (pe_call G__law_same (hr.mono (by decide)) (by rfl) T.a__law_same T.k__law_same b__law_same .nil pass0 (pa_cons (pv 3) (pa_cons (pv 2) pa_nil))))))))), ?_⟩
    walk_at "gg"
    refine w_asgU ?_
    walk_at "gg"
    refine i_spRead ht (fun H1 p n v s1 ep hv => ?_)
    refine w_unl2 ep ?_
    walk_at "gg"
    refine w_try ?_
    walk_at "gg"
    refine i_spReadP ht (fun rs hrs H2 v2 s2 r2 => ?_) (fun i hi H2 d s2 e2 => ⟨true, T.X_BadText.sC, fun _ x nx oe hz hf => ?_, fun z => Bool.noConfusion z⟩)
    · rw [hrs] at hv
      obtain ⟨h1, h2, h3⟩ := read_all hrs
      have hv2 : rowsAt H2 v rs := by
        obtain ⟨_, c, xs, e1, e3, e4⟩ := hv
        exact ⟨c, xs, e1, s2 _ _ e3, e4.same s2⟩
      obtain ⟨c, xs, rfl, e3, e4⟩ := hv2
      walk_at "gg"
      refine i_spSame r2 ⟨c, xs, rfl, e3, e4⟩ h1 (by omega) (fun r hr => by have := h3 r hr; omega) (fun H3 s3 => ?_)
      exact q H3 (s1.trans (s2.trans s3))
    · rw [hi] at hv
      obtain ⟨rfl, rfl⟩ := hv
      walk_at "gg"
      refine i_spOnly ⟨ek_text T, hz.zc, hf⟩ e2 (fun H3 s3 => ?_)
      have e3 := s3 _ _ e2
      walk_at "gg"
      refine w_xf rfl e3 ?_
      walk_at "gg"
      refine i_spInt (d := .int i) (ok := noL) (.int _) ?_
      show ∃ c, V.bl true = .bl c ∧ _
      walk_at "gg"
      refine w_xf rfl e3 ?_
      walk_at "gg"
      rw [decide_eq_true rfl]
      exact q H3 (s1.trans (s2.trans s3))
end
end K17
namespace K17
open PySem L2
/-! _law_write_is. -/
local macro_rules | `(tactic| walk_at "gg") => `(tactic| repeat (first | with_reducible refine w_nt ?_ | with_reducible refine w_nf ?_ | with_reducible refine w_raise ?_ | with_reducible refine w_orS (by with_unfolding_all rfl) ?_ | with_reducible refine iteT ?_ | with_reducible refine iteF ?_ | with_reducible refine w_isNN ?_ | with_reducible refine w_isNI ?_ | with_reducible refine w_isNR ?_ | with_reducible refine w_notNN ?_ | with_reducible refine w_notNI ?_ | with_reducible refine w_notNR ?_ | with_reducible refine w_var (by with_unfolding_all rfl) ?_ | with_reducible refine w_c ?_ | with_reducible refine w_seq ?_ | with_reducible refine w_set ?_ | with_reducible refine w_ret ?_ | with_reducible refine w_if ?_ | with_reducible refine w_op ?_ | with_reducible refine w_ii ?_ | with_reducible refine w_test ?_ | with_reducible refine w_bl ?_ | with_reducible refine w_cb ?_ | with_reducible refine w_call ?_ | with_reducible refine w_nil ?_ | with_reducible refine w_cons ?_ | with_reducible refine w_eqI ?_ | with_reducible refine w_eqS ?_ | with_reducible refine w_neI ?_ | with_reducible refine w_neS ?_ | with_reducible refine w_andV ?_ | with_reducible refine w_orV ?_ | with_reducible refine w_notV ?_ | with_reducible refine w_and ?_ | with_reducible refine w_or ?_ | with_reducible refine w_not ?_ | with_reducible refine w_ifE ?_ | with_reducible refine w_chain ?_ | with_reducible refine w_B ?_ | with_reducible refine w_drop ?_ | with_reducible refine w_next ?_ | with_reducible refine w_un ?_ | with_reducible refine w_iu ?_ | with_reducible refine w_isN ?_ | with_reducible refine w_notN ?_ | with_reducible refine w_int1 ?_ | with_reducible refine w_abs ?_ | with_reducible refine w_min ?_ | with_reducible refine w_max ?_ | with_reducible refine w_tup ?_ | with_reducible refine w_lst ?_ | with_reducible refine w_sl ?_ | with_reducible refine w_noPart ?_ | with_reducible refine w_part ?_ | with_reducible refine w_pi ?_ | with_reducible refine w_bm ?_ | with_reducible refine w_tyS ?_ | with_reducible refine w_m1 ?_ | with_reducible refine w_str ?_ | with_reducible refine w_forL ?_ | with_reducible refine w_forT ?_ | with_reducible refine w_forR1 ?_ | with_reducible refine w_forS ?_ | with_reducible refine w_lcL ?_ | with_reducible refine w_lcT ?_ | with_reducible refine w_lcR1 ?_ | with_reducible refine w_lcR2 ?_ | with_reducible refine w_yes ?_ | with_reducible refine w_asgSub ?_ | with_reducible refine w_callS ?_ | with_reducible refine w_forQ ?_ | with_reducible refine w_forM ?_ | with_reducible refine w_forZ ?_ | with_reducible refine w_forE ?_ | with_reducible refine w_par ?_ | with_reducible refine w_two ?_ | with_reducible refine w_dget2 ?_))
open PySem.Spec PyProof.Rows L2H
section
variable {P : Program} {w : World} {K : PySem.W.Frag} {mg : Str → Option Value} {base : Heap} {a : Ad}
def spWriteIs : Sp := fun vs H Q _ => ∃ (v : V) (d : PyData) (ok : Addr → Prop), vs = [v] ∧ Dat ok H v d ∧ progSm d ∧ ∀ H', Same H H' → Q (.bl true) H'
theorem i_spWriteIs {v : V} {d : PyData} {ok : Addr → Prop} {H : Hp} {Q : VK} {E : XK} (h : Dat ok H v d) (h2 : progSm d) (q : ∀ H', Same H H' → Q (.bl true) H') : spWriteIs [v] H Q E := ⟨v, d, ok, rfl, h, h2, q⟩
theorem isi_str {z : Str} {H : Hp} {Q : VK} (q : Q (.bl true) H) : rIsi K [.str z, .ty "str"] H Q := w_isi (d := .str z) (ok := noL) (.str z) (kit_str (.str z) (fun _ z => by cases z)) q
theorem words_small {r : RD} (h : rowW r) : (wordsOf r).length ≤ 99000 := Nat.le_trans (words_len h).2 (by decide)
theorem ok__law_write_is (T : Txt K mg w a) : Ok P w K mg base 7 a.f__law_write_is ["_law_program_here"] spWriteIs := by
  obtain ⟨fd, F, b⟩ := T.F__law_write_is
  obtain ⟨fd1, G__law_fault, b__law_fault⟩ := ok__law_fault (P := P) (base := base) T
  obtain ⟨fd2, G_write_program, b_write_program⟩ := ok_write_program (P := P) (base := base) T
  obtain ⟨fd3, G__law_only, b__law_only⟩ := ok__law_only (P := P) (base := base) T
  obtain ⟨fd4, G__law_integer, b__law_integer⟩ := ok__law_integerE (P := P) (base := base) T
  obtain ⟨fd5, G__law_same, b__law_same⟩ := ok__law_same (P := P) (base := base) T
  obtain ⟨fd6, G__law_written, b__law_written⟩ := ok__law_written (P := P) (base := base) T
  obtain ⟨fd7, G_read_program, b_read_program⟩ := ok_read_program (P := P) (base := base) T
  refine ⟨fd, F.ok sc__law_write_is (fun vs H Q E h => ?_) (fun cdv A outer s H vs Q E hr h => ?_), b⟩
  · obtain ⟨v, d, ok, rfl, _⟩ := h
    rfl
  · obtain ⟨v, d, ok, rfl, dv, hsm, q⟩ := h
    refine ⟨_, (pss_cons (ps_set (i := 1) sc__law_write_is.nd rfl (Or.inl rfl) (pe_call G__law_fault (hr.mono (by decide)) (by rfl) T.a__law_fault T.k__law_fault b__law_fault .nil pass0 (pa_cons (pv 0) (pa_cons pe_int pa_nil))))
      (pss_cons (ps_tryE (i := 3) (tb := fun W => tAsg (tCallS (spWriteP a) (WE W) (tCons (tVar 0) tNil)) (gName 2)) rfl rfl sc__law_write_is.nd rfl rfl ⟨rfl, by decide, Or.inl T.A_BadProgram⟩
        (fun W pn xe tk _ => pss_one (ps_set (i := 2) sc__law_write_is.nd rfl (Or.inl rfl) (by exact (pe_callS G_write_program (hr.mono (by decide)) rfl T.a_write_program T.k_write_program b_write_program (fun σ => L2N.passAt tk σ) (by exact (pa_cons (pv 0) pa_nil))))))
        (fun x oe cls d pn hz hf => pss_one (ps_ret (pe_and (pe_cmpR o_notN (pv 1) pe_non (nomark _)) (pe_and (pe_callE G__law_only (roomH_mark (hr.mono (by decide)) _) (p := (x, oe)) (hot_suite hz hf) (by rfl) T.a__law_only T.k__law_only b__law_only (pa_cons (pv 3) (pa_cons pe_int pa_nil)))
          (pe_and (pe_callE G__law_integer (roomH_mark (hr.mono (by decide)) _) (p := (x, oe)) (hot_suite hz hf) (by rfl) T.a__law_integer T.k__law_integer b__law_integer (pa_cons (pe_xf T.X_BadProgram.xf T.X_BadProgram.nf hz.zc hf (pv 3)) pa_nil)) (pe_one (pe_cmpR op_eq (pe_xf T.X_BadProgram.xf T.X_BadProgram.nf hz.zc hf (pv 3)) (pv 1) (nomark _)))))))))
      (pss_cons (ps_if (PW.pt (pw_or (pt_cmpR o_notN (pv 1) pe_non (nomark _)) (pw_or (pt_not (pt_val (pe_callB call_isi (by rfl) T.z_isinstance bt_isinstance (pa_cons (pv 2) (pa_cons (pe_bltn (v := .ty "str") rfl T.z_str bt_str rfl) pa_nil))))) (pw_or1 (pt_cmpR op_ne (pv 2) (pe_call G__law_written (hr.mono (by decide)) (by rfl) T.a__law_written T.k__law_written b__law_written .nil pass0 (pa_cons (pv 0) pa_nil)) (nomark _)))))) (pss_one (ps_ret pe_bl)) pss_nil)
      (pss_one (ps_ret (pe_call G__law_same (hr.mono (by decide)) (by rfl) T.a__law_same T.k__law_same b__law_same .nil pass0 (pa_cons (pe_call G_read_program (hr.mono (by decide)) (by rfl) T.a_read_program T.k_read_program b_read_program .nil passN (pa_cons (pv 2) pa_nil)) (pa_cons (pv 0) pa_nil)))))))), ?_⟩
    walk_at "gg"
    refine i_spFault dv (fun ds e => ⟨Nat.le_trans (hsm ds e).1 (by decide), (hsm ds e).2⟩) (fun H1 s1 => ?_)
    walk_at "gg"
    refine w_try ?_
    walk_at "gg"
    refine i_spWriteP (dv.same s1) hsm (fun rs ed hne hgood hw hl hf H2 s2 => ?_) (fun i hi H2 d2 s2 e2 => ⟨true, T.X_BadProgram.sC, fun _ x nx oe hz hf => ?_, fun z => Bool.noConfusion z⟩)
    · have ef : optN (faultOf 8 d) = .non := by rw [hf]; rfl
      rw [ef]
      clear ef
      subst ed
      obtain ⟨p, xs, rfl, hp, hds⟩ : ∃ p xs, v = .ref p ∧ H p = some (.tup xs) ∧ DatL ok H xs (rs.map RD.data) := by
        cases dv with
        | tup h1 h2 => exact ⟨_, _, rfl, h1, h2⟩
      have hds0 := rows_noL hds
      have s12 := s1.trans s2
      have tl := text_len hl hw
      walk_at "gg"
      refine isi_str ?_
      walk_at "gg"
      refine i_spWritten (.inr (s12 _ _ hp)) (hds0.same s12) hl hw (fun H3 s3 => ?_)
      walk_at "gg"
      rw [decide_eq_true rfl]
      walk_at "gg"
      refine i_spReadP (by omega) (fun rs2 hrs H4 v4 s4 r4 => ?_) (fun i hi => by
        rw [readOf_back hne hgood] at hi
        cases hi)
      rw [readOf_back hne hgood] at hrs
      cases hrs
      have s14 := s12.trans (s3.trans s4)
      walk_at "gg"
      refine i_spSame r4 ⟨p, xs, rfl, s14 _ _ hp, hds0.same s14⟩ (fun r hr => good_k (hgood r hr)) (by omega) (fun r hr => words_small (hw r hr)) (fun H5 s5 => ?_)
      exact q H5 (s14.trans s5)
    · have ef : optN (faultOf 8 d) = .int i := by rw [hi]; rfl
      rw [ef]
      walk_at "gg"
      refine i_spOnly ⟨ek_prog T, hz.zc, hf⟩ e2 (fun H3 s3 => ?_)
      have e3 := s3 _ _ e2
      walk_at "gg"
      refine w_xf rfl e3 ?_
      walk_at "gg"
      refine i_spInt (d := .int i) (ok := noL) (.int _) ?_
      show ∃ c, V.bl true = .bl c ∧ _
      walk_at "gg"
      refine w_xf rfl e3 ?_
      walk_at "gg"
      rw [decide_eq_true rfl]
      exact q H3 (s1.trans (s2.trans s3))
end
end K17
namespace K17
open PySem L2
/-! _law_body, law. -/
local macro_rules | `(tactic| walk_at "gg") => `(tactic| repeat (first | with_reducible refine w_nt ?_ | with_reducible refine w_nf ?_ | with_reducible refine w_raise ?_ | with_reducible refine w_orS (by with_unfolding_all rfl) ?_ | with_reducible refine iteT ?_ | with_reducible refine iteF ?_ | with_reducible refine w_isNN ?_ | with_reducible refine w_isNI ?_ | with_reducible refine w_isNR ?_ | with_reducible refine w_notNN ?_ | with_reducible refine w_notNI ?_ | with_reducible refine w_notNR ?_ | with_reducible refine w_var (by with_unfolding_all rfl) ?_ | with_reducible refine w_c ?_ | with_reducible refine w_seq ?_ | with_reducible refine w_set ?_ | with_reducible refine w_ret ?_ | with_reducible refine w_if ?_ | with_reducible refine w_op ?_ | with_reducible refine w_ii ?_ | with_reducible refine w_test ?_ | with_reducible refine w_bl ?_ | with_reducible refine w_cb ?_ | with_reducible refine w_call ?_ | with_reducible refine w_nil ?_ | with_reducible refine w_cons ?_ | with_reducible refine w_eqI ?_ | with_reducible refine w_eqS ?_ | with_reducible refine w_neI ?_ | with_reducible refine w_neS ?_ | with_reducible refine w_andV ?_ | with_reducible refine w_orV ?_ | with_reducible refine w_notV ?_ | with_reducible refine w_and ?_ | with_reducible refine w_or ?_ | with_reducible refine w_not ?_ | with_reducible refine w_ifE ?_ | with_reducible refine w_chain ?_ | with_reducible refine w_B ?_ | with_reducible refine w_drop ?_ | with_reducible refine w_next ?_ | with_reducible refine w_un ?_ | with_reducible refine w_iu ?_ | with_reducible refine w_isN ?_ | with_reducible refine w_notN ?_ | with_reducible refine w_int1 ?_ | with_reducible refine w_abs ?_ | with_reducible refine w_min ?_ | with_reducible refine w_max ?_ | with_reducible refine w_tup ?_ | with_reducible refine w_lst ?_ | with_reducible refine w_sl ?_ | with_reducible refine w_noPart ?_ | with_reducible refine w_part ?_ | with_reducible refine w_pi ?_ | with_reducible refine w_bm ?_ | with_reducible refine w_tyS ?_ | with_reducible refine w_m1 ?_ | with_reducible refine w_str ?_ | with_reducible refine w_forL ?_ | with_reducible refine w_forT ?_ | with_reducible refine w_forR1 ?_ | with_reducible refine w_forS ?_ | with_reducible refine w_lcL ?_ | with_reducible refine w_lcT ?_ | with_reducible refine w_lcR1 ?_ | with_reducible refine w_lcR2 ?_ | with_reducible refine w_yes ?_ | with_reducible refine w_asgSub ?_ | with_reducible refine w_callS ?_ | with_reducible refine w_forQ ?_ | with_reducible refine w_forM ?_ | with_reducible refine w_forZ ?_ | with_reducible refine w_forE ?_ | with_reducible refine w_par ?_ | with_reducible refine w_two ?_ | with_reducible refine w_dget2 ?_))
open TL
section
variable {P : Program} {w : World} {K : PySem.W.Frag} {mg : Str → Option Value} {base : Heap} {a : Ad}
theorem put_len : (tl ("put 01\n-2" : Str)).length = 9 := by decide +kernel
theorem put4_len : ("put " : Str).length = 4 := by decide +kernel
theorem num7_len : ("number " : Str).length = 7 := by decide +kernel
theorem emp_len : ("" : Str).length = 0 := by decide +kernel
def spLaw (K : PySem.W.Frag) : Sp := fun vs H Q _ => ∃ (p : Addr) (ns : List Int), vs = [.ref p] ∧ SqL K H p (ns.map V.int) ∧ ∀ H', Q (.bl true) H'
theorem i_spLaw {p : Addr} {ns : List Int} {H : Hp} {Q : VK} {E : XK} (h : SqL K H p (ns.map V.int)) (q : ∀ H', Q (.bl true) H') : spLaw K [.ref p] H Q E := ⟨p, ns, rfl, h, q⟩
theorem prog_sm {rs : List RD} (hl : rs.length ≤ 12) (hw : ∀ r ∈ rs, rowW r) : progSm (.tuple (rs.map RD.data)) := fun ds e => by
  cases e
  refine ⟨by rw [List.length_map]; omega, fun e he => ?_⟩
  obtain ⟨r, hr, rfl⟩ := List.mem_map.mp he
  obtain ⟨_, _, _, h⟩ := row_data_sm (hw r hr)
  exact row_sm_up h (by decide)
theorem ok__law_body (T : Txt K mg w a) : Ok P w K mg base 8 a.f__law_body ["_law_script"] (spLaw K) := by
  obtain ⟨fd, F, b⟩ := T.F__law_body
  obtain ⟨fd1, G__law_start, b__law_start⟩ := ok__law_start (P := P) (base := base) T
  obtain ⟨fd2, G__law_written, b__law_written⟩ := ok__law_written (P := P) (base := base) T
  obtain ⟨fd3, G__law_any_rows, b__law_any_rows⟩ := ok__law_any_rows (P := P) (base := base) T
  obtain ⟨fd4, G__law_changed, b__law_changed⟩ := ok__law_changed (P := P) (base := base) T
  obtain ⟨fd5, G__law_draw, b__law_draw⟩ := ok__law_draw (P := P) (base := base) T
  obtain ⟨fd6, G__law_read_is, b__law_read_is⟩ := ok__law_read_is (P := P) (base := base) T
  obtain ⟨fd7, G__law_program, b__law_program⟩ := ok__law_program (P := P) (base := base) T
  obtain ⟨fd8, G__law_write_is, b__law_write_is⟩ := ok__law_write_is (P := P) (base := base) T
  obtain ⟨fd9, G__law_spoilt, b__law_spoilt⟩ := ok__law_spoilt (P := P) (base := base) T
  refine ⟨fd, F.ok sc__law_body (fun vs H Q E h => ?_) (fun cdv A outer s H vs Q E hr h => ?_), b⟩
  · obtain ⟨p, ns, rfl, _⟩ := h
    rfl
  · obtain ⟨p, ns, rfl, hp, q⟩ := h
    refine ⟨_, (pss_cons (ps_set (i := 1) sc__law_body.nd rfl (Or.inl rfl) (pe_call G__law_start (hr.mono (by decide)) (by rfl) T.a__law_start T.k__law_start b__law_start .nil pass0 (pa_cons (pv 0) pa_nil)))
      (pss_cons (ps_set (i := 2) sc__law_body.nd rfl (Or.inl rfl) (pe_call G__law_written (hr.mono (by decide)) (by rfl) T.a__law_written T.k__law_written b__law_written .nil pass0 (pa_cons (pe_call G__law_any_rows (hr.mono (by decide)) (by rfl) T.a__law_any_rows T.k__law_any_rows b__law_any_rows .nil pass0 (pa_cons (pv 1) pa_nil)) pa_nil)))
      (pss_cons (ps_set (i := 3) sc__law_body.nd rfl (Or.inl rfl) (pe_call G__law_changed (hr.mono (by decide)) (by rfl) T.a__law_changed T.k__law_changed b__law_changed .nil pass0 (pa_cons (pv 1) (pa_cons (pv 2) pa_nil))))
      (pss_cons (ps_set (i := 4) sc__law_body.nd rfl (Or.inl rfl) pe_str)
      (pss_cons (ps_for PassesOwn.never rfl (pi_range1 (by rfl) T.z_range (pa_cons (pe_call G__law_draw (hr.mono (by decide)) (by rfl) T.a__law_draw T.k__law_draw b__law_draw .nil pass0 (pa_cons (pv 1) (pa_cons pe_int pa_nil))) pa_nil)) (pg_name (i := 5) sc__law_body.nd rfl (Or.inl rfl)) (pss_one (ps_set (i := 4) sc__law_body.nd rfl (Or.inl rfl) (pe_op o_addS (pv 4) (pe_ix ix_str pe_str (pe_call G__law_draw (hr.mono (by decide)) (by rfl) T.a__law_draw T.k__law_draw b__law_draw .nil pass0 (pa_cons (pv 1) (pa_cons pe_int pa_nil))) (fun _ _ => rfl))))))
      (pss_cons (ps_set (i := 6) sc__law_body.nd rfl (Or.inl rfl) (pe_lst (pa_cons (pv 2) (pa_cons (pv 3) (pa_cons (pe_op o_addS (pv 2) pe_str) (pa_cons (pv 4) (pa_cons pe_str (pa_cons (pe_call G__law_changed (hr.mono (by decide)) (by rfl) T.a__law_changed T.k__law_changed b__law_changed .nil pass0 (pa_cons (pv 1) (pa_cons (pv 3) pa_nil))) (pa_cons (pe_op o_addS pe_str (pv 4)) (pa_cons (pe_op o_addS pe_str (pv 4)) pa_nil))))))))))
      (pss_cons (ps_for PassesOwn.never rfl (pi_range1 (by rfl) T.z_range (pa_cons pe_int pa_nil)) (pg_name (i := 5) sc__law_body.nd rfl (Or.inl rfl)) (pss_one (ps_for PassesOwn.never rfl (pi_list (pv 6)) (pg_name (i := 7) sc__law_body.nd rfl (Or.inl rfl)) (pss_one (ps_if (pt_not (pt_val (pe_call G__law_read_is (hr.mono (by decide)) (by rfl) T.a__law_read_is T.k__law_read_is b__law_read_is .nil pass0 (pa_cons (pv 7) pa_nil)))) (pss_one (ps_ret pe_bl)) pss_nil)))))
      (pss_cons (ps_set (i := 8) sc__law_body.nd rfl (Or.inl rfl) (pe_call G__law_program (hr.mono (by decide)) (by rfl) T.a__law_program T.k__law_program b__law_program .nil pass0 (pa_cons (pv 1) (pa_cons pe_int (pa_cons pe_int pa_nil)))))
      (pss_cons (ps_if (PW.pt (pw_or (pt_not (pt_val (pe_call G__law_write_is (hr.mono (by decide)) (by rfl) T.a__law_write_is T.k__law_write_is b__law_write_is .nil pass0 (pa_cons (pv 8) pa_nil)))) (pw_or1 (pt_not (pt_val (pe_call G__law_write_is (hr.mono (by decide)) (by rfl) T.a__law_write_is T.k__law_write_is b__law_write_is .nil pass0 (pa_cons (pe_call G__law_spoilt (hr.mono (by decide)) (by rfl) T.a__law_spoilt T.k__law_spoilt b__law_spoilt .nil pass0 (pa_cons (pv 1) (pa_cons (pv 8) (pa_cons pe_int pa_nil)))) pa_nil))))))) (pss_one (ps_ret pe_bl)) pss_nil)
      (pss_cons (ps_if (PW.pt (pw_or (pt_not (pt_val (pe_call G__law_read_is (hr.mono (by decide)) (by rfl) T.a__law_read_is T.k__law_read_is b__law_read_is .nil pass0 (pa_cons (pe_call G__law_changed (hr.mono (by decide)) (by rfl) T.a__law_changed T.k__law_changed b__law_changed .nil pass0 (pa_cons (pv 1) (pa_cons (pe_call G__law_written (hr.mono (by decide)) (by rfl) T.a__law_written T.k__law_written b__law_written .nil pass0 (pa_cons (pv 8) pa_nil)) pa_nil))) pa_nil)))) (pw_or1 (pt_not (pt_val (pe_call G__law_write_is (hr.mono (by decide)) (by rfl) T.a__law_write_is T.k__law_write_is b__law_write_is .nil pass0 (pa_cons (pe_callTy c_listOf (by rfl) T.z_list bt_list (pa_cons (pv 8) pa_nil)) pa_nil))))))) (pss_one (ps_ret pe_bl)) pss_nil)
      (pss_one (ps_ret (pe_and (pe_call G__law_write_is (hr.mono (by decide)) (by rfl) T.a__law_write_is T.k__law_write_is b__law_write_is .nil pass0 (pa_cons (pv 8) pa_nil)) (pe_one (pe_call G__law_write_is (hr.mono (by decide)) (by rfl) T.a__law_write_is T.k__law_write_is b__law_write_is .nil pass0 (pa_cons (pe_tup pa_nil) pa_nil)))))))))))))))), ?_⟩
    walk_at "gg"
    refine ⟨p, ns, rfl, hp, fun H1 z _ _ s1 o1 => ?_⟩
    walk_at "gg"
    refine i_spRows o1 (fun H2 f xs rs m2 nf l2 => ?_)
    have tl2 := (text_len l2 m2.w).1
    walk_at "gg"
    refine i_spWritten (.inl m2.e) m2.d l2 m2.w (fun H3 s3 => ?_)
    generalize textOf rs = tx at tl2
    have o3 := m2.o.same s3
    walk_at "gg"
    refine i_spChanged o3 (by omega) (fun H4 t4 c4 o4 l4 => ?_)
    walk_at "gg"
    refine i_spDraw (by decide) o4 (fun H5 r5 c5 o5 p0 p1 => ?_)
    walk_at "gg"
    refine w_loopR1 (by omega) (by omega) (fun j σ' H' => ∃ (sh : Str) (y5 : Option V), σ' = [some (.ref p), some (.ref z.st), some (.str tx), some (.str t4), some (.str sh), y5, none, none, none] ∧ StOk H' z ∧ sh.length ≤ j ∧ j ≤ 10)
      ⟨_, _, rfl, o5, by rw [emp_len]; exact Nat.le_refl 0, by decide⟩ (fun j σ' H' hj h => ?_) (fun σ' H' h => ?_)
    · obtain ⟨sh, y5, rfl, o6, l6, _⟩ := h
      have hj7 : j < 7 := by omega
      walk_at "gg"
      refine i_spDraw (by decide) o6 (fun H7 r7 c7 o7 q0 q1 => ?_)
      obtain ⟨c, ec⟩ := atN_in (xs := tl ("put 01\n-2" : Str)) q0 (by rw [put_len]; omega)
      refine w_ixS (sz_of (by decide +kernel)) ec ?_
      have sl : (⟨#[c]⟩ : Str).length = 1 := rfl
      refine w_addS (sz_of (by rw [sl]; omega)) ?_
      walk_at "gg"
      exact ⟨_, _, rfl, o7, by rw [app_len, sl]; omega, by omega⟩
    · obtain ⟨sh, y5, rfl, o6, l6, l7⟩ := h
      walk_at "gg"
      refine w_addS (sz_of (by rw [nl_len]; omega)) ?_
      walk_at "gg"
      refine i_spChanged o6 (by omega) (fun H7 t7 c7 o7 l8 => ?_)
      walk_at "gg"
      refine w_addS (sz_of (by rw [put4_len]; omega)) ?_
      walk_at "gg"
      refine w_addS (sz_of (by rw [num7_len]; omega)) ?_
      walk_at "gg"
      refine w_newL (by show 8 ≤ 1000000; decide) (fun tsl H8 ntsl s8 etsl => ?_)
      have o8 := o7.same s8
      generalize hts : ([tx, t4, tx ++ "\n", sh, "", t7, "put " ++ sh, "number " ++ sh] : List Str) = ts
      have ets : H8 tsl = some (.lst (ts.map V.str)) := by rw [etsl, ← hts]; rfl
      have lts : ∀ t ∈ ts, t.length ≤ 98000 := fun t ht => by
        rw [← hts] at ht
        simp only [List.mem_cons, List.not_mem_nil, or_false] at ht
        rcases ht with rfl | rfl | rfl | rfl | rfl | rfl | rfl | rfl
        · omega
        · omega
        · rw [app_len, nl_len]; omega
        · omega
        · rw [emp_len]; omega
        · omega
        · rw [app_len, put4_len]; omega
        · rw [app_len, num7_len]; omega
      clear hts etsl
      walk_at "gg"
      refine w_loopR1 (by decide) (by decide) (fun j σ' H' => ∃ (y5 y7 : Option V), σ' = [some (.ref p), some (.ref z.st), some (.str tx), some (.str t4), some (.str sh), y5, some (.ref tsl), y7, none] ∧ Same H8 H')
        ⟨_, _, rfl, Same.refl H8⟩ (fun j σ' H' hj ⟨y5, y7, e1, s9⟩ => ?_) (fun σ' H' ⟨y5, y7, e1, s9⟩ => ?_)
      · subst e1
        walk_at "gg"
        refine w_loopL (SqL.of (s9 _ _ ets)) (fun i σ' H' => ∃ (y7 : Option V), σ' = [some (.ref p), some (.ref z.st), some (.str tx), some (.str t4), some (.str sh), some (.int j), some (.ref tsl), y7, none] ∧ Same H8 H')
          ⟨_, rfl, s9⟩ (fun i σ' H' ⟨_, _, s⟩ => SqL.of (s _ _ ets)) (fun i x σ' H' hi ⟨y7, e1, s10⟩ => ?_) (fun σ' H' ⟨y7, e1, s10⟩ => ?_)
        · subst e1
          obtain ⟨t, ht, rfl⟩ := map_at hi
          walk_at "gg"
          refine i_spReadIs (lts t (List.mem_of_getElem? ht)) (fun H11 s11 => ?_)
          walk_at "gg"
          exact ⟨_, rfl, s10.trans s11⟩
        · subst e1
          exact ⟨_, _, rfl, s10⟩
      · subst e1
        have o9 := o8.same s9
        walk_at "gg"
        refine i_spProg o9 (fun H10 pp pxs prs c10 o10 ep dp pne pl pw => ?_)
        walk_at "gg"
        refine i_spWriteIs (.tup ep dp) (prog_sm pl pw) (fun H11 s11 => ?_)
        walk_at "gg"
        have o11 := o10.same s11
        refine i_spSpoilt o11 (s11 _ _ ep) (dp.same s11) pne pl pw (fun H12 sq ds c12 o12 dq sq2 => ?_)
        walk_at "gg"
        refine i_spWriteIs dq sq2 (fun H13 s13 => ?_)
        walk_at "gg"
        have o13 := o12.same s13
        have t11 := o11.tk c12
        have ep12 := t11 _ _ (s11 _ _ ep)
        have dp12 := (dp.same s11).tk t11
        refine i_spWritten (.inr (s13 _ _ ep12)) (dp12.same s13) (by omega) pw (fun H14 s14 => ?_)
        have tl14 := (text_len (by omega) pw).1
        generalize textOf prs = tx2 at tl14
        have o14 := o13.same s14
        walk_at "gg"
        refine i_spChanged o14 (by omega) (fun H15 t15 c15 o15 l15 => ?_)
        walk_at "gg"
        refine i_spReadIs (by omega) (fun H16 s16 => ?_)
        walk_at "gg"
        have t14 := o14.tk c15
        have ep16 := s16 _ _ (t14 _ _ (s14 _ _ (s13 _ _ ep12)))
        have dp16 := (((dp12.same s13).same s14).tk t14).same s16
        refine w_listL (.inr (SqT.of ep16)) (fun ll H17 nll s17 ell => ?_)
        walk_at "gg"
        refine i_spWriteIs (d := .list (prs.map RD.data)) (ok := fun _ => True) (.lst trivial ell (datL_any (dp16.same s17))) (fun ds e => by cases e) (fun H18 s18 => ?_)
        walk_at "gg"
        have s1718 := s17.trans s18
        refine i_spWriteIs (.tup (s1718 _ _ ep16) (dp16.same s1718)) (prog_sm pl pw) (fun H19 s19 => ?_)
        walk_at "gg"
        refine w_newT (by show 0 ≤ 1000000; decide) (fun t H20 nt s20 et => ?_)
        walk_at "gg"
        refine i_spWriteIs (E := E0) (d := .tuple []) (ok := noL) (.tup et .nil) (fun ds e => by cases e; exact ⟨by decide, fun e he => by cases he⟩) (fun H21 s21 => ?_)
        exact q H21
theorem law_at {fd : FuncData} (F : Fun K "law" "law" s_law a.f_law fd) (T : Txt K mg w a) : FnOk P w K mg base CX0 9 a.f_law fd ["_law_script"] (spLaw K) := by
  obtain ⟨fd1, G__law_body, b__law_body⟩ := ok__law_body (P := P) (base := base) T
  refine F.ok sc_law (fun vs H Q E h => ?_) (fun cdv A outer s H vs Q E hr h => ?_)
  · obtain ⟨p, ns, rfl, _⟩ := h
    rfl
  · obtain ⟨p, ns, rfl, hp, q⟩ := h
    refine ⟨_, (pss_one (ps_try_thru0 (pss_one (ps_ret (pe_call G__law_body (hr.mono (by decide)) (by rfl) T.a__law_body T.k__law_body b__law_body .nil pass0 (pa_cons (pv 0) pa_nil)))))), ?_⟩
    walk_at "gg"
    exact i_spLaw (E := E0) hp q
end
end K17
namespace K17
open PySem L2
/-! What the top has written, from single facts. Printed by gen_head.py. -/
theorem str_is {x z : Str} {t : Tok} : (Value.str x t).isStr z = decide (x = z) := by
  rw [PySem.W.isStr_of]
  rfl
theorem ns_cons {z x : Str} {t : Tok} {hs : Int} {v : Value} {r : List DictEntry} : (((⟨hs, .str x t, v⟩ : DictEntry) :: r).find? fun e => e.key.isStr z) = if x = z then some ⟨hs, .str x t, v⟩ else r.find? fun e => e.key.isStr z := by
  rw [List.find?_cons, str_is]
  by_cases h : x = z
  · rw [if_pos h, decide_eq_true h]
  · rw [if_neg h, decide_eq_false h]
theorem exm_self {K : PySem.W.Frag} {S : Addr} (h1 : PySem.W.subIn K (.ref S) (.type "BaseException") = some true) (h2 : PySem.W.isClsIn K S = true) (h3 : PySem.W.typeIn K (.ref S) = some (.type "type")) (h4 : PySem.W.subIn K (.ref S) (.ref S) = some true) :
    PySem.W.exmOne K (.ref S) (.ref S) = some true := by
  have e1 : (PySem.W.subIn K (.ref S) (.type "BaseException") == some true) = true := by rw [h1] <;> rfl
  have e2 : ((PySem.W.clsIn K S).isSome && PySem.W.typeIn K (.ref S) == some (.type "type")) = true := by
    have h2' : (PySem.W.clsIn K S).isSome = true := h2
    rw [h2', h3] <;> rfl
  show (if (PySem.W.subIn K (.ref S) (.type "BaseException") == some true) = true then (if ((PySem.W.clsIn K S).isSome && PySem.W.typeIn K (.ref S) == some (.type "type")) = true then PySem.W.subIn K (.ref S) (.ref S) else none) else none) = some true
  rw [if_pos e1, if_pos e2]
  exact h4
theorem refs_joint {C : Addr} : PySem.HandSPX.refsVE [.ref C, .type "ValueError", .type "Exception", .type "BaseException", .type "object"] = true := (by decide +kernel : PySem.HandSPX.refsVE [.type "ValueError", .type "Exception", .type "BaseException", .type "object"] = true)
theorem kt_one {K : PySem.W.Frag} {p : Addr} {od : Option Addr} {x : Str} {t : Tok} {n : Nat} {sl : Array (Option Value)} (l : K.lookup p = some ⟨.type "tuple", od, .seq #[.str x t] n, sl⟩) (H : Hp) : SqT K H p (([x] : List Str).map V.str) :=
  .inr ⟨_, _, n, l, rfl, rfl, by show 1 ≤ sizeLine; decide, .cons ⟨t, rfl⟩ .nil⟩
theorem kt_two {K : PySem.W.Frag} {p : Addr} {od : Option Addr} {x y : Str} {t u : Tok} {n : Nat} {sl : Array (Option Value)} (l : K.lookup p = some ⟨.type "tuple", od, .seq #[.str x t, .str y u] n, sl⟩) (H : Hp) : SqT K H p (([x, y] : List Str).map V.str) :=
  .inr ⟨_, _, n, l, rfl, rfl, by show 2 ≤ sizeLine; decide, .cons ⟨t, rfl⟩ (.cons ⟨u, rfl⟩ .nil)⟩

theorem all_mk {P0 : Program} {w : World} {K : PySem.W.Frag} {P : Params} {h : Heap} {mg : Str → Option Value} {fa : Addr} (eP : P = w.params) (KX : K.In h) (G : h.Ns mainGlobals mg) (hfa : mg "law" = some (.ref fa)) {f_is_integer f_is_listed f_are_people f_is_constant f_is_earlier f_is_right f_check_program f_number_told f_numbers_told f_row_told f_read_program f_write_program f__law_integer f__law_start f__law_draw f__law_wide f__law_people f__law_constant f__law_program f__law_kinds f__law_only f__law_row_right f__law_fault f__law_odd f__law_bad_row f__law_spoilt f__law_digits f__law_line f__law_read f__law_same f__law_read_is f__law_written f__law_number f__law_any_rows f__law_changed f__law_write_is f__law_body f_law : Addr}
  {od_is_integer an_is_integer od_is_listed an_is_listed od_are_people an_are_people od_is_constant an_is_constant od_is_earlier an_is_earlier od_is_right an_is_right od_check_program an_check_program od_number_told an_number_told od_numbers_told an_numbers_told od_row_told an_row_told od_read_program an_read_program od_write_program an_write_program od__law_integer an__law_integer od__law_start an__law_start od__law_draw an__law_draw od__law_wide an__law_wide od__law_people an__law_people od__law_constant an__law_constant od__law_program an__law_program od__law_kinds an__law_kinds od__law_only an__law_only od__law_row_right an__law_row_right od__law_fault an__law_fault od__law_odd an__law_odd od__law_bad_row an__law_bad_row od__law_spoilt an__law_spoilt od__law_digits an__law_digits od__law_line an__law_line od__law_read an__law_read od__law_same an__law_same od__law_read_is an__law_read_is od__law_written an__law_written od__law_number an__law_number od__law_any_rows an__law_any_rows od__law_changed an__law_changed od__law_write_is an__law_write_is od__law_body an__law_body od_law an_law : Option Addr}
  {sl_is_integer sl_is_listed sl_are_people sl_is_constant sl_is_earlier sl_is_right sl_check_program sl_number_told sl_numbers_told sl_row_told sl_read_program sl_write_program sl__law_integer sl__law_start sl__law_draw sl__law_wide sl__law_people sl__law_constant sl__law_program sl__law_kinds sl__law_only sl__law_row_right sl__law_fault sl__law_odd sl__law_bad_row sl__law_spoilt sl__law_digits sl__law_line sl__law_read sl__law_same sl__law_read_is sl__law_written sl__law_number sl__law_any_rows sl__law_changed sl__law_write_is sl__law_body sl_law : Array (Option Value)}
  {oc_is_integer kV_is_integer dc_is_integer pm_is_integer cd_is_integer ct_is_integer oc_is_listed kV_is_listed dc_is_listed pm_is_listed cd_is_listed ct_is_listed oc_are_people kV_are_people dc_are_people pm_are_people cd_are_people ct_are_people oc_is_constant kV_is_constant dc_is_constant pm_is_constant cd_is_constant ct_is_constant oc_is_earlier kV_is_earlier dc_is_earlier pm_is_earlier cd_is_earlier ct_is_earlier oc_is_right kV_is_right dc_is_right pm_is_right cd_is_right ct_is_right oc_check_program kV_check_program dc_check_program pm_check_program cd_check_program ct_check_program oc_number_told kV_number_told dc_number_told pm_number_told cd_number_told ct_number_told oc_numbers_told kV_numbers_told dc_numbers_told pm_numbers_told cd_numbers_told ct_numbers_told oc_row_told kV_row_told dc_row_told pm_row_told cd_row_told ct_row_told oc_read_program kV_read_program dc_read_program pm_read_program cd_read_program ct_read_program oc_write_program kV_write_program dc_write_program pm_write_program cd_write_program ct_write_program oc__law_integer kV__law_integer dc__law_integer pm__law_integer cd__law_integer ct__law_integer oc__law_start kV__law_start dc__law_start pm__law_start cd__law_start ct__law_start oc__law_draw kV__law_draw dc__law_draw pm__law_draw cd__law_draw ct__law_draw oc__law_wide kV__law_wide dc__law_wide pm__law_wide cd__law_wide ct__law_wide oc__law_people kV__law_people dc__law_people pm__law_people cd__law_people ct__law_people oc__law_constant kV__law_constant dc__law_constant pm__law_constant cd__law_constant ct__law_constant oc__law_program kV__law_program dc__law_program pm__law_program cd__law_program ct__law_program oc__law_kinds kV__law_kinds dc__law_kinds pm__law_kinds cd__law_kinds ct__law_kinds oc__law_only kV__law_only dc__law_only pm__law_only cd__law_only ct__law_only oc__law_row_right kV__law_row_right dc__law_row_right pm__law_row_right cd__law_row_right ct__law_row_right oc__law_fault kV__law_fault dc__law_fault pm__law_fault cd__law_fault ct__law_fault oc__law_odd kV__law_odd dc__law_odd pm__law_odd cd__law_odd ct__law_odd oc__law_bad_row kV__law_bad_row dc__law_bad_row pm__law_bad_row cd__law_bad_row ct__law_bad_row oc__law_spoilt kV__law_spoilt dc__law_spoilt pm__law_spoilt cd__law_spoilt ct__law_spoilt oc__law_digits kV__law_digits dc__law_digits pm__law_digits cd__law_digits ct__law_digits oc__law_line kV__law_line dc__law_line pm__law_line cd__law_line ct__law_line oc__law_read kV__law_read dc__law_read pm__law_read cd__law_read ct__law_read oc__law_same kV__law_same dc__law_same pm__law_same cd__law_same ct__law_same oc__law_read_is kV__law_read_is dc__law_read_is pm__law_read_is cd__law_read_is ct__law_read_is oc__law_written kV__law_written dc__law_written pm__law_written cd__law_written ct__law_written oc__law_number kV__law_number dc__law_number pm__law_number cd__law_number ct__law_number oc__law_any_rows kV__law_any_rows dc__law_any_rows pm__law_any_rows cd__law_any_rows ct__law_any_rows oc__law_changed kV__law_changed dc__law_changed pm__law_changed cd__law_changed ct__law_changed oc__law_write_is kV__law_write_is dc__law_write_is pm__law_write_is cd__law_write_is ct__law_write_is oc__law_body kV__law_body dc__law_body pm__law_body cd__law_body ct__law_body oc_law kV_law dc_law pm_law cd_law ct_law : Value}
  {C_JointError C_BadStructure C_BadModulus C_BadInputs C_BadCoins C_BadGroup C_BadLies C_BadTurn C_BadTalk C_BadTable C_BadProgram C_BadText F_d : Addr}
  {nm_BadText q_BadText : Str} {N_BadText g_BadText : Addr} {bs_BadText sub_BadText : List Value} {sn_BadText : List Str} {ab_BadText : Bool} {col_BadText : Option Bool} {dd_BadText : Option Addr} {k0_BadText k1_BadText k2_BadText k3_BadText k5_BadText : Option Value} {odi_BadText ani_BadText : Option Addr} {oci_BadText kVi_BadText dci_BadText pmi_BadText cdi_BadText cti_BadText : Value} {sli_BadText : Array (Option Value)}
  {nm_BadProgram q_BadProgram : Str} {N_BadProgram g_BadProgram : Addr} {bs_BadProgram sub_BadProgram : List Value} {sn_BadProgram : List Str} {ab_BadProgram : Bool} {col_BadProgram : Option Bool} {dd_BadProgram : Option Addr} {k0_BadProgram k1_BadProgram k2_BadProgram k3_BadProgram k5_BadProgram : Option Value} {odi_BadProgram ani_BadProgram : Option Addr} {oci_BadProgram kVi_BadProgram dci_BadProgram pmi_BadProgram cdi_BadProgram cti_BadProgram : Value} {sli_BadProgram : Array (Option Value)}
  {t_MOST_PEOPLE t_MOST_ROWS t_MOST_FIGURES t_FIGURES tk_put tt_put0 tk_number tt_number0 tk_add tt_add0 tt_add1 tk_less tt_less0 tt_less1 tk_times tt_times0 tt_times1 tk_scale tt_scale0 tt_scale1 : Tok} {F_n n_put n_number n_add n_less n_times n_scale : Nat} {F_put F_number F_add F_less F_times F_scale : Addr} {od_put od_number od_add od_less od_times od_scale : Option Addr} {sl_put sl_number sl_add sl_less sl_times sl_scale : Array (Option Value)}
  (a_is_integer : PySem.W.nsIn K mainGlobals "is_integer" = some (some (.ref f_is_integer)))
  (l_is_integer : K.lookup f_is_integer = some ⟨oc_is_integer, od_is_integer, .func (PySem.W.fnOf "is_integer" "is_integer" (defArgs s_is_integer) (defBody s_is_integer) (defScope s_is_integer) .none kV_is_integer dc_is_integer pm_is_integer an_is_integer cd_is_integer ct_is_integer), sl_is_integer⟩)
  (c_is_integer : PySem.W.codeIn K cd_is_integer "is_integer" = true)
  (k_is_integer : PySem.W.keepIn K (.ref f_is_integer) = true)
  (a_is_listed : PySem.W.nsIn K mainGlobals "is_listed" = some (some (.ref f_is_listed)))
  (l_is_listed : K.lookup f_is_listed = some ⟨oc_is_listed, od_is_listed, .func (PySem.W.fnOf "is_listed" "is_listed" (defArgs s_is_listed) (defBody s_is_listed) (defScope s_is_listed) .none kV_is_listed dc_is_listed pm_is_listed an_is_listed cd_is_listed ct_is_listed), sl_is_listed⟩)
  (c_is_listed : PySem.W.codeIn K cd_is_listed "is_listed" = true)
  (k_is_listed : PySem.W.keepIn K (.ref f_is_listed) = true)
  (a_are_people : PySem.W.nsIn K mainGlobals "are_people" = some (some (.ref f_are_people)))
  (l_are_people : K.lookup f_are_people = some ⟨oc_are_people, od_are_people, .func (PySem.W.fnOf "are_people" "are_people" (defArgs s_are_people) (defBody s_are_people) (defScope s_are_people) .none kV_are_people dc_are_people pm_are_people an_are_people cd_are_people ct_are_people), sl_are_people⟩)
  (c_are_people : PySem.W.codeIn K cd_are_people "are_people" = true)
  (k_are_people : PySem.W.keepIn K (.ref f_are_people) = true)
  (a_is_constant : PySem.W.nsIn K mainGlobals "is_constant" = some (some (.ref f_is_constant)))
  (l_is_constant : K.lookup f_is_constant = some ⟨oc_is_constant, od_is_constant, .func (PySem.W.fnOf "is_constant" "is_constant" (defArgs s_is_constant) (defBody s_is_constant) (defScope s_is_constant) .none kV_is_constant dc_is_constant pm_is_constant an_is_constant cd_is_constant ct_is_constant), sl_is_constant⟩)
  (c_is_constant : PySem.W.codeIn K cd_is_constant "is_constant" = true)
  (k_is_constant : PySem.W.keepIn K (.ref f_is_constant) = true)
  (a_is_earlier : PySem.W.nsIn K mainGlobals "is_earlier" = some (some (.ref f_is_earlier)))
  (l_is_earlier : K.lookup f_is_earlier = some ⟨oc_is_earlier, od_is_earlier, .func (PySem.W.fnOf "is_earlier" "is_earlier" (defArgs s_is_earlier) (defBody s_is_earlier) (defScope s_is_earlier) .none kV_is_earlier dc_is_earlier pm_is_earlier an_is_earlier cd_is_earlier ct_is_earlier), sl_is_earlier⟩)
  (c_is_earlier : PySem.W.codeIn K cd_is_earlier "is_earlier" = true)
  (k_is_earlier : PySem.W.keepIn K (.ref f_is_earlier) = true)
  (a_is_right : PySem.W.nsIn K mainGlobals "is_right" = some (some (.ref f_is_right)))
  (l_is_right : K.lookup f_is_right = some ⟨oc_is_right, od_is_right, .func (PySem.W.fnOf "is_right" "is_right" (defArgs s_is_right) (defBody s_is_right) (defScope s_is_right) .none kV_is_right dc_is_right pm_is_right an_is_right cd_is_right ct_is_right), sl_is_right⟩)
  (c_is_right : PySem.W.codeIn K cd_is_right "is_right" = true)
  (k_is_right : PySem.W.keepIn K (.ref f_is_right) = true)
  (a_check_program : PySem.W.nsIn K mainGlobals "check_program" = some (some (.ref f_check_program)))
  (l_check_program : K.lookup f_check_program = some ⟨oc_check_program, od_check_program, .func (PySem.W.fnOf "check_program" "check_program" (defArgs s_check_program) (defBody s_check_program) (defScope s_check_program) .none kV_check_program dc_check_program pm_check_program an_check_program cd_check_program ct_check_program), sl_check_program⟩)
  (c_check_program : PySem.W.codeIn K cd_check_program "check_program" = true)
  (k_check_program : PySem.W.keepIn K (.ref f_check_program) = true)
  (a_number_told : PySem.W.nsIn K mainGlobals "number_told" = some (some (.ref f_number_told)))
  (l_number_told : K.lookup f_number_told = some ⟨oc_number_told, od_number_told, .func (PySem.W.fnOf "number_told" "number_told" (defArgs s_number_told) (defBody s_number_told) (defScope s_number_told) .none kV_number_told dc_number_told pm_number_told an_number_told cd_number_told ct_number_told), sl_number_told⟩)
  (c_number_told : PySem.W.codeIn K cd_number_told "number_told" = true)
  (k_number_told : PySem.W.keepIn K (.ref f_number_told) = true)
  (a_numbers_told : PySem.W.nsIn K mainGlobals "numbers_told" = some (some (.ref f_numbers_told)))
  (l_numbers_told : K.lookup f_numbers_told = some ⟨oc_numbers_told, od_numbers_told, .func (PySem.W.fnOf "numbers_told" "numbers_told" (defArgs s_numbers_told) (defBody s_numbers_told) (defScope s_numbers_told) .none kV_numbers_told dc_numbers_told pm_numbers_told an_numbers_told cd_numbers_told ct_numbers_told), sl_numbers_told⟩)
  (c_numbers_told : PySem.W.codeIn K cd_numbers_told "numbers_told" = true)
  (k_numbers_told : PySem.W.keepIn K (.ref f_numbers_told) = true)
  (a_row_told : PySem.W.nsIn K mainGlobals "row_told" = some (some (.ref f_row_told)))
  (l_row_told : K.lookup f_row_told = some ⟨oc_row_told, od_row_told, .func (PySem.W.fnOf "row_told" "row_told" (defArgs s_row_told) (defBody s_row_told) (defScope s_row_told) .none kV_row_told dc_row_told pm_row_told an_row_told cd_row_told ct_row_told), sl_row_told⟩)
  (c_row_told : PySem.W.codeIn K cd_row_told "row_told" = true)
  (k_row_told : PySem.W.keepIn K (.ref f_row_told) = true)
  (a_read_program : PySem.W.nsIn K mainGlobals "read_program" = some (some (.ref f_read_program)))
  (l_read_program : K.lookup f_read_program = some ⟨oc_read_program, od_read_program, .func (PySem.W.fnOf "read_program" "read_program" (defArgs s_read_program) (defBody s_read_program) (defScope s_read_program) .none kV_read_program dc_read_program pm_read_program an_read_program cd_read_program ct_read_program), sl_read_program⟩)
  (c_read_program : PySem.W.codeIn K cd_read_program "read_program" = true)
  (k_read_program : PySem.W.keepIn K (.ref f_read_program) = true)
  (a_write_program : PySem.W.nsIn K mainGlobals "write_program" = some (some (.ref f_write_program)))
  (l_write_program : K.lookup f_write_program = some ⟨oc_write_program, od_write_program, .func (PySem.W.fnOf "write_program" "write_program" (defArgs s_write_program) (defBody s_write_program) (defScope s_write_program) .none kV_write_program dc_write_program pm_write_program an_write_program cd_write_program ct_write_program), sl_write_program⟩)
  (c_write_program : PySem.W.codeIn K cd_write_program "write_program" = true)
  (k_write_program : PySem.W.keepIn K (.ref f_write_program) = true)
  (a__law_integer : PySem.W.nsIn K mainGlobals "_law_integer" = some (some (.ref f__law_integer)))
  (l__law_integer : K.lookup f__law_integer = some ⟨oc__law_integer, od__law_integer, .func (PySem.W.fnOf "_law_integer" "_law_integer" (defArgs s__law_integer) (defBody s__law_integer) (defScope s__law_integer) .none kV__law_integer dc__law_integer pm__law_integer an__law_integer cd__law_integer ct__law_integer), sl__law_integer⟩)
  (c__law_integer : PySem.W.codeIn K cd__law_integer "_law_integer" = true)
  (k__law_integer : PySem.W.keepIn K (.ref f__law_integer) = true)
  (a__law_start : PySem.W.nsIn K mainGlobals "_law_start" = some (some (.ref f__law_start)))
  (l__law_start : K.lookup f__law_start = some ⟨oc__law_start, od__law_start, .func (PySem.W.fnOf "_law_start" "_law_start" (defArgs s__law_start) (defBody s__law_start) (defScope s__law_start) .none kV__law_start dc__law_start pm__law_start an__law_start cd__law_start ct__law_start), sl__law_start⟩)
  (c__law_start : PySem.W.codeIn K cd__law_start "_law_start" = true)
  (k__law_start : PySem.W.keepIn K (.ref f__law_start) = true)
  (a__law_draw : PySem.W.nsIn K mainGlobals "_law_draw" = some (some (.ref f__law_draw)))
  (l__law_draw : K.lookup f__law_draw = some ⟨oc__law_draw, od__law_draw, .func (PySem.W.fnOf "_law_draw" "_law_draw" (defArgs s__law_draw) (defBody s__law_draw) (defScope s__law_draw) .none kV__law_draw dc__law_draw pm__law_draw an__law_draw cd__law_draw ct__law_draw), sl__law_draw⟩)
  (c__law_draw : PySem.W.codeIn K cd__law_draw "_law_draw" = true)
  (k__law_draw : PySem.W.keepIn K (.ref f__law_draw) = true)
  (a__law_wide : PySem.W.nsIn K mainGlobals "_law_wide" = some (some (.ref f__law_wide)))
  (l__law_wide : K.lookup f__law_wide = some ⟨oc__law_wide, od__law_wide, .func (PySem.W.fnOf "_law_wide" "_law_wide" (defArgs s__law_wide) (defBody s__law_wide) (defScope s__law_wide) .none kV__law_wide dc__law_wide pm__law_wide an__law_wide cd__law_wide ct__law_wide), sl__law_wide⟩)
  (c__law_wide : PySem.W.codeIn K cd__law_wide "_law_wide" = true)
  (k__law_wide : PySem.W.keepIn K (.ref f__law_wide) = true)
  (a__law_people : PySem.W.nsIn K mainGlobals "_law_people" = some (some (.ref f__law_people)))
  (l__law_people : K.lookup f__law_people = some ⟨oc__law_people, od__law_people, .func (PySem.W.fnOf "_law_people" "_law_people" (defArgs s__law_people) (defBody s__law_people) (defScope s__law_people) .none kV__law_people dc__law_people pm__law_people an__law_people cd__law_people ct__law_people), sl__law_people⟩)
  (c__law_people : PySem.W.codeIn K cd__law_people "_law_people" = true)
  (k__law_people : PySem.W.keepIn K (.ref f__law_people) = true)
  (a__law_constant : PySem.W.nsIn K mainGlobals "_law_constant" = some (some (.ref f__law_constant)))
  (l__law_constant : K.lookup f__law_constant = some ⟨oc__law_constant, od__law_constant, .func (PySem.W.fnOf "_law_constant" "_law_constant" (defArgs s__law_constant) (defBody s__law_constant) (defScope s__law_constant) .none kV__law_constant dc__law_constant pm__law_constant an__law_constant cd__law_constant ct__law_constant), sl__law_constant⟩)
  (c__law_constant : PySem.W.codeIn K cd__law_constant "_law_constant" = true)
  (k__law_constant : PySem.W.keepIn K (.ref f__law_constant) = true)
  (a__law_program : PySem.W.nsIn K mainGlobals "_law_program" = some (some (.ref f__law_program)))
  (l__law_program : K.lookup f__law_program = some ⟨oc__law_program, od__law_program, .func (PySem.W.fnOf "_law_program" "_law_program" (defArgs s__law_program) (defBody s__law_program) (defScope s__law_program) .none kV__law_program dc__law_program pm__law_program an__law_program cd__law_program ct__law_program), sl__law_program⟩)
  (c__law_program : PySem.W.codeIn K cd__law_program "_law_program" = true)
  (k__law_program : PySem.W.keepIn K (.ref f__law_program) = true)
  (a__law_kinds : PySem.W.nsIn K mainGlobals "_law_kinds" = some (some (.ref f__law_kinds)))
  (l__law_kinds : K.lookup f__law_kinds = some ⟨oc__law_kinds, od__law_kinds, .func (PySem.W.fnOf "_law_kinds" "_law_kinds" (defArgs s__law_kinds) (defBody s__law_kinds) (defScope s__law_kinds) .none kV__law_kinds dc__law_kinds pm__law_kinds an__law_kinds cd__law_kinds ct__law_kinds), sl__law_kinds⟩)
  (c__law_kinds : PySem.W.codeIn K cd__law_kinds "_law_kinds" = true)
  (k__law_kinds : PySem.W.keepIn K (.ref f__law_kinds) = true)
  (a__law_only : PySem.W.nsIn K mainGlobals "_law_only" = some (some (.ref f__law_only)))
  (l__law_only : K.lookup f__law_only = some ⟨oc__law_only, od__law_only, .func (PySem.W.fnOf "_law_only" "_law_only" (defArgs s__law_only) (defBody s__law_only) (defScope s__law_only) .none kV__law_only dc__law_only pm__law_only an__law_only cd__law_only ct__law_only), sl__law_only⟩)
  (c__law_only : PySem.W.codeIn K cd__law_only "_law_only" = true)
  (k__law_only : PySem.W.keepIn K (.ref f__law_only) = true)
  (a__law_row_right : PySem.W.nsIn K mainGlobals "_law_row_right" = some (some (.ref f__law_row_right)))
  (l__law_row_right : K.lookup f__law_row_right = some ⟨oc__law_row_right, od__law_row_right, .func (PySem.W.fnOf "_law_row_right" "_law_row_right" (defArgs s__law_row_right) (defBody s__law_row_right) (defScope s__law_row_right) .none kV__law_row_right dc__law_row_right pm__law_row_right an__law_row_right cd__law_row_right ct__law_row_right), sl__law_row_right⟩)
  (c__law_row_right : PySem.W.codeIn K cd__law_row_right "_law_row_right" = true)
  (k__law_row_right : PySem.W.keepIn K (.ref f__law_row_right) = true)
  (a__law_fault : PySem.W.nsIn K mainGlobals "_law_fault" = some (some (.ref f__law_fault)))
  (l__law_fault : K.lookup f__law_fault = some ⟨oc__law_fault, od__law_fault, .func (PySem.W.fnOf "_law_fault" "_law_fault" (defArgs s__law_fault) (defBody s__law_fault) (defScope s__law_fault) .none kV__law_fault dc__law_fault pm__law_fault an__law_fault cd__law_fault ct__law_fault), sl__law_fault⟩)
  (c__law_fault : PySem.W.codeIn K cd__law_fault "_law_fault" = true)
  (k__law_fault : PySem.W.keepIn K (.ref f__law_fault) = true)
  (a__law_odd : PySem.W.nsIn K mainGlobals "_law_odd" = some (some (.ref f__law_odd)))
  (l__law_odd : K.lookup f__law_odd = some ⟨oc__law_odd, od__law_odd, .func (PySem.W.fnOf "_law_odd" "_law_odd" (defArgs s__law_odd) (defBody s__law_odd) (defScope s__law_odd) .none kV__law_odd dc__law_odd pm__law_odd an__law_odd cd__law_odd ct__law_odd), sl__law_odd⟩)
  (c__law_odd : PySem.W.codeIn K cd__law_odd "_law_odd" = true)
  (k__law_odd : PySem.W.keepIn K (.ref f__law_odd) = true)
  (a__law_bad_row : PySem.W.nsIn K mainGlobals "_law_bad_row" = some (some (.ref f__law_bad_row)))
  (l__law_bad_row : K.lookup f__law_bad_row = some ⟨oc__law_bad_row, od__law_bad_row, .func (PySem.W.fnOf "_law_bad_row" "_law_bad_row" (defArgs s__law_bad_row) (defBody s__law_bad_row) (defScope s__law_bad_row) .none kV__law_bad_row dc__law_bad_row pm__law_bad_row an__law_bad_row cd__law_bad_row ct__law_bad_row), sl__law_bad_row⟩)
  (c__law_bad_row : PySem.W.codeIn K cd__law_bad_row "_law_bad_row" = true)
  (k__law_bad_row : PySem.W.keepIn K (.ref f__law_bad_row) = true)
  (a__law_spoilt : PySem.W.nsIn K mainGlobals "_law_spoilt" = some (some (.ref f__law_spoilt)))
  (l__law_spoilt : K.lookup f__law_spoilt = some ⟨oc__law_spoilt, od__law_spoilt, .func (PySem.W.fnOf "_law_spoilt" "_law_spoilt" (defArgs s__law_spoilt) (defBody s__law_spoilt) (defScope s__law_spoilt) .none kV__law_spoilt dc__law_spoilt pm__law_spoilt an__law_spoilt cd__law_spoilt ct__law_spoilt), sl__law_spoilt⟩)
  (c__law_spoilt : PySem.W.codeIn K cd__law_spoilt "_law_spoilt" = true)
  (k__law_spoilt : PySem.W.keepIn K (.ref f__law_spoilt) = true)
  (a__law_digits : PySem.W.nsIn K mainGlobals "_law_digits" = some (some (.ref f__law_digits)))
  (l__law_digits : K.lookup f__law_digits = some ⟨oc__law_digits, od__law_digits, .func (PySem.W.fnOf "_law_digits" "_law_digits" (defArgs s__law_digits) (defBody s__law_digits) (defScope s__law_digits) .none kV__law_digits dc__law_digits pm__law_digits an__law_digits cd__law_digits ct__law_digits), sl__law_digits⟩)
  (c__law_digits : PySem.W.codeIn K cd__law_digits "_law_digits" = true)
  (k__law_digits : PySem.W.keepIn K (.ref f__law_digits) = true)
  (a__law_line : PySem.W.nsIn K mainGlobals "_law_line" = some (some (.ref f__law_line)))
  (l__law_line : K.lookup f__law_line = some ⟨oc__law_line, od__law_line, .func (PySem.W.fnOf "_law_line" "_law_line" (defArgs s__law_line) (defBody s__law_line) (defScope s__law_line) .none kV__law_line dc__law_line pm__law_line an__law_line cd__law_line ct__law_line), sl__law_line⟩)
  (c__law_line : PySem.W.codeIn K cd__law_line "_law_line" = true)
  (k__law_line : PySem.W.keepIn K (.ref f__law_line) = true)
  (a__law_read : PySem.W.nsIn K mainGlobals "_law_read" = some (some (.ref f__law_read)))
  (l__law_read : K.lookup f__law_read = some ⟨oc__law_read, od__law_read, .func (PySem.W.fnOf "_law_read" "_law_read" (defArgs s__law_read) (defBody s__law_read) (defScope s__law_read) .none kV__law_read dc__law_read pm__law_read an__law_read cd__law_read ct__law_read), sl__law_read⟩)
  (c__law_read : PySem.W.codeIn K cd__law_read "_law_read" = true)
  (k__law_read : PySem.W.keepIn K (.ref f__law_read) = true)
  (a__law_same : PySem.W.nsIn K mainGlobals "_law_same" = some (some (.ref f__law_same)))
  (l__law_same : K.lookup f__law_same = some ⟨oc__law_same, od__law_same, .func (PySem.W.fnOf "_law_same" "_law_same" (defArgs s__law_same) (defBody s__law_same) (defScope s__law_same) .none kV__law_same dc__law_same pm__law_same an__law_same cd__law_same ct__law_same), sl__law_same⟩)
  (c__law_same : PySem.W.codeIn K cd__law_same "_law_same" = true)
  (k__law_same : PySem.W.keepIn K (.ref f__law_same) = true)
  (a__law_read_is : PySem.W.nsIn K mainGlobals "_law_read_is" = some (some (.ref f__law_read_is)))
  (l__law_read_is : K.lookup f__law_read_is = some ⟨oc__law_read_is, od__law_read_is, .func (PySem.W.fnOf "_law_read_is" "_law_read_is" (defArgs s__law_read_is) (defBody s__law_read_is) (defScope s__law_read_is) .none kV__law_read_is dc__law_read_is pm__law_read_is an__law_read_is cd__law_read_is ct__law_read_is), sl__law_read_is⟩)
  (c__law_read_is : PySem.W.codeIn K cd__law_read_is "_law_read_is" = true)
  (k__law_read_is : PySem.W.keepIn K (.ref f__law_read_is) = true)
  (a__law_written : PySem.W.nsIn K mainGlobals "_law_written" = some (some (.ref f__law_written)))
  (l__law_written : K.lookup f__law_written = some ⟨oc__law_written, od__law_written, .func (PySem.W.fnOf "_law_written" "_law_written" (defArgs s__law_written) (defBody s__law_written) (defScope s__law_written) .none kV__law_written dc__law_written pm__law_written an__law_written cd__law_written ct__law_written), sl__law_written⟩)
  (c__law_written : PySem.W.codeIn K cd__law_written "_law_written" = true)
  (k__law_written : PySem.W.keepIn K (.ref f__law_written) = true)
  (a__law_number : PySem.W.nsIn K mainGlobals "_law_number" = some (some (.ref f__law_number)))
  (l__law_number : K.lookup f__law_number = some ⟨oc__law_number, od__law_number, .func (PySem.W.fnOf "_law_number" "_law_number" (defArgs s__law_number) (defBody s__law_number) (defScope s__law_number) .none kV__law_number dc__law_number pm__law_number an__law_number cd__law_number ct__law_number), sl__law_number⟩)
  (c__law_number : PySem.W.codeIn K cd__law_number "_law_number" = true)
  (k__law_number : PySem.W.keepIn K (.ref f__law_number) = true)
  (a__law_any_rows : PySem.W.nsIn K mainGlobals "_law_any_rows" = some (some (.ref f__law_any_rows)))
  (l__law_any_rows : K.lookup f__law_any_rows = some ⟨oc__law_any_rows, od__law_any_rows, .func (PySem.W.fnOf "_law_any_rows" "_law_any_rows" (defArgs s__law_any_rows) (defBody s__law_any_rows) (defScope s__law_any_rows) .none kV__law_any_rows dc__law_any_rows pm__law_any_rows an__law_any_rows cd__law_any_rows ct__law_any_rows), sl__law_any_rows⟩)
  (c__law_any_rows : PySem.W.codeIn K cd__law_any_rows "_law_any_rows" = true)
  (k__law_any_rows : PySem.W.keepIn K (.ref f__law_any_rows) = true)
  (a__law_changed : PySem.W.nsIn K mainGlobals "_law_changed" = some (some (.ref f__law_changed)))
  (l__law_changed : K.lookup f__law_changed = some ⟨oc__law_changed, od__law_changed, .func (PySem.W.fnOf "_law_changed" "_law_changed" (defArgs s__law_changed) (defBody s__law_changed) (defScope s__law_changed) .none kV__law_changed dc__law_changed pm__law_changed an__law_changed cd__law_changed ct__law_changed), sl__law_changed⟩)
  (c__law_changed : PySem.W.codeIn K cd__law_changed "_law_changed" = true)
  (k__law_changed : PySem.W.keepIn K (.ref f__law_changed) = true)
  (a__law_write_is : PySem.W.nsIn K mainGlobals "_law_write_is" = some (some (.ref f__law_write_is)))
  (l__law_write_is : K.lookup f__law_write_is = some ⟨oc__law_write_is, od__law_write_is, .func (PySem.W.fnOf "_law_write_is" "_law_write_is" (defArgs s__law_write_is) (defBody s__law_write_is) (defScope s__law_write_is) .none kV__law_write_is dc__law_write_is pm__law_write_is an__law_write_is cd__law_write_is ct__law_write_is), sl__law_write_is⟩)
  (c__law_write_is : PySem.W.codeIn K cd__law_write_is "_law_write_is" = true)
  (k__law_write_is : PySem.W.keepIn K (.ref f__law_write_is) = true)
  (a__law_body : PySem.W.nsIn K mainGlobals "_law_body" = some (some (.ref f__law_body)))
  (l__law_body : K.lookup f__law_body = some ⟨oc__law_body, od__law_body, .func (PySem.W.fnOf "_law_body" "_law_body" (defArgs s__law_body) (defBody s__law_body) (defScope s__law_body) .none kV__law_body dc__law_body pm__law_body an__law_body cd__law_body ct__law_body), sl__law_body⟩)
  (c__law_body : PySem.W.codeIn K cd__law_body "_law_body" = true)
  (k__law_body : PySem.W.keepIn K (.ref f__law_body) = true)
  (a_law : PySem.W.nsIn K mainGlobals "law" = some (some (.ref f_law)))
  (l_law : K.lookup f_law = some ⟨oc_law, od_law, .func (PySem.W.fnOf "law" "law" (defArgs s_law) (defBody s_law) (defScope s_law) .none kV_law dc_law pm_law an_law cd_law ct_law), sl_law⟩)
  (c_law : PySem.W.codeIn K cd_law "law" = true)
  (k_law : PySem.W.keepIn K (.ref f_law) = true)
  (A_JointError : PySem.W.nsIn K mainGlobals "JointError" = some (some (.ref C_JointError)))
  (A_BadStructure : PySem.W.nsIn K mainGlobals "BadStructure" = some (some (.ref C_BadStructure)))
  (A_BadModulus : PySem.W.nsIn K mainGlobals "BadModulus" = some (some (.ref C_BadModulus)))
  (A_BadInputs : PySem.W.nsIn K mainGlobals "BadInputs" = some (some (.ref C_BadInputs)))
  (A_BadCoins : PySem.W.nsIn K mainGlobals "BadCoins" = some (some (.ref C_BadCoins)))
  (A_BadGroup : PySem.W.nsIn K mainGlobals "BadGroup" = some (some (.ref C_BadGroup)))
  (A_BadLies : PySem.W.nsIn K mainGlobals "BadLies" = some (some (.ref C_BadLies)))
  (A_BadTurn : PySem.W.nsIn K mainGlobals "BadTurn" = some (some (.ref C_BadTurn)))
  (A_BadTalk : PySem.W.nsIn K mainGlobals "BadTalk" = some (some (.ref C_BadTalk)))
  (A_BadTable : PySem.W.nsIn K mainGlobals "BadTable" = some (some (.ref C_BadTable)))
  (A_BadProgram : PySem.W.nsIn K mainGlobals "BadProgram" = some (some (.ref C_BadProgram)))
  (A_BadText : PySem.W.nsIn K mainGlobals "BadText" = some (some (.ref C_BadText)))
  (xL_BadText : K.lookup C_BadText = some (excClassObj nm_BadText q_BadText C_BadText N_BadText bs_BadText [.ref C_JointError, .type "ValueError", .type "Exception", .type "BaseException", .type "object"] true sn_BadText sub_BadText ab_BadText col_BadText dd_BadText k0_BadText k1_BadText k2_BadText k3_BadText k5_BadText "ValueError.__new__"))
  (sa_BadText : PySem.W.findIn K (.ref C_BadText) "__setattr__" = some (some (.builtin "object.__setattr__")))
  (ga_BadText : PySem.W.findIn K (.ref C_BadText) "__getattribute__" = some (some (.builtin "BaseException.__getattribute__")))
  (gg_BadText : PySem.W.findIn K (.ref C_BadText) "__getattr__" = some none)
  (nf_BadText : PySem.W.findIn K (.ref C_BadText) "place" = some none)
  (eC_BadText : PySem.W.subIn K (.ref C_BadText) (.type "BaseException") = some true)
  (tC_BadText : PySem.W.typeIn K (.ref C_BadText) = some (.type "type"))
  (kC_BadText : PySem.W.keepIn K (.ref C_BadText) = true)
  (hC_BadText : PySem.W.hasDictIn K C_BadText = true)
  (iC_BadText : PySem.W.isClsIn K C_BadText = true)
  (sC_BadText : PySem.W.subIn K (.ref C_BadText) (.ref C_BadText) = some true)
  (cc_BadText : PySem.W.findIn K (.ref C_BadText) "__class__" = some (some (.builtin "object.__class__")))
  (mo_BadText : PySem.W.mroIn K C_BadText (.type "object") = some true)
  (in_BadText : PySem.W.findIn K (.ref C_BadText) "__init__" = some (some (.ref g_BadText)))
  (ti_BadText : PySem.W.typeIn K (.ref g_BadText) = some (.type "function"))
  (li_BadText : K.lookup g_BadText = some ⟨oci_BadText, odi_BadText, .func (PySem.W.fnOf "__init__" "BadText.__init__" (defArgs i_BadText) (defBody i_BadText) (defScope i_BadText) .none kVi_BadText dci_BadText pmi_BadText ani_BadText cdi_BadText cti_BadText), sli_BadText⟩)
  (ci_BadText : PySem.W.codeIn K cdi_BadText "BadText.__init__" = true)
  (ki_BadText : PySem.W.keepIn K (.ref g_BadText) = true)
  (is_BadText_JointError : PySem.W.kitOne K (.ref C_BadText) (.ref C_JointError) = some true)
  (is_BadText_BadStructure : PySem.W.kitOne K (.ref C_BadText) (.ref C_BadStructure) = some false)
  (is_BadText_BadModulus : PySem.W.kitOne K (.ref C_BadText) (.ref C_BadModulus) = some false)
  (is_BadText_BadInputs : PySem.W.kitOne K (.ref C_BadText) (.ref C_BadInputs) = some false)
  (is_BadText_BadCoins : PySem.W.kitOne K (.ref C_BadText) (.ref C_BadCoins) = some false)
  (is_BadText_BadGroup : PySem.W.kitOne K (.ref C_BadText) (.ref C_BadGroup) = some false)
  (is_BadText_BadLies : PySem.W.kitOne K (.ref C_BadText) (.ref C_BadLies) = some false)
  (is_BadText_BadTurn : PySem.W.kitOne K (.ref C_BadText) (.ref C_BadTurn) = some false)
  (is_BadText_BadTalk : PySem.W.kitOne K (.ref C_BadText) (.ref C_BadTalk) = some false)
  (is_BadText_BadTable : PySem.W.kitOne K (.ref C_BadText) (.ref C_BadTable) = some false)
  (is_BadText_BadProgram : PySem.W.kitOne K (.ref C_BadText) (.ref C_BadProgram) = some false)
  (is_BadText_BadText : PySem.W.kitOne K (.ref C_BadText) (.ref C_BadText) = some true)
  (is_BadText_VE : PySem.W.kitOne K (.ref C_BadText) (.type "ValueError") = some true)
  (xL_BadProgram : K.lookup C_BadProgram = some (excClassObj nm_BadProgram q_BadProgram C_BadProgram N_BadProgram bs_BadProgram [.ref C_JointError, .type "ValueError", .type "Exception", .type "BaseException", .type "object"] true sn_BadProgram sub_BadProgram ab_BadProgram col_BadProgram dd_BadProgram k0_BadProgram k1_BadProgram k2_BadProgram k3_BadProgram k5_BadProgram "ValueError.__new__"))
  (sa_BadProgram : PySem.W.findIn K (.ref C_BadProgram) "__setattr__" = some (some (.builtin "object.__setattr__")))
  (ga_BadProgram : PySem.W.findIn K (.ref C_BadProgram) "__getattribute__" = some (some (.builtin "BaseException.__getattribute__")))
  (gg_BadProgram : PySem.W.findIn K (.ref C_BadProgram) "__getattr__" = some none)
  (nf_BadProgram : PySem.W.findIn K (.ref C_BadProgram) "row" = some none)
  (eC_BadProgram : PySem.W.subIn K (.ref C_BadProgram) (.type "BaseException") = some true)
  (tC_BadProgram : PySem.W.typeIn K (.ref C_BadProgram) = some (.type "type"))
  (kC_BadProgram : PySem.W.keepIn K (.ref C_BadProgram) = true)
  (hC_BadProgram : PySem.W.hasDictIn K C_BadProgram = true)
  (iC_BadProgram : PySem.W.isClsIn K C_BadProgram = true)
  (sC_BadProgram : PySem.W.subIn K (.ref C_BadProgram) (.ref C_BadProgram) = some true)
  (cc_BadProgram : PySem.W.findIn K (.ref C_BadProgram) "__class__" = some (some (.builtin "object.__class__")))
  (mo_BadProgram : PySem.W.mroIn K C_BadProgram (.type "object") = some true)
  (in_BadProgram : PySem.W.findIn K (.ref C_BadProgram) "__init__" = some (some (.ref g_BadProgram)))
  (ti_BadProgram : PySem.W.typeIn K (.ref g_BadProgram) = some (.type "function"))
  (li_BadProgram : K.lookup g_BadProgram = some ⟨oci_BadProgram, odi_BadProgram, .func (PySem.W.fnOf "__init__" "BadProgram.__init__" (defArgs i_BadProgram) (defBody i_BadProgram) (defScope i_BadProgram) .none kVi_BadProgram dci_BadProgram pmi_BadProgram ani_BadProgram cdi_BadProgram cti_BadProgram), sli_BadProgram⟩)
  (ci_BadProgram : PySem.W.codeIn K cdi_BadProgram "BadProgram.__init__" = true)
  (ki_BadProgram : PySem.W.keepIn K (.ref g_BadProgram) = true)
  (is_BadProgram_JointError : PySem.W.kitOne K (.ref C_BadProgram) (.ref C_JointError) = some true)
  (is_BadProgram_BadStructure : PySem.W.kitOne K (.ref C_BadProgram) (.ref C_BadStructure) = some false)
  (is_BadProgram_BadModulus : PySem.W.kitOne K (.ref C_BadProgram) (.ref C_BadModulus) = some false)
  (is_BadProgram_BadInputs : PySem.W.kitOne K (.ref C_BadProgram) (.ref C_BadInputs) = some false)
  (is_BadProgram_BadCoins : PySem.W.kitOne K (.ref C_BadProgram) (.ref C_BadCoins) = some false)
  (is_BadProgram_BadGroup : PySem.W.kitOne K (.ref C_BadProgram) (.ref C_BadGroup) = some false)
  (is_BadProgram_BadLies : PySem.W.kitOne K (.ref C_BadProgram) (.ref C_BadLies) = some false)
  (is_BadProgram_BadTurn : PySem.W.kitOne K (.ref C_BadProgram) (.ref C_BadTurn) = some false)
  (is_BadProgram_BadTalk : PySem.W.kitOne K (.ref C_BadProgram) (.ref C_BadTalk) = some false)
  (is_BadProgram_BadTable : PySem.W.kitOne K (.ref C_BadProgram) (.ref C_BadTable) = some false)
  (is_BadProgram_BadProgram : PySem.W.kitOne K (.ref C_BadProgram) (.ref C_BadProgram) = some true)
  (is_BadProgram_BadText : PySem.W.kitOne K (.ref C_BadProgram) (.ref C_BadText) = some false)
  (is_BadProgram_VE : PySem.W.kitOne K (.ref C_BadProgram) (.type "ValueError") = some true)
  (sp_class : PySem.W.specialIn K (.builtin "object.__class__") "__get__" = some (some (.builtin "getset_descriptor.__get__")))
  (tk_class : PySem.W.takesIn K (.builtin "object.__class__") = some true)
  (z_all : PySem.W.nsIn K mainGlobals "all" = some none)
  (z_abs : PySem.W.nsIn K mainGlobals "abs" = some none)
  (z_enumerate : PySem.W.nsIn K mainGlobals "enumerate" = some none)
  (z_int : PySem.W.nsIn K mainGlobals "int" = some none)
  (z_isinstance : PySem.W.nsIn K mainGlobals "isinstance" = some none)
  (z_len : PySem.W.nsIn K mainGlobals "len" = some none)
  (z_list : PySem.W.nsIn K mainGlobals "list" = some none)
  (z_max : PySem.W.nsIn K mainGlobals "max" = some none)
  (z_min : PySem.W.nsIn K mainGlobals "min" = some none)
  (z_range : PySem.W.nsIn K mainGlobals "range" = some none)
  (z_str : PySem.W.nsIn K mainGlobals "str" = some none)
  (z_tuple : PySem.W.nsIn K mainGlobals "tuple" = some none)
  (z_zip : PySem.W.nsIn K mainGlobals "zip" = some none)
  (z_bool : PySem.W.nsIn K mainGlobals "bool" = some none)
  (z_ValueError : PySem.W.nsIn K mainGlobals "ValueError" = some none)
  (g_MOST_PEOPLE : PySem.W.nsIn K mainGlobals "MOST_PEOPLE" = some (some (.int 8 t_MOST_PEOPLE)))
  (g_MOST_ROWS : PySem.W.nsIn K mainGlobals "MOST_ROWS" = some (some (.int 400 t_MOST_ROWS)))
  (g_MOST_FIGURES : PySem.W.nsIn K mainGlobals "MOST_FIGURES" = some (some (.int 60 t_MOST_FIGURES)))
  (g_FIGURES : PySem.W.nsIn K mainGlobals "FIGURES" = some (some (.str "0123456789" t_FIGURES)))
  (g_FORMS : PySem.W.nsIn K mainGlobals "FORMS" = some (some (.ref F_d)))
  (l_FORMS : K.lookup F_d = some ⟨.type "dict", none, .dict #[⟨PyData.keyHash P "put", .str "put" tk_put, .ref F_put⟩, ⟨PyData.keyHash P "number", .str "number" tk_number, .ref F_number⟩, ⟨PyData.keyHash P "add", .str "add" tk_add, .ref F_add⟩, ⟨PyData.keyHash P "less", .str "less" tk_less, .ref F_less⟩, ⟨PyData.keyHash P "times", .str "times" tk_times, .ref F_times⟩, ⟨PyData.keyHash P "scale", .str "scale" tk_scale, .ref F_scale⟩] F_n, #[]⟩)
  (low_FORMS : (F_d == sysModules) = false)
  (lt_put : K.lookup F_put = some ⟨.type "tuple", od_put, .seq #[.str "row" tt_put0] n_put, sl_put⟩)
  (lt_number : K.lookup F_number = some ⟨.type "tuple", od_number, .seq #[.str "any" tt_number0] n_number, sl_number⟩)
  (lt_add : K.lookup F_add = some ⟨.type "tuple", od_add, .seq #[.str "row" tt_add0, .str "row" tt_add1] n_add, sl_add⟩)
  (lt_less : K.lookup F_less = some ⟨.type "tuple", od_less, .seq #[.str "row" tt_less0, .str "row" tt_less1] n_less, sl_less⟩)
  (lt_times : K.lookup F_times = some ⟨.type "tuple", od_times, .seq #[.str "row" tt_times0, .str "row" tt_times1] n_times, sl_times⟩)
  (lt_scale : K.lookup F_scale = some ⟨.type "tuple", od_scale, .seq #[.str "any" tt_scale0, .str "row" tt_scale1] n_scale, sl_scale⟩)
  : ∃ fd : FuncData, (∀ (s : Shared) (u : Value), BindsTo s fd ⟨[u], []⟩ [(("_law_script" : Str), u)]) ∧ ∀ base : Heap, K.In base → base.Ns mainGlobals mg → FnOk P0 w K mg base CX0 9 fa fd ["_law_script"] (spLaw K) := by
  subst eP
  cases hfa.symm.trans (PySem.W.mg_of KX G a_law)
  let a : Ad := { f_is_integer := f_is_integer, f_is_listed := f_is_listed, f_are_people := f_are_people, f_is_constant := f_is_constant, f_is_earlier := f_is_earlier, f_is_right := f_is_right, f_check_program := f_check_program, f_number_told := f_number_told, f_numbers_told := f_numbers_told, f_row_told := f_row_told, f_read_program := f_read_program, f_write_program := f_write_program, f__law_integer := f__law_integer, f__law_start := f__law_start, f__law_draw := f__law_draw, f__law_wide := f__law_wide, f__law_people := f__law_people, f__law_constant := f__law_constant, f__law_program := f__law_program, f__law_kinds := f__law_kinds, f__law_only := f__law_only, f__law_row_right := f__law_row_right, f__law_fault := f__law_fault, f__law_odd := f__law_odd, f__law_bad_row := f__law_bad_row, f__law_spoilt := f__law_spoilt, f__law_digits := f__law_digits, f__law_line := f__law_line, f__law_read := f__law_read, f__law_same := f__law_same, f__law_read_is := f__law_read_is, f__law_written := f__law_written, f__law_number := f__law_number, f__law_any_rows := f__law_any_rows, f__law_changed := f__law_changed, f__law_write_is := f__law_write_is, f__law_body := f__law_body, f_law := fa, C_JointError := C_JointError, C_BadStructure := C_BadStructure, C_BadModulus := C_BadModulus, C_BadInputs := C_BadInputs, C_BadCoins := C_BadCoins, C_BadGroup := C_BadGroup, C_BadLies := C_BadLies, C_BadTurn := C_BadTurn, C_BadTalk := C_BadTalk, C_BadTable := C_BadTable, C_BadProgram := C_BadProgram, C_BadText := C_BadText, g_BadText := g_BadText, g_BadProgram := g_BadProgram, F_d := F_d, F_es := #[⟨PyData.keyHash w.params "put", .str "put" tk_put, .ref F_put⟩, ⟨PyData.keyHash w.params "number", .str "number" tk_number, .ref F_number⟩, ⟨PyData.keyHash w.params "add", .str "add" tk_add, .ref F_add⟩, ⟨PyData.keyHash w.params "less", .str "less" tk_less, .ref F_less⟩, ⟨PyData.keyHash w.params "times", .str "times" tk_times, .ref F_times⟩, ⟨PyData.keyHash w.params "scale", .str "scale" tk_scale, .ref F_scale⟩], F_n := F_n, F_put := F_put, F_number := F_number, F_add := F_add, F_less := F_less, F_times := F_times, F_scale := F_scale, t_MOST_PEOPLE := t_MOST_PEOPLE, t_MOST_ROWS := t_MOST_ROWS, t_MOST_FIGURES := t_MOST_FIGURES, t_FIGURES := t_FIGURES }
  have F_is_integer := fun_mk (st := s_is_integer) l_is_integer c_is_integer k_is_integer
  have F_is_listed := fun_mk (st := s_is_listed) l_is_listed c_is_listed k_is_listed
  have F_are_people := fun_mk (st := s_are_people) l_are_people c_are_people k_are_people
  have F_is_constant := fun_mk (st := s_is_constant) l_is_constant c_is_constant k_is_constant
  have F_is_earlier := fun_mk (st := s_is_earlier) l_is_earlier c_is_earlier k_is_earlier
  have F_is_right := fun_mk (st := s_is_right) l_is_right c_is_right k_is_right
  have F_check_program := fun_mk (st := s_check_program) l_check_program c_check_program k_check_program
  have F_number_told := fun_mk (st := s_number_told) l_number_told c_number_told k_number_told
  have F_numbers_told := fun_mk (st := s_numbers_told) l_numbers_told c_numbers_told k_numbers_told
  have F_row_told := fun_mk (st := s_row_told) l_row_told c_row_told k_row_told
  have F_read_program := fun_mk (st := s_read_program) l_read_program c_read_program k_read_program
  have F_write_program := fun_mk (st := s_write_program) l_write_program c_write_program k_write_program
  have F__law_integer := fun_mk (st := s__law_integer) l__law_integer c__law_integer k__law_integer
  have F__law_start := fun_mk (st := s__law_start) l__law_start c__law_start k__law_start
  have F__law_draw := fun_mk (st := s__law_draw) l__law_draw c__law_draw k__law_draw
  have F__law_wide := fun_mk (st := s__law_wide) l__law_wide c__law_wide k__law_wide
  have F__law_people := fun_mk (st := s__law_people) l__law_people c__law_people k__law_people
  have F__law_constant := fun_mk (st := s__law_constant) l__law_constant c__law_constant k__law_constant
  have F__law_program := fun_mk (st := s__law_program) l__law_program c__law_program k__law_program
  have F__law_kinds := fun_mk (st := s__law_kinds) l__law_kinds c__law_kinds k__law_kinds
  have F__law_only := fun_mk (st := s__law_only) l__law_only c__law_only k__law_only
  have F__law_row_right := fun_mk (st := s__law_row_right) l__law_row_right c__law_row_right k__law_row_right
  have F__law_fault := fun_mk (st := s__law_fault) l__law_fault c__law_fault k__law_fault
  have F__law_odd := fun_mk (st := s__law_odd) l__law_odd c__law_odd k__law_odd
  have F__law_bad_row := fun_mk (st := s__law_bad_row) l__law_bad_row c__law_bad_row k__law_bad_row
  have F__law_spoilt := fun_mk (st := s__law_spoilt) l__law_spoilt c__law_spoilt k__law_spoilt
  have F__law_digits := fun_mk (st := s__law_digits) l__law_digits c__law_digits k__law_digits
  have F__law_line := fun_mk (st := s__law_line) l__law_line c__law_line k__law_line
  have F__law_read := fun_mk (st := s__law_read) l__law_read c__law_read k__law_read
  have F__law_same := fun_mk (st := s__law_same) l__law_same c__law_same k__law_same
  have F__law_read_is := fun_mk (st := s__law_read_is) l__law_read_is c__law_read_is k__law_read_is
  have F__law_written := fun_mk (st := s__law_written) l__law_written c__law_written k__law_written
  have F__law_number := fun_mk (st := s__law_number) l__law_number c__law_number k__law_number
  have F__law_any_rows := fun_mk (st := s__law_any_rows) l__law_any_rows c__law_any_rows k__law_any_rows
  have F__law_changed := fun_mk (st := s__law_changed) l__law_changed c__law_changed k__law_changed
  have F__law_write_is := fun_mk (st := s__law_write_is) l__law_write_is c__law_write_is k__law_write_is
  have F__law_body := fun_mk (st := s__law_body) l__law_body c__law_body k__law_body
  have F_law := fun_mk (st := s_law) l_law c_law k_law
  have FI_BadText := fun_mk (st := i_BadText) li_BadText ci_BadText ki_BadText
  have FI_BadProgram := fun_mk (st := i_BadProgram) li_BadProgram ci_BadProgram ki_BadProgram
  have X_BadText : ExcF K C_BadText g_BadText "place" :=
    { oex := ⟨⟨_, _, _, _, _, _, _, _, _, _, _, _, _, _, _, xL_BadText, refs_joint⟩, sa_BadText, eC_BadText, tC_BadText, kC_BadText⟩, xf := ⟨ga_BadText, gg_BadText, eC_BadText, hC_BadText⟩, nf := nf_BadText, sC := exm_self eC_BadText iC_BadText tC_BadText sC_BadText, cls := iC_BadText, cc := cc_BadText, mo := mo_BadText, ini := in_BadText, tyI := ti_BadText }
  have X_BadProgram : ExcF K C_BadProgram g_BadProgram "row" :=
    { oex := ⟨⟨_, _, _, _, _, _, _, _, _, _, _, _, _, _, _, xL_BadProgram, refs_joint⟩, sa_BadProgram, eC_BadProgram, tC_BadProgram, kC_BadProgram⟩, xf := ⟨ga_BadProgram, gg_BadProgram, eC_BadProgram, hC_BadProgram⟩, nf := nf_BadProgram, sC := exm_self eC_BadProgram iC_BadProgram tC_BadProgram sC_BadProgram, cls := iC_BadProgram, cc := cc_BadProgram, mo := mo_BadProgram, ini := in_BadProgram, tyI := ti_BadProgram }
  have kq : ∀ z : Str, PySem.W.nsIn K F_d z = some ((formAt a z).map Value.ref) := fun z => by
    have sy : ∀ {x : Str}, (x = z) = (z = x) := fun {x} => propext ⟨Eq.symm, Eq.symm⟩
    unfold PySem.W.nsIn
    rw [l_FORMS]
    show (match (_ : List DictEntry).find? (fun e => e.key.isStr z) with
      | some e => some (some e.val)
      | none => if _ then none else some none) = _
    rw [ns_cons, ns_cons, ns_cons, ns_cons, ns_cons, ns_cons]
    unfold formAt
    simp only [sy]
    by_cases h1 : z = "put"
    · rw [if_pos h1, if_pos h1]; rfl
    rw [if_neg h1, if_neg h1]
    by_cases h2 : z = "number"
    · rw [if_pos h2, if_pos h2]; rfl
    rw [if_neg h2, if_neg h2]
    by_cases h3 : z = "add"
    · rw [if_pos h3, if_pos h3]; rfl
    rw [if_neg h3, if_neg h3]
    by_cases h4 : z = "less"
    · rw [if_pos h4, if_pos h4]; rfl
    rw [if_neg h4, if_neg h4]
    by_cases h5 : z = "times"
    · rw [if_pos h5, if_pos h5]; rfl
    rw [if_neg h5, if_neg h5]
    by_cases h6 : z = "scale"
    · rw [if_pos h6, if_pos h6]; rfl
    rw [if_neg h6, if_neg h6]
    rfl
  have T : Txt K mg w a := {
    z_all := PySem.W.mg_none_of KX G z_all,
    z_abs := PySem.W.mg_none_of KX G z_abs,
    z_enumerate := PySem.W.mg_none_of KX G z_enumerate,
    z_int := PySem.W.mg_none_of KX G z_int,
    z_isinstance := PySem.W.mg_none_of KX G z_isinstance,
    z_len := PySem.W.mg_none_of KX G z_len,
    z_list := PySem.W.mg_none_of KX G z_list,
    z_max := PySem.W.mg_none_of KX G z_max,
    z_min := PySem.W.mg_none_of KX G z_min,
    z_range := PySem.W.mg_none_of KX G z_range,
    z_str := PySem.W.mg_none_of KX G z_str,
    z_tuple := PySem.W.mg_none_of KX G z_tuple,
    z_zip := PySem.W.mg_none_of KX G z_zip,
    z_bool := PySem.W.mg_none_of KX G z_bool,
    z_ValueError := PySem.W.mg_none_of KX G z_ValueError,
    a_is_integer := PySem.W.mg_of KX G a_is_integer,
    k_is_integer := k_is_integer,
    F_is_integer := ⟨_, F_is_integer, F_is_integer.binds (ps := ["value"]) fun _ _ _ _ _ _ us hl => match us, hl with | [_], _ => rfl⟩,
    a_is_listed := PySem.W.mg_of KX G a_is_listed,
    k_is_listed := k_is_listed,
    F_is_listed := ⟨_, F_is_listed, F_is_listed.binds (ps := ["values"]) fun _ _ _ _ _ _ us hl => match us, hl with | [_], _ => rfl⟩,
    a_are_people := PySem.W.mg_of KX G a_are_people,
    k_are_people := k_are_people,
    F_are_people := ⟨_, F_are_people, F_are_people.binds (ps := ["value", "n"]) fun _ _ _ _ _ _ us hl => match us, hl with | [_, _], _ => rfl⟩,
    a_is_constant := PySem.W.mg_of KX G a_is_constant,
    k_is_constant := k_is_constant,
    F_is_constant := ⟨_, F_is_constant, F_is_constant.binds (ps := ["value"]) fun _ _ _ _ _ _ us hl => match us, hl with | [_], _ => rfl⟩,
    a_is_earlier := PySem.W.mg_of KX G a_is_earlier,
    k_is_earlier := k_is_earlier,
    F_is_earlier := ⟨_, F_is_earlier, F_is_earlier.binds (ps := ["program", "number", "value"]) fun _ _ _ _ _ _ us hl => match us, hl with | [_, _, _], _ => rfl⟩,
    a_is_right := PySem.W.mg_of KX G a_is_right,
    k_is_right := k_is_right,
    F_is_right := ⟨_, F_is_right, F_is_right.binds (ps := ["program", "number", "n"]) fun _ _ _ _ _ _ us hl => match us, hl with | [_, _, _], _ => rfl⟩,
    a_check_program := PySem.W.mg_of KX G a_check_program,
    k_check_program := k_check_program,
    F_check_program := ⟨_, F_check_program, F_check_program.binds (ps := ["program", "n"]) fun _ _ _ _ _ _ us hl => match us, hl with | [_, _], _ => rfl⟩,
    a_number_told := PySem.W.mg_of KX G a_number_told,
    k_number_told := k_number_told,
    F_number_told := ⟨_, F_number_told, F_number_told.binds (ps := ["word"]) fun _ _ _ _ _ _ us hl => match us, hl with | [_], _ => rfl⟩,
    a_numbers_told := PySem.W.mg_of KX G a_numbers_told,
    k_numbers_told := k_numbers_told,
    F_numbers_told := ⟨_, F_numbers_told, F_numbers_told.binds (ps := ["words", "kinds"]) fun _ _ _ _ _ _ us hl => match us, hl with | [_, _], _ => rfl⟩,
    a_row_told := PySem.W.mg_of KX G a_row_told,
    k_row_told := k_row_told,
    F_row_told := ⟨_, F_row_told, F_row_told.binds (ps := ["line"]) fun _ _ _ _ _ _ us hl => match us, hl with | [_], _ => rfl⟩,
    a_read_program := PySem.W.mg_of KX G a_read_program,
    k_read_program := k_read_program,
    F_read_program := ⟨_, F_read_program, F_read_program.binds (ps := ["text"]) fun _ _ _ _ _ _ us hl => match us, hl with | [_], _ => rfl⟩,
    a_write_program := PySem.W.mg_of KX G a_write_program,
    k_write_program := k_write_program,
    F_write_program := ⟨_, F_write_program, F_write_program.binds (ps := ["program"]) fun _ _ _ _ _ _ us hl => match us, hl with | [_], _ => rfl⟩,
    a__law_integer := PySem.W.mg_of KX G a__law_integer,
    k__law_integer := k__law_integer,
    F__law_integer := ⟨_, F__law_integer, F__law_integer.binds (ps := ["_law_value"]) fun _ _ _ _ _ _ us hl => match us, hl with | [_], _ => rfl⟩,
    a__law_start := PySem.W.mg_of KX G a__law_start,
    k__law_start := k__law_start,
    F__law_start := ⟨_, F__law_start, F__law_start.binds (ps := ["_law_script"]) fun _ _ _ _ _ _ us hl => match us, hl with | [_], _ => rfl⟩,
    a__law_draw := PySem.W.mg_of KX G a__law_draw,
    k__law_draw := k__law_draw,
    F__law_draw := ⟨_, F__law_draw, F__law_draw.binds (ps := ["_law_state", "_law_limit"]) fun _ _ _ _ _ _ us hl => match us, hl with | [_, _], _ => rfl⟩,
    a__law_wide := PySem.W.mg_of KX G a__law_wide,
    k__law_wide := k__law_wide,
    F__law_wide := ⟨_, F__law_wide, F__law_wide.binds (ps := ["_law_state"]) fun _ _ _ _ _ _ us hl => match us, hl with | [_], _ => rfl⟩,
    a__law_people := PySem.W.mg_of KX G a__law_people,
    k__law_people := k__law_people,
    F__law_people := ⟨_, F__law_people, F__law_people.binds (ps := ["_law_state", "_law_n"]) fun _ _ _ _ _ _ us hl => match us, hl with | [_, _], _ => rfl⟩,
    a__law_constant := PySem.W.mg_of KX G a__law_constant,
    k__law_constant := k__law_constant,
    F__law_constant := ⟨_, F__law_constant, F__law_constant.binds (ps := ["_law_state"]) fun _ _ _ _ _ _ us hl => match us, hl with | [_], _ => rfl⟩,
    a__law_program := PySem.W.mg_of KX G a__law_program,
    k__law_program := k__law_program,
    F__law_program := ⟨_, F__law_program, F__law_program.binds (ps := ["_law_state", "_law_n", "_law_most"]) fun _ _ _ _ _ _ us hl => match us, hl with | [_, _, _], _ => rfl⟩,
    a__law_kinds := PySem.W.mg_of KX G a__law_kinds,
    k__law_kinds := k__law_kinds,
    F__law_kinds := ⟨_, F__law_kinds, F__law_kinds.binds (ps := ["_law_error"]) fun _ _ _ _ _ _ us hl => match us, hl with | [_], _ => rfl⟩,
    a__law_only := PySem.W.mg_of KX G a__law_only,
    k__law_only := k__law_only,
    F__law_only := ⟨_, F__law_only, F__law_only.binds (ps := ["_law_error", "_law_at"]) fun _ _ _ _ _ _ us hl => match us, hl with | [_, _], _ => rfl⟩,
    a__law_row_right := PySem.W.mg_of KX G a__law_row_right,
    k__law_row_right := k__law_row_right,
    F__law_row_right := ⟨_, F__law_row_right, F__law_row_right.binds (ps := ["_law_row", "_law_at", "_law_tells", "_law_n"]) fun _ _ _ _ _ _ us hl => match us, hl with | [_, _, _, _], _ => rfl⟩,
    a__law_fault := PySem.W.mg_of KX G a__law_fault,
    k__law_fault := k__law_fault,
    F__law_fault := ⟨_, F__law_fault, F__law_fault.binds (ps := ["_law_program_here", "_law_n"]) fun _ _ _ _ _ _ us hl => match us, hl with | [_, _], _ => rfl⟩,
    a__law_odd := PySem.W.mg_of KX G a__law_odd,
    k__law_odd := k__law_odd,
    F__law_odd := ⟨_, F__law_odd, F__law_odd.binds (ps := ["_law_state"]) fun _ _ _ _ _ _ us hl => match us, hl with | [_], _ => rfl⟩,
    a__law_bad_row := PySem.W.mg_of KX G a__law_bad_row,
    k__law_bad_row := k__law_bad_row,
    F__law_bad_row := ⟨_, F__law_bad_row, F__law_bad_row.binds (ps := ["_law_state", "_law_program_here", "_law_at", "_law_n"]) fun _ _ _ _ _ _ us hl => match us, hl with | [_, _, _, _], _ => rfl⟩,
    a__law_spoilt := PySem.W.mg_of KX G a__law_spoilt,
    k__law_spoilt := k__law_spoilt,
    F__law_spoilt := ⟨_, F__law_spoilt, F__law_spoilt.binds (ps := ["_law_state", "_law_program_here", "_law_n"]) fun _ _ _ _ _ _ us hl => match us, hl with | [_, _, _], _ => rfl⟩,
    a__law_digits := PySem.W.mg_of KX G a__law_digits,
    k__law_digits := k__law_digits,
    F__law_digits := ⟨_, F__law_digits, F__law_digits.binds (ps := ["_law_word", "_law_signed"]) fun _ _ _ _ _ _ us hl => match us, hl with | [_, _], _ => rfl⟩,
    a__law_line := PySem.W.mg_of KX G a__law_line,
    k__law_line := k__law_line,
    F__law_line := ⟨_, F__law_line, F__law_line.binds (ps := ["_law_line_here"]) fun _ _ _ _ _ _ us hl => match us, hl with | [_], _ => rfl⟩,
    a__law_read := PySem.W.mg_of KX G a__law_read,
    k__law_read := k__law_read,
    F__law_read := ⟨_, F__law_read, F__law_read.binds (ps := ["_law_text"]) fun _ _ _ _ _ _ us hl => match us, hl with | [_], _ => rfl⟩,
    a__law_same := PySem.W.mg_of KX G a__law_same,
    k__law_same := k__law_same,
    F__law_same := ⟨_, F__law_same, F__law_same.binds (ps := ["_law_got", "_law_due"]) fun _ _ _ _ _ _ us hl => match us, hl with | [_, _], _ => rfl⟩,
    a__law_read_is := PySem.W.mg_of KX G a__law_read_is,
    k__law_read_is := k__law_read_is,
    F__law_read_is := ⟨_, F__law_read_is, F__law_read_is.binds (ps := ["_law_text"]) fun _ _ _ _ _ _ us hl => match us, hl with | [_], _ => rfl⟩,
    a__law_written := PySem.W.mg_of KX G a__law_written,
    k__law_written := k__law_written,
    F__law_written := ⟨_, F__law_written, F__law_written.binds (ps := ["_law_program_here"]) fun _ _ _ _ _ _ us hl => match us, hl with | [_], _ => rfl⟩,
    a__law_number := PySem.W.mg_of KX G a__law_number,
    k__law_number := k__law_number,
    F__law_number := ⟨_, F__law_number, F__law_number.binds (ps := ["_law_state"]) fun _ _ _ _ _ _ us hl => match us, hl with | [_], _ => rfl⟩,
    a__law_any_rows := PySem.W.mg_of KX G a__law_any_rows,
    k__law_any_rows := k__law_any_rows,
    F__law_any_rows := ⟨_, F__law_any_rows, F__law_any_rows.binds (ps := ["_law_state"]) fun _ _ _ _ _ _ us hl => match us, hl with | [_], _ => rfl⟩,
    a__law_changed := PySem.W.mg_of KX G a__law_changed,
    k__law_changed := k__law_changed,
    F__law_changed := ⟨_, F__law_changed, F__law_changed.binds (ps := ["_law_state", "_law_text"]) fun _ _ _ _ _ _ us hl => match us, hl with | [_, _], _ => rfl⟩,
    a__law_write_is := PySem.W.mg_of KX G a__law_write_is,
    k__law_write_is := k__law_write_is,
    F__law_write_is := ⟨_, F__law_write_is, F__law_write_is.binds (ps := ["_law_program_here"]) fun _ _ _ _ _ _ us hl => match us, hl with | [_], _ => rfl⟩,
    a__law_body := PySem.W.mg_of KX G a__law_body,
    k__law_body := k__law_body,
    F__law_body := ⟨_, F__law_body, F__law_body.binds (ps := ["_law_script"]) fun _ _ _ _ _ _ us hl => match us, hl with | [_], _ => rfl⟩,
    a_law := PySem.W.mg_of KX G a_law,
    k_law := k_law,
    F_law := ⟨_, F_law, F_law.binds (ps := ["_law_script"]) fun _ _ _ _ _ _ us hl => match us, hl with | [_], _ => rfl⟩,
    A_JointError := PySem.W.mg_of KX G A_JointError,
    A_BadStructure := PySem.W.mg_of KX G A_BadStructure,
    A_BadModulus := PySem.W.mg_of KX G A_BadModulus,
    A_BadInputs := PySem.W.mg_of KX G A_BadInputs,
    A_BadCoins := PySem.W.mg_of KX G A_BadCoins,
    A_BadGroup := PySem.W.mg_of KX G A_BadGroup,
    A_BadLies := PySem.W.mg_of KX G A_BadLies,
    A_BadTurn := PySem.W.mg_of KX G A_BadTurn,
    A_BadTalk := PySem.W.mg_of KX G A_BadTalk,
    A_BadTable := PySem.W.mg_of KX G A_BadTable,
    A_BadProgram := PySem.W.mg_of KX G A_BadProgram,
    A_BadText := PySem.W.mg_of KX G A_BadText,
    X_BadText := X_BadText,
    I_BadText := ⟨_, FI_BadText, FI_BadText.binds (ps := ["self", "place"]) fun _ _ _ _ _ _ us hl => match us, hl with | [_, _], _ => rfl⟩,
    is_BadText_JointError := is_BadText_JointError,
    is_BadText_BadStructure := is_BadText_BadStructure,
    is_BadText_BadModulus := is_BadText_BadModulus,
    is_BadText_BadInputs := is_BadText_BadInputs,
    is_BadText_BadCoins := is_BadText_BadCoins,
    is_BadText_BadGroup := is_BadText_BadGroup,
    is_BadText_BadLies := is_BadText_BadLies,
    is_BadText_BadTurn := is_BadText_BadTurn,
    is_BadText_BadTalk := is_BadText_BadTalk,
    is_BadText_BadTable := is_BadText_BadTable,
    is_BadText_BadProgram := is_BadText_BadProgram,
    is_BadText_BadText := is_BadText_BadText,
    is_BadText_VE := is_BadText_VE,
    X_BadProgram := X_BadProgram,
    I_BadProgram := ⟨_, FI_BadProgram, FI_BadProgram.binds (ps := ["self", "row"]) fun _ _ _ _ _ _ us hl => match us, hl with | [_, _], _ => rfl⟩,
    is_BadProgram_JointError := is_BadProgram_JointError,
    is_BadProgram_BadStructure := is_BadProgram_BadStructure,
    is_BadProgram_BadModulus := is_BadProgram_BadModulus,
    is_BadProgram_BadInputs := is_BadProgram_BadInputs,
    is_BadProgram_BadCoins := is_BadProgram_BadCoins,
    is_BadProgram_BadGroup := is_BadProgram_BadGroup,
    is_BadProgram_BadLies := is_BadProgram_BadLies,
    is_BadProgram_BadTurn := is_BadProgram_BadTurn,
    is_BadProgram_BadTalk := is_BadProgram_BadTalk,
    is_BadProgram_BadTable := is_BadProgram_BadTable,
    is_BadProgram_BadProgram := is_BadProgram_BadProgram,
    is_BadProgram_BadText := is_BadProgram_BadText,
    is_BadProgram_VE := is_BadProgram_VE,
    sp_class := sp_class,
    tk_class := tk_class,
    g_MOST_PEOPLE := PySem.W.mg_of KX G g_MOST_PEOPLE,
    g_MOST_ROWS := PySem.W.mg_of KX G g_MOST_ROWS,
    g_MOST_FIGURES := PySem.W.mg_of KX G g_MOST_FIGURES,
    g_FIGURES := PySem.W.mg_of KX G g_FIGURES,
    g_FORMS := PySem.W.mg_of KX G g_FORMS,
    kd := ⟨l_FORMS, ⟨⟨_, _, rfl, rfl⟩, ⟨_, _, rfl, rfl⟩, ⟨_, _, rfl, rfl⟩, ⟨_, _, rfl, rfl⟩, ⟨_, _, rfl, rfl⟩, ⟨_, _, rfl, rfl⟩, trivial⟩, low_FORMS⟩,
    kq := kq,
    kt_put := kt_one lt_put,
    kt_number := kt_one lt_number,
    kt_add := kt_two lt_add,
    kt_less := kt_two lt_less,
    kt_times := kt_two lt_times,
    kt_scale := kt_two lt_scale }
  exact ⟨_, fun s u => .of_eq rfl, fun base _ _ => law_at (P := P0) (base := base) F_law T⟩
end K17
open PySem PySem.W PyProof.Rows
set_option maxRecDepth 100000 in
set_option maxHeartbeats 40000000 in
theorem PySem.Challenge.cw_jointhands_k17_texts_holds : PySem.Challenge.rw_jointhands_k17_texts.Holds := by
  w_on; o_law; k_head; (case hw => w_witness2)
  k_fill
  refine L2.walk_ofK (l := PySem.Challenge.rw_jointhands_k17_texts) (n := 63) (k := 9) (x := "_law_script") (CX := L2.CX0) (sp := K17.spLaw) rfl (by decide) rfl ⟨rfl, by decide, by decide⟩ (fun w h Y => PySem.W.kIn_of Y) ?F (fun _ _ a ns _ _ hS => ⟨a, ns, rfl, hS, fun _ => rfl⟩) (fun _ _ _ _ h => h)
  case F =>
    intro w mg fa h KX G hmg
    refine' K17.all_mk rfl KX G hmg ?a_is_integer ?l_is_integer ?c_is_integer ?k_is_integer ?a_is_listed ?l_is_listed ?c_is_listed ?k_is_listed ?a_are_people ?l_are_people ?c_are_people ?k_are_people ?a_is_constant ?l_is_constant ?c_is_constant ?k_is_constant ?a_is_earlier ?l_is_earlier ?c_is_earlier ?k_is_earlier ?a_is_right ?l_is_right ?c_is_right ?k_is_right ?a_check_program ?l_check_program ?c_check_program ?k_check_program ?a_number_told ?l_number_told ?c_number_told ?k_number_told ?a_numbers_told ?l_numbers_told ?c_numbers_told ?k_numbers_told ?a_row_told ?l_row_told ?c_row_told ?k_row_told ?a_read_program ?l_read_program ?c_read_program ?k_read_program ?a_write_program ?l_write_program ?c_write_program ?k_write_program ?a__law_integer ?l__law_integer ?c__law_integer ?k__law_integer ?a__law_start ?l__law_start ?c__law_start ?k__law_start ?a__law_draw ?l__law_draw ?c__law_draw ?k__law_draw ?a__law_wide ?l__law_wide ?c__law_wide ?k__law_wide ?a__law_people ?l__law_people ?c__law_people ?k__law_people ?a__law_constant ?l__law_constant ?c__law_constant ?k__law_constant ?a__law_program ?l__law_program ?c__law_program ?k__law_program ?a__law_kinds ?l__law_kinds ?c__law_kinds ?k__law_kinds ?a__law_only ?l__law_only ?c__law_only ?k__law_only ?a__law_row_right ?l__law_row_right ?c__law_row_right ?k__law_row_right ?a__law_fault ?l__law_fault ?c__law_fault ?k__law_fault ?a__law_odd ?l__law_odd ?c__law_odd ?k__law_odd ?a__law_bad_row ?l__law_bad_row ?c__law_bad_row ?k__law_bad_row ?a__law_spoilt ?l__law_spoilt ?c__law_spoilt ?k__law_spoilt ?a__law_digits ?l__law_digits ?c__law_digits ?k__law_digits ?a__law_line ?l__law_line ?c__law_line ?k__law_line ?a__law_read ?l__law_read ?c__law_read ?k__law_read ?a__law_same ?l__law_same ?c__law_same ?k__law_same ?a__law_read_is ?l__law_read_is ?c__law_read_is ?k__law_read_is ?a__law_written ?l__law_written ?c__law_written ?k__law_written ?a__law_number ?l__law_number ?c__law_number ?k__law_number ?a__law_any_rows ?l__law_any_rows ?c__law_any_rows ?k__law_any_rows ?a__law_changed ?l__law_changed ?c__law_changed ?k__law_changed ?a__law_write_is ?l__law_write_is ?c__law_write_is ?k__law_write_is ?a__law_body ?l__law_body ?c__law_body ?k__law_body ?a_law ?l_law ?c_law ?k_law ?A_JointError ?A_BadStructure ?A_BadModulus ?A_BadInputs ?A_BadCoins ?A_BadGroup ?A_BadLies ?A_BadTurn ?A_BadTalk ?A_BadTable ?A_BadProgram ?A_BadText ?xL_BadText ?sa_BadText ?ga_BadText ?gg_BadText ?nf_BadText ?eC_BadText ?tC_BadText ?kC_BadText ?hC_BadText ?iC_BadText ?sC_BadText ?cc_BadText ?mo_BadText ?in_BadText ?ti_BadText ?li_BadText ?ci_BadText ?ki_BadText ?is_BadText_JointError ?is_BadText_BadStructure ?is_BadText_BadModulus ?is_BadText_BadInputs ?is_BadText_BadCoins ?is_BadText_BadGroup ?is_BadText_BadLies ?is_BadText_BadTurn ?is_BadText_BadTalk ?is_BadText_BadTable ?is_BadText_BadProgram ?is_BadText_BadText ?is_BadText_VE ?xL_BadProgram ?sa_BadProgram ?ga_BadProgram ?gg_BadProgram ?nf_BadProgram ?eC_BadProgram ?tC_BadProgram ?kC_BadProgram ?hC_BadProgram ?iC_BadProgram ?sC_BadProgram ?cc_BadProgram ?mo_BadProgram ?in_BadProgram ?ti_BadProgram ?li_BadProgram ?ci_BadProgram ?ki_BadProgram ?is_BadProgram_JointError ?is_BadProgram_BadStructure ?is_BadProgram_BadModulus ?is_BadProgram_BadInputs ?is_BadProgram_BadCoins ?is_BadProgram_BadGroup ?is_BadProgram_BadLies ?is_BadProgram_BadTurn ?is_BadProgram_BadTalk ?is_BadProgram_BadTable ?is_BadProgram_BadProgram ?is_BadProgram_BadText ?is_BadProgram_VE ?sp_class ?tk_class ?z_all ?z_abs ?z_enumerate ?z_int ?z_isinstance ?z_len ?z_list ?z_max ?z_min ?z_range ?z_str ?z_tuple ?z_zip ?z_bool ?z_ValueError ?g_MOST_PEOPLE ?g_MOST_ROWS ?g_MOST_FIGURES ?g_FIGURES ?g_FORMS ?l_FORMS ?low_FORMS ?lt_put ?lt_number ?lt_add ?lt_less ?lt_times ?lt_scale
    (case a_is_integer => k_is)
    (case l_is_integer => k_is)
    (case c_is_integer => k_is)
    (case k_is_integer => k_is)
    (case a_is_listed => k_is)
    (case l_is_listed => k_is)
    (case c_is_listed => k_is)
    (case k_is_listed => k_is)
    (case a_are_people => k_is)
    (case l_are_people => k_is)
    (case c_are_people => k_is)
    (case k_are_people => k_is)
    (case a_is_constant => k_is)
    (case l_is_constant => k_is)
    (case c_is_constant => k_is)
    (case k_is_constant => k_is)
    (case a_is_earlier => k_is)
    (case l_is_earlier => k_is)
    (case c_is_earlier => k_is)
    (case k_is_earlier => k_is)
    (case a_is_right => k_is)
    (case l_is_right => k_is)
    (case c_is_right => k_is)
    (case k_is_right => k_is)
    (case a_check_program => k_is)
    (case l_check_program => k_is)
    (case c_check_program => k_is)
    (case k_check_program => k_is)
    (case a_number_told => k_is)
    (case l_number_told => k_is)
    (case c_number_told => k_is)
    (case k_number_told => k_is)
    (case a_numbers_told => k_is)
    (case l_numbers_told => k_is)
    (case c_numbers_told => k_is)
    (case k_numbers_told => k_is)
    (case a_row_told => k_is)
    (case l_row_told => k_is)
    (case c_row_told => k_is)
    (case k_row_told => k_is)
    (case a_read_program => k_is)
    (case l_read_program => k_is)
    (case c_read_program => k_is)
    (case k_read_program => k_is)
    (case a_write_program => k_is)
    (case l_write_program => k_is)
    (case c_write_program => k_is)
    (case k_write_program => k_is)
    (case a__law_integer => k_is)
    (case l__law_integer => k_is)
    (case c__law_integer => k_is)
    (case k__law_integer => k_is)
    (case a__law_start => k_is)
    (case l__law_start => k_is)
    (case c__law_start => k_is)
    (case k__law_start => k_is)
    (case a__law_draw => k_is)
    (case l__law_draw => k_is)
    (case c__law_draw => k_is)
    (case k__law_draw => k_is)
    (case a__law_wide => k_is)
    (case l__law_wide => k_is)
    (case c__law_wide => k_is)
    (case k__law_wide => k_is)
    (case a__law_people => k_is)
    (case l__law_people => k_is)
    (case c__law_people => k_is)
    (case k__law_people => k_is)
    (case a__law_constant => k_is)
    (case l__law_constant => k_is)
    (case c__law_constant => k_is)
    (case k__law_constant => k_is)
    (case a__law_program => k_is)
    (case l__law_program => k_is)
    (case c__law_program => k_is)
    (case k__law_program => k_is)
    (case a__law_kinds => k_is)
    (case l__law_kinds => k_is)
    (case c__law_kinds => k_is)
    (case k__law_kinds => k_is)
    (case a__law_only => k_is)
    (case l__law_only => k_is)
    (case c__law_only => k_is)
    (case k__law_only => k_is)
    (case a__law_row_right => k_is)
    (case l__law_row_right => k_is)
    (case c__law_row_right => k_is)
    (case k__law_row_right => k_is)
    (case a__law_fault => k_is)
    (case l__law_fault => k_is)
    (case c__law_fault => k_is)
    (case k__law_fault => k_is)
    (case a__law_odd => k_is)
    (case l__law_odd => k_is)
    (case c__law_odd => k_is)
    (case k__law_odd => k_is)
    (case a__law_bad_row => k_is)
    (case l__law_bad_row => k_is)
    (case c__law_bad_row => k_is)
    (case k__law_bad_row => k_is)
    (case a__law_spoilt => k_is)
    (case l__law_spoilt => k_is)
    (case c__law_spoilt => k_is)
    (case k__law_spoilt => k_is)
    (case a__law_digits => k_is)
    (case l__law_digits => k_is)
    (case c__law_digits => k_is)
    (case k__law_digits => k_is)
    (case a__law_line => k_is)
    (case l__law_line => k_is)
    (case c__law_line => k_is)
    (case k__law_line => k_is)
    (case a__law_read => k_is)
    (case l__law_read => k_is)
    (case c__law_read => k_is)
    (case k__law_read => k_is)
    (case a__law_same => k_is)
    (case l__law_same => k_is)
    (case c__law_same => k_is)
    (case k__law_same => k_is)
    (case a__law_read_is => k_is)
    (case l__law_read_is => k_is)
    (case c__law_read_is => k_is)
    (case k__law_read_is => k_is)
    (case a__law_written => k_is)
    (case l__law_written => k_is)
    (case c__law_written => k_is)
    (case k__law_written => k_is)
    (case a__law_number => k_is)
    (case l__law_number => k_is)
    (case c__law_number => k_is)
    (case k__law_number => k_is)
    (case a__law_any_rows => k_is)
    (case l__law_any_rows => k_is)
    (case c__law_any_rows => k_is)
    (case k__law_any_rows => k_is)
    (case a__law_changed => k_is)
    (case l__law_changed => k_is)
    (case c__law_changed => k_is)
    (case k__law_changed => k_is)
    (case a__law_write_is => k_is)
    (case l__law_write_is => k_is)
    (case c__law_write_is => k_is)
    (case k__law_write_is => k_is)
    (case a__law_body => k_is)
    (case l__law_body => k_is)
    (case c__law_body => k_is)
    (case k__law_body => k_is)
    (case a_law => k_is)
    (case l_law => k_is)
    (case c_law => k_is)
    (case k_law => k_is)
    (case A_JointError => k_is)
    (case A_BadStructure => k_is)
    (case A_BadModulus => k_is)
    (case A_BadInputs => k_is)
    (case A_BadCoins => k_is)
    (case A_BadGroup => k_is)
    (case A_BadLies => k_is)
    (case A_BadTurn => k_is)
    (case A_BadTalk => k_is)
    (case A_BadTable => k_is)
    (case A_BadProgram => k_is)
    (case A_BadText => k_is)
    (case xL_BadText => k_is)
    (case sa_BadText => k_is)
    (case ga_BadText => k_is)
    (case gg_BadText => k_is)
    (case nf_BadText => k_is)
    (case eC_BadText => k_is)
    (case tC_BadText => k_is)
    (case kC_BadText => k_is)
    (case hC_BadText => k_is)
    (case iC_BadText => k_is)
    (case sC_BadText => k_is)
    (case cc_BadText => k_is)
    (case mo_BadText => k_is)
    (case in_BadText => k_is)
    (case ti_BadText => k_is)
    (case li_BadText => k_is)
    (case ci_BadText => k_is)
    (case ki_BadText => k_is)
    (case is_BadText_JointError => rfl)
    (case is_BadText_BadStructure => rfl)
    (case is_BadText_BadModulus => rfl)
    (case is_BadText_BadInputs => rfl)
    (case is_BadText_BadCoins => rfl)
    (case is_BadText_BadGroup => rfl)
    (case is_BadText_BadLies => rfl)
    (case is_BadText_BadTurn => rfl)
    (case is_BadText_BadTalk => rfl)
    (case is_BadText_BadTable => rfl)
    (case is_BadText_BadProgram => rfl)
    (case is_BadText_BadText => rfl)
    (case is_BadText_VE => rfl)
    (case xL_BadProgram => k_is)
    (case sa_BadProgram => k_is)
    (case ga_BadProgram => k_is)
    (case gg_BadProgram => k_is)
    (case nf_BadProgram => k_is)
    (case eC_BadProgram => k_is)
    (case tC_BadProgram => k_is)
    (case kC_BadProgram => k_is)
    (case hC_BadProgram => k_is)
    (case iC_BadProgram => k_is)
    (case sC_BadProgram => k_is)
    (case cc_BadProgram => k_is)
    (case mo_BadProgram => k_is)
    (case in_BadProgram => k_is)
    (case ti_BadProgram => k_is)
    (case li_BadProgram => k_is)
    (case ci_BadProgram => k_is)
    (case ki_BadProgram => k_is)
    (case is_BadProgram_JointError => rfl)
    (case is_BadProgram_BadStructure => rfl)
    (case is_BadProgram_BadModulus => rfl)
    (case is_BadProgram_BadInputs => rfl)
    (case is_BadProgram_BadCoins => rfl)
    (case is_BadProgram_BadGroup => rfl)
    (case is_BadProgram_BadLies => rfl)
    (case is_BadProgram_BadTurn => rfl)
    (case is_BadProgram_BadTalk => rfl)
    (case is_BadProgram_BadTable => rfl)
    (case is_BadProgram_BadProgram => rfl)
    (case is_BadProgram_BadText => rfl)
    (case is_BadProgram_VE => rfl)
    (case sp_class => k_is)
    (case tk_class => k_is)
    (case z_all => k_is)
    (case z_abs => k_is)
    (case z_enumerate => k_is)
    (case z_int => k_is)
    (case z_isinstance => k_is)
    (case z_len => k_is)
    (case z_list => k_is)
    (case z_max => k_is)
    (case z_min => k_is)
    (case z_range => k_is)
    (case z_str => k_is)
    (case z_tuple => k_is)
    (case z_zip => k_is)
    (case z_bool => k_is)
    (case z_ValueError => k_is)
    (case g_MOST_PEOPLE => k_is)
    (case g_MOST_ROWS => k_is)
    (case g_MOST_FIGURES => k_is)
    (case g_FIGURES => k_is)
    (case g_FORMS => k_is)
    (case l_FORMS => k_is)
    (case low_FORMS => first | rfl | decide)
    (case lt_put => k_is)
    (case lt_number => k_is)
    (case lt_add => k_is)
    (case lt_less => k_is)
    (case lt_times => k_is)
    (case lt_scale => k_is)
