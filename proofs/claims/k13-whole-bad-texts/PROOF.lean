import PyProof.Rows.All
import Wide.All
import OpenK.AllK
import Wide.FinOn
import HandS.Codes
import KE.KExcSuper
import HandS.ForExc
import HandS.ExcInit
import HandS.ExcField
import HandS.ExcIs
import HandS.ForMost
import HandS.Walk
import HandS.WordsExc
import PyProof.Rows.SortShellAny
import HandS.Flow
import HandS.Style
import HandS.TupAny
import HandS.RaiseMore
import HandS.StrMore
import HandS.Wide
import KE.GoesZip
import KE.GoesMore
import HandS.Star
import HandS.ClsMeth
import PyProof.Rows.StrMul
import HandS.HeadHook1
import HandS.HeadHook2
import KE.KStateDown
import HandS.Head0
import HandS.Head1
import HandS.Head2
import HandS.HeadEnd
import HandS.HeadNt
import PySem.Challenge.RW_growingrecords_k13_whole_bad_texts
set_option Elab.async false
set_option linter.all false
set_option maxRecDepth 100000
set_option maxHeartbeats 4000000
/-! The grammar's stack machine, in plain Lean. -/
namespace GR
open PySem PySem.Spec PyProof.Rows L2
abbrev Row3 := Str × Str × Str
def r3 (a b c : String) : Row3 := (Str.ofString a, Str.ofString b, Str.ofString c)
def chart : List Row3 := [r3 "program" "def" "definition more", r3 "more" "def" "definition more", r3 "more" "end" "", r3 "definition" "def" "def NAME ( parameters ) = expr", r3 "parameters" "NAME" "NAME parameters2", r3 "parameters" "*" "", r3 "parameters2" "," ", NAME parameters2", r3 "parameters2" "*" "", r3 "expr" "let" "let NAME = expr in expr", r3 "expr" "if" "if test tests then expr else expr", r3 "expr" "*" "chain", r3 "tests" "and" "and test tests", r3 "tests" "*" "", r3 "test" "not" "not test", r3 "test" "*" "chain ask", r3 "ask" "has" "has NAME", r3 "ask" "is" "is record", r3 "chain" "*" "part chain2", r3 "chain2" "sign" "sign part chain2", r3 "chain2" "*" "", r3 "part" "*" "base steps", r3 "steps" "." ". NAME steps", r3 "steps" "[" "[ change changes ] steps", r3 "steps" "*" "", r3 "changes" "," ", change changes", r3 "changes" "*" "", r3 "change" "put" "put NAME = expr", r3 "change" "add" "add NAME = expr", r3 "change" "cut" "cut NAME", r3 "change" "rename" "rename NAME to NAME", r3 "change" "only" "only names", r3 "change" "drop" "drop NAME", r3 "names" "NAME" "NAME names", r3 "names" "*" "", r3 "base" "(" "( expr )", r3 "base" "{" "{ fields }", r3 "base" "NAME" "NAME call", r3 "base" "NUMBER" "NUMBER", r3 "call" "(" "( values )", r3 "call" "*" "", r3 "values" "*" "expr values2", r3 "values" ")" "", r3 "values2" "," ", expr values2", r3 "values2" "*" "", r3 "fields" "NAME" "field fields2", r3 "fields" "*" "", r3 "fields2" "," ", field fields2", r3 "fields2" "*" "", r3 "field" "*" "NAME : expr"]
def kept : List Str := ["add", "and", "cut", "def", "drop", "else", "has", "if", "in", "is", "let", "not", "only", "put", "record", "rename", "then", "to"]
def punct : List Str := ["(", ")", "{", "}", "[", "]", ",", ":", "=", "."]
def signs : List Str := ["|", "+", "-", "&"]
def letters : List Nat := ("abcdefghijklmnopqrstuvwxyz" : Str).cps.toList
def digits : List Nat := ("0123456789" : Str).cps.toList
/-- the first code point, 0 for the empty text -/
def hd (w : Str) : Nat := w.cps.toList.headD 0
def isLet (w : Str) : Bool := decide (w ≠ "") && decide (hd w ∈ letters)
def isDig (w : Str) : Bool := decide (w ≠ "") && decide (hd w ∈ digits)
/-- the kind of a word -/
def kindOf (w : Str) : Str :=
  if w ∈ kept ∨ w ∈ punct then w else if w ∈ signs then "sign" else if hd w ∈ letters ∧ w.length ≤ 8 then "NAME"
  else if hd w ∈ digits ∧ w.length ≤ 30 ∧ (w = "0" ∨ hd w ≠ 48) then "NUMBER" else "bad"
def kd (w : Str) : Str := if w = "" then "end" else kindOf w
def plain (w : Str) : Bool := decide (w ≠ "") && (decide (hd w ∈ letters) && (decide (w.length ≤ 8) && !decide (w ∈ kept)))
def number (w : Str) : Bool := decide (w ≠ "") && (decide (hd w ∈ digits) && (decide (w.length ≤ 30) && decide (w = "0" ∨ hd w ≠ 48)))
def lits : List Str := kept ++ punct
def others : List Str := ["end", "sign", "NAME", "NUMBER", "bad"]
theorem kd_cases (w : Str) : (w ∈ lits ∧ kd w = w) ∨ (w ∉ lits ∧ kd w ∈ others) := by
  unfold kd
  by_cases h0 : w = ""
  · right
    subst h0
    exact ⟨by decide +kernel, by rw [if_pos rfl]; decide +kernel⟩
  · rw [if_neg h0]
    unfold kindOf
    by_cases h1 : w ∈ kept ∨ w ∈ punct
    · rw [if_pos h1]
      exact .inl ⟨List.mem_append.mpr h1, rfl⟩
    · right
      rw [if_neg h1]
      refine ⟨fun z => h1 (List.mem_append.mp z), ?_⟩
      split
      · decide +kernel
      · split
        · decide +kernel
        · split <;> decide +kernel
theorem kd_lit {c w : Str} (hc : c ∈ lits) (ho : c ∉ others := by decide +kernel) : kd w = c ↔ w = c := by
  rcases kd_cases w with ⟨_, h⟩ | ⟨h1, h2⟩
  · rw [h]
  · constructor
    · intro z; rw [z] at h2; exact absurd h2 ho
    · intro z; rw [z] at h1; exact absurd hc h1
theorem kd_ne_star (w : Str) : kd w ≠ "*" := by
  intro z
  rcases kd_cases w with ⟨h1, h2⟩ | ⟨h1, h2⟩
  · rw [h2] at z; rw [z] at h1; exact absurd h1 (by decide +kernel)
  · rw [z] at h2; exact absurd h2 (by decide +kernel)
theorem kd_end {w : Str} : kd w = "end" ↔ w = "" := by
  unfold kd
  by_cases h0 : w = ""
  · rw [if_pos h0]; exact ⟨fun _ => h0, fun _ => rfl⟩
  · rw [if_neg h0]
    refine ⟨fun z => ?_, fun z => absurd z h0⟩
    exfalso
    unfold kindOf at z
    split at z
    · rename_i h
      rw [z] at h
      exact absurd h (by decide +kernel)
    · split at z
      · exact absurd z (by decide +kernel)
      · split at z
        · exact absurd z (by decide +kernel)
        · split at z <;> exact absurd z (by decide +kernel)
theorem kd_sign {w : Str} : kd w = "sign" ↔ w ∈ signs := by
  unfold kd
  by_cases h0 : w = ""
  · rw [if_pos h0]; subst h0; exact ⟨fun z => absurd z (by decide +kernel), fun z => absurd z (by decide +kernel)⟩
  · rw [if_neg h0]
    unfold kindOf
    by_cases h1 : w ∈ kept ∨ w ∈ punct
    · rw [if_pos h1]
      constructor
      · intro z; rw [z] at h1; exact absurd h1 (by decide +kernel)
      · intro z
        have : ∀ x ∈ signs, ¬ (x ∈ kept ∨ x ∈ punct) := by decide +kernel
        exact absurd h1 (this w z)
    · rw [if_neg h1]
      by_cases h2 : w ∈ signs
      · rw [if_pos h2]; exact ⟨fun _ => h2, fun _ => rfl⟩
      · rw [if_neg h2]
        refine ⟨fun z => ?_, fun z => absurd z h2⟩
        exfalso
        split at z
        · exact absurd z (by decide +kernel)
        · split at z <;> exact absurd z (by decide +kernel)
theorem let_not_dig : ∀ c ∈ letters, c ∉ digits := by decide +kernel
theorem kd_name {w : Str} : kd w = "NAME" ↔ plain w = true := by
  unfold kd
  by_cases h0 : w = ""
  · rw [if_pos h0]; subst h0; exact ⟨fun z => absurd z (by decide +kernel), fun z => absurd z (by decide +kernel)⟩
  · rw [if_neg h0]
    unfold kindOf plain
    rw [decide_eq_true h0, Bool.true_and]
    by_cases h1 : w ∈ kept ∨ w ∈ punct
    · rw [if_pos h1]
      constructor
      · intro z; rw [z] at h1; exact absurd h1 (by decide +kernel)
      · intro z
        rcases h1 with h1 | h1
        · rw [decide_eq_true h1] at z; simp at z
        · have : ∀ x ∈ punct, ¬ hd x ∈ letters := by decide +kernel
          rw [decide_eq_false (this w h1)] at z; simp at z
    · rw [if_neg h1]
      have hk : ¬ w ∈ kept := fun z => h1 (.inl z)
      by_cases h2 : w ∈ signs
      · rw [if_pos h2]
        have : ∀ x ∈ signs, ¬ hd x ∈ letters := by decide +kernel
        rw [decide_eq_false (this w h2)]
        exact ⟨fun z => absurd z (by decide +kernel), fun z => by simp at z⟩
      · rw [if_neg h2]
        by_cases h3 : hd w ∈ letters ∧ w.length ≤ 8
        · rw [if_pos h3, decide_eq_true h3.1, decide_eq_true h3.2, decide_eq_false hk]
          exact ⟨fun _ => rfl, fun _ => rfl⟩
        · rw [if_neg h3]
          constructor
          · intro z
            exfalso
            split at z <;> exact absurd z (by decide +kernel)
          · intro z
            simp at z
            exact absurd ⟨z.1, z.2.1⟩ h3
theorem kd_num {w : Str} : kd w = "NUMBER" ↔ number w = true := by
  unfold kd
  by_cases h0 : w = ""
  · rw [if_pos h0]; subst h0; exact ⟨fun z => absurd z (by decide +kernel), fun z => absurd z (by decide +kernel)⟩
  · rw [if_neg h0]
    unfold kindOf number
    rw [decide_eq_true h0, Bool.true_and]
    by_cases h1 : w ∈ kept ∨ w ∈ punct
    · rw [if_pos h1]
      constructor
      · intro z; rw [z] at h1; exact absurd h1 (by decide +kernel)
      · intro z
        have : ∀ x ∈ kept ++ punct, ¬ hd x ∈ digits := by decide +kernel
        rw [decide_eq_false (this w (List.mem_append.mpr h1))] at z; simp at z
    · rw [if_neg h1]
      by_cases h2 : w ∈ signs
      · rw [if_pos h2]
        have : ∀ x ∈ signs, ¬ hd x ∈ digits := by decide +kernel
        rw [decide_eq_false (this w h2)]
        exact ⟨fun z => absurd z (by decide +kernel), fun z => by simp at z⟩
      · rw [if_neg h2]
        by_cases h3 : hd w ∈ letters ∧ w.length ≤ 8
        · rw [if_pos h3, decide_eq_false (let_not_dig _ h3.1)]
          exact ⟨fun z => absurd z (by decide +kernel), fun z => by simp at z⟩
        · rw [if_neg h3]
          by_cases h4 : hd w ∈ digits ∧ w.length ≤ 30 ∧ (w = "0" ∨ hd w ≠ 48)
          · rw [if_pos h4, decide_eq_true h4.1, decide_eq_true h4.2.1, decide_eq_true h4.2.2]
            exact ⟨fun _ => rfl, fun _ => rfl⟩
          · rw [if_neg h4]
            refine ⟨fun z => absurd z (by decide +kernel), fun z => ?_⟩
            rw [Bool.and_eq_true, Bool.and_eq_true] at z
            exact absurd ⟨of_decide_eq_true z.1, of_decide_eq_true z.2.1, of_decide_eq_true z.2.2⟩ h4
/-! ### rules -/
def rulesOf (X : Str) : List Row3 := chart.filter fun r => decide (r.1 = X)
def bodyOf (r : Row3) : List Str := Txt.words r.2.2
def pick (rs : List Row3) (k : Str) : Option (List Str) :=
  match rs.find? fun (r : Row3) => decide (r.2.1 = k) with
  | some r => some (bodyOf r)
  | none => (rs.find? fun (r : Row3) => decide (r.2.1 = ("*" : Str))).map bodyOf
def next (X k : Str) : Option (List Str) := pick (rulesOf X) k
theorem next_else {X k : Str} {l : List Str} {b : Option (List Str)} (hl : (rulesOf X).map (·.2.1) = l) (hk : k ∉ l) (hb : ((rulesOf X).find? fun (r : Row3) => decide (r.2.1 = ("*" : Str))).map bodyOf = b) : next X k = b := by
  unfold next pick
  have : (rulesOf X).find? (fun (r : Row3) => decide (r.2.1 = k)) = none := by
    rw [List.find?_eq_none]
    intro r hr z
    have e : r.2.1 = k := of_decide_eq_true z
    exact hk (by rw [← hl, ← e]; exact List.mem_map.mpr ⟨r, hr, rfl⟩)
  rw [this]
  exact hb
theorem nx_program_def : next "program" "def" = some (["definition", "more"] : List Str) := by decide +kernel
theorem ns_program {k : Str} (h : k ∉ (["def"] : List Str)) : next "program" k = none := next_else (l := ["def"]) (by decide +kernel) h (by decide +kernel)
theorem nx_more_def : next "more" "def" = some (["definition", "more"] : List Str) := by decide +kernel
theorem nx_more_end : next "more" "end" = some ([] : List Str) := by decide +kernel
theorem ns_more {k : Str} (h : k ∉ (["def", "end"] : List Str)) : next "more" k = none := next_else (l := ["def", "end"]) (by decide +kernel) h (by decide +kernel)
theorem nx_definition_def : next "definition" "def" = some (["def", "NAME", "(", "parameters", ")", "=", "expr"] : List Str) := by decide +kernel
theorem ns_definition {k : Str} (h : k ∉ (["def"] : List Str)) : next "definition" k = none := next_else (l := ["def"]) (by decide +kernel) h (by decide +kernel)
theorem nx_parameters_NAME : next "parameters" "NAME" = some (["NAME", "parameters2"] : List Str) := by decide +kernel
theorem ns_parameters {k : Str} (h : k ∉ (["NAME", "*"] : List Str)) : next "parameters" k = some ([] : List Str) := next_else (l := ["NAME", "*"]) (by decide +kernel) h (by decide +kernel)
theorem nx_parameters2_co : next "parameters2" "," = some ([",", "NAME", "parameters2"] : List Str) := by decide +kernel
theorem ns_parameters2 {k : Str} (h : k ∉ ([",", "*"] : List Str)) : next "parameters2" k = some ([] : List Str) := next_else (l := [",", "*"]) (by decide +kernel) h (by decide +kernel)
theorem nx_expr_let : next "expr" "let" = some (["let", "NAME", "=", "expr", "in", "expr"] : List Str) := by decide +kernel
theorem nx_expr_if : next "expr" "if" = some (["if", "test", "tests", "then", "expr", "else", "expr"] : List Str) := by decide +kernel
theorem ns_expr {k : Str} (h : k ∉ (["let", "if", "*"] : List Str)) : next "expr" k = some (["chain"] : List Str) := next_else (l := ["let", "if", "*"]) (by decide +kernel) h (by decide +kernel)
theorem nx_tests_and : next "tests" "and" = some (["and", "test", "tests"] : List Str) := by decide +kernel
theorem ns_tests {k : Str} (h : k ∉ (["and", "*"] : List Str)) : next "tests" k = some ([] : List Str) := next_else (l := ["and", "*"]) (by decide +kernel) h (by decide +kernel)
theorem nx_test_not : next "test" "not" = some (["not", "test"] : List Str) := by decide +kernel
theorem ns_test {k : Str} (h : k ∉ (["not", "*"] : List Str)) : next "test" k = some (["chain", "ask"] : List Str) := next_else (l := ["not", "*"]) (by decide +kernel) h (by decide +kernel)
theorem nx_ask_has : next "ask" "has" = some (["has", "NAME"] : List Str) := by decide +kernel
theorem nx_ask_is : next "ask" "is" = some (["is", "record"] : List Str) := by decide +kernel
theorem ns_ask {k : Str} (h : k ∉ (["has", "is"] : List Str)) : next "ask" k = none := next_else (l := ["has", "is"]) (by decide +kernel) h (by decide +kernel)
theorem ns_chain {k : Str} (h : k ∉ (["*"] : List Str)) : next "chain" k = some (["part", "chain2"] : List Str) := next_else (l := ["*"]) (by decide +kernel) h (by decide +kernel)
theorem nx_chain2_sign : next "chain2" "sign" = some (["sign", "part", "chain2"] : List Str) := by decide +kernel
theorem ns_chain2 {k : Str} (h : k ∉ (["sign", "*"] : List Str)) : next "chain2" k = some ([] : List Str) := next_else (l := ["sign", "*"]) (by decide +kernel) h (by decide +kernel)
theorem ns_part {k : Str} (h : k ∉ (["*"] : List Str)) : next "part" k = some (["base", "steps"] : List Str) := next_else (l := ["*"]) (by decide +kernel) h (by decide +kernel)
theorem nx_steps_dot : next "steps" "." = some ([".", "NAME", "steps"] : List Str) := by decide +kernel
theorem nx_steps_ls : next "steps" "[" = some (["[", "change", "changes", "]", "steps"] : List Str) := by decide +kernel
theorem ns_steps {k : Str} (h : k ∉ ([".", "[", "*"] : List Str)) : next "steps" k = some ([] : List Str) := next_else (l := [".", "[", "*"]) (by decide +kernel) h (by decide +kernel)
theorem nx_changes_co : next "changes" "," = some ([",", "change", "changes"] : List Str) := by decide +kernel
theorem ns_changes {k : Str} (h : k ∉ ([",", "*"] : List Str)) : next "changes" k = some ([] : List Str) := next_else (l := [",", "*"]) (by decide +kernel) h (by decide +kernel)
theorem nx_change_put : next "change" "put" = some (["put", "NAME", "=", "expr"] : List Str) := by decide +kernel
theorem nx_change_add : next "change" "add" = some (["add", "NAME", "=", "expr"] : List Str) := by decide +kernel
theorem nx_change_cut : next "change" "cut" = some (["cut", "NAME"] : List Str) := by decide +kernel
theorem nx_change_rename : next "change" "rename" = some (["rename", "NAME", "to", "NAME"] : List Str) := by decide +kernel
theorem nx_change_only : next "change" "only" = some (["only", "names"] : List Str) := by decide +kernel
theorem nx_change_drop : next "change" "drop" = some (["drop", "NAME"] : List Str) := by decide +kernel
theorem ns_change {k : Str} (h : k ∉ (["put", "add", "cut", "rename", "only", "drop"] : List Str)) : next "change" k = none := next_else (l := ["put", "add", "cut", "rename", "only", "drop"]) (by decide +kernel) h (by decide +kernel)
theorem nx_names_NAME : next "names" "NAME" = some (["NAME", "names"] : List Str) := by decide +kernel
theorem ns_names {k : Str} (h : k ∉ (["NAME", "*"] : List Str)) : next "names" k = some ([] : List Str) := next_else (l := ["NAME", "*"]) (by decide +kernel) h (by decide +kernel)
theorem nx_base_lp : next "base" "(" = some (["(", "expr", ")"] : List Str) := by decide +kernel
theorem nx_base_lb : next "base" "{" = some (["{", "fields", "}"] : List Str) := by decide +kernel
theorem nx_base_NAME : next "base" "NAME" = some (["NAME", "call"] : List Str) := by decide +kernel
theorem nx_base_NUMBER : next "base" "NUMBER" = some (["NUMBER"] : List Str) := by decide +kernel
theorem ns_base {k : Str} (h : k ∉ (["(", "{", "NAME", "NUMBER"] : List Str)) : next "base" k = none := next_else (l := ["(", "{", "NAME", "NUMBER"]) (by decide +kernel) h (by decide +kernel)
theorem nx_call_lp : next "call" "(" = some (["(", "values", ")"] : List Str) := by decide +kernel
theorem ns_call {k : Str} (h : k ∉ (["(", "*"] : List Str)) : next "call" k = some ([] : List Str) := next_else (l := ["(", "*"]) (by decide +kernel) h (by decide +kernel)
theorem nx_values_rp : next "values" ")" = some ([] : List Str) := by decide +kernel
theorem ns_values {k : Str} (h : k ∉ (["*", ")"] : List Str)) : next "values" k = some (["expr", "values2"] : List Str) := next_else (l := ["*", ")"]) (by decide +kernel) h (by decide +kernel)
theorem nx_values2_co : next "values2" "," = some ([",", "expr", "values2"] : List Str) := by decide +kernel
theorem ns_values2 {k : Str} (h : k ∉ ([",", "*"] : List Str)) : next "values2" k = some ([] : List Str) := next_else (l := [",", "*"]) (by decide +kernel) h (by decide +kernel)
theorem nx_fields_NAME : next "fields" "NAME" = some (["field", "fields2"] : List Str) := by decide +kernel
theorem ns_fields {k : Str} (h : k ∉ (["NAME", "*"] : List Str)) : next "fields" k = some ([] : List Str) := next_else (l := ["NAME", "*"]) (by decide +kernel) h (by decide +kernel)
theorem nx_fields2_co : next "fields2" "," = some ([",", "field", "fields2"] : List Str) := by decide +kernel
theorem ns_fields2 {k : Str} (h : k ∉ ([",", "*"] : List Str)) : next "fields2" k = some ([] : List Str) := next_else (l := [",", "*"]) (by decide +kernel) h (by decide +kernel)
theorem ns_field {k : Str} (h : k ∉ (["*"] : List Str)) : next "field" k = some (["NAME", ":", "expr"] : List Str) := next_else (l := ["*"]) (by decide +kernel) h (by decide +kernel)
/-! ### runs -/
/-- n steps of the machine, the stack's top first; the kinds of the words, then "end"; none: taken, some j: the word j can't follow -/
inductive RunN (ks : List Str) : Nat → List Str → Nat → Option Nat → Prop
  | exp {n : Nat} {X k : Str} {S b : List Str} {p : Nat} {r : Option Nat} : ks[p]? = some k → rulesOf X ≠ [] → next X k = some b → RunN ks n (b ++ S) p r → RunN ks (n + 1) (X :: S) p r
  | stuck {X k : Str} {S : List Str} {p : Nat} : ks[p]? = some k → rulesOf X ≠ [] → next X k = none → RunN ks 0 (X :: S) p (some p)
  | hit {n : Nat} {X : Str} {S : List Str} {p : Nat} {r : Option Nat} : ks[p]? = some X → rulesOf X = [] → RunN ks n S (p + 1) r → RunN ks (n + 1) (X :: S) p r
  | miss {X k : Str} {S : List Str} {p : Nat} : ks[p]? = some k → rulesOf X = [] → X ≠ k → RunN ks 0 (X :: S) p (some p)
  | fin {p : Nat} : ks[p]? = some ("end" : Str) → RunN ks 0 [] p none
  | late {p : Nat} {k : Str} : ks[p]? = some k → k ≠ "end" → RunN ks 0 [] p (some p)
  | out {S : List Str} {p : Nat} : ks[p]? = none → RunN ks 0 S p none
def Run (ks : List Str) (S : List Str) (p : Nat) (r : Option Nat) : Prop := ∃ n, RunN ks n S p r
theorem RunN.det {ks : List Str} {n : Nat} {S : List Str} {p : Nat} {r : Option Nat} (a : RunN ks n S p r) : ∀ {m : Nat} {r' : Option Nat}, RunN ks m S p r' → r = r' := by
  induction a with
  | exp h1 h2 h3 _ ih =>
    intro m r' b
    cases b with
    | exp g1 g2 g3 g4 => rw [h1] at g1; cases g1; rw [h3] at g3; cases g3; exact ih g4
    | stuck g1 g2 g3 => rw [h1] at g1; cases g1; rw [h3] at g3; cases g3
    | hit g1 g2 g3 => exact absurd g2 h2
    | miss g1 g2 g3 => exact absurd g2 h2
    | out g1 => rw [h1] at g1; cases g1
  | stuck h1 h2 h3 =>
    intro m r' b
    cases b with
    | exp g1 g2 g3 g4 => rw [h1] at g1; cases g1; rw [h3] at g3; cases g3
    | stuck g1 g2 g3 => rfl
    | hit g1 g2 g3 => exact absurd g2 h2
    | miss g1 g2 g3 => rfl
    | out g1 => rw [h1] at g1; cases g1
  | hit h1 h2 _ ih =>
    intro m r' b
    cases b with
    | exp g1 g2 g3 g4 => exact absurd h2 g2
    | stuck g1 g2 g3 => exact absurd h2 g2
    | hit g1 g2 g3 => exact ih g3
    | miss g1 g2 g3 => rw [h1] at g1; cases g1; exact absurd rfl g3
    | out g1 => rw [h1] at g1; cases g1
  | miss h1 h2 h3 =>
    intro m r' b
    cases b with
    | exp g1 g2 g3 g4 => exact absurd h2 g2
    | stuck g1 g2 g3 => rfl
    | hit g1 g2 g3 => rw [h1] at g1; cases g1; exact absurd rfl h3
    | miss g1 g2 g3 => rfl
    | out g1 => rw [h1] at g1; cases g1
  | fin h1 =>
    intro m r' b
    cases b with
    | fin _ => rfl
    | late g1 g2 => rw [h1] at g1; cases g1; exact absurd rfl g2
    | out g1 => rfl
  | late h1 h2 =>
    intro m r' b
    cases b with
    | fin g1 => rw [h1] at g1; cases g1; exact absurd rfl h2
    | late g1 g2 => rfl
    | out g1 => rw [h1] at g1; cases g1
  | out h1 =>
    intro m r' b
    cases b with
    | exp g1 _ _ _ => rw [h1] at g1; cases g1
    | stuck g1 _ _ => rw [h1] at g1; cases g1
    | hit g1 _ _ => rw [h1] at g1; cases g1
    | miss g1 _ _ => rw [h1] at g1; cases g1
    | fin g1 => rfl
    | late g1 _ => rw [h1] at g1; cases g1
    | out _ => rfl
/-- a at p comes down to b at q -/
def Via (ks : List Str) (a : List Str) (p : Nat) (b : List Str) (q : Nat) : Prop := ∀ S r, Run ks (b ++ S) q r → Run ks (a ++ S) p r
/-- a at p meets a word j that can't follow -/
def Bad (ks : List Str) (a : List Str) (p j : Nat) : Prop := ∀ S, Run ks (a ++ S) p (some j)
theorem Via.refl {ks : List Str} {a : List Str} {p : Nat} : Via ks a p a p := fun _ _ h => h
theorem Via.trans {ks : List Str} {a b c : List Str} {p q r : Nat} (h : Via ks a p b q) (g : Via ks b q c r) : Via ks a p c r := fun S x y => h S x (g S x y)
theorem Via.bad {ks : List Str} {a b : List Str} {p q j : Nat} (h : Via ks a p b q) (g : Bad ks b q j) : Bad ks a p j := fun S => h S _ (g S)
/-- .. with more behind -/
theorem Via.more {ks : List Str} {a b c : List Str} {p q : Nat} (h : Via ks a p b q) : Via ks (a ++ c) p (b ++ c) q := fun S r y => by
  rw [List.append_assoc] at y ⊢
  exact h _ r y
theorem Bad.more {ks : List Str} {a c : List Str} {p j : Nat} (h : Bad ks a p j) : Bad ks (a ++ c) p j := fun S => by
  rw [List.append_assoc]
  exact h _
theorem Via.seq {ks : List Str} {X : Str} {c : List Str} {p q : Nat} (h : Via ks [X] p [] q) : Via ks (X :: c) p c q := h.more (c := c)
theorem Bad.seq {ks : List Str} {X : Str} {c : List Str} {p j : Nat} (h : Bad ks [X] p j) : Bad ks (X :: c) p j := h.more (c := c)
theorem Via.exp {ks : List Str} {X k : Str} {b c : List Str} {p : Nat} (hk : ks[p]? = some k) (hn : next X k = some b) (hr : rulesOf X ≠ [] := by decide +kernel) : Via ks (X :: c) p (b ++ c) p := fun S r ⟨n, y⟩ =>
  ⟨n + 1, .exp hk hr hn (by rw [List.append_assoc] at y; exact y)⟩
theorem Bad.stuck {ks : List Str} {X k : Str} {c : List Str} {p : Nat} (hk : ks[p]? = some k) (hn : next X k = none) (hr : rulesOf X ≠ [] := by decide +kernel) : Bad ks (X :: c) p p := fun S => ⟨0, .stuck hk hr hn⟩
theorem Via.hit {ks : List Str} {X : Str} {c : List Str} {p : Nat} (hk : ks[p]? = some X) (hr : rulesOf X = [] := by decide +kernel) : Via ks (X :: c) p c (p + 1) := fun S r ⟨n, y⟩ => ⟨n + 1, .hit hk hr y⟩
theorem Bad.miss {ks : List Str} {X k : Str} {c : List Str} {p : Nat} (hk : ks[p]? = some k) (hx : k ≠ X) (hr : rulesOf X = [] := by decide +kernel) : Bad ks (X :: c) p p := fun S => ⟨0, .miss hk hr (Ne.symm hx)⟩
end GR
set_option Elab.async false
set_option linter.all false
set_option maxRecDepth 100000
set_option maxHeartbeats 4000000
/-! The stack machine comes to an end. -/
namespace GR
open PySem PySem.Spec PyProof.Rows L2
def wt (z : Str) : Nat :=
  if z ∈ (["part", "fields"] : List Str) then 3 else if z = "chain" then 5 else if z = "test" then 7 else if z = "expr" then 6 else if z = "values" then 8 else
  if z ∈ (["names", "call", "parameters", "parameters2", "tests", "ask", "chain2", "steps", "changes", "change", "values2", "fields2", "field", "base", "definition", "more", "program"] : List Str) then 1 else 0
def wts (l : List Str) : Nat := (l.map wt).sum
theorem wts_app (a b : List Str) : wts (a ++ b) = wts a + wts b := by unfold wts; rw [List.map_append, List.sum_append]
theorem wts_cons (a : Str) (b : List Str) : wts (a :: b) = wt a + wts b := by unfold wts; rw [List.map_cons, List.sum_cons]
def rowOk (r : Row3) : Bool := decide (r.1 = ("more" : Str)) || (decide (r.1 = ("program" : Str)) || (match bodyOf r with
  | [] => decide (1 ≤ wt r.1)
  | t :: rest => if (rulesOf t).isEmpty then decide (wts rest < 100 + wt r.1) else decide (wts (t :: rest) < wt r.1)))
theorem rows_ok : ∀ r ∈ chart, rowOk r = true := by decide +kernel
theorem next_row {X k : Str} {b : List Str} (h : next X k = some b) : ∃ r ∈ chart, r.1 = X ∧ bodyOf r = b := by
  have mem : ∀ {p : Row3 → Bool} {r : Row3}, (rulesOf X).find? p = some r → r ∈ chart ∧ r.1 = X := fun {p r} e => by
    have := List.mem_of_find?_eq_some e
    unfold rulesOf at this
    obtain ⟨h1, h2⟩ := List.mem_filter.mp this
    exact ⟨h1, of_decide_eq_true h2⟩
  unfold next pick at h
  split at h
  · rename_i r e
    obtain ⟨h1, h2⟩ := mem e
    exact ⟨r, h1, h2, Option.some.inj h⟩
  · obtain ⟨r, e, hb⟩ := Option.map_eq_some_iff.mp h
    obtain ⟨h1, h2⟩ := mem e
    exact ⟨r, h1, h2, hb⟩
theorem next_more {k : Str} {b : List Str} (h : next "more" k = some b) : (k = "def" ∧ b = (["definition", "more"] : List Str)) ∨ (k = "end" ∧ b = []) := by
  by_cases h1 : k = "def"
  · rw [h1, nx_more_def] at h
    exact .inl ⟨h1, (Option.some.inj h).symm⟩
  · by_cases h2 : k = "end"
    · rw [h2, nx_more_end] at h
      exact .inr ⟨h2, (Option.some.inj h).symm⟩
    · rw [ns_more (by simp [h1, h2])] at h
      cases h
theorem next_program {k : Str} {b : List Str} (h : next "program" k = some b) : k = "def" ∧ b = (["definition", "more"] : List Str) := by
  by_cases h1 : k = "def"
  · rw [h1, nx_program_def] at h
    exact ⟨h1, (Option.some.inj h).symm⟩
  · rw [ns_program (by simp [h1])] at h
    cases h
/-- each run comes to an end -/
theorem run_ends (ks : List Str) : ∀ (m : Nat) (S : List Str) (p : Nat), 100 * (ks.length - p) + wts S ≤ m → ∃ r n, n ≤ 3 * m ∧ RunN ks n S p r := by
  intro m
  induction m with
  | zero =>
    intro S p hm
    have hp : ks.length ≤ p := by omega
    exact ⟨none, 0, by omega, .out (List.getElem?_eq_none hp)⟩
  | succ m ih =>
    intro S p hm
    cases hk : ks[p]? with
    | none => exact ⟨none, 0, by omega, .out hk⟩
    | some k =>
      have hp : p < ks.length := (List.getElem?_eq_some_iff.mp hk).1
      cases S with
      | nil =>
        by_cases he : k = "end"
        · subst he
          exact ⟨none, 0, by omega, .fin hk⟩
        · exact ⟨some p, 0, by omega, .late hk he⟩
      | cons X S =>
        rw [wts_cons] at hm
        by_cases hX : rulesOf X = []
        · by_cases hXk : X = k
          · subst hXk
            obtain ⟨r, n, hnm, hr⟩ := ih S (p + 1) (by omega)
            exact ⟨r, n + 1, by omega, .hit hk hX hr⟩
          · exact ⟨some p, 0, by omega, .miss hk hX hXk⟩
        · cases hn : next X k with
          | none => exact ⟨some p, 0, by omega, .stuck hk hX hn⟩
          | some b =>
            have hdef : k = "def" → wts (["NAME", "(", "parameters", ")", "=", "expr", "more"] : List Str) ≤ 10 → 1 ≤ wt X → b = (["definition", "more"] : List Str) → ∃ r n', n' ≤ 3 * (m + 1) ∧ RunN ks n' (X :: S) p r := fun h1 h2 h3 h4 => by
              obtain ⟨r, n, hnm, hr⟩ := ih ((["NAME", "(", "parameters", ")", "=", "expr", "more"] : List Str) ++ S) (p + 1) (by rw [wts_app]; omega)
              subst h1
              have e1 : RunN ks (n + 1) ("def" :: ((["NAME", "(", "parameters", ")", "=", "expr", "more"] : List Str) ++ S)) p r := .hit hk (by decide +kernel) hr
              have e2 : RunN ks (n + 2) ("definition" :: ("more" :: S)) p r := .exp hk (by decide +kernel) nx_definition_def e1
              refine ⟨r, n + 3, by omega, .exp hk hX hn ?_⟩
              rw [h4]
              exact e2
            have w7 : wts (["NAME", "(", "parameters", ")", "=", "expr", "more"] : List Str) ≤ 10 := by decide +kernel
            by_cases hm1 : X = "more"
            · subst hm1
              rcases next_more hn with ⟨h1, h2⟩ | ⟨h1, h2⟩
              · exact hdef h1 w7 (by decide +kernel) h2
              · obtain ⟨r, n, hnm, hr⟩ := ih S p (Nat.le_of_lt_succ (Nat.lt_of_lt_of_le (Nat.lt_of_lt_of_le (Nat.lt_add_of_pos_right (show 0 < wt "more" by decide +kernel)) (by omega)) hm))
                refine ⟨r, n + 1, by omega, .exp hk hX hn ?_⟩
                rw [h2]
                exact hr
            by_cases hm2 : X = "program"
            · subst hm2
              obtain ⟨h1, h2⟩ := next_program hn
              exact hdef h1 w7 (by decide +kernel) h2
            obtain ⟨r0, h1, h2, h3⟩ := next_row hn
            have ok := rows_ok r0 h1
            unfold rowOk at ok
            rw [h2, h3, decide_eq_false hm1, decide_eq_false hm2, Bool.false_or, Bool.false_or] at ok
            cases b with
            | nil =>
              have ok' : 1 ≤ wt X := of_decide_eq_true ok
              obtain ⟨r, n, hnm, hr⟩ := ih S p (by omega)
              exact ⟨r, n + 1, by omega, .exp hk hX hn hr⟩
            | cons t rest =>
              dsimp only at ok
              by_cases ht : rulesOf t = []
              · rw [if_pos (by rw [ht]; rfl)] at ok
                have ok' := of_decide_eq_true ok
                by_cases htk : t = k
                · subst htk
                  obtain ⟨r, n, hnm, hr⟩ := ih (rest ++ S) (p + 1) (by rw [wts_app]; omega)
                  exact ⟨r, n + 2, by omega, .exp hk hX hn (.hit hk ht hr)⟩
                · exact ⟨some p, 1, by omega, .exp hk hX hn (.miss hk ht htk)⟩
              · rw [if_neg (by intro e; exact ht (List.isEmpty_iff.mp e))] at ok
                have ok' := of_decide_eq_true ok
                obtain ⟨r, n, hnm, hr⟩ := ih ((t :: rest) ++ S) p (by rw [wts_app]; omega)
                exact ⟨r, n + 1, by omega, .exp hk hX hn hr⟩
theorem run_program (ks : List Str) (h : ks.length ≤ 1001) : ∃ r n, n ≤ 310000 ∧ RunN ks n ["program"] 0 r := by
  have e : wts ["program"] = 1 := by decide +kernel
  obtain ⟨r, n, h1, h2⟩ := run_ends ks _ ["program"] 0 (Nat.le_refl _)
  exact ⟨r, n, by rw [e] at h1; omega, h2⟩
theorem bodies_len : ∀ r ∈ chart, (bodyOf r).length ≤ 7 := by decide +kernel
theorem next_len {X k : Str} {b : List Str} (h : next X k = some b) : b.length ≤ 7 := by
  obtain ⟨r, h1, _, h3⟩ := next_row h
  rw [← h3]
  exact bodies_len r h1
end GR
set_option Elab.async false
set_option linter.all false
set_option maxRecDepth 100000
set_option maxHeartbeats 4000000
/-! Own exceptions whose __init__ first calls super().__init__(text), then stores one field or two: made and raised. -/
namespace PySem
namespace SupX
open PySem.W PySem.Calls PyProof.Rows PySem.HandSPX
/-- super().__init__('..') as a statement -/
abbrev supS (m : Str) (k : Pos × Pos × Pos × Pos × Pos × Pos) : Stmt :=
  .Expr (.Call (.Attribute (.Call (.Name "super" k.1) [] [] k.2.1) "__init__" k.2.2.1) [.Constant (.str m) 0 k.2.2.2.1] [] k.2.2.2.2.1) k.2.2.2.2.2
/-- self.f = f -/
abbrev stoS (f : Str) (k : Pos × Pos × Pos × Pos) : Stmt := .Assign [.Attribute (.Name "self" k.1) f k.2.1] (.Name f k.2.2.1) k.2.2.2
/-- how the call super().__init__('..') is evaluated -/
def SupEv (m : Str) (k : Pos × Pos × Pos × Pos × Pos × Pos) (pl : Env → Sem Bool) (env : Env) : Prop :=
  eval (.Call (.Attribute (.Call (.Name "super" k.1) [] [] k.2.1) "__init__" k.2.2.1) [.Constant (.str m) 0 k.2.2.2.1] [] k.2.2.2.2.1) env = (do
    let ov ← attributeBase (.Call (.Name "super" k.1) [] [] k.2.1) "__init__" env (eval (.Call (.Name "super" k.1) [] [] k.2.1) env)
    standAt k.2.2.1.atName
    let (f, first) ← holding [ov] (getMethod ov "__init__" (pl env))
    callWith k.2.2.2.2.1 f first (backTo k.2.2.2.2.1 (starEach [.Constant (.str m) 0 k.2.2.2.1] env)) [])
/-- what the written part says of the class and of its __init__ -/
structure Sup (prog : Program) (K : Frag) (mg : Str → Option Value) (C fI cda cc : Addr) (qual : Str) (scope : Scope) (params : Arguments) (body : List Stmt) : Prop where
  oex : L2.OexC K C
  hd : hasDictIn K C = true
  iC : findIn K (.ref C) "__init__" = some (some (.ref fI))
  tI : typeIn K (.ref fI) = some (.type "function")
  fn : ∃ (oc : Value) (od : Option Addr) (osl : Array (Option Value)) (nm : Str) (dV kV doc pm : Value) (an : Option Addr) (ct : Value), dV = .none ∧ K.lookup fI = some ⟨oc, od, .func (ksFn nm qual params body scope dV kV doc pm an (.ref cda) ct cc), osl⟩
  code : codeIn K (.ref cda) qual = true
  file : ∃ (ccl : Value) (cdd : Option Addr) (vs : Array Value) (ccs : Array (Option Value)) (file : Str) (tf : Tok), K.lookup cda = some ⟨ccl, cdd, .fields vs, ccs⟩ ∧ vs[2]? = some (.str file tf) ∧ ((prog.main.file : Str) == file) = true
  cell : ∃ (cl : Value) (cld : Option Addr) (csl : Array (Option Value)), K.lookup cc = some ⟨cl, cld, .cell (some (.ref C)), csl⟩
  own : mroIn K C (.ref C) = some true
  sup : ks_superIn K C C "__init__" = some (some (.builtin "ValueError.__init__"))
  hB : subIn K (.ref C) (.type "ValueError") = some true
  opq : nsIn K cStatics "thirdparty.any" = some none
  hsuper : nsIn K mainGlobals "super" = some none
  htop : (prog.main.scope.names.lookup ("super" : Str)).isSome = false
/-- the module's names as the heap has them -/
structure Mods (h : Heap) (mg : Str → Option Value) : Prop where
  glob : h.Ns mainGlobals mg
  blt : ∃ mb, h.Ns builtinsNs mb ∧ mb "super" = some (.type "super")
theorem Mods.keeps {h h' : Heap} {mg : Str → Option Value} (m : Mods h mg) (k : ∀ b o, h.get? b = some o → h'.get? b = some o) : Mods h' mg :=
  ⟨m.glob.keeps k, let ⟨mb, a, b⟩ := m.blt; ⟨mb, a.keeps k, b⟩⟩
section
variable {prog : Program} {w : World} {A : Around} {E : Value → Shared → Prop} {h : Heap} {g : Array GenState} {d : Drawn} {t : Nat} {os : OsState} {K : Frag} {mg : Str → Option Value} {C fI cda cc : Addr} {qual : Str} {scope : Scope} {params : Arguments} {body : List Stmt}
theorem run_bound {u e t0 : Addr} {rest : List Value} {Q : Value → Shared → Prop} (T : Sup prog K mg C fI cda cc qual scope params body) (X : K.In h)
    (he : h.get? e = some (excO C t0)) (hu : h.get? u = some (kxs_mw "ValueError.__init__" e)) (hue : u ≠ e) (hrest : rest.length ≤ sizeLine)
    (hq : ∀ h' t1, (∀ b o, b ≠ e → h.get? b = some o → h'.get? b = some o) → h'.get? e = some (excO C t1) → Q .none ⟨h', g, d, t, os⟩) :
    wpAny (model prog w) A (call (.ref u) rest) Q E ⟨h, g, d, t, os⟩ := by
  obtain ⟨nm, q, N, bs, bm, sn, sub, ab, col, dd, k0, k1, k2, k3, k5, hC, hbm⟩ := T.oex.cls
  refine wpAny_call (codeAny_of_tree ?_)
  show wpAny _ A.in1 (callAny (.ref u) ⟨rest, []⟩) _ _ _
  simp only [callAny]
  refine wpAny_bind (wpAny_load hu ?_)
  simp only [kxs_mw, show (Value.type "method-wrapper" == Value.type "method" || Value.type "method-wrapper" == Value.type "builtin_function_or_method" || Value.type "method-wrapper" == Value.type "method-wrapper") = true by decide, if_true]
  refine KFB.if_so (by decide) ?_
  refine wpAny_bind (check_bound_init F.excBase_ValueError.toExcCallFacts (X _ _ hC) he rfl ?_)
  refine wpAny_bind (wpAny_pure (wpAny_pure ?_))
  refine ⟨plainId_quiet F.excBase_ValueError.init.plain _, codeAny_builtin F.excBase_ValueError.initEntry ?_⟩
  exact exc_init_tree (cls := .ref C) (t0 := t0) (dv := none) (c2 := .none) (c3 := .none) (b4 := .bool false) he hrest fun h' k e' _ => hq h' h.objs.size k e'
/-- super().__init__('..') has run: the exception's args are laid anew -/
theorem sup_step {L x t0 : Addr} {m : Str} {kp : Pos × Pos × Pos × Pos × Pos × Pos} {rest bd : List Stmt} {ml : Str → Option Value} {Q : Flow → Shared → Prop} (T : Sup prog K mg C fI cda cc qual scope params body) (X : K.In h) (G : Mods h mg)
    (hx : h.get? x = some (excO C t0)) (hL : h.Ns L ml) (hml : ml "self" = some (.ref x))
    (hk : scope.kind = .function) (hks : scope.names.lookup ("super" : Str) = some .globalImplicit) (hkc : scope.names.lookup ("__class__" : Str) = some .free) (hka : scope.names.lookup ("self" : Str) = some .local)
    (hp : ((params.posonlyargs ++ params.args).head?.map (·.arg)) = some (PySem.Str.ofString "self")) {pl : Env → Sem Bool} (hev : ∀ env, SupEv m kp pl env)
    (hq : ∀ h' t1 tk, (∀ b o, b ≠ x → h.get? b = some o → h'.get? b = some o) → h'.get? x = some (excO C t1) → wpAt (model prog w) A (.func bd (ksEnv qual scope L fI (.ref cda) cc)) (execs rest (ksEnv qual scope L fI (.ref cda) cc)) Q E ⟨h', g, d, tk, os⟩) :
    wpAt (model prog w) A (.func bd (ksEnv qual scope L fI (.ref cda) cc)) (execs (supS m kp :: rest) (ksEnv qual scope L fI (.ref cda) cc)) Q E ⟨h, g, d, t, os⟩ := by
  obtain ⟨nm, q, N, bs, bm, sn, sub, ab, col, dd, k0, k1, k2, k3, k5, hC, hbm⟩ := T.oex.cls
  have hcl : clsIn K C = some { name := nm, bases := bs, mro := .ref C :: bm, ns := N, qualname := q, hasDict := true, slotNames := sn, subclasses := sub, abstract := ab, collection := col, hasDel := false } := by unfold clsIn; rw [hC] <;> rfl
  obtain ⟨oc, od, osl, fnm, dV, kV, doc, pm, an, ct, hdV, hfn⟩ := T.fn
  obtain ⟨ccl, cdd, vs, ccs, file, tf, hcode, hvs, hfile⟩ := T.file
  obtain ⟨cl, cld, csl, hcell⟩ := T.cell
  obtain ⟨mb, hmb, hms⟩ := G.blt
  obtain ⟨ar, har, harg⟩ := Option.map_eq_some_iff.mp hp
  refine ks_wpAt_execs_cons (ks_wpAt_Expr_any ?_ (by simp [interactive, hk]) rfl)
  refine ks_wpAt_MethodCall ?_ (hev _)
  refine ks_wpAt_super_base (env := ksEnv qual scope L fI (.ref cda) cc) (ar := ar) hks hkc (by decide) rfl (X _ _ hfn) rfl har rfl (X _ _ hcode) rfl hvs hfile T.htop ?_
  refine ks_loadName_global hk hks (loadGlobal_builtin (env := ksEnv qual scope L fI (.ref cda) cc) G.glob (mg_none_of X G.glob T.hsuper) hmb hms ⟨rfl, ?_⟩)
  refine wpAny_loadName_free hk hkc rfl ⟨_, X _ _ hcell, rfl⟩ ?_
  rw [harg]
  refine wpAny_loadName_local hk hka hL hml ?_
  refine ks_wpAny_isType_cls (X _ _ hC) rfl ⟨rfl, ?_⟩
  refine ks_wpAny_call_super (X _ _ hC) rfl hx rfl (fun c e => by cases e) (looks_mroIn X T.own) (fun h1 e1 k1 => ?_)
  have X1 : K.In h1 := X.keeps k1
  have hx1 := k1 _ _ hx
  have I1 : InstAt h1 x (excO C t0) C none := ⟨hx1, rfl, rfl, trivial⟩
  have hI : Looks (model prog w) h1 (isInstance (.ref x) (.type "ValueError")) true := I1.type.andThen (looks_subIn X1 T.hB)
  have hs := T.sup
  unfold ks_superIn at hs
  rw [hcl] at hs
  refine kxs_getMethod kxs_ValueError e1 (looks_opaque X1 T.opq) (l₀ := .ref C :: bm) (fun A Q E s k q => wpAny_bind ((looks_clsIn X1 hcl) A _ E s k (wpAny_pure q))) rfl X1 hs hI (ks_ne X1 I1 hcl) (by decide) ?_
  have hu : (h1.push (kxs_mw "ValueError.__init__" x)).get? h1.objs.size = some (kxs_mw "ValueError.__init__" x) := Heap.get?_push_size _ rfl
  have k2 : ∀ b o, h1.get? b = some o → (h1.push (kxs_mw "ValueError.__init__" x)).get? b = some o := fun b o e => Heap.get?_push_of_some _ e
  refine kxs_callWith (i := "ValueError.__init__") (x := x) rfl (evalArgs_plain ?_)
  show wpAny _ _ (spliced ((false, eval (.Constant (.str m) 0 kp.2.2.2.1) (ksEnv qual scope L fI (.ref cda) cc)) :: [])) _ _ _
  refine spliced_cons (Constant_str ?_)
  refine spliced_nil ⟨hu, ?_⟩
  have hue : h1.objs.size ≠ x := Nat.ne_of_gt (Heap.lt_size hx1)
  exact run_bound T (X1.keeps k2) (k2 _ _ hx1) hu hue (by rw [sizeLine_eq]; exact (by decide : 1 ≤ 16777216)) fun h' t1 k' e' => hq h' t1 _ (fun b o hb e => k' b o hb (k2 b o (k1 b o e))) e'
theorem ld_own {L : Addr} {ml : Str → Option Value} {y : Str} {pos : Pos} {v : Value} {Q : Value → Shared → Prop} {M : Model} {A' : Around} {s : Shared} {E' : Value → Shared → Prop} (hL : s.heap.Ns L ml) (hv : ml y = some v)
    (hk : scope.kind = .function) (hy : scope.names.lookup y = some .local) (hd : (y == ("__debug__" : Str)) = false) (hq : Q v s) : wpAny M A' (eval (.Name y pos) (ksEnv qual scope L fI (.ref cda) cc)) Q E' s :=
  wpAny_Name (wpAny_loadName_local hk hy hL hv hq) hd
/-- self.f = f, the first one -/
theorem sto_new {L x t1 : Addr} {f : Str} {kq : Pos × Pos × Pos × Pos} {v : Value} {rest bd : List Stmt} {ml : Str → Option Value} {Q : Flow → Shared → Prop} (T : Sup prog K mg C fI cda cc qual scope params body) (X : K.In h)
    (hx : h.get? x = some (excO C t1)) (hL : h.Ns L ml) (hml : ml "self" = some (.ref x)) (hmf : ml f = some v) (hno : findIn K (.ref C) f = some none)
    (hk : scope.kind = .function) (hka : scope.names.lookup ("self" : Str) = some .local) (hkf : scope.names.lookup f = some .local) (hfd : (f == ("__debug__" : Str)) = false)
    (hq : ∀ h' tk dx, (∀ b o, b ≠ x → h.get? b = some o → h'.get? b = some o) → h.objs.size ≤ dx → dx ≠ x → h'.get? x = some { cls := .ref C, dict := some dx, data := .fields #[.ref t1, .none, .none, .none, .bool false, .none] } →
      h'.Ns1 dx (fun y => if y = f then some v else none) → wpAt (model prog w) A (.func bd (ksEnv qual scope L fI (.ref cda) cc)) (execs rest (ksEnv qual scope L fI (.ref cda) cc)) Q E ⟨h', g, d, tk, os⟩) :
    wpAt (model prog w) A (.func bd (ksEnv qual scope L fI (.ref cda) cc)) (execs (stoS f kq :: rest) (ksEnv qual scope L fI (.ref cda) cc)) Q E ⟨h, g, d, t, os⟩ := by
  obtain ⟨nm, q, N, bs, bm, sn, sub, ab, col, dd, k0, k1, k2, k3, k5, hC, hbm⟩ := T.oex.cls
  have hcl : clsIn K C = some { name := nm, bases := bs, mro := .ref C :: bm, ns := N, qualname := q, hasDict := true, slotNames := sn, subclasses := sub, abstract := ab, collection := col, hasDel := false } := by unfold clsIn; rw [hC] <;> rfl
  refine ks_wpAt_execs_cons (ks_wpAt_Assign_Attr ?_ rfl)
  refine wpAt_of_wpAny (ld_own hL hmf hk hkf hfd (ld_own hL hml hk hka (by decide) ?_))
  refine set_plain X (ox := excO C t1) (od := none) ⟨hx, rfl, rfl, trivial⟩ T.oex.sa ?_
  exact exc_osa X hx hcl (show refsVE (.ref C :: bm) = true from hbm) rfl hno fun h' tk dx k dn dne hx' hn' => hq h' tk dx k dn dne hx' hn'
/-- self.f = f, a further one -/
theorem sto_old {L x t1 dx : Addr} {f : Str} {kq : Pos × Pos × Pos × Pos} {v : Value} {rest bd : List Stmt} {ml m0 : Str → Option Value} {nl : List Str} {Q : Flow → Shared → Prop} (T : Sup prog K mg C fI cda cc qual scope params body) (X : K.In h)
    (hx : h.get? x = some { cls := .ref C, dict := some dx, data := .fields #[.ref t1, .none, .none, .none, .bool false, .none] }) (hns : h.Ns1 dx m0) (hw : Within m0 nl) (hz : nl.length ≤ 1000)
    (hL : h.Ns L ml) (hml : ml "self" = some (.ref x)) (hmf : ml f = some v) (hno : findIn K (.ref C) f = some none)
    (hk : scope.kind = .function) (hka : scope.names.lookup ("self" : Str) = some .local) (hkf : scope.names.lookup f = some .local) (hfd : (f == ("__debug__" : Str)) = false)
    (hq : ∀ h' tk, (∀ b o, b ≠ dx → h.get? b = some o → h'.get? b = some o) → h'.Ns1 dx (fun y => if y = f then some v else m0 y) →
      wpAt (model prog w) A (.func bd (ksEnv qual scope L fI (.ref cda) cc)) (execs rest (ksEnv qual scope L fI (.ref cda) cc)) Q E ⟨h', g, d, tk, os⟩) :
    wpAt (model prog w) A (.func bd (ksEnv qual scope L fI (.ref cda) cc)) (execs (stoS f kq :: rest) (ksEnv qual scope L fI (.ref cda) cc)) Q E ⟨h, g, d, t, os⟩ := by
  obtain ⟨nm, q, N, bs, bm, sn, sub, ab, col, dd, k0, k1, k2, k3, k5, hC, hbm⟩ := T.oex.cls
  have hcl : clsIn K C = some { name := nm, bases := bs, mro := .ref C :: bm, ns := N, qualname := q, hasDict := true, slotNames := sn, subclasses := sub, abstract := ab, collection := col, hasDel := false } := by unfold clsIn; rw [hC] <;> rfl
  obtain ⟨oD, _, _, hoD, _, _⟩ := hns.count hw
  refine ks_wpAt_execs_cons (ks_wpAt_Assign_Attr ?_ rfl)
  refine wpAt_of_wpAny (ld_own hL hmf hk hkf hfd (ld_own hL hml hk hka (by decide) ?_))
  refine set_plain X (ox := { cls := .ref C, dict := some dx, data := .fields #[.ref t1, .none, .none, .none, .bool false, .none] }) (od := some oD) ⟨hx, rfl, rfl, hoD⟩ T.oex.sa ?_
  exact PySem.OEX.osa_old X hx hns hw hz hcl (show refsVE (.ref C :: bm) = true from hbm) rfl hno fun h' tk k hn' => hq h' tk k hn'
/-- what __init__ leaves of a fresh exception at x -/
structure Left (h h' : Heap) (x C dx t1 : Addr) (m : Str → Option Value) : Prop where
  keep : ∀ b o, b ≠ x → h.get? b = some o → h'.get? b = some o
  obj : h'.get? x = some { cls := .ref C, dict := some dx, data := .fields #[.ref t1, .none, .none, .none, .bool false, .none] }
  dbig : h.objs.size ≤ dx
  dne : dx ≠ x
  ns : h'.Ns1 dx m
/-- __init__ runs so -/
def InitRuns (prog : Program) (w : World) (K : Frag) (mg : Str → Option Value) (C fI : Addr) (n : Nat) (m : List Value → Str → Option Value) : Prop :=
  ∀ (A : Around) (R : Result → Shared → Prop) (s : Shared) (x t0 : Addr) (us : List Value), us.length = n → K.In s.heap → s.heap.NoLimit → Mods s.heap mg → s.heap.get? x = some (excO C t0) → K.lookup x = none → A.depth < recursionLimit →
    (∀ h' tk dx t1, Left s.heap h' x C dx t1 (m us) → R (.ok (.ret .none)) { s with heap := h', toks := tk }) → codeAny (model prog w) A (.call (.ref fI) ⟨.ref x :: us, []⟩) R s
end
section
variable {prog : Program} {w : World} {K : Frag} {mg : Str → Option Value} {C fI cda cc : Addr} {qual : Str}
/-- def __init__(self, f): super().__init__(m); self.f = f -/
abbrev ar1 (n : Str) (p : Pos) : Arg := { arg := n, annotation := none, pos := p }
abbrev arg2 (f : Str) (p1 p2 : Pos) : Arguments := { posonlyargs := [], args := [ar1 "self" p1, ar1 f p2], vararg := none, kwonlyargs := [], kw_defaults := [], kwarg := none, defaults := [] }
abbrev arg3 (f1 f2 : Str) (p1 p2 p3 : Pos) : Arguments := { posonlyargs := [], args := [ar1 "self" p1, ar1 f1 p2, ar1 f2 p3], vararg := none, kwonlyargs := [], kw_defaults := [], kwarg := none, defaults := [] }
abbrev sc2 (f : Str) : Scope := { kind := .function, names := [("self", .local), (f, .local), ("__class__", .free), ("super", .globalImplicit)], isGenerator := false, isCoroutine := false, more := [] }
abbrev sc3 (f1 f2 : Str) : Scope := { kind := .function, names := [("self", .local), (f1, .local), (f2, .local), ("__class__", .free), ("super", .globalImplicit)], isGenerator := false, isCoroutine := false, more := [] }
theorem nocell2 {f : Str} : ∀ x ∈ (sc2 f).names, x.2 ≠ .cell := fun x hx z => by
  simp only [sc2, List.mem_cons, List.not_mem_nil, or_false] at hx
  rcases hx with rfl | rfl | rfl | rfl <;> cases z
theorem nocell3 {f1 f2 : Str} : ∀ x ∈ (sc3 f1 f2).names, x.2 ≠ .cell := fun x hx z => by
  simp only [sc3, List.mem_cons, List.not_mem_nil, or_false] at hx
  rcases hx with rfl | rfl | rfl | rfl | rfl <;> cases z
theorem in_but {h h' : Heap} {x : Addr} (X : K.In h) (hx : K.lookup x = none) (k : ∀ b o, b ≠ x → h.get? b = some o → h'.get? b = some o) : K.In h' := fun a o e =>
  k a o (fun z => by rw [z, hx] at e; cases e) (X a o e)
theorem init1 {p1 p2 : Pos} {m : Str} {kp : Pos × Pos × Pos × Pos × Pos × Pos} {kq : Pos × Pos × Pos × Pos} {pl : Env → Sem Bool} (hev : ∀ env, SupEv m kp pl env)
    (T : Sup prog K mg C fI cda cc qual (sc2 "at") (arg2 "at" p1 p2) [supS m kp, stoS "at" kq]) (hno : findIn K (.ref C) "at" = some none) :
    InitRuns prog w K mg C fI 1 (fun us y => if y = ("at" : Str) then us[0]? else none) := by
  intro A R s x t0 us hus X hlim G hx hnx hroom hR
  obtain ⟨v, rfl⟩ : ∃ v, us = [v] := match us, hus with | [v], _ => ⟨v, rfl⟩
  obtain ⟨oc, od, osl, fnm, dV, kV, doc, pm, an, ct, rfl, hfn⟩ := T.fn
  obtain ⟨hp, g, d, tk, os⟩ := s
  refine ks_codeAny_call_defAt (fd := ksFn fnm qual (arg2 "at" p1 p2) [supS m kp, stoS "at" kq] (sc2 "at") .none kV doc pm an (.ref cda) ct cc) (body := [supS m kp, stoS "at" kq]) (binds := [("self", .ref x), ("at", v)]) hroom (X _ _ hfn) rfl hlim (codeRec_of X T.code) rfl
    (BindsTo.of_eq (by first | rfl | with_unfolding_all rfl)) nocell2 (fun y hy => ?_) (fun h₁ hns hk₁ => ?_)
  · rcases List.mem_cons.mp hy with rfl | hy
    · rfl
    · obtain rfl := List.mem_singleton.mp hy
      rfl
  · have X1 : K.In h₁ := X.keeps hk₁
    have hxL : hp.objs.size ≠ x := Nat.ne_of_gt (Heap.lt_size hx)
    have m1 : ([((PySem.Str.ofString "self"), Value.ref x), ((PySem.Str.ofString "at"), v)].reverse.lookup (PySem.Str.ofString "self")) = some (Value.ref x) := by first | rfl | decide
    have m2 : ([((PySem.Str.ofString "self"), Value.ref x), ((PySem.Str.ofString "at"), v)].reverse.lookup (PySem.Str.ofString "at")) = some v := by first | rfl | decide
    refine sup_step T X1 (G.keeps hk₁) (hk₁ _ _ hx) hns m1 rfl rfl rfl rfl rfl hev fun h2 t1 tk2 k2 e2 => ?_
    have X2 : K.In h2 := in_but X1 hnx k2
    have hns2 := hns.at fun o q => k2 _ _ hxL q
    refine sto_new T X2 e2 hns2 m1 m2 hno rfl rfl rfl (by decide) fun h3 tk3 dx k3 dn dne e3 n3 => ?_
    refine wpAt_of_wpAny (wpAny_execs_nil (hR h3 tk3 dx t1 ⟨fun b o hb q => k3 b o hb (k2 b o hb (hk₁ b o q)), e3, ?_, dne, n3⟩))
    exact Nat.le_trans (Nat.le_of_lt hns2.lt) dn
theorem init1n {p1 p2 : Pos} {m : Str} {kp : Pos × Pos × Pos × Pos × Pos × Pos} {kq : Pos × Pos × Pos × Pos} {pl : Env → Sem Bool} (hev : ∀ env, SupEv m kp pl env)
    (T : Sup prog K mg C fI cda cc qual (sc2 "name") (arg2 "name" p1 p2) [supS m kp, stoS "name" kq]) (hno : findIn K (.ref C) "name" = some none) :
    InitRuns prog w K mg C fI 1 (fun us y => if y = ("name" : Str) then us[0]? else none) := by
  intro A R s x t0 us hus X hlim G hx hnx hroom hR
  obtain ⟨v, rfl⟩ : ∃ v, us = [v] := match us, hus with | [v], _ => ⟨v, rfl⟩
  obtain ⟨oc, od, osl, fnm, dV, kV, doc, pm, an, ct, rfl, hfn⟩ := T.fn
  obtain ⟨hp, g, d, tk, os⟩ := s
  refine ks_codeAny_call_defAt (fd := ksFn fnm qual (arg2 "name" p1 p2) [supS m kp, stoS "name" kq] (sc2 "name") .none kV doc pm an (.ref cda) ct cc) (body := [supS m kp, stoS "name" kq]) (binds := [("self", .ref x), ("name", v)]) hroom (X _ _ hfn) rfl hlim (codeRec_of X T.code) rfl
    (BindsTo.of_eq (by first | rfl | with_unfolding_all rfl)) nocell2 (fun y hy => ?_) (fun h₁ hns hk₁ => ?_)
  · rcases List.mem_cons.mp hy with rfl | hy
    · rfl
    · obtain rfl := List.mem_singleton.mp hy
      rfl
  · have X1 : K.In h₁ := X.keeps hk₁
    have hxL : hp.objs.size ≠ x := Nat.ne_of_gt (Heap.lt_size hx)
    have m1 : ([((PySem.Str.ofString "self"), Value.ref x), ((PySem.Str.ofString "name"), v)].reverse.lookup (PySem.Str.ofString "self")) = some (Value.ref x) := by first | rfl | decide
    have m2 : ([((PySem.Str.ofString "self"), Value.ref x), ((PySem.Str.ofString "name"), v)].reverse.lookup (PySem.Str.ofString "name")) = some v := by first | rfl | decide
    refine sup_step T X1 (G.keeps hk₁) (hk₁ _ _ hx) hns m1 rfl rfl rfl rfl rfl hev fun h2 t1 tk2 k2 e2 => ?_
    have X2 : K.In h2 := in_but X1 hnx k2
    have hns2 := hns.at fun o q => k2 _ _ hxL q
    refine sto_new T X2 e2 hns2 m1 m2 hno rfl rfl rfl (by decide) fun h3 tk3 dx k3 dn dne e3 n3 => ?_
    refine wpAt_of_wpAny (wpAny_execs_nil (hR h3 tk3 dx t1 ⟨fun b o hb q => k3 b o hb (k2 b o hb (hk₁ b o q)), e3, ?_, dne, n3⟩))
    exact Nat.le_trans (Nat.le_of_lt hns2.lt) dn
theorem init2 {p1 p2 p3 : Pos} {m : Str} {kp : Pos × Pos × Pos × Pos × Pos × Pos} {kq kr : Pos × Pos × Pos × Pos} {pl : Env → Sem Bool} (hev : ∀ env, SupEv m kp pl env)
    (T : Sup prog K mg C fI cda cc qual (sc3 "name" "at") (arg3 "name" "at" p1 p2 p3) [supS m kp, stoS "name" kq, stoS "at" kr]) (hno : findIn K (.ref C) "name" = some none) (hno2 : findIn K (.ref C) "at" = some none) :
    InitRuns prog w K mg C fI 2 (fun us y => if y = ("at" : Str) then us[1]? else if y = ("name" : Str) then us[0]? else none) := by
  intro A R s x t0 us hus X hlim G hx hnx hroom hR
  obtain ⟨v, u, rfl⟩ : ∃ v u, us = [v, u] := match us, hus with | [v, u], _ => ⟨v, u, rfl⟩
  obtain ⟨oc, od, osl, fnm, dV, kV, doc, pm, an, ct, rfl, hfn⟩ := T.fn
  obtain ⟨hp, g, d, tk, os⟩ := s
  refine ks_codeAny_call_defAt (fd := ksFn fnm qual (arg3 "name" "at" p1 p2 p3) [supS m kp, stoS "name" kq, stoS "at" kr] (sc3 "name" "at") .none kV doc pm an (.ref cda) ct cc) (body := [supS m kp, stoS "name" kq, stoS "at" kr]) (binds := [("self", .ref x), ("name", v), ("at", u)]) hroom (X _ _ hfn) rfl hlim (codeRec_of X T.code) rfl
    (BindsTo.of_eq (by first | rfl | with_unfolding_all rfl)) nocell3 (fun y hy => ?_) (fun h₁ hns hk₁ => ?_)
  · rcases List.mem_cons.mp hy with rfl | hy
    · rfl
    rcases List.mem_cons.mp hy with rfl | hy
    · rfl
    · obtain rfl := List.mem_singleton.mp hy
      rfl
  · have X1 : K.In h₁ := X.keeps hk₁
    have hxL : hp.objs.size ≠ x := Nat.ne_of_gt (Heap.lt_size hx)
    have m1 : ([((PySem.Str.ofString "self"), Value.ref x), ((PySem.Str.ofString "name"), v), ((PySem.Str.ofString "at"), u)].reverse.lookup (PySem.Str.ofString "self")) = some (Value.ref x) := by first | rfl | decide
    have m2 : ([((PySem.Str.ofString "self"), Value.ref x), ((PySem.Str.ofString "name"), v), ((PySem.Str.ofString "at"), u)].reverse.lookup (PySem.Str.ofString "name")) = some v := by first | rfl | decide
    have m3 : ([((PySem.Str.ofString "self"), Value.ref x), ((PySem.Str.ofString "name"), v), ((PySem.Str.ofString "at"), u)].reverse.lookup (PySem.Str.ofString "at")) = some u := by first | rfl | decide
    refine sup_step T X1 (G.keeps hk₁) (hk₁ _ _ hx) hns m1 rfl rfl rfl rfl rfl hev fun h2 t1 tk2 k2 e2 => ?_
    have X2 : K.In h2 := in_but X1 hnx k2
    have hns2 := hns.at fun o q => k2 _ _ hxL q
    refine sto_new T X2 e2 hns2 m1 m2 hno rfl rfl rfl (by decide) fun h3 tk3 dx k3 dn dne e3 n3 => ?_
    have X3 : K.In h3 := in_but X2 hnx k3
    have hns3 := hns2.at fun o q => k3 _ _ hxL q
    have dL : hp.objs.size ≠ dx := Nat.ne_of_lt (Nat.lt_of_lt_of_le hns2.lt dn)
    have ndx : K.lookup dx = none := by
      cases q : K.lookup dx with
      | none => rfl
      | some o => exact absurd (Nat.lt_of_lt_of_le (Heap.lt_size (X2 _ _ q)) dn) (Nat.lt_irrefl _)
    refine sto_old T X3 e3 n3 (nl := [PySem.Str.ofString "name"]) (fun y hy => ?_) (by decide) hns3 m1 m3 hno2 rfl rfl rfl (by decide) fun h4 tk4 k4 n4 => ?_
    · by_cases e : y = (PySem.Str.ofString "name")
      · rw [e]
        exact List.mem_cons_self
      · exact absurd (if_neg e) hy
    have k23 : ∀ b o, b ≠ x → h₁.get? b = some o → h4.get? b = some o := fun b o hb q => by
      have y := k3 b o hb (k2 b o hb q)
      refine k4 b o (fun z => ?_) y
      rw [z] at q
      have y2 := k2 dx o (by rw [← z]; exact hb) q
      exact absurd (Nat.lt_of_lt_of_le (Heap.lt_size y2) dn) (Nat.lt_irrefl _)
    refine wpAt_of_wpAny (wpAny_execs_nil (hR h4 tk4 dx t1 ⟨fun b o hb q => k23 b o hb (hk₁ b o q), k4 x _ (Ne.symm dne) e3, ?_, dne, n4⟩))
    exact Nat.le_trans (Nat.le_of_lt hns2.lt) dn
end
/-- a made one -/
structure Made (h h' : Heap) (e C d : Addr) (m : Str → Option Value) : Prop where
  keep : ∀ b o, h.get? b = some o → h'.get? b = some o
  new : h.objs.size ≤ e
  obj : ∃ oe vs, h'.get? e = some oe ∧ oe.cls = .ref C ∧ oe.dict = some d ∧ oe.data = .fields vs ∧ vs[1]? = some .none
  dbig : h.objs.size ≤ d
  dne : d ≠ e
  ns : h'.Ns1 d m
section
variable {prog : Program} {w : World} {A : Around} {E : Value → Shared → Prop} {R : Result → Shared → Prop} {s : Shared} {K : Frag} {mg : Str → Option Value} {C fI : Addr} {n : Nat} {mf : List Value → Str → Option Value}
theorem ex_made (T : L2.OexC K C) (iC : findIn K (.ref C) "__init__" = some (some (.ref fI))) (tI : typeIn K (.ref fI) = some (.type "function")) (IR : InitRuns prog w K mg C fI n mf) {us : List Value} (hn : us.length = n) (hz : n ≤ 1000)
    (X : K.In s.heap) (hlim : s.heap.NoLimit) (G : Mods s.heap mg) (hroom : A.depth + 1 < recursionLimit)
    (hq : ∀ h' tk e d, Made s.heap h' e C d (mf us) → R (.ok (.ret (.ref e))) { s with heap := h', toks := tk }) :
    codeAny (model prog w) A (.call (.ref C) ⟨us, []⟩) R s := by
  obtain ⟨nm, q, N, bs, bm, sn, sub, ab, col, dd, k0, k1, k2, k3, k5, hC, hbm⟩ := T.cls
  obtain ⟨hp, g, dr, tk, os⟩ := s
  have k : ∀ b o, hp.get? b = some o → ((hp.push (kdv_tup us)).push (excO C hp.objs.size)).get? b = some o := fun b o e => Heap.get?_push_of_some _ (Heap.get?_push_of_some _ e)
  have hget : ((hp.push (kdv_tup us)).push (excO C hp.objs.size)).get? (hp.objs.size + 1) = some (excO C hp.objs.size) := by heap_get
  have hnx : K.lookup (hp.objs.size + 1) = none := by
    cases e : K.lookup (hp.objs.size + 1) with
    | none => rfl
    | some o => exact absurd (Nat.lt_of_succ_lt (Heap.lt_size (X _ _ e))) (Nat.lt_irrefl _)
  have hus : us.length ≤ sizeLine := by rw [sizeLine_eq]; omega
  refine call_own F.excBase_ValueError (fun X => refsVE_contains X bm hbm) (X _ _ hC) (looks_findIn X iC) (fun self => bind_fn X self tI) hus ?_
  refine IR _ _ ⟨(hp.push (kdv_tup us)).push (excO C hp.objs.size), g, dr, tk, os⟩ _ _ us hn (X.keeps k) (hlim.keeps k) (G.keeps k) hget hnx (show A.depth + 1 < recursionLimit from hroom) fun h' tk' dx t1 ⟨k', hx, dn, dne, hns⟩ => ?_
  have old : ∀ b o, hp.get? b = some o → h'.get? b = some o := fun b o e => k' b o (Nat.ne_of_lt (Nat.lt_succ_of_lt (Heap.lt_size e))) (k b o e)
  have z : hp.objs.size + 1 + 1 ≤ dx := by
    have q := dn
    rw [Heap.size_push, Heap.size_push] at q
    exact q
  exact ⟨rfl, hq h' tk' (hp.objs.size + 1) dx ⟨old, Nat.le_succ _, ⟨_, _, hx, rfl, rfl, rfl, rfl⟩, Nat.le_trans (Nat.le_trans (Nat.le_succ _) (Nat.le_succ _)) z, dne, hns⟩⟩
end
end SupX
end PySem
namespace L2
open PySem PySem.Spec PyProof.Rows
theorem mods_of {X : Cx} {pins : List (Addr × Obj)} {σ : St} {H : Hp} {s : Shared} (I : Inv X pins σ H s) : PySem.SupX.Mods s.heap X.mg := by
  obtain ⟨kin, glob, ⟨mb, hb, hm⟩, lim⟩ := I.ok.mod
  exact (PySem.SupX.Mods.mk glob ⟨mb, hb, by rw [hm _ (by decide)]; first | rfl | decide +kernel⟩).keeps I.bk
section
variable {X : Cx} {C fI : Addr} {n : Nat} {mf : List Value → Str → Option Value} {fv : List V → List (Str × V)}
/-- C(e, ..), an own exception whose __init__ runs as InitRuns says -/
def tMkE (C : Addr) (n : Nat) (fv : List V → List (Str × V)) (ta : TA) : St → Hp → XK → Prop := fun σ H Q => ta σ H fun vs H1 => vs.length = n ∧ ∀ d, H1 d = none → Q (.ref C) (some d) (upd H1 d (.xd (fv vs)))
theorem pmk_sup {x : Str} {e : Expr} {es : List Expr} {ta : TA} {p pos : Pos} {k : Nat} (T : OexC X.K C) (iC : PySem.W.findIn X.K (.ref C) "__init__" = some (some (.ref fI))) (tI : PySem.W.typeIn X.K (.ref fI) = some (.type "function"))
    (IR : PySem.SupX.InitRuns X.prog X.w X.K X.mg C fI n mf) (hz : n ≤ 1000) (hf : ∀ vs us, vs.length = n → Vals vs us → ∀ f, RelO ((fv vs).lookup f) (mf us f)) (hm : X.mg x = some (.ref C)) (hr : Room k X.A) (ha : PA X (e :: es) ta) (hg : Gl X x)
    (hdb : (x == ("__debug__" : Str)) = false := by decide) (he : starEach (e :: es) X.env = (false, eval e X.env) :: starEach es X.env := by rfl) (hpl : (backTo pos (starEach es X.env)).any (·.1) = false := by rfl) :
    PMk X (.Call (.Name x p) (e :: es) [] pos) (tMkE C n fv ta) := by
  intro pins s σ H Q I h
  refine wpAny_Call_Name_kw (ld_glob I hg hm ?_ hdb)
  refine PySem.W.callWith_K (h₀ := X.base) I.ok.mod.kin T.kC (thn (ha.run pos pins s σ H _ I h) fun us s1 hh => ?_) he hpl
  obtain ⟨vs, H1, I1, r1, hl, q1⟩ := hh
  refine ⟨I1.kIn, ?_⟩
  show wpAny _ _ (call (.ref C) us) _ _ _
  have hlim := I1.nolimit
  have hG := mods_of I1
  obtain ⟨hp, g, dr, tk, os⟩ := s1
  refine wpAny_call (PySem.SupX.ex_made T iC tI IR (by rw [← r1.length]; exact hl) hz I1.kIn hlim hG (by have := hr.dp; omega) fun h' tk' e d M => ?_)
  show MkP X pins σ Q (.ref e) ⟨h', g, dr, tk', os⟩
  obtain ⟨oe, ov, hoe, hc, hd, hdat, h1⟩ := M.obj
  have hns := M.ns
  obtain ⟨G', g1, g2⟩ := restrict h' fun b => decide (b ≠ e)
  have gk : ∀ b, b ≠ e → G'.get? b = h'.get? b := fun b hb => g1 b (decide_eq_true hb)
  have ge : G'.get? e = none := g2 e (by simp)
  have old : ∀ b o, hp.get? b = some o → G'.get? b = some o := fun b o q => (gk b (Nat.ne_of_lt (Nat.lt_of_lt_of_le (Heap.lt_size q) M.new))).trans (M.keep b o q)
  have ob : ObjOk X.prog X.w (upd H1 d (.xd (fv vs))) G' d (.xd (fv vs)) := ⟨_, hns.at (fun o q => (gk d M.dne).trans q), fun f => hf vs us hl r1 f⟩
  have J : Inv X pins σ (upd H1 d (.xd (fv vs))) ⟨G', g, dr, tk', os⟩ := I1.laid (t' := tk') old M.dbig ob
  refine ⟨e, oe, ov, ⟨G', g, dr, tk', os⟩, _, .ref C, some d, rfl, J, fun b o q => ?_, ge, hoe, ⟨hc, hd⟩, hdat, h1, ?_, rfl, I1.bare, raises_own T.exC T.tyC, q1 d (I1.hok.fresh M.dbig)⟩
  · by_cases hb : b = e
    · have q' : G'.get? b = some o := q
      rw [hb, ge] at q'; cases q'
    · exact (gk b hb).symm.trans q
  · rw [upd_ne (Ne.symm M.dne)]
    exact I1.hok.fresh M.new
end
/-- the fields of one, of two -/
def fv1 (vs : List V) : List (Str × V) := match vs with | [v] => [("at", v)] | _ => []
def fv2 (vs : List V) : List (Str × V) := match vs with | [v, u] => [("at", u), ("name", v)] | _ => []
def fv1n (vs : List V) : List (Str × V) := match vs with | [v] => [("name", v)] | _ => []
theorem fv1_rel (vs : List V) (us : List Value) (hl : vs.length = 1) (r : Vals vs us) (f : Str) : RelO ((fv1 vs).lookup f) (if f = ("at" : Str) then us[0]? else none) := by
  cases r with
  | nil => cases hl
  | cons r rr =>
    cases rr with
    | nil =>
      show RelO ([(_, _)].lookup f) _
      rw [lookup_put]
      by_cases h : f = ("at" : Str)
      · rw [if_pos h, if_pos h]
        exact r
      · rw [if_neg h, if_neg h]
        trivial
    | cons _ _ => cases hl
theorem fv1n_rel (vs : List V) (us : List Value) (hl : vs.length = 1) (r : Vals vs us) (f : Str) : RelO ((fv1n vs).lookup f) (if f = ("name" : Str) then us[0]? else none) := by
  cases r with
  | nil => cases hl
  | cons r rr =>
    cases rr with
    | nil =>
      show RelO ([(_, _)].lookup f) _
      rw [lookup_put]
      by_cases h : f = ("name" : Str)
      · rw [if_pos h, if_pos h]
        exact r
      · rw [if_neg h, if_neg h]
        trivial
    | cons _ _ => cases hl
theorem fv2_rel (vs : List V) (us : List Value) (hl : vs.length = 2) (r : Vals vs us) (f : Str) : RelO ((fv2 vs).lookup f) (if f = ("at" : Str) then us[1]? else if f = ("name" : Str) then us[0]? else none) := by
  cases r with
  | nil => cases hl
  | cons r rr =>
    cases rr with
    | nil => cases hl
    | cons r2 rr =>
      cases rr with
      | nil =>
        show RelO (List.lookup f [(_, _), (_, _)]) _
        rw [lookup_put]
        by_cases h : f = ("at" : Str)
        · rw [if_pos h, if_pos h]
          exact r2
        · rw [if_neg h, if_neg h, lookup_put]
          by_cases h2 : f = ("name" : Str)
          · rw [if_pos h2, if_pos h2]
            exact r
          · rw [if_neg h2, if_neg h2]
            trivial
      | cons _ _ => cases hl
/-! ### try: body, then several clauses «except x as n», the same n -/
/-- what the clauses wish of an exception of the body, one after the other; slot i is n's -/
def wMAs (K : PySem.W.Frag) (i : Nat) (Wout : WX) (D : Ends) : List (Value × (Addr → Value → Option Addr → TS)) → WX
  | [] => Wout
  | (c, ts) :: r => fun cls d σ H => ∃ b, PySem.W.exmOne K cls c = some b ∧
      (b = true → ∀ a, H a = none → ts a cls d { nx := fun σ' H' => D.nx (σ'.set i none) H', rt := D.rt, bk := fun σ' H' => D.bk (σ'.set i none) H', ct := fun σ' H' => D.ct (σ'.set i none) H' } (σ.set i (some (.ref a))) H) ∧
      (b = false → wMAs K i Wout D r cls d σ H)
inductive HdsAs (X : Cx) (n : Str) : List ExceptHandler → List (Value × (Addr → Value → Option Addr → TS)) → Prop
  | nil : HdsAs X n [] []
  | cons {x : Str} {c : Value} {ts : Addr → Value → Option Addr → TS} {b₀ : Stmt} {suite : List Stmt} {np pos' : Pos} {hds : List ExceptHandler} {l : List (Value × (Addr → Value → Option Addr → TS))} (hc : Names X x c)
      (hsu : ∀ (a : Addr) (oe : Obj) (cls : Value) (d : Option Addr) (pn : List (Addr × Obj)), Zc cls d oe → (∃ vs, oe.data = .fields vs) → PSs (X.suite a ((a, oe) :: pn)) (b₀ :: suite) (ts a cls d)) (r : HdsAs X n hds l) :
      HdsAs X n (.ExceptHandler (some (.Name x np)) (some n) (b₀ :: suite) pos' :: hds) ((c, ts) :: l)
section
variable {X : Cx} {n : Str} {i : Nat} {body : List Stmt} {h₀ : ExceptHandler} {hds : List ExceptHandler} {l : List (Value × (Addr → Value → Option Addr → TS))} {pos : Pos} {tb : WX → TS} {Wout : WX}
theorem ps_try_mas (hs : X.stack = X.env :: X.outer) (hf : X.env.frame = some X.env.locals) (hN : X.N.Nodup) (hi : X.N[i]? = some n) (hln : X.env.kindOf n = some .local) (tk : Takes X Wout)
    (hb : ∀ (W : WX) (pn : List (Addr × Obj)) (xe : Value → Shared → Prop), Takes (X.tr pn xe) W → PassesOwn (model X.prog X.w) X.A X.env xe → PSs (X.tr pn xe) body (tb W))
    (hh : HdsAs X n (h₀ :: hds) l) : PS X (.Try body (h₀ :: hds) [] [] pos) (fun D σ H => tb (wMAs X.K i Wout D l) D σ H) := by
  refine ⟨fun pins s σ H D I h => ?_⟩
  have ok := I.ok
  have hfr : X.A.frames = some (X.env :: X.outer) := by rw [ok.frames, hs]
  have hloc : Loc X.env.scope n := .inl hln
  refine wpAny_Try_except ?_
  refine wpAny_mono ((hb (wMAs X.K i Wout D l) (X.pn ++ pins) (fun e s₁ => wpAny (model X.prog X.w) X.A (noteFrame e X.env) (fun _ s₂ => wpAny (model X.prog X.w) X.A (setFlight e none) (fun _ s₃ =>
    wpAny (model X.prog X.w) X.A (handleBy e X.env (h₀ :: hds)) (SP X pins D) X.xe s₃) X.xe s₂) X.xe s₁) (fun u s' xx => ?_) PassesOwn.looking).run [] s σ H D (I.toTry _) h) (fun f s1 hsp => ?_) (fun e s1 he => he)
  · obtain ⟨a, B, sI, pins', σ', H', cls, d, rfl, J', nb, up, sky, na, os, ag, w⟩ := xx
    have J : Inv X pins σ' H' sI := J'.ofTry ok
    have sky' : Sky B (X.env :: X.outer) a (Zc cls d) X.env.locals s'.heap := by rw [← hs]; exact sky
    show wpAny (model X.prog X.w) X.A (noteFrame (.ref a) X.env) _ _ _
    refine Sky.land Zc.steady hfr hf sky' fun h3 fl3 up3 => ?_
    have J3 : Inv X pins σ' H' { s' with heap := h3 } := J.landed nb fl3.1 (up.trans up3) os ag
    obtain ⟨oe3, vs3, he3, hz3, hd3⟩ := fl3.there
    have nfr : a ∉ frs (X.env :: X.outer) := fun hm => by
      obtain ⟨_, o', e', hnf⟩ := fl3.2.2.1.mem hm
      rw [he3] at e'; cases e'
      exact hnf _ hd3
    have nL : a ≠ X.env.locals := fun z => nfr (List.mem_filterMap.mpr ⟨X.env, List.mem_cons_self, by rw [hf, z]⟩)
    have nF : a ∉ X.fs := fun hm => by
      obtain ⟨e, he, q⟩ := List.mem_filterMap.mp hm
      exact nfr (List.mem_filterMap.mpr ⟨e, List.mem_cons_of_mem _ he, q⟩)
    have S3 := J3.suite he3 hd3 na nL nF
    have go : ∀ {hds' : List ExceptHandler} {l' : List (Value × (Addr → Value → Option Addr → TS))}, HdsAs X n hds' l' → wMAs X.K i Wout D l' cls d σ' H' →
        wpAny (model X.prog X.w) X.A (handleBy (.ref a) X.env hds') (SP X pins D) X.xe { s' with heap := h3 } := by
      intro hds' l' hk
      induction hk with
      | nil =>
        intro w
        refine wpAny_handleBy_nil ?_
        obtain ⟨k1, k2, k3, oe, vs, T, oT, ts', he, hz, hd, h1, hr⟩ := id fl3
        unfold PySem.passOn
        refine wpAny_bind (wpAny_field he hd h1 ?_)
        rw [if_neg (show ¬ ((Value.ref T == Value.none) = true) from by simp)]
        have fin : wpAny (model X.prog X.w) X.A (setFlight (.ref a) X.env.frame) (fun _ s4 => wpAny (model X.prog X.w) X.A (throw (.ref a) : Sem Flow) (SP X pins D) X.xe s4) X.xe { s' with heap := h3 } := by
          rw [hf]
          refine HandSPX.setFlight_upZ fl3 fun h4 hh4 up4 => wpAny_throw (tk _ _ ?_)
          exact ⟨a, B, sI, pins, σ', H', cls, d, rfl, J, nb, (up.trans up3).trans up4, .inr (.inr (by rw [hs]; exact hh4)), na, os, ag, w⟩
        first
          | exact wpAny_bind (wpAny_pure (wpAny_bind fin))
          | exact wpAny_bind fin
      | @cons x c ts b₀ suite np pos' hds2 l2 hc hsu r ih =>
        intro w
        obtain ⟨b, hb1, hyes, hno⟩ := w
        refine wpAny_handleBy_cons (codeAny_handlers_test ?_) (by intro q; cases q)
        have LT : PySem.W.Looks (model X.prog X.w) h3 (typeOf (.ref a)) cls := fun A Q E s k q => wpAny_typeOf_ref (k _ _ he3) (by rw [hz3.1]; exact q)
        have LM := PySem.W.exm_one (M := model X.prog X.w) (J3.kIn) LT hb1
        have test : ∀ {Q : Value → Shared → Prop} {E : Value → Shared → Prop}, Q c { s' with heap := h3 } → wpAny (model X.prog X.w) (X.A.mark (some (.ref a))) (eval (.Name x np) X.env) Q E { s' with heap := h3 } := fun {Q E} q => by
          obtain ⟨hg, hdbg, hm | ⟨hm, hv, hnn⟩⟩ := hc
          · exact ld_glob (X := X.suite a ((a, oe3) :: (X.pn ++ pins))) S3 hg hm q hdbg
          · exact ld_blt (X := X.suite a ((a, oe3) :: (X.pn ++ pins))) S3 hg hm hv q hnn hdbg
        refine test (LM.here ?_)
        cases b with
        | true =>
          refine codeAny_handlers_suite_as ?_
          refine HandSPX.lands_againZ fl3 fun h4 fl4 up4 => ?_
          have J4 : Inv X pins σ' H' { s' with heap := h4 } := J.landed nb fl4.1 ((up.trans up3).trans up4) os ag
          obtain ⟨oe4, vs4, he4, hz4, hd4⟩ := fl4.there
          have S4 := J4.suite he4 hd4 na nL nF
          refine store_ok (X := X.suite a ((a, oe4) :: (X.pn ++ pins))) (v := .ref a) S4 hN hi hloc rfl (fun s5 S5 => ?_) (.inr hln)
          refine wpAny_mono ((hsu a oe4 cls d (X.pn ++ pins) hz4 ⟨_, hd4⟩).run [] s5 _ H' _ S5 (hyes rfl a na)) (fun f s6 hsp => ?_) (fun _ _ z => False.elim z)
          have end_ : ∀ {σ6 : St} {H6 : Hp} {Q : Shared → Prop}, Inv (X.suite a ((a, oe4) :: (X.pn ++ pins))) [] σ6 H6 s6 → (∀ s7, Inv X pins (σ6.set i none) H6 s7 → Q s7) →
              wpAny (model X.prog X.w) X.A (do bindName X.env n .none; unbindBehindTheSuite X.env n pos') (fun _ s7 => Q s7) X.xe s6 := fun {σ6 H6 Q} S6 hq => gone_ok (S6.unsuite ok) hN hi hln hq
          cases f with
          | next =>
            obtain ⟨σ6, H6, S6, q6⟩ := hsp
            exact end_ S6 fun s7 J7 => ⟨_, _, J7, q6⟩
          | brk =>
            obtain ⟨σ6, H6, S6, q6⟩ := hsp
            exact end_ S6 fun s7 J7 => ⟨_, _, J7, q6⟩
          | cont =>
            obtain ⟨σ6, H6, S6, q6⟩ := hsp
            exact end_ S6 fun s7 J7 => ⟨_, _, J7, q6⟩
          | ret u =>
            obtain ⟨v6, σ6, H6, S6, r6, q6⟩ := hsp
            exact end_ S6 fun s7 J7 => ⟨_, _, _, J7, r6, q6⟩
        | false =>
          show wpAny _ X.A (handleBy (.ref a) X.env hds2) _ _ _
          exact ih (hno rfl)
    exact go hh w
  · cases f with
    | next =>
      obtain ⟨σ', H', J', q⟩ := hsp
      exact wpAny_execs_nil ⟨σ', H', J'.ofTry ok, q⟩
    | brk =>
      obtain ⟨σ', H', J', q⟩ := hsp
      exact ⟨σ', H', J'.ofTry ok, q⟩
    | cont =>
      obtain ⟨σ', H', J', q⟩ := hsp
      exact ⟨σ', H', J'.ofTry ok, q⟩
    | ret u =>
      obtain ⟨v, σ', H', J', r, q⟩ := hsp
      exact ⟨v, σ', H', J'.ofTry ok, r, q⟩
end
end L2
namespace PySem
namespace SupX
open PySem.W PySem.Spec PySem.Calls PyProof.Rows
section
variable {prog : Program} {w : World} {A : Around} {E : Value → Shared → Prop} {s : Shared} {K : Frag} {x D : Addr} {ox : Obj} {od : Option Obj}
theorem found_data {C : Addr} {name : Str} {a g : Value} (hc : (clsIn K C).isSome = true) (ha : findIn K (.ref C) name = some (some a)) (hg : specialIn K a "__get__" = some (some g)) (ht : takesIn K a = some true) : findObj K C od name = some (.bind g a) := by
  obtain ⟨cd, hc⟩ := Option.isSome_iff_exists.mp hc
  unfold findObj
  simp [hc, ha, hg, ht]
/-- e.__class__ of an own exception, with its dict or without -/
theorem class_of (Z : L2.ExcC K D) (X : K.In s.heap) (I : InstAt s.heap x ox D od) {Q : Option Value → Shared → Prop} (h : Q (some (.ref D)) { s with toks := s.toks + 1 }) : wpAny (model prog w) A (getAttr? (.ref x) "__class__") Q E s := by
  obtain ⟨cdD, hcD, _⟩ := any_some Z.hd
  have hf : findObj K D od "__class__" = some (.bind (.builtin "getset_descriptor.__get__") (.builtin "object.__class__")) := found_data (by rw [hcD]; rfl) Z.ha Z.hn Z.ht
  obtain ⟨hp, g, d, t, os⟩ := s
  have T0 := I.type (M := model prog w)
  have G1 := looks_findIn (M := model prog w) X Z.hg
  have G2 := looks_findIn (M := model prog w) X Z.hk
  have G3 := looks_find (M := model prog w) X I hf
  have sub : Looks (model prog w) hp (isInstance (.ref x) (.type "BaseException")) true := T0.andThen (looks_subIn X Z.hs)
  have n2 : (Value.builtin "BaseException.__getattribute__" == Value.builtin "object.__getattribute__") = false := by decide +kernel
  have n1 : (onTheHeap (Value.ref D) && Value.builtin "BaseException.__getattribute__" == Value.builtin "object.__getattribute__") = false := by rw [n2]; rfl
  have n0 : (false && onTheHeap (Value.builtin "BaseException.__getattribute__")) = false := rfl
  unfold getAttr? getAttrBy? getAttrBy
  refine wpAny_bind (wpAny_mkText (wpAny_bind (wpAny_attempt (wpAny_holding (wpAny_bind (T0.at (wpAny_bind (G1.at ?_))))))))
  show wpAny _ _ (if (onTheHeap (Value.ref D) && Value.builtin "BaseException.__getattribute__" == Value.builtin "object.__getattribute__") = true then _ else _) _ _ _
  rw [n1, if_neg Bool.false_ne_true]
  unfold getAttrByItsOwn hookBefore
  refine wpAny_bind ?_
  rw [if_pos (show onTheHeap (Value.ref D) = true from rfl)]
  refine G2.at ?_
  refine wpAny_bind (wpAny_attempt (wpAny_holding ?_))
  unfold callGetattribute
  rw [n0, if_neg Bool.false_ne_true]
  unfold boundAndCalled
  rw [PySem.F.excAttr_ValueError.ga.bind (.ref x)]
  refine wpAny_bind (wpAny_pure ?_)
  show wpAny _ _ (call (.builtin "BaseException.__getattribute__") [.ref x, .str "__class__" t]) _ _ _
  refine wpAny_call (codeAny_call_builtin PySem.F.excAttr_ValueError.ga.plain PySem.F.entry_bexc_ga ?_)
  refine @check_slot (model prog w) _ _ ⟨hp, g, d, t + 1, os⟩ "BaseException.__getattribute__" "BaseException" "__getattribute__" (.ref x) [.str "__class__" t] [] _ (by decide +kernel) (by decide +kernel) sub (PySem.F.args_bexc_ga (.ref x) (.str "__class__" t)) ?_
  unfold Builtin.«object.__getattribute__»
  refine wpAny_bind (wpAny_of_eq (a := ((Value.ref x : Value), [Value.str "__class__" t])) (by first | rfl | (simp only [slotArgs]; rfl)) ?_)
  refine wpAny_bind (wpAny_pure (wpAny_bind (T0.at (wpAny_bind (G3.at ?_)))))
  show wpAny _ _ (holding [Value.builtin "object.__class__"] (call (.builtin "getset_descriptor.__get__") [.builtin "object.__class__", .ref x, .ref D]) >>= ret) _ _ _
  refine wpAny_bind (wpAny_holding (wpAny_call (class_get (s := ⟨hp, g, d, t + 1, os⟩) (ox := ox) (od := od) X I Z.hm ?_)))
  refine wpAny_pure ?_
  show wpAny _ _ (handedOut (.ref D)) _ _ _
  rw [handedOut_of (v := .ref D) rfl]
  first
    | exact wpAny_pure (wpAny_pure h)
    | exact wpAny_pure h
    | exact wpAny_pure (wpAny_bind (wpAny_pure (wpAny_pure h)))
theorem kit_exc (Z : L2.ExcC K D) : KitX K (.ref x) (.ref D) (fun h => ∃ ox od, InstAt h x ox D od) where
  ty := fun _ _ _ ⟨_, _, I⟩ => I.type
  it := fun _ _ X _ => by
    obtain ⟨cdD, hcD, _⟩ := any_some Z.hd
    unfold clsIn at hcD
    split at hcD
    · rename_i c' d' cd' sl' ho
      intro A' Q' E' s' k q
      unfold isType loadHead
      exact wpAny_bind (wpAny_loadPart (k _ _ (X _ _ ho)) (wpAny_pure q))
    · cases hcD
  ne := fun h tp dd its n sl X htp => by
    obtain ⟨cdD, hcD, _⟩ := any_some Z.hd
    refine Bool.eq_false_iff.mpr fun q => ?_
    obtain rfl : D = tp := Value.ref.inj (beq_iff_eq.mp q)
    unfold clsIn at hcD
    split at hcD
    · rename_i c' d' cd' sl' ho
      have z := (X _ _ ho).symm.trans htp
      cases z
    · cases hcD
  ca := fun X ⟨_, _, I⟩ k => class_of Z X I k
end
end SupX
end PySem
namespace L2
open PySem PySem.Spec PyProof.Rows
/-- isinstance(e, c), e the exception that the suite holds, its dict at d -/
theorem call_isD {X : Cx} {a D : Addr} {cls : Value} {d : Option Addr} {oe : Obj} {pn : List (Addr × Obj)} (C : ExcC X.K D) (hz : Zc cls d oe) (hf : ∃ vs, oe.data = .fields vs) :
    CallR (X.suite a ((a, oe) :: pn)) (.builtin "isinstance") (fun xs H Q => cls = .ref D ∧ (∃ dd fs, d = some dd ∧ H dd = some (.xd fs)) ∧ rIsE X.K D a xs H Q) := by
  intro pins s σ H xs us Q I r h
  obtain ⟨rfl, ⟨dd, fs, rfl, hd⟩, c, cv, b, rfl, hcv, e, q⟩ := h
  cases r with
  | cons rx rr =>
    cases rr with
    | cons rt rr =>
      cases rr
      cases rx
      have ec := hcv _ rt
      subst ec
      obtain ⟨hget, _⟩ := I.pin (a, oe) (List.mem_append.mpr (.inl List.mem_cons_self))
      obtain ⟨vs, hv⟩ := hf
      have hx : ObjOk X.prog X.w H s.heap dd (.xd fs) := I.hok dd _ hd
      obtain ⟨mA, ⟨od, _, _, ho, _⟩, _⟩ := hx
      have J : PySem.W.InstAt s.heap a oe D (some od) := ⟨hget, hz.1, by unfold PySem.W.notCls; rw [hv] <;> rfl, by rw [hz.2]; exact ho⟩
      exact PySem.W.kia_one (PySem.SupX.kit_exc C) I.kIn ⟨oe, some od, J⟩ e (fun z => nomatch z) fun tk => ⟨.bl b, H, I.kept (t' := tk) fun _ _ z => z, rfl, q⟩
end L2
set_option Elab.async false
set_option linter.all false
set_option maxRecDepth 100000
set_option maxHeartbeats 4000000
/-! Room counted by one frame a call: the layer's Room leaves 231 calls (three frames each), this law needs 297. The same promises of defs over a finer count, with their rules. -/
namespace GR
open PySem PySem.Spec PyProof.Rows L2
/-- k more calls have room, each by one frame -/
structure Room (k : Nat) (A : Around) : Prop where
  calm : A.handled = none
  frames : A.depth + k + 20 < recursionLimit
  units : A.units + 8 * k + 600 < cLine
namespace Room
variable {j k : Nat} {A : Around}
theorem mono (r : Room k A) (h : j ≤ k) : Room j A := ⟨r.calm, by have := r.frames; omega, by have := r.units; omega⟩
theorem inner (r : Room (k + 1) A) (env : Env) : Room k (A.deeper env) := by
  have a := r.frames
  have b := r.units
  exact ⟨r.calm, by show A.depth + 1 + k + 20 < _; omega, by show A.units + 3 + 8 * k + 600 < _; omega⟩
theorem maker (r : Room (k + 1) A) (C : Addr) (us : List Value) : Room k (A.under (.builtin "type.__call__" ⟨.ref C :: us, []⟩)) := by
  have a := r.frames
  have b := r.units
  refine ⟨r.calm, ?_, ?_⟩
  · rw [make_depth]
    omega
  · rw [make_units]
    omega
theorem base (r : Room k A) : L2.Room 4 A := ⟨r.calm, by have := r.frames; omega, by have := r.units; omega⟩
theorem of {i : Nat} (r : L2.Room i A) (h : k + 15 ≤ 3 * i) (h2 : 8 * k + 400 ≤ 16 * i) : Room k A := ⟨r.hd, by have := r.dp; omega, by have := r.un; omega⟩
end Room
theorem hu_of {A : Around} {k : Nat} (r : Room k A) : A.units + 1 < cLine := L2.hu_of r.base
/-- the def at f keeps sp wherever k calls have room -/
structure FnOk (P : Program) (w : World) (K : PySem.W.Frag) (mg : Str → Option Value) (base : Heap) (CX : CXT) (k : Nat) (f : Addr) (fd : FuncData) (ps : List Str) (sp : Sp) : Prop where
  len : ∀ vs H Q E, sp vs H Q E → vs.length = ps.length
  run : ∀ (A : Around) (outer : List Env) (s : Shared) (H : Hp) (args : Args) (us : List Value) (vs : List V) (Q : VK) (E : XK), Room k A → Env0 P w K mg base A outer s H → BindsTo s fd args (ps.zip us) →
    Vals vs us → sp vs H Q E → codeAny (model P w) A (.call (.ref f) args) (CR CX outer P w H s Q E) s
section
variable {P : Program} {w : World} {K : PySem.W.Frag} {mg : Str → Option Value} {base : Heap} {CX : CXT} {k : Nat} {f : Addr} {fd : FuncData} {ps : List Str} {sp : Sp}
theorem FnOk.mono {j : Nat} (F : FnOk P w K mg base CX j f fd ps sp) (h : j ≤ k) : FnOk P w K mg base CX k f fd ps sp :=
  ⟨F.len, fun A outer s H args us vs Q E r => F.run A outer s H args us vs Q E (r.mono h)⟩
/-- .. as the layer says it -/
theorem FnOk.layer {i : Nat} (F : FnOk P w K mg base CX k f fd ps sp) (h : k + 15 ≤ 3 * i) (h2 : 8 * k + 400 ≤ 16 * i) : L2.FnOk P w K mg base CX i f fd ps sp :=
  ⟨F.len, fun A outer s H args us vs Q E r => F.run A outer s H args us vs Q E (Room.of r h h2)⟩
end
/-! ### a def, by its body -/
section
variable {P : Program} {w : World} {K : PySem.W.Frag} {mg : Str → Option Value} {base : Heap} {x qual : Str} {st : Stmt} {f : Addr} {fd : FuncData} {N ps : List Str} {k : Nat} {sp : Sp}
theorem own_any {CX : CXT} (F : Fun K x qual st f fd) (S : FnScope N ps (defScope st)) (len : ∀ vs H Q E, sp vs H Q E → vs.length = ps.length)
    (body : ∀ (cdv : Value) (A : Around) (outer : List Env) (s : Shared) (H : Hp) (vs : List V) (Q : VK) (E : XK), Room k (A.deeper (envOfC qual (defScope st) s.heap.objs.size f cdv)) → sp vs H Q E →
      ∃ t, PSs (cxOf CX P w K mg base N qual (defScope st) f cdv A outer s H E) (defBody st) t ∧ t { nx := fun _ H' => Q .non H', rt := Q } (start N vs) H) : FnOk P w K mg base CX (k + 1) f fd ps sp := by
  obtain ⟨oc, od, kV, doc, pm, an, cdv, ct, osl, rfl, hf, hc⟩ := F.ex
  refine ⟨len, fun A outer s H args us vs Q E room e hb rv hsp => ?_⟩
  have kept : ∀ {h : Heap}, (∀ b o, s.heap.get? b = some o → h.get? b = some o) → ∀ b o, base.get? b = some o → h.get? b = some o := fun q b o z => q b o (e.bs b o z).1
  have hK : K.In s.heap := e.mod.kin.keeps (kept fun _ _ z => z)
  have kinds : ∀ y ∈ ps.zip us, (defScope st).names.lookup y.1 = some .local ∨ ((defScope st).names.lookup y.1 = some .cell ∧ ((cellsFrom (s.heap.objs.size + 1) (defScope st).names []).lookup y.1).isSome = true) := by
    rintro ⟨n, v⟩ hy
    exact (S.par n (List.of_mem_zip hy).1).imp id fun q => ⟨q, PySem.W.cellsFrom_some _ _ _ (.inl q)⟩
  have dep : A.depth < recursionLimit := by
    have := room.frames
    omega
  refine codeAny_call_function dep (hK _ _ hf) rfl S.co S.gen rfl (PySem.W.codeRec_of hK hc) (hb _ _ _ _ ?_)
  refine wpAny_newFunctionEnv_cells S.kind kinds fun env henv s1 lay => ?_
  obtain rfl := henv
  refine ⟨(e.mod.nolimit.keeps (kept fun _ _ z => z)).keeps lay.toInCall.keep, codeAny_func ?_⟩
  obtain ⟨t, hps, ht⟩ := body cdv A outer s H vs Q E (room.inner _) hsp
  have I0 := inv_start (CX := CX) (E := E) S room.calm e (len _ _ _ _ hsp) rv lay
  refine wpAny_mono (hps.run [] s1 _ H _ I0 ht) ?_ fun _ _ z => z
  rintro (_ | _ | _ | u) s' hfl
  all_goals first
    | exact hfl.elim
    | skip
  · obtain ⟨σ1, H1, J, q⟩ := hfl
    exact ⟨.non, H1, J.os, J.bare, J.base, J.hok, rfl, q⟩
  · obtain ⟨_, _, _, q⟩ := hfl
    exact q.elim
  · obtain ⟨_, _, _, q⟩ := hfl
    exact q.elim
  · obtain ⟨v, σ1, H1, J, ru, q⟩ := hfl
    exact ⟨v, H1, J.os, J.bare, J.base, J.hok, ru, q⟩
end
end GR
namespace L2
open PySem PySem.Spec PyProof.Rows
section
variable {P : Program} {w : World} {K : PySem.W.Frag} {mg : Str → Option Value} {base : Heap} {x qual : Str} {st : Stmt} {f : Addr} {fd : FuncData} {N ps : List Str} {k : Nat} {sp : Sp}
/-- a def that lets nothing out -/
theorem Fun.own (F : Fun K x qual st f fd) (S : FnScope N ps (defScope st)) (len : ∀ vs H Q E, sp vs H Q E → vs.length = ps.length)
    (body : ∀ (cdv : Value) (A : Around) (outer : List Env) (s : Shared) (H : Hp) (vs : List V) (Q : VK) (E : XK), GR.Room k (A.deeper (envOfC qual (defScope st) s.heap.objs.size f cdv)) → sp vs H Q E →
      ∃ t, PSs (cxOf CX0 P w K mg base N qual (defScope st) f cdv A outer s H E).nox (defBody st) t ∧ t { nx := fun _ H' => Q .non H', rt := Q } (start N vs) H) : GR.FnOk P w K mg base CX0 (k + 1) f fd ps sp :=
  GR.own_any F S len fun cdv A outer s H vs Q E r h => let ⟨t, ht, q⟩ := body cdv A outer s H vs Q E r h; ⟨t, ht.nox, q⟩
/-- a def that may raise -/
theorem Fun.ownX (F : Fun K x qual st f fd) (S : FnScope N ps (defScope st)) (len : ∀ vs H Q E, sp vs H Q E → vs.length = ps.length)
    (body : ∀ (cdv : Value) (A : Around) (outer : List Env) (s : Shared) (H : Hp) (vs : List V) (Q : VK) (E : XK), GR.Room k (A.deeper (envOfC qual (defScope st) s.heap.objs.size f cdv)) → sp vs H Q E →
      ∃ t, PSs (cxOf (L2.CX P w) P w K mg base N qual (defScope st) f cdv A outer s H E) (defBody st) t ∧ t { nx := fun _ H' => Q .non H', rt := Q } (start N vs) H) : GR.FnOk P w K mg base (L2.CX P w) (k + 1) f fd ps sp :=
  GR.own_any F S len body
end
end L2
namespace GR
open PySem PySem.Spec PyProof.Rows L2
/-! ### calls -/
section
variable {X : Cx} {CX : CXT} {k : Nat} {f C : Addr} {fd : FuncData} {ps : List Str} {sp : Sp} {dvs : List V} {ds : List Value} {x m : Str} {p pos apos : Pos} {e o : Expr} {es : List Expr} {ta : TE} {t : TA}
/-- what a callee's run is behind it -/
theorem back {pins : List (Addr × Obj)} {σ : L2.St} {H : Hp} {s s' : Shared} {Q : VK} {E : XK} {r : Result} (I : Inv X pins σ H s) (out : ∀ e' s2, CX X.stack H s E e' s2 → X.xe e' s2) (h : CR CX X.stack X.prog X.w H s Q E r s') :
    (∃ u, r = .ok (.ret u) ∧ EP X pins σ Q u s') ∨ ∃ e', r = .error e' ∧ X.xe e' s' := by
  match r, h with
  | .ok (.ret u), h => exact .inl ⟨u, rfl, I.after h⟩
  | .error e', h => exact .inr ⟨e', rfl, out _ _ h⟩
  | .ok .next, h => exact absurd h id
  | .ok .brk, h => exact absurd h id
  | .ok .cont, h => exact absurd h id
theorem runs {pins : List (Addr × Obj)} {σ : L2.St} {H : Hp} {s : Shared} {Q : VK} {E : XK} {us : List Value} {vs : List V} (F : FnOk X.prog X.w X.K X.mg X.base CX k f fd ps sp) (room : Room k X.A) (hb : Binds X.K fd ps ds) (hd : Vals dvs ds)
    (out : ∀ e' s2, CX X.stack H s E e' s2 → X.xe e' s2) (I : Inv X pins σ H s) (rv : Vals vs us) (h : sp (vs ++ dvs) H Q E) : wpAny (model X.prog X.w) X.A (call (.ref f) us) (EP X pins σ Q) X.xe s := by
  have rv2 := rv.append hd
  have n := F.len _ _ _ _ h
  rw [rv2.length] at n
  refine wpAny_call (codeAny_mono (F.run X.A X.stack s H ⟨us, []⟩ _ _ Q E room I.env0 (hb s us I.kIn n) rv2 h) fun r s2 z => ?_)
  rcases back I out z with ⟨u, rfl, q⟩ | ⟨e', rfl, q⟩
  · exact q
  · exact q
theorem runs0 {pins : List (Addr × Obj)} {σ : L2.St} {H : Hp} {s : Shared} {Q : VK} {E : XK} {us : List Value} {vs : List V} (F : FnOk X.prog X.w X.K X.mg X.base CX k f fd ps sp) (room : Room k X.A) (hb : Binds X.K fd ps [])
    (hx : PassesAt CX X σ E) (I : Inv X pins σ H s) (rv : Vals vs us) (h : sp vs H Q E) : wpAny (model X.prog X.w) X.A (call (.ref f) us) (EP X pins σ Q) X.xe s :=
  runs F room hb .nil (fun e' s2 z => hx pins H s e' s2 I z) I rv (by rw [List.append_nil]; exact h)
/-- f(e, ..) -/
theorem pe_callS {E : L2.St → XK} (F : FnOk X.prog X.w X.K X.mg X.base CX k f fd ps sp) (room : Room k X.A) (hg : Gl X x) (hm : X.mg x = some (.ref f)) (kp : PySem.W.keepIn X.K (.ref f) = true) (hb : Binds X.K fd ps []) (hx : ∀ σ, PassesAt CX X σ (E σ))
    (ha : PA X (e :: es) t) (hdb : (x == ("__debug__" : Str)) = false := by decide) (he : starEach (e :: es) X.env = (false, eval e X.env) :: starEach es X.env := by rfl) (hpl : (backTo pos (starEach es X.env)).any (·.1) = false := by rfl) :
    PE X (.Call (.Name x p) (e :: es) [] pos) (tCallS sp E t) := .mk fun pins s σ H Q I h =>
  wpAny_Call_Name_kw (ld_glob I hg hm (PySem.W.callWith_K (h₀ := X.base) I.ok.mod.kin kp (thn (ha.run pos pins s σ H _ I h) fun us s1 z => by
    obtain ⟨vs, H1, I1, rv, q⟩ := z
    exact ⟨I1.kIn, runs0 F room hb (hx σ) I1 rv q⟩) he hpl) hdb)
/-- f() -/
theorem pe_call0 {E : XK} (F : FnOk X.prog X.w X.K X.mg X.base CX k f fd ps sp) (room : Room k X.A) (hg : Gl X x) (hm : X.mg x = some (.ref f)) (kp : PySem.W.keepIn X.K (.ref f) = true) (hb : Binds X.K fd ps []) (hx : ∀ σ, PassesAt CX X σ E)
    (hdb : (x == ("__debug__" : Str)) = false := by decide) : PE X (.Call (.Name x p) [] [] pos) (fun _ H Q => sp [] H Q E) := .mk fun pins s σ H Q I h =>
  wpAny_Call_Name_kw (ld_glob I hg hm (PySem.W.callWith_K0 I.kIn kp (runs0 (us := []) F room hb (hx σ) I .nil h)) hdb)
/-- o.m(e, ..) -/
theorem pe_meth {E : XK} {pl : Sem Bool} (he : PE X o ta) (c : Cls X.K C) (hm : Meth X.K C m f) (F : FnOk X.prog X.w X.K X.mg X.base CX k f fd ps sp) (room : Room k X.A) (hb : Binds X.K fd ps []) (hx : ∀ σ, PassesAt CX X σ E) (ha : PA X (e :: es) t)
    (hst : starEach (e :: es) X.env = (false, eval e X.env) :: starEach es X.env) (hpl : (backTo pos (starEach es X.env)).any (·.1) = false)
    (ht : eval (.Call (.Attribute o m apos) (e :: es) [] pos) X.env = (do
      let ov ← eval o X.env
      standAt apos.atName
      let (g, first) ← holding [ov] (getMethod ov m pl)
      callWith pos g first (backTo pos (starEach (e :: es) X.env)) (backToKw pos (keywordEach [] X.env)))) :
    PE X (.Call (.Attribute o m apos) (e :: es) [] pos) (tMeth C m sp [] E ta t) := .mk fun pins s σ H Q I h =>
  PySem.W.methodCall_KW (pl := pl) (thn (he.run pins s σ H _ I h) fun u s1 z => by
    obtain ⟨_, H1, I1, rx, a, dx, fs, rfl, ea, no, q⟩ := z
    have eu : u = Value.ref a := rx
    rw [eu]
    refine getmeth_ok I1 ea c hm no (PySem.W.callWith_K (h₀ := X.base) (first := [.ref a]) I.ok.mod.kin hm.kp (thn (ha.run pos pins s1 σ H1 _ I1 q) fun us s2 z2 => ?_) hst hpl)
    obtain ⟨vs, H2, I2, rv, q2⟩ := z2
    rw [List.append_nil] at q2
    exact ⟨I2.kIn, runs0 (us := Value.ref a :: us) (vs := V.ref a :: vs) F room hb (hx σ) I2 (.cons rfl rv) q2⟩) ht
/-- o.m() -/
theorem pe_meth0 {E : XK} {pl : Sem Bool} (he : PE X o ta) (c : Cls X.K C) (hm : Meth X.K C m f) (F : FnOk X.prog X.w X.K X.mg X.base CX k f fd ps sp) (room : Room k X.A) (hb : Binds X.K fd ps []) (hx : ∀ σ, PassesAt CX X σ E)
    (ht : eval (.Call (.Attribute o m apos) [] [] pos) X.env = (do
      let ov ← eval o X.env
      standAt apos.atName
      let (g, first) ← holding [ov] (getMethod ov m pl)
      callWith pos g first (backTo pos (starEach [] X.env)) (backToKw pos (keywordEach [] X.env)))) :
    PE X (.Call (.Attribute o m apos) [] [] pos) (tMeth C m sp [] E ta tNil) := .mk fun pins s σ H Q I h =>
  PySem.W.methodCall_KW (pl := pl) (thn (he.run pins s σ H _ I h) fun u s1 z => by
    obtain ⟨_, H1, I1, rx, a, dx, fs, rfl, ea, no, q⟩ := z
    have eu : u = Value.ref a := rx
    rw [eu]
    exact getmeth_ok I1 ea c hm no (PySem.W.callWith_K0 (first := [.ref a]) I1.kIn hm.kp (runs0 (us := [Value.ref a]) (vs := [V.ref a]) F room hb (hx σ) I1 (.cons rfl .nil) q))) ht
/-- C(e, ..) -/
theorem pe_make (M : Mk X.K C f) (F : FnOk X.prog X.w X.K X.mg X.base CX0 k f fd ps sp) (room : Room (k + 1) X.A) (hg : Gl X x) (hm : X.mg x = some (.ref C)) (hb : Binds X.K fd ps ds) (hd : Vals dvs ds)
    (ha : PA X (e :: es) t) (hdb : (x == ("__debug__" : Str)) = false := by decide) (he : starEach (e :: es) X.env = (false, eval e X.env) :: starEach es X.env := by rfl) (hpl : (backTo pos (starEach es X.env)).any (·.1) = false := by rfl) :
    PE X (.Call (.Name x p) (e :: es) [] pos) (tMake C sp dvs E0 t) := .mk fun pins s σ H Q I h =>
  wpAny_Call_Name_kw (ld_glob I hg hm (PySem.W.callWith_K (h₀ := X.base) I.ok.mod.kin M.kp (thn (ha.run pos pins s σ H _ I h) fun us s1 z => by
    obtain ⟨vs, H1, I1, rv, q⟩ := z
    refine ⟨I1.kIn, ?_⟩
    have q1 := q (s1.heap.objs.size + 1) s1.heap.objs.size (I1.hok.fresh (Nat.le_succ _)) (I1.hok.fresh (Nat.le_refl _)) (Nat.ne_of_lt (Nat.lt_succ_self _))
    have rv2 : Vals (V.ref (s1.heap.objs.size + 1) :: (vs ++ dvs)) (Value.ref (s1.heap.objs.size + 1) :: us ++ ds) := .cons rfl (rv.append hd)
    have n := F.len _ _ _ _ q1
    rw [rv2.length] at n
    have I2 := Inv.made (C := C) I1
    refine wpAny_call (make_map (f := f) I1.kIn M.makes M.init (beq_iff_eq.mp M.fn) (codeAny_mono (F.run _ X.stack _ _ ⟨Value.ref (s1.heap.objs.size + 1) :: us, []⟩ _ _ _ _ (room.maker C us) (I2.env0.make C us []) (hb _ _ I2.kIn n) rv2 q1) fun r s2 z2 => ?_))
    rcases back I2 (fun _ _ no => False.elim no) z2 with ⟨u, rfl, v, H3, I3, ru, ev, q3⟩ | ⟨e', rfl, qe⟩
    · subst ev
      exact ⟨ru, .ref (s1.heap.objs.size + 1), H3, I3, rfl, q3⟩
    · exact qe) he hpl) hdb)
end
end GR
set_option Elab.async false
set_option linter.all false
set_option maxRecDepth 100000
set_option maxHeartbeats 4000000
/-! Common words: calls of one's own defs by their promises, methods, constants of the module, some built-ins that lack a rule. -/
namespace GR
open PySem PySem.Spec PyProof.Rows L2
/-- a def of the module that may be called: its promise, at most k calls deep -/
structure Cal (P : Program) (w : World) (K : PySem.W.Frag) (mg : Str → Option Value) (base : Heap) (CX : CXT) (k : Nat) (x : Str) (ps : List Str) (sp : Sp) : Prop where
  ex : ∃ (f : Addr) (fd : FuncData), mg x = some (.ref f) ∧ PySem.W.keepIn K (.ref f) = true ∧ Binds K fd ps [] ∧ FnOk P w K mg base CX k f fd ps sp
/-- a method of the class at C -/
structure Met (P : Program) (w : World) (K : PySem.W.Frag) (mg : Str → Option Value) (base : Heap) (CX : CXT) (k : Nat) (C : Addr) (m : Str) (ps : List Str) (sp : Sp) : Prop where
  cl : Cls K C
  ex : ∃ (f : Addr) (fd : FuncData), Meth K C m f ∧ Binds K fd ps [] ∧ FnOk P w K mg base CX k f fd ps sp
theorem Cal.mono {P : Program} {w : World} {K : PySem.W.Frag} {mg : Str → Option Value} {base : Heap} {CX : CXT} {k j : Nat} {x : Str} {ps : List Str} {sp : Sp} (c : Cal P w K mg base CX k x ps sp) (h : k ≤ j) : Cal P w K mg base CX j x ps sp :=
  let ⟨f, fd, a, b, d, e⟩ := c.ex; ⟨f, fd, a, b, d, e.mono h⟩
theorem pass0S {X : Cx} {σ : L2.St} : PassesAt CX0 X σ E0 := fun _ _ _ _ _ _ h => h.elim
/-- what leaves a callee leaves the def -/
theorem passX {X : Cx} {E : XK} (tk : Takes X (fun cls d _ H => E cls d H)) : ∀ σ, PassesAt (L2.CX X.prog X.w) X σ E := fun σ => passAt tk σ
abbrev tC0 (sp : Sp) (t : TA) : TE := fun σ H Q => t σ H fun vs H1 => sp vs H1 Q E0
abbrev tCX (sp : Sp) (E : XK) (t : TA) : TE := fun σ H Q => t σ H fun vs H1 => sp vs H1 Q E
section
variable {X : Cx} {k j : Nat} {x m : Str} {ps : List Str} {sp : Sp} {E : XK} {p pos apos : Pos} {e o : Expr} {es : List Expr} {ta : TE} {t : TA} {C : Addr}
theorem pe_c0 (c : Cal X.prog X.w X.K X.mg X.base CX0 k x ps sp) (hr : Room j X.A) (hk : k ≤ j) (hg : Gl X x) (ha : PA X (e :: es) t)
    (hdb : (x == ("__debug__" : Str)) = false := by decide) (he : starEach (e :: es) X.env = (false, eval e X.env) :: starEach es X.env := by rfl) (hpl : (backTo pos (starEach es X.env)).any (·.1) = false := by rfl) :
    PE X (.Call (.Name x p) (e :: es) [] pos) (tC0 sp t) := by
  obtain ⟨f, fd, hm, hkp, hb, F⟩ := c.ex
  exact pe_callS F (hr.mono hk) hg hm hkp hb (fun _ => pass0S) ha hdb he hpl
theorem pe_c00 (c : Cal X.prog X.w X.K X.mg X.base CX0 k x ps sp) (hr : Room j X.A) (hk : k ≤ j) (hg : Gl X x) (hdb : (x == ("__debug__" : Str)) = false := by decide) : PE X (.Call (.Name x p) [] [] pos) (tC0 sp tNil) := by
  obtain ⟨f, fd, hm, hkp, hb, F⟩ := c.ex
  refine ⟨fun pins s σ H Q I h => ?_⟩
  exact (pe_call0 F (hr.mono hk) hg hm hkp hb (fun _ => pass0S) hdb).run pins s σ H Q I h
theorem pe_cX (c : Cal X.prog X.w X.K X.mg X.base (L2.CX X.prog X.w) k x ps sp) (tk : Takes X (fun cls d _ H => E cls d H)) (hr : Room j X.A) (hk : k ≤ j) (hg : Gl X x) (ha : PA X (e :: es) t)
    (hdb : (x == ("__debug__" : Str)) = false := by decide) (he : starEach (e :: es) X.env = (false, eval e X.env) :: starEach es X.env := by rfl) (hpl : (backTo pos (starEach es X.env)).any (·.1) = false := by rfl) :
    PE X (.Call (.Name x p) (e :: es) [] pos) (tCX sp E t) := by
  obtain ⟨f, fd, hm, hkp, hb, F⟩ := c.ex
  exact pe_callS F (hr.mono hk) hg hm hkp hb (passX tk) ha hdb he hpl
theorem pe_mX {pl : Sem Bool} (c : Met X.prog X.w X.K X.mg X.base (L2.CX X.prog X.w) k C m ps sp) (tk : Takes X (fun cls d _ H => E cls d H)) (hr : Room j X.A) (hk : k ≤ j) (he : PE X o ta) (ha : PA X (e :: es) t)
    (hst : starEach (e :: es) X.env = (false, eval e X.env) :: starEach es X.env := by rfl) (hpl : (backTo pos (starEach es X.env)).any (·.1) = false := by rfl)
    (ht : eval (.Call (.Attribute o m apos) (e :: es) [] pos) X.env = (do
      let ov ← eval o X.env
      standAt apos.atName
      let (f, first) ← holding [ov] (getMethod ov m pl)
      callWith pos f first (backTo pos (starEach (e :: es) X.env)) (backToKw pos (keywordEach [] X.env))) := by rfl) :
    PE X (.Call (.Attribute o m apos) (e :: es) [] pos) (tMeth C m sp [] E ta t) := by
  obtain ⟨f, fd, hm, hb, F⟩ := c.ex
  exact pe_meth he c.cl hm F (hr.mono hk) hb (passX tk) ha hst hpl ht
theorem pe_mX0 {pl : Sem Bool} (c : Met X.prog X.w X.K X.mg X.base (L2.CX X.prog X.w) k C m ps sp) (tk : Takes X (fun cls d _ H => E cls d H)) (hr : Room j X.A) (hk : k ≤ j) (he : PE X o ta)
    (ht : eval (.Call (.Attribute o m apos) [] [] pos) X.env = (do
      let ov ← eval o X.env
      standAt apos.atName
      let (f, first) ← holding [ov] (getMethod ov m pl)
      callWith pos f first (backTo pos (starEach [] X.env)) (backToKw pos (keywordEach [] X.env))) := by rfl) :
    PE X (.Call (.Attribute o m apos) [] [] pos) (tMeth C m sp [] E ta tNil) := by
  obtain ⟨f, fd, hm, hb, F⟩ := c.ex
  exact pe_meth0 he c.cl hm F (hr.mono hk) hb (passX tk) ht
theorem pe_m00 {pl : Sem Bool} (c : Met X.prog X.w X.K X.mg X.base CX0 k C m ps sp) (hr : Room j X.A) (hk : k ≤ j) (he : PE X o ta)
    (ht : eval (.Call (.Attribute o m apos) [] [] pos) X.env = (do
      let ov ← eval o X.env
      standAt apos.atName
      let (f, first) ← holding [ov] (getMethod ov m pl)
      callWith pos f first (backTo pos (starEach [] X.env)) (backToKw pos (keywordEach [] X.env))) := by rfl) :
    PE X (.Call (.Attribute o m apos) [] [] pos) (tMeth C m sp [] E0 ta tNil) := by
  obtain ⟨f, fd, hm, hb, F⟩ := c.ex
  exact pe_meth0 he c.cl hm F (hr.mono hk) hb (fun _ => pass0S) ht
theorem pe_gc {v : V} (hg : Gl X x) (h : ∃ u, X.mg x = some u ∧ RelV v u) (hd : (x == ("__debug__" : Str)) = false := by decide) : PE X (.Name x pos) (tC v) := by
  obtain ⟨u, hm, r⟩ := h
  exact pe_glob hg hm r hd
end
/-! ### rows of written texts, as one -/
def strE : Expr → Option Str
  | .Constant (.str x) _ _ => some x
  | _ => none
def strsE (es : List Expr) : List Str := es.filterMap strE
def tStrs (ss : List Str) : TA := fun _ H Q => Q (ss.map V.str) H
theorem pa_strs {X : Cx} : ∀ (es : List Expr), (es.all fun e => (strE e).isSome) = true → PA X es (tStrs (strsE es))
  | [], _ => pa_nil
  | e :: r, h => by
    obtain ⟨h1, h2⟩ := Bool.and_eq_true_iff.mp (show ((strE e).isSome && r.all fun e => (strE e).isSome) = true from h)
    obtain ⟨x, hx⟩ := Option.isSome_iff_exists.mp h1
    obtain ⟨j, pos, rfl⟩ : ∃ j pos, e = .Constant (.str x) j pos := by
      unfold strE at hx
      split at hx
      · cases hx
        exact ⟨_, _, rfl⟩
      · cases hx
    have ih := pa_strs (X := X) r h2
    refine ⟨fun pos' pins s σ H Q I q => ?_⟩
    have q' : tCons (tC (.str x)) (tStrs (strsE r)) σ H Q := by
      have q2 : Q ((strsE (.Constant (.str x) j pos :: r)).map V.str) H := q
      have e2 : strsE (.Constant (.str x) j pos :: r) = x :: strsE r := by
        unfold strsE
        rw [List.filterMap_cons]
        rfl
      rw [e2] at q2
      exact q2
    exact (pa_cons pe_str ih).run pos' pins s σ H Q I q'
/-! ### some built-ins -/
section
variable {X : Cx}
/-- sum(t) of a tuple of ints -/
def rSumT (K : PySem.W.Frag) : List V → Hp → VK → Prop := fun vs H Q => ∃ (a : Addr) (ns : List Int), vs = [V.ref a] ∧ SqT K H a (ns.map V.int) ∧ Q (.int ns.sum) H
/-- sorted(xs) of texts, any number -/
def rSortedA (K : PySem.W.Frag) : List V → Hp → VK → Prop := fun vs H Q => ∃ (a : Addr) (xs : List Str), vs = [V.ref a] ∧ SqL K H a (xs.map V.str) ∧
  ∀ (ys : List Str) (p : Addr), ys.Perm xs → H p = none → Q (.ref p) (upd H p (.lst (ys.map V.str)))
theorem cr_sortedA : CallR X (.builtin "sorted") (rSortedA X.K) := by
  intro pins s σ H vs us Q I r h
  obtain ⟨a, xs, rfl, hs, q⟩ := h
  obtain ⟨its, rv, hl, hz⟩ := I.list hs
  rw [Vals.ref1 r]
  have hlen0 := rv.length
  refine PyProof.Rows.sorted_strsAny hl.isList rv.strs (by rw [← hlen0]; exact hz) fun out ys h1 h2 h3 => ?_
  obtain ⟨ep, he'⟩ := PyProof.Rows.sortedAll_at s.heap its out
  have hlen : (ys.map V.str).length ≤ sizeLine := by rw [List.length_map, h2.length_eq]; rw [List.length_map] at hz; exact hz
  exact ⟨.ref _, upd H (s.heap.objs.size + 1) (.lst (ys.map V.str)), I.laid (t' := s.toks) (fun _ _ => PyProof.Rows.sortedAll_old) (Nat.le_succ _) ⟨hlen, out.toList, ep, vals_of_strs h1, he'⟩, rfl, q ys _ h2 (I.hok.fresh (Nat.le_succ _))⟩
end
end GR
set_option Elab.async false
set_option linter.all false
set_option maxRecDepth 100000
set_option maxHeartbeats 4000000
/-! The text by places; the facts of the module's top; common words of heaps and tokens. -/
namespace GR
open PySem PySem.Spec PyProof.Rows L2
def top (i : Nat) : Stmt := PySem.Challenge.pw_growingrecords_k13_whole_bad_texts.main.body.getD i (.Pass ⟨0, 0, 0, 0⟩)
abbrev mth (i j : Nat) : Stmt := inClass (top i) j
/-- the built-ins' names are not the module's -/
structure Blt (mg : Str → Option Value) : Prop where
  len : mg "len" = none
  range : mg "range" = none
  int : mg "int" = none
  str : mg "str" = none
  tuple : mg "tuple" = none
  list : mg "list" = none
  dict : mg "dict" = none
  min : mg "min" = none
  sum : mg "sum" = none
  sorted : mg "sorted" = none
  enumerate : mg "enumerate" = none
  zip : mg "zip" = none
  isinstance : mg "isinstance" = none
abbrev Glb (mg : Str → Option Value) (x : Str) (v : V) : Prop := ∃ u, mg x = some u ∧ RelV v u
abbrev lettersS : Str := "abcdefghijklmnopqrstuvwxyz"
abbrev digitsS : Str := "0123456789"
/-- the module's constants -/
structure Cst (K : PySem.W.Frag) (mg : Str → Option Value) (aR aS : Addr) : Prop where
  LETTERS : Glb mg "LETTERS" (.str lettersS)
  DIGITS : Glb mg "DIGITS" (.str digitsS)
  RESERVED : Glb mg "RESERVED" (.ref aR)
  SIGNS : Glb mg "SIGNS" (.ref aS)
  HEAVIEST : Glb mg "HEAVIEST" (.int 80)
  DEEPEST : Glb mg "DEEPEST" (.int 100)
  LONGEST_NAME : Glb mg "LONGEST_NAME" (.int 8)
  LONGEST_NUMBER : Glb mg "LONGEST_NUMBER" (.int 30)
  hR : ∀ H, SqT K H aR (kept.map V.str)
  hS : ∀ H, SqT K H aS (signs.map V.str)
/-! ### heaps -/
/-- all but the object c is as it was -/
def Stp (c : Addr) (H H' : Hp) : Prop := ∀ b u, b ≠ c → H b = some u → H' b = some u
theorem Stp.refl {c : Addr} {H : Hp} : Stp c H H := fun _ _ _ h => h
theorem Stp.trans {c : Addr} {H H1 H2 : Hp} (a : Stp c H H1) (b : Stp c H1 H2) : Stp c H H2 := fun x u n h => b x u n (a x u n h)
theorem Stp.of {c : Addr} {H H' : Hp} (a : Same H H') : Stp c H H' := fun b u _ h => a b u h
theorem Stp.same {c : Addr} {H H' : Hp} (a : Stp c H H') (h : H c = none) : Same H H' := fun b u e => a b u (ne_of_none e h) e
theorem Stp.tup {c : Addr} {K : PySem.W.Frag} {H H' : Hp} {a : Addr} {xs : List V} (e : Stp c H H') (hc : ∀ xs, ¬ Rd H c (.tup xs)) (h : SqT K H a xs) : SqT K H' a xs := by
  rcases h with h | h
  · have n : a ≠ c := fun z => hc xs (z ▸ h)
    rcases h with h | ⟨o, h⟩
    · exact .inl (.inl (e _ _ n h))
    · exact .inl (.inr ⟨o, e _ _ n h⟩)
  · exact .inr h
theorem Same.tup {K : PySem.W.Frag} {H H' : Hp} {a : Addr} {xs : List V} (e : Same H H') (h : SqT K H a xs) : SqT K H' a xs := by
  rcases h with (h | ⟨o, h⟩) | h
  · exact .inl (.inl (e _ _ h))
  · exact .inl (.inr ⟨o, e _ _ h⟩)
  · exact .inr h
theorem same_new {H : Hp} {p : Addr} (h : H p = none) (o : HO) : Same H (upd H p o) := fun b u q => by rw [upd_ne (ne_of_none q h)]; exact q
theorem Stp.new {c : Addr} {H H' : Hp} {p : Addr} (a : Stp c H H') (h : H' p = none) (o : HO) : Stp c H (upd H' p o) := a.trans (Stp.of (same_new h o))
theorem small {n : Nat} (h : n ≤ 1000) : n ≤ sizeLine := Nat.le_of_lt (small1000 h)
/-- tuples that were tracked stand as they stood -/
def Tps (H H' : Hp) : Prop := ∀ b xs, Rd H b (.tup xs) → Rd H' b (.tup xs)
theorem Tps.refl {H : Hp} : Tps H H := fun _ _ h => h
theorem Tps.trans {H H1 H2 : Hp} (a : Tps H H1) (b : Tps H1 H2) : Tps H H2 := fun x u h => b x u (a x u h)
theorem Tps.tup {K : PySem.W.Frag} {H H' : Hp} {a : Addr} {xs : List V} (e : Tps H H') (h : SqT K H a xs) : SqT K H' a xs := by
  rcases h with h | h
  · exact .inl (e _ _ h)
  · exact .inr h
theorem Same.tps {H H' : Hp} (e : Same H H') : Tps H H' := fun b xs h => by
  rcases h with h | ⟨o, h⟩
  · exact .inl (e _ _ h)
  · exact .inr ⟨o, e _ _ h⟩
theorem Stp.tps {c : Addr} {H H' : Hp} (e : Stp c H H') (hc : ∀ xs, ¬ Rd H c (.tup xs)) : Tps H H' := fun b xs h => by
  have n : b ≠ c := fun z => hc xs (z ▸ h)
  rcases h with h | ⟨o, h⟩
  · exact .inl (e _ _ n h)
  · exact .inr ⟨o, e _ _ n h⟩
theorem rd_lst {H : Hp} {c : Addr} {ys : List V} (h : H c = some (.lst ys)) : ∀ xs, ¬ Rd H c (.tup xs) := fun xs z => by
  rcases z with z | ⟨o, z⟩ <;> rw [h] at z <;> cases z
theorem rd_ins {H : Hp} {c C dx : Addr} {fs : List (Str × V)} (h : H c = some (.ins C dx fs)) : ∀ xs, ¬ Rd H c (.tup xs) := fun xs z => by
  rcases z with z | ⟨o, z⟩ <;> rw [h] at z <;> cases z
theorem rd_dK {H : Hp} {c : Addr} {kvs : List (Key × V)} (h : H c = some (.dK kvs)) : ∀ xs, ¬ Rd H c (.tup xs) := fun xs z => by
  rcases z with z | ⟨o, z⟩ <;> rw [h] at z <;> cases z
theorem if_t {b : Bool} {A B : Prop} (h : b = true) (a : A) : if b = true then A else B := by
  rw [if_pos h]
  exact a
theorem if_f {b : Bool} {A B : Prop} (h : b = false) (a : B) : if b = true then A else B := by
  rw [h]
  exact iteF a
theorem neT {x y : Str} (h : x ≠ y) : (!decide (V.str x = V.str y)) = true := by
  rw [decide_eq_false (fun z => h (V.str.inj z))]
  rfl
theorem neF {x y : Str} (h : x = y) : (!decide (V.str x = V.str y)) = false := by
  rw [decide_eq_true (congrArg V.str h)]
  rfl
theorem eqT {x y : Str} (h : x = y) : decide (V.str x = V.str y) = true := decide_eq_true (congrArg V.str h)
theorem eqF {x y : Str} (h : x ≠ y) : decide (V.str x = V.str y) = false := decide_eq_false (fun z => h (V.str.inj z))
theorem inStr (z : Str) : ∀ ws : List Str, inV (.str z) (ws.map V.str) = decide (z ∈ ws)
  | [] => rfl
  | a :: r => by
    have ih := inStr z r
    unfold inV at ih ⊢
    rw [List.map_cons, List.any_cons, ih]
    show ((a == z) || decide (z ∈ r)) = decide (z ∈ a :: r)
    by_cases h : z = a
    · subst h
      simp
    · have h' : ¬ a = z := fun e => h e.symm
      simp [h, h']
theorem flatStr (ws : List Str) : (ws.map V.str).all flatV = true := by
  induction ws with
  | nil => rfl
  | cons a r ih => exact ih
theorem cps_ne {z : Str} (h : z ≠ "") : ∃ c r, z.cps.toList = c :: r := by
  cases e : z.cps.toList with
  | nil =>
    refine absurd ?_ h
    have : z = SX.S z.cps.toList := (SX.S_tl z).symm
    rw [this, e]
    rfl
  | cons c r => exact ⟨c, r, rfl⟩
/-- a while loop, with the turns left -/
theorem while_m {c : TT} {tb : TS} {D : Ends} {σ : L2.St} {H : Hp} (Pv : Nat → L2.St → Hp → Prop) (m : Nat) (h0 : Pv m σ H)
    (hs : ∀ m σ H, Pv m σ H → c σ H fun b H1 => if b = true then tb { D with nx := fun σ' H' => ∃ m', m' < m ∧ Pv m' σ' H', ct := fun σ' H' => ∃ m', m' < m ∧ Pv m' σ' H', bk := D.nx } σ H1 else D.nx σ H1)
    (mono : ∀ σ H Q Q', (∀ b H1, Q b H1 → Q' b H1) → c σ H Q → c σ H Q') : tWhile c tb D σ H := by
  refine ⟨Pv, ⟨m, h0⟩, fun m σ H p => ?_⟩
  refine mono σ H _ _ (fun b H1 q => ?_) (hs m σ H p)
  cases b with
  | true => exact ⟨fun σ' H' => ∃ m', m' < m ∧ Pv m' σ' H', fun σ' H' z => z, q⟩
  | false => exact q
end GR
set_option Elab.async false
set_option linter.all false
set_option maxRecDepth 100000
set_option maxHeartbeats 4000000
/-! The written form of the own exceptions' __init__. -/
namespace GR
open PySem PySem.Spec PyProof.Rows L2
theorem mc_plain {o : Expr} {name : Str} {apos pos : Pos} {env : Env} {ov : Value} {n : Nat} {args : List (Bool × Sem Value)} (h1 : methodCallForm n args [] = true) (h2 : (apos.endLine == pos.line) = true) :
    methodCall o name apos pos env ov n args [] = (do
      let (f, first) ← holding [ov] (getMethod ov name (do return (← importBound o env).getD true))
      callWith pos f first args []) := by
  have e : methodCallPos true o env apos pos = pure pos := by
    unfold methodCallPos
    rw [h2]
    rfl
  unfold methodCall calleeOf
  rw [h1, e]
  rfl
theorem sup_ev (m : Str) (k : Pos × Pos × Pos × Pos × Pos × Pos) (h : (k.2.2.1.endLine == k.2.2.2.2.1.line) = true) : ∃ pl : Env → Sem Bool, ∀ env, PySem.SupX.SupEv m k pl env := by
  refine ⟨fun env => (do return (← importBound (.Call (.Name "super" k.1) [] [] k.2.1) env).getD true), fun env => ?_⟩
  unfold PySem.SupX.SupEv
  rw [eval]
  have e := fun ov : Value => mc_plain (o := .Call (.Name "super" k.1) [] [] k.2.1) (name := "__init__") (apos := k.2.2.1) (pos := k.2.2.2.2.1) (env := env) (ov := ov) (n := 1) (args := backTo k.2.2.2.2.1 (starEach [.Constant (.str m) 0 k.2.2.2.1] env)) rfl h
  have f : (fun ov : Value => methodCall (.Call (.Name "super" k.1) [] [] k.2.1) "__init__" k.2.2.1 k.2.2.2.2.1 env ov 1 (backTo k.2.2.2.2.1 (starEach [.Constant (.str m) 0 k.2.2.2.1] env)) []) = _ := funext e
  show (do
    let ov ← attributeBase (.Call (.Name "super" k.1) [] [] k.2.1) "__init__" env (eval (.Call (.Name "super" k.1) [] [] k.2.1) env)
    standAt k.2.2.1.atName
    methodCall (.Call (.Name "super" k.1) [] [] k.2.1) "__init__" k.2.2.1 k.2.2.2.2.1 env ov 1 (backTo k.2.2.2.2.1 (starEach [.Constant (.str m) 0 k.2.2.2.1] env)) []) = _
  simp only [e]
def pos0 : Pos := ⟨0, 0, 0, 0⟩
def supM : Stmt → Str
  | .Expr (.Call _ [.Constant (.str m) _ _] _ _) _ => m
  | _ => ""
def supK : Stmt → Pos × Pos × Pos × Pos × Pos × Pos
  | .Expr (.Call (.Attribute (.Call (.Name _ a) _ _ b) _ c) [.Constant _ _ d] _ e) f => (a, b, c, d, e, f)
  | _ => (pos0, pos0, pos0, pos0, pos0, pos0)
def stoK : Stmt → Pos × Pos × Pos × Pos
  | .Assign [.Attribute (.Name _ a) _ b] (.Name _ c) d => (a, b, c, d)
  | _ => (pos0, pos0, pos0, pos0)
def bodyAt (i j : Nat) : Stmt := (defBody (mth i 0)).getD j (.Pass pos0)
def argAt (i j : Nat) : Pos := match (defArgs (mth i 0)).args[j]? with
  | some a => a.pos
  | none => pos0
/-- class i is written so: __init__(self, f) -/
structure Writ1 (i : Nat) (f : Str) : Prop where
  ln : ((supK (bodyAt i 0)).2.2.1.endLine == (supK (bodyAt i 0)).2.2.2.2.1.line) = true
  sc : defScope (mth i 0) = PySem.SupX.sc2 f
  ar : defArgs (mth i 0) = PySem.SupX.arg2 f (argAt i 0) (argAt i 1)
  bd : defBody (mth i 0) = [PySem.SupX.supS (supM (bodyAt i 0)) (supK (bodyAt i 0)), PySem.SupX.stoS f (stoK (bodyAt i 1))]
structure Writ2 (i : Nat) : Prop where
  ln : ((supK (bodyAt i 0)).2.2.1.endLine == (supK (bodyAt i 0)).2.2.2.2.1.line) = true
  sc : defScope (mth i 0) = PySem.SupX.sc3 "name" "at"
  ar : defArgs (mth i 0) = PySem.SupX.arg3 "name" "at" (argAt i 0) (argAt i 1) (argAt i 2)
  bd : defBody (mth i 0) = [PySem.SupX.supS (supM (bodyAt i 0)) (supK (bodyAt i 0)), PySem.SupX.stoS "name" (stoK (bodyAt i 1)), PySem.SupX.stoS "at" (stoK (bodyAt i 2))]
theorem w3 : Writ1 3 "at" := ⟨by kernel_rfl, by kernel_rfl, by kernel_rfl, by kernel_rfl⟩
theorem w8 : Writ1 8 "name" := ⟨by kernel_rfl, by kernel_rfl, by kernel_rfl, by kernel_rfl⟩
theorem w5 : Writ2 5 := ⟨by kernel_rfl, by kernel_rfl, by kernel_rfl, by kernel_rfl⟩
theorem w6 : Writ2 6 := ⟨by kernel_rfl, by kernel_rfl, by kernel_rfl, by kernel_rfl⟩
theorem w7 : Writ2 7 := ⟨by kernel_rfl, by kernel_rfl, by kernel_rfl, by kernel_rfl⟩
section
variable {P : Program} {w : World} {K : PySem.W.Frag} {mg : Str → Option Value} {C f cda cc : Addr} {qual : Str} {i : Nat}
theorem ir1 (W : Writ1 i "at") (T : PySem.SupX.Sup P K mg C f cda cc qual (defScope (mth i 0)) (defArgs (mth i 0)) (defBody (mth i 0))) (no : PySem.W.findIn K (.ref C) "at" = some none) : PySem.SupX.InitRuns P w K mg C f 1 (fun us y => if y = ("at" : Str) then us[0]? else none) := by
  rw [W.sc, W.ar, W.bd] at T
  obtain ⟨pl, ev⟩ := sup_ev (supM (bodyAt i 0)) (supK (bodyAt i 0)) W.ln
  exact PySem.SupX.init1 ev T no
theorem ir1n (W : Writ1 i "name") (T : PySem.SupX.Sup P K mg C f cda cc qual (defScope (mth i 0)) (defArgs (mth i 0)) (defBody (mth i 0))) (no : PySem.W.findIn K (.ref C) "name" = some none) : PySem.SupX.InitRuns P w K mg C f 1 (fun us y => if y = ("name" : Str) then us[0]? else none) := by
  rw [W.sc, W.ar, W.bd] at T
  obtain ⟨pl, ev⟩ := sup_ev (supM (bodyAt i 0)) (supK (bodyAt i 0)) W.ln
  exact PySem.SupX.init1n ev T no
theorem ir2 (W : Writ2 i) (T : PySem.SupX.Sup P K mg C f cda cc qual (defScope (mth i 0)) (defArgs (mth i 0)) (defBody (mth i 0))) (no : PySem.W.findIn K (.ref C) "name" = some none) (no2 : PySem.W.findIn K (.ref C) "at" = some none) :
    PySem.SupX.InitRuns P w K mg C f 2 (fun us y => if y = ("at" : Str) then us[1]? else if y = ("name" : Str) then us[0]? else none) := by
  rw [W.sc, W.ar, W.bd] at T
  obtain ⟨pl, ev⟩ := sup_ev (supM (bodyAt i 0)) (supK (bodyAt i 0)) W.ln
  exact PySem.SupX.init2 ev T no no2
end
end GR
set_option Elab.async false
set_option linter.all false
set_option maxRecDepth 100000
set_option maxHeartbeats 4000000
/-! The cursor: its methods. -/
namespace GR
open PySem PySem.Spec PyProof.Rows L2
abbrev Toks := List (Int × Str)
theorem kcur : ¬ (("row" : Str) = "place") := by decide +kernel
/-- the fields of a cursor -/
def cur (r : Addr) (k : Int) : List (Str × V) := putF "place" (.int k) (putF "row" (.ref r) [])
theorem cur_eq (r : Addr) (k : Int) : cur r k = ([("row", V.ref r), ("place", V.int k)] : List (Str × V)) := by
  show (if ("row" : Str) = "place" then [(("row" : Str), V.int k)] else (("row" : Str), V.ref r) :: putF "place" (V.int k) []) = ([("row", V.ref r), ("place", V.int k)] : List (Str × V))
  rw [if_neg kcur]
  all_goals rfl
theorem cur_row (r : Addr) (k : Int) : (cur r k).lookup ("row" : Str) = some (.ref r) := by
  unfold cur
  rw [lookup_putF, if_neg kcur, lookup_putF, if_pos rfl]
theorem cur_place (r : Addr) (k : Int) : (cur r k).lookup ("place" : Str) = some (.int k) := by
  unfold cur
  rw [lookup_putF, if_pos rfl]
theorem cur_no (r : Addr) (k : Int) {m : Str} (h1 : ¬ m = "place") (h2 : ¬ m = "row") : (cur r k).lookup m = none := by
  unfold cur
  rw [lookup_putF, if_neg h1, lookup_putF, if_neg h2]
  all_goals rfl
theorem cur_put (r : Addr) (k j : Int) : putF "place" (.int j) (cur r k) = cur r j := by
  rw [cur_eq, cur_eq]
  show (if ("row" : Str) = "place" then _ else (("row" : Str), V.ref r) :: (if ("place" : Str) = "place" then [(("place" : Str), V.int j)] else _)) = ([("row", V.ref r), ("place", V.int j)] : List (Str × V))
  rw [if_neg kcur, if_pos rfl]
/-- the rows of the tokens T -/
def RowsAt (K : PySem.W.Frag) (T : Toks) (H : Hp) (r : Addr) : Prop := ∃ rows : List V, SqL K H r rows ∧ rows.length = T.length ∧ ∀ (i : Nat) (t : Int × Str), T[i]? = some t → ∃ p : Addr, rows[i]? = some (V.ref p) ∧ SqT K H p [.int t.1, .str t.2]
/-- a cursor stands at c, its rows at r, at the place k -/
def CurAt (K : PySem.W.Frag) (CC : Addr) (T : Toks) (H : Hp) (c r : Addr) (k : Nat) : Prop := ∃ dx, H c = some (.ins CC dx (cur r (k : Int))) ∧ RowsAt K T H r
/-- what is asked of the rows: behind each word that isn't empty stands one more -/
structure TokOk (T : Toks) : Prop where
  pos : 0 < T.length
  lim : T.length ≤ 1000
  next : ∀ (k : Nat) (t : Int × Str), T[k]? = some t → t.2 ≠ ("" : Str) → k + 1 < T.length
theorem RowsAt.stp {K : PySem.W.Frag} {T : Toks} {H H' : Hp} {r c : Addr} (h : RowsAt K T H r) (e : Stp c H H') (hc : ∀ xs, ¬ Rd H c (.tup xs)) (hr : r ≠ c) : RowsAt K T H' r := by
  obtain ⟨rows, h1, h2, h3⟩ := h
  refine ⟨rows, ?_, h2, fun i t q => ?_⟩
  · rcases h1 with (h | ⟨o, h⟩) | h
    · exact .inl (.inl (e _ _ hr h))
    · exact .inl (.inr ⟨o, e _ _ hr h⟩)
    · exact .inr h
  · obtain ⟨p, q1, q2⟩ := h3 i t q
    exact ⟨p, q1, e.tup hc q2⟩
theorem RowsAt.same {K : PySem.W.Frag} {T : Toks} {H H' : Hp} {r : Addr} (h : RowsAt K T H r) (e : Same H H') : RowsAt K T H' r := by
  obtain ⟨rows, h1, h2, h3⟩ := h
  refine ⟨rows, e.seq h1, h2, fun i t q => ?_⟩
  obtain ⟨p, q1, q2⟩ := h3 i t q
  exact ⟨p, q1, Same.tup e q2⟩
theorem CurAt.same {K : PySem.W.Frag} {CC : Addr} {T : Toks} {H H' : Hp} {c r : Addr} {k : Nat} (h : CurAt K CC T H c r k) (e : Same H H') : CurAt K CC T H' c r k := by
  obtain ⟨dx, h1, h2⟩ := h
  exact ⟨dx, e _ _ h1, h2.same e⟩
theorem CurAt.rd {K : PySem.W.Frag} {CC : Addr} {T : Toks} {H : Hp} {c r : Addr} {k : Nat} (h : CurAt K CC T H c r k) : ∀ xs, ¬ Rd H c (.tup xs) := by
  obtain ⟨dx, h1, _⟩ := h
  exact rd_ins h1
structure CurC (K : PySem.W.Frag) (mg : Str → Option Value) (CC : Addr) : Prop where
  cl : Cls K CC
  nR : NoAttr K CC "row"
  nP : NoAttr K CC "place"
  mg : mg "Cursor" = some (.ref CC)
/-- the exception BadText, as the raise asks it -/
structure ExcR (P : Program) (w : World) (K : PySem.W.Frag) (mg : Str → Option Value) (x : Str) (C : Addr) (n : Nat) (mf : List Value → Str → Option Value) : Prop where
  oex : OexC K C
  ini : ∃ fI, PySem.W.findIn K (.ref C) "__init__" = some (some (.ref fI)) ∧ PySem.W.typeIn K (.ref fI) = some (.type "function") ∧ PySem.SupX.InitRuns P w K mg C fI n mf
  mg : mg x = some (.ref C)
abbrev mf1 (us : List Value) (f : Str) : Option Value := if f = ("at" : Str) then us[0]? else none
abbrev mf1n (us : List Value) (f : Str) : Option Value := if f = ("name" : Str) then us[0]? else none
abbrev mf2 (us : List Value) (f : Str) : Option Value := if f = ("at" : Str) then us[1]? else if f = ("name" : Str) then us[0]? else none
section
variable {X : Cx} {C : Addr} {x : Str} {e : Expr} {es : List Expr} {ta : TA} {p pos : Pos} {k : Nat}
theorem pmk_1 (T : ExcR X.prog X.w X.K X.mg x C 1 mf1) (hr : Room k X.A) (ha : PA X (e :: es) ta) (hg : Gl X x)
    (hdb : (x == ("__debug__" : Str)) = false := by decide) (he : starEach (e :: es) X.env = (false, eval e X.env) :: starEach es X.env := by rfl) (hpl : (backTo pos (starEach es X.env)).any (·.1) = false := by rfl) :
    PMk X (.Call (.Name x p) (e :: es) [] pos) (tMkE C 1 fv1 ta) := by
  obtain ⟨fI, a, b, c⟩ := T.ini
  exact pmk_sup T.oex a b c (by decide) fv1_rel T.mg hr.base ha hg hdb he hpl
theorem pmk_1n (T : ExcR X.prog X.w X.K X.mg x C 1 mf1n) (hr : Room k X.A) (ha : PA X (e :: es) ta) (hg : Gl X x)
    (hdb : (x == ("__debug__" : Str)) = false := by decide) (he : starEach (e :: es) X.env = (false, eval e X.env) :: starEach es X.env := by rfl) (hpl : (backTo pos (starEach es X.env)).any (·.1) = false := by rfl) :
    PMk X (.Call (.Name x p) (e :: es) [] pos) (tMkE C 1 fv1n ta) := by
  obtain ⟨fI, a, b, c⟩ := T.ini
  exact pmk_sup T.oex a b c (by decide) fv1n_rel T.mg hr.base ha hg hdb he hpl
theorem pmk_2 (T : ExcR X.prog X.w X.K X.mg x C 2 mf2) (hr : Room k X.A) (ha : PA X (e :: es) ta) (hg : Gl X x)
    (hdb : (x == ("__debug__" : Str)) = false := by decide) (he : starEach (e :: es) X.env = (false, eval e X.env) :: starEach es X.env := by rfl) (hpl : (backTo pos (starEach es X.env)).any (·.1) = false := by rfl) :
    PMk X (.Call (.Name x p) (e :: es) [] pos) (tMkE C 2 fv2 ta) := by
  obtain ⟨fI, a, b, c⟩ := T.ini
  exact pmk_sup T.oex a b c (by decide) fv2_rel T.mg hr.base ha hg hdb he hpl
end
/-- an exception with the field at -/
def AtX (d : Addr) (n : Int) (H : Hp) : Prop := H d = some (.xd [("at", .int n)])
/-! ### promises -/
section
variable (K : PySem.W.Frag) (CC CB : Addr) (T : Toks)
def spNextAt : Sp := fun vs H Q _ => ∃ c r k t, vs = [.ref c] ∧ CurAt K CC T H c r k ∧ T[k]? = some t ∧ Q (.int t.1) H
def spNextWord : Sp := fun vs H Q _ => ∃ c r k t, vs = [.ref c] ∧ CurAt K CC T H c r k ∧ T[k]? = some t ∧ Q (.str t.2) H
def spTake : Sp := fun vs H Q _ => ∃ c r k t, vs = [.ref c] ∧ CurAt K CC T H c r k ∧ T[k]? = some t ∧ ∀ H', Stp c H H' → CurAt K CC T H' c r (k + 1) → Q (.int t.1) H'
def spTakeWord : Sp := fun vs H Q E => ∃ c r k t z, vs = [.ref c, .str z] ∧ CurAt K CC T H c r k ∧ T[k]? = some t ∧ (t.2 = z → ∀ H', Stp c H H' → CurAt K CC T H' c r (k + 1) → Q (.int t.1) H') ∧
  (t.2 ≠ z → ∀ d H', Same H H' → AtX d t.1 H' → E (.ref CB) (some d) H')
def spTakeName : Sp := fun vs H Q E => ∃ c r k t, vs = [.ref c] ∧ CurAt K CC T H c r k ∧ T[k]? = some t ∧ (plain t.2 = true → ∀ H', Stp c H H' → CurAt K CC T H' c r (k + 1) → Q (.str t.2) H') ∧
  (plain t.2 = false → ∀ d H', Same H H' → AtX d t.1 H' → E (.ref CB) (some d) H')
def spPlain : Sp := fun vs H Q _ => ∃ z, vs = [.str z] ∧ z.length ≤ 1000 ∧ Q (.bl (plain z)) H
def spNumber : Sp := fun vs H Q _ => ∃ z, vs = [.str z] ∧ z.length ≤ 1000 ∧ Q (.bl (number z)) H
end
section
variable {P : Program} {w : World} {K : PySem.W.Frag} {mg : Str → Option Value} {base : Heap} {CC CB aR aS : Addr} {T : Toks} {f : Addr} {fd : FuncData}
abbrev sCursor_next_at : Stmt := mth 37 1
abbrev nCursor_next_at : List Str := ["self"]
theorem scCursor_next_at : FnScope nCursor_next_at ["self"] (defScope sCursor_next_at) := ⟨rfl, rfl, rfl, by decide +kernel, rfl, by decide +kernel, by decide +kernel⟩
-- slots of Cursor_next_at: 0 self
theorem ok_next_at (F : Fun K "next_at" "Cursor.next_at" sCursor_next_at f fd) (C : CurC K mg CC) : FnOk P w K mg base CX0 1 f fd ["self"] (spNextAt K CC T) := by
  refine F.own scCursor_next_at (fun vs H Q E h => ?_) (fun cdv A outer s H vs Q E hr h => ?_)
  · obtain ⟨c, r, k, t, rfl, _⟩ := h
    rfl
  obtain ⟨c, r, k, t, rfl, ⟨dx, hc, rows, h1, h2, h3⟩, ht, q⟩ := h
  obtain ⟨p, q1, q2⟩ := h3 k t ht
  refine ⟨_, (pss_one (ps_ret (pe_ix ix_tup (pe_ix ix_list (pe_fld (pv 0) rfl) (pe_fld (pv 0) rfl) (fun _ _ => rfl)) pe_int (fun _ _ => rfl)))), ?_⟩
  refine ⟨_, rfl, c, CC, dx, _, _, rfl, hc, C.cl, C.nR, cur_row _ _, _, rfl, c, CC, dx, _, _, rfl, hc, C.cl, C.nP, cur_place _ _, r, rows, _, _, rfl, rfl, h1, atI_nat q1, ?_⟩
  exact ⟨p, _, _, _, rfl, rfl, q2, rfl, q⟩
abbrev sCursor_next_word : Stmt := mth 37 2
abbrev nCursor_next_word : List Str := ["self"]
theorem scCursor_next_word : FnScope nCursor_next_word ["self"] (defScope sCursor_next_word) := ⟨rfl, rfl, rfl, by decide +kernel, rfl, by decide +kernel, by decide +kernel⟩
-- slots of Cursor_next_word: 0 self
theorem ok_next_word (F : Fun K "next_word" "Cursor.next_word" sCursor_next_word f fd) (C : CurC K mg CC) : FnOk P w K mg base CX0 1 f fd ["self"] (spNextWord K CC T) := by
  refine F.own scCursor_next_word (fun vs H Q E h => ?_) (fun cdv A outer s H vs Q E hr h => ?_)
  · obtain ⟨c, r, k, t, rfl, _⟩ := h
    rfl
  obtain ⟨c, r, k, t, rfl, ⟨dx, hc, rows, h1, h2, h3⟩, ht, q⟩ := h
  obtain ⟨p, q1, q2⟩ := h3 k t ht
  refine ⟨_, (pss_one (ps_ret (pe_ix ix_tup (pe_ix ix_list (pe_fld (pv 0) rfl) (pe_fld (pv 0) rfl) (fun _ _ => rfl)) pe_int (fun _ _ => rfl)))), ?_⟩
  refine ⟨_, rfl, c, CC, dx, _, _, rfl, hc, C.cl, C.nR, cur_row _ _, _, rfl, c, CC, dx, _, _, rfl, hc, C.cl, C.nP, cur_place _ _, r, rows, _, _, rfl, rfl, h1, atI_nat q1, ?_⟩
  exact ⟨p, _, _, _, rfl, rfl, q2, rfl, q⟩
/-- the place goes on by one -/
theorem cur_step {H : Hp} {c : Addr} {k : Nat} {dx r : Addr} (hc : H c = some (.ins CC dx (cur r (k : Int)))) (hrow : RowsAt K T H r) :
    Stp c H (upd H c (.ins CC dx (cur r ((k : Int) + 1)))) ∧ CurAt K CC T (upd H c (.ins CC dx (cur r ((k : Int) + 1)))) c r (k + 1) := by
  have st : Stp c H (upd H c (.ins CC dx (cur r ((k : Int) + 1)))) := fun b u n e => by rw [upd_ne n]; exact e
  have hrc : r ≠ c ∨ (∃ o its n, K.lookup r = some o ∧ o.cls = .type "list" ∧ o.dict = none ∧ o.data = .seq its n) := by
    obtain ⟨rows, h1, _⟩ := hrow
    rcases h1 with (h | ⟨o, h⟩) | ⟨o, its, n, h1, h2, h3, h4, _⟩
    · exact .inl fun z => by rw [z, hc] at h; cases h
    · exact .inl fun z => by rw [z, hc] at h; cases h
    · exact .inr ⟨o, its, n, h1, h2, h3, h4⟩
  refine ⟨st, dx, ?_, ?_⟩
  · rw [upd_same]
    rfl
  · obtain ⟨rows, h1, h2, h3⟩ := hrow
    refine ⟨rows, ?_, h2, fun i t q => ?_⟩
    · rcases h1 with (h | ⟨o, h⟩) | h
      · exact .inl (.inl (st _ _ (fun z => by rw [z, hc] at h; cases h) h))
      · exact .inl (.inr ⟨o, st _ _ (fun z => by rw [z, hc] at h; cases h) h⟩)
      · exact .inr h
    · obtain ⟨p, q1, q2⟩ := h3 i t q
      exact ⟨p, q1, st.tup (rd_ins hc) q2⟩
abbrev sCursor_take : Stmt := mth 37 3
abbrev nCursor_take : List Str := ["self", "at"]
theorem scCursor_take : FnScope nCursor_take ["self"] (defScope sCursor_take) := ⟨rfl, rfl, rfl, by decide +kernel, rfl, by decide +kernel, by decide +kernel⟩
-- slots of Cursor_take: 0 self, 1 at
theorem ok_take (F : Fun K "take" "Cursor.take" sCursor_take f fd) (C : CurC K mg CC) (m_next_at : Met P w K mg base CX0 1 CC "next_at" ["self"] (spNextAt K CC T)) : FnOk P w K mg base CX0 2 f fd ["self"] (spTake K CC T) := by
  refine F.own scCursor_take (fun vs H Q E h => ?_) (fun cdv A outer s H vs Q E hr h => ?_)
  · obtain ⟨c, r, k, t, rfl, _⟩ := h
    rfl
  obtain ⟨c, r, k, t, rfl, hC, ht, q⟩ := h
  have hC0 := hC
  obtain ⟨dx, hc, hrow⟩ := hC0
  refine ⟨_, (pss_cons (ps_set (i := 1) scCursor_take.nd rfl (by first | exact Or.inl rfl | exact Or.inr rfl) (pe_m00 m_next_at hr (by omega) (pv 0))) (pss_cons (ps_fldaug (pv 0) pe_int in_add) (pss_one (ps_ret (pv 1))))), ?_⟩
  refine ⟨_, rfl, c, dx, _, rfl, hc, cur_no _ _ (by decide +kernel) (by decide +kernel), c, r, k, t, rfl, hC, ht, ?_⟩
  refine ⟨_, rfl, c, CC, dx, _, _, rfl, hc, C.cl, C.nP, cur_place _ _, _, _, rfl, rfl, dx, _, hc, by rw [cur_eq]; show 2 < 1000; decide, ?_⟩
  obtain ⟨st, ca⟩ := cur_step hc hrow
  refine ⟨_, rfl, ?_⟩
  rw [cur_put]
  exact q _ st ca
abbrev sCursor_take_word : Stmt := mth 37 4
abbrev nCursor_take_word : List Str := ["self", "word"]
theorem scCursor_take_word : FnScope nCursor_take_word ["self", "word"] (defScope sCursor_take_word) := ⟨rfl, rfl, rfl, by decide +kernel, rfl, by decide +kernel, by decide +kernel⟩
-- slots of Cursor_take_word: 0 self, 1 word
theorem ok_take_word (F : Fun K "take_word" "Cursor.take_word" sCursor_take_word f fd) (C : CurC K mg CC) (xBadText : ExcR P w K mg "BadText" CB 1 mf1) (m_next_at : Met P w K mg base CX0 1 CC "next_at" ["self"] (spNextAt K CC T))
    (m_next_word : Met P w K mg base CX0 1 CC "next_word" ["self"] (spNextWord K CC T)) (m_take : Met P w K mg base CX0 2 CC "take" ["self"] (spTake K CC T)) : FnOk P w K mg base (L2.CX P w) 3 f fd ["self", "word"] (spTakeWord K CC CB T) := by
  refine F.ownX scCursor_take_word (fun vs H Q E h => ?_) (fun cdv A outer s H vs Q E hr h => ?_)
  · obtain ⟨c, r, k, t, z, rfl, _⟩ := h
    rfl
  obtain ⟨c, r, k, t, z, rfl, hC, ht, q1, q2⟩ := h
  have hC0 := hC
  obtain ⟨dx, hc, hrow⟩ := hC0
  have hn : ∀ {m : Str}, ¬ m = "place" → ¬ m = "row" → (cur r (k : Int)).lookup m = none := fun a b => cur_no _ _ a b
  refine ⟨_, (pss_cons (ps_if (pt_cmpR op_ne (pe_m00 m_next_word hr (by omega) (pv 0)) (pv 1) (nomark _))
    (pss_one (ps_raise rfl (takes_of rfl rfl rfl rfl) (pmk_1 xBadText hr (pa_cons (pe_m00 m_next_at hr (by omega) (pv 0)) pa_nil) rfl))) pss_nil) (pss_one (ps_ret (pe_m00 m_take hr (by omega) (pv 0))))), ?_⟩
  refine ⟨_, rfl, c, dx, _, rfl, hc, hn (by decide +kernel) (by decide +kernel), c, r, k, t, rfl, hC, ht, _, rfl, rfl, _, rfl, ?_⟩
  by_cases hz : t.2 = z
  · refine if_f (neF hz) ?_
    exact ⟨_, rfl, c, dx, _, rfl, hc, hn (by decide +kernel) (by decide +kernel), c, r, k, t, rfl, hC, ht, q1 hz⟩
  · refine if_t (neT hz) ?_
    refine ⟨_, rfl, c, dx, _, rfl, hc, hn (by decide +kernel) (by decide +kernel), c, r, k, t, rfl, hC, ht, rfl, fun d hd => ?_⟩
    exact q2 hz d _ (same_new hd _) upd_same
abbrev sis_plain_name : Stmt := top 32
abbrev nis_plain_name : List Str := ["word"]
theorem scis_plain_name : FnScope nis_plain_name ["word"] (defScope sis_plain_name) := ⟨rfl, rfl, rfl, by decide +kernel, rfl, by decide +kernel, by decide +kernel⟩
-- slots of is_plain_name: 0 word
theorem ok_plain (F : Fun K "is_plain_name" "is_plain_name" sis_plain_name f fd) (B : Blt mg) (T : Cst K mg aR aS) : FnOk P w K mg base CX0 1 f fd ["word"] spPlain := by
  refine F.own scis_plain_name (fun vs H Q E h => ?_) (fun cdv A outer s H vs Q E hr h => ?_)
  · obtain ⟨z, rfl, _⟩ := h
    rfl
  obtain ⟨z, rfl, hz, q⟩ := h
  refine ⟨_, (pss_one (ps_ret (pe_and (pe_cmpR op_ne (pv 0) pe_str (nomark _)) (pe_and (pe_cmpR op_in_sign (pe_ix ix_str (pv 0) pe_int (fun _ _ => rfl)) (pe_gc rfl T.LETTERS) rfl) (pe_and (pe_cmpR op_le (pe_callB call_len_str (by rfl) B.len PySem.boot_len (pa_cons (pv 0) pa_nil)) (pe_gc rfl T.LONGEST_NAME) (nomark _)) (pe_one (pe_cmpR op_notIn_seq (pv 0) (pe_gc rfl T.RESERVED) rfl))))))), ?_⟩
  refine ⟨_, rfl, rfl, _, rfl, ?_⟩
  unfold plain at q
  by_cases h0 : z = ""
  · refine if_f (neF h0) ?_
    rw [decide_eq_false (fun e => e h0), Bool.false_and] at q
    exact q
  · refine if_t (neT h0) ?_
    obtain ⟨c, r, e⟩ := cps_ne h0
    have hh : hd z = c := by unfold hd; rw [e]; rfl
    refine ⟨_, rfl, z, _, c, rfl, rfl, small hz, (by rw [e]; exact atI_nat (j := 0) rfl), c, _, rfl, rfl, _, rfl, ?_⟩
    rw [decide_eq_true h0, Bool.true_and, hh] at q
    by_cases h1 : c ∈ letters
    · refine if_t (decide_eq_true h1) ?_
      rw [decide_eq_true h1, Bool.true_and] at q
      refine ⟨_, rfl, _, rfl, small hz, _, _, rfl, rfl, _, rfl, ?_⟩
      by_cases h2 : z.length ≤ 8
      · refine if_t (decide_eq_true (by omega)) ?_
        rw [decide_eq_true h2, Bool.true_and, ← inStr] at q
        exact ⟨_, rfl, aR, _, rfl, .inr (T.hR _), rfl, flatStr _, q⟩
      · refine if_f (decide_eq_false (by omega)) ?_
        rw [decide_eq_false h2, Bool.false_and] at q
        exact q
    · refine if_f (decide_eq_false h1) ?_
      rw [decide_eq_false h1, Bool.false_and] at q
      exact q
abbrev sis_number : Stmt := top 33
abbrev nis_number : List Str := ["word"]
theorem scis_number : FnScope nis_number ["word"] (defScope sis_number) := ⟨rfl, rfl, rfl, by decide +kernel, rfl, by decide +kernel, by decide +kernel⟩
-- slots of is_number: 0 word
theorem ok_number (F : Fun K "is_number" "is_number" sis_number f fd) (B : Blt mg) (T : Cst K mg aR aS) : FnOk P w K mg base CX0 1 f fd ["word"] spNumber := by
  refine F.own scis_number (fun vs H Q E h => ?_) (fun cdv A outer s H vs Q E hr h => ?_)
  · obtain ⟨z, rfl, _⟩ := h
    rfl
  obtain ⟨z, rfl, hz, q⟩ := h
  refine ⟨_, (pss_cons (ps_if (PW.pt (pw_or (pt_cmpR op_eq (pv 0) pe_str (nomark _)) (pw_or (pt_cmpR op_notIn_sign (pe_ix ix_str (pv 0) pe_int (fun _ _ => rfl)) (pe_gc rfl T.DIGITS) rfl) (pw_or1 (pt_cmpR op_gt (pe_callB call_len_str (by rfl) B.len PySem.boot_len (pa_cons (pv 0) pa_nil)) (pe_gc rfl T.LONGEST_NUMBER) (nomark _))))))
    (pss_one (ps_ret pe_bl)) pss_nil) (pss_one (ps_ret (pe_or (pe_cmpR op_eq (pv 0) pe_str (nomark _)) (pe_one (pe_cmpR op_ne (pe_ix ix_str (pv 0) pe_int (fun _ _ => rfl)) pe_str (nomark _))))))), ?_⟩
  refine ⟨_, rfl, rfl, _, rfl, ?_⟩
  unfold number at q
  by_cases h0 : z = ""
  · refine if_t (eqT h0) (iteT ?_)
    rw [decide_eq_false (fun e => e h0), Bool.false_and] at q
    exact q
  · refine if_f (eqF h0) ?_
    obtain ⟨c, r, e⟩ := cps_ne h0
    have hh : hd z = c := by unfold hd; rw [e]; rfl
    refine ⟨_, rfl, z, _, c, rfl, rfl, small hz, (by rw [e]; exact atI_nat (j := 0) rfl), c, _, rfl, rfl, _, rfl, ?_⟩
    rw [decide_eq_true h0, Bool.true_and, hh] at q
    by_cases h1 : c ∈ digits
    · refine if_f (show (!decide (c ∈ digits)) = false by rw [decide_eq_true h1]; rfl) ?_
      rw [decide_eq_true h1, Bool.true_and] at q
      refine ⟨_, rfl, _, rfl, small hz, _, _, rfl, rfl, _, rfl, ?_⟩
      by_cases h2 : z.length ≤ 30
      · refine if_f (decide_eq_false (by omega)) ?_
        rw [decide_eq_true h2, Bool.true_and] at q
        refine ⟨_, rfl, rfl, _, rfl, ?_⟩
        by_cases h3 : z = "0"
        · refine if_t (eqT h3) ?_
          rw [decide_eq_true (Or.inl h3)] at q
          exact q
        · refine if_f (eqF h3) ?_
          refine ⟨_, rfl, z, _, c, rfl, rfl, small hz, (by rw [e]; exact atI_nat (j := 0) rfl), rfl, ?_⟩
          have e0 : ((⟨#[c]⟩ : Str) = "0") ↔ c = 48 := by
            rw [show ("0" : Str) = ⟨#[48]⟩ by decide +kernel]
            simp
          by_cases h4 : c = 48
          · rw [decide_eq_false (fun x => x.elim h3 (fun y => y h4))] at q
            rw [neF (e0.mpr h4)]
            exact q
          · rw [decide_eq_true (Or.inr h4)] at q
            rw [neT (fun y => h4 (e0.mp y))]
            exact q
      · refine if_t (decide_eq_true (by omega)) ?_
        rw [decide_eq_false h2, Bool.false_and] at q
        exact q
    · refine if_t (show (!decide (c ∈ digits)) = true by rw [decide_eq_false h1]; rfl) (iteT ?_)
      rw [decide_eq_false h1, Bool.false_and] at q
      exact q
abbrev sCursor_take_name : Stmt := mth 37 5
abbrev nCursor_take_name : List Str := ["self", "name"]
theorem scCursor_take_name : FnScope nCursor_take_name ["self"] (defScope sCursor_take_name) := ⟨rfl, rfl, rfl, by decide +kernel, rfl, by decide +kernel, by decide +kernel⟩
-- slots of Cursor_take_name: 0 self, 1 name
theorem ok_take_name (F : Fun K "take_name" "Cursor.take_name" sCursor_take_name f fd) (C : CurC K mg CC) (xBadText : ExcR P w K mg "BadText" CB 1 mf1) (m_next_at : Met P w K mg base CX0 1 CC "next_at" ["self"] (spNextAt K CC T))
    (m_next_word : Met P w K mg base CX0 1 CC "next_word" ["self"] (spNextWord K CC T)) (c_is_plain_name : Cal P w K mg base CX0 1 "is_plain_name" ["word"] spPlain) (hT : ∀ t ∈ T, t.2.length ≤ 1000) : FnOk P w K mg base (L2.CX P w) 3 f fd ["self"] (spTakeName K CC CB T) := by
  refine F.ownX scCursor_take_name (fun vs H Q E h => ?_) (fun cdv A outer s H vs Q E hr h => ?_)
  · obtain ⟨c, r, k, t, rfl, _⟩ := h
    rfl
  obtain ⟨c, r, k, t, rfl, hC, ht, q1, q2⟩ := h
  have hC0 := hC
  obtain ⟨dx, hc, hrow⟩ := hC0
  have hn : ∀ {m : Str}, ¬ m = "place" → ¬ m = "row" → (cur r (k : Int)).lookup m = none := fun a b => cur_no _ _ a b
  refine ⟨_, (pss_cons (ps_set (i := 1) scCursor_take_name.nd rfl (by first | exact Or.inl rfl | exact Or.inr rfl) (pe_m00 m_next_word hr (by omega) (pv 0))) (pss_cons (ps_if (pt_not (pt_val (pe_c0 c_is_plain_name hr (by omega) rfl (pa_cons (pv 1) pa_nil))))
    (pss_one (ps_raise rfl (takes_of rfl rfl rfl rfl) (pmk_1 xBadText hr (pa_cons (pe_m00 m_next_at hr (by omega) (pv 0)) pa_nil) rfl))) pss_nil) (pss_cons (ps_fldaug (pv 0) pe_int in_add) (pss_one (ps_ret (pv 1)))))), ?_⟩
  refine ⟨_, rfl, c, dx, _, rfl, hc, hn (by decide +kernel) (by decide +kernel), c, r, k, t, rfl, hC, ht, ?_⟩
  refine ⟨_, rfl, t.2, rfl, hT t (List.mem_of_getElem? ht), _, rfl, ?_⟩
  cases hp : plain t.2 with
  | false =>
    refine iteT ?_
    refine ⟨_, rfl, c, dx, _, rfl, hc, hn (by decide +kernel) (by decide +kernel), c, r, k, t, rfl, hC, ht, rfl, fun d hd => ?_⟩
    exact q2 hp d _ (same_new hd _) upd_same
  | true =>
    refine iteF ?_
    refine ⟨_, rfl, c, CC, dx, _, _, rfl, hc, C.cl, C.nP, cur_place _ _, _, _, rfl, rfl, dx, _, hc, by rw [cur_eq]; show 2 < 1000; decide, ?_⟩
    obtain ⟨st, ca⟩ := cur_step hc hrow
    refine ⟨_, rfl, ?_⟩
    rw [cur_put]
    exact q1 hp _ st ca
end
end GR
set_option Elab.async false
set_option linter.all false
set_option maxRecDepth 100000
set_option maxHeartbeats 4000000
/-! The values that stand for expressions. -/
namespace GR
open PySem PySem.Spec PyProof.Rows L2
/-- a step of a part -/
inductive StepS (K : PySem.W.Frag) (Wd : Str → Prop) (H : Hp) (N : Nat) (R : V → Prop) : Addr → Prop
  | nm {t : Addr} {s w : Str} {q : Int} : SqT K H t [.str s, .int q, .str w] → (s = "get" ∨ s = "cut" ∨ s = "drop") → Wd w → StepS K Wd H N R t
  | only {t b : Addr} {q : Int} {ws : List Str} : SqT K H t [.str "only", .int q, .ref b] → SqT K H b (ws.map V.str) → ws.length ≤ N → (∀ w ∈ ws, Wd w) → StepS K Wd H N R t
  | ren {t : Addr} {w u : Str} {q : Int} : SqT K H t [.str "rename", .int q, .str w, .str u] → Wd w → Wd u → StepS K Wd H N R t
  | put {t : Addr} {s w : Str} {q : Int} {e : V} : SqT K H t [.str s, .int q, .str w, e] → (s = "put" ∨ s = "add") → R e → Wd w → StepS K Wd H N R t
def FieldS (K : PySem.W.Frag) (Wd : Str → Prop) (H : Hp) (R : V → Prop) (v : V) : Prop := ∃ (t : Addr) (w : Str) (e : V) (q : Int), v = .ref t ∧ SqT K H t [.str w, e, .int q] ∧ R e ∧ Wd w
def SignS (K : PySem.W.Frag) (H : Hp) (R : V → Prop) (v : V) : Prop := ∃ (t : Addr) (s : Str) (q : Int) (e : V), v = .ref t ∧ SqT K H t [.str s, .int q, e] ∧ R e
def TestS (K : PySem.W.Frag) (Wd : Str → Prop) (H : Hp) (R : V → Prop) (v : V) : Prop := ∃ (t : Addr) (g : Bool) (c : V) (q : Int) (o : V), v = .ref t ∧ SqT K H t [.bl g, c, .int q, o] ∧ (o = .non ∨ ∃ w, o = .str w ∧ Wd w) ∧ R c
def StepV (K : PySem.W.Frag) (Wd : Str → Prop) (H : Hp) (N : Nat) (R : V → Prop) (v : V) : Prop := ∃ t, v = .ref t ∧ StepS K Wd H N R t
/-- one layer of an expression; nm: the names allowed, cl: the calls allowed -/
inductive Sh (K : PySem.W.Frag) (Wd : Str → Prop) (N : Nat) (cl : Str → Nat → Prop) (H : Hp) (nm : Str → Prop) (R : (Str → Prop) → V → Prop) : V → Prop
  | number {a : Addr} {p i : Int} : SqT K H a [.str "number", .int p, .int i] → Sh K Wd N cl H nm R (.ref a)
  | name {a : Addr} {p : Int} {w : Str} : SqT K H a [.str "name", .int p, .str w] → nm w → Sh K Wd N cl H nm R (.ref a)
  | call {a b : Addr} {p : Int} {w : Str} {es : List V} : SqT K H a [.str "call", .int p, .str w, .ref b] → SqT K H b es → es.length ≤ N → cl w es.length → (∀ e ∈ es, R nm e) → Sh K Wd N cl H nm R (.ref a)
  | fields {a b : Addr} {p : Int} {rs : List V} : SqT K H a [.str "fields", .int p, .ref b] → SqT K H b rs → rs.length ≤ N → (∀ r ∈ rs, FieldS K Wd H (R nm) r) → Sh K Wd N cl H nm R (.ref a)
  | chain {a b : Addr} {f : V} {rs : List V} : SqT K H a [.str "chain", f, .ref b] → R nm f → SqT K H b rs → rs.length ≤ N → (∀ r ∈ rs, SignS K H (R nm) r) → Sh K Wd N cl H nm R (.ref a)
  | part {a b : Addr} {f : V} {rs : List V} : SqT K H a [.str "part", f, .ref b] → R nm f → SqT K H b rs → rs.length ≤ N → (∀ r ∈ rs, StepV K Wd H N (R nm) r) → Sh K Wd N cl H nm R (.ref a)
  | lets {a : Addr} {p : Int} {w : Str} {e1 e2 : V} : SqT K H a [.str "let", .int p, .str w, e1, e2] → R nm e1 → R (fun x => nm x ∨ x = w) e2 → Sh K Wd N cl H nm R (.ref a)
  | ifs {a b : Addr} {p : Int} {rs : List V} {e1 e2 : V} : SqT K H a [.str "if", .int p, .ref b, e1, e2] → SqT K H b rs → rs.length ≤ N → (∀ r ∈ rs, TestS K Wd H (R nm) r) → R nm e1 → R nm e2 → Sh K Wd N cl H nm R (.ref a)
def G (K : PySem.W.Frag) (Wd : Str → Prop) (N : Nat) (cl : Str → Nat → Prop) (H : Hp) : Nat → (Str → Prop) → V → Prop
  | 0, _, _ => False
  | n + 1, nm, v => Sh K Wd N cl H nm (G K Wd N cl H n) v
theorem StepS.mono {K : PySem.W.Frag} {Wd : Str → Prop} {H H' : Hp} {N N' : Nat} {R R' : V → Prop} (e : Tps H H') (hn : N ≤ N') (hr : ∀ v, R v → R' v) {t : Addr} (h : StepS K Wd H N R t) : StepS K Wd H' N' R' t := by
  cases h with
  | nm a b c => exact .nm (e.tup a) b c
  | only a b c d => exact .only (e.tup a) (e.tup b) (by omega) d
  | ren a b c => exact .ren (e.tup a) b c
  | put a b c d => exact .put (e.tup a) b (hr _ c) d
theorem StepV.mono {K : PySem.W.Frag} {Wd : Str → Prop} {H H' : Hp} {N N' : Nat} {R R' : V → Prop} (e : Tps H H') (hn : N ≤ N') (hr : ∀ v, R v → R' v) {t : V} (h : StepV K Wd H N R t) : StepV K Wd H' N' R' t :=
  let ⟨t, a, b⟩ := h; ⟨t, a, b.mono e hn hr⟩
theorem FieldS.mono {K : PySem.W.Frag} {Wd : Str → Prop} {H H' : Hp} {R R' : V → Prop} (e : Tps H H') (hr : ∀ v, R v → R' v) {t : V} (h : FieldS K Wd H R t) : FieldS K Wd H' R' t :=
  let ⟨t, a, b, c, d, f, g, i⟩ := h; ⟨t, a, b, c, d, e.tup f, hr _ g, i⟩
theorem SignS.mono {K : PySem.W.Frag} {H H' : Hp} {R R' : V → Prop} (e : Tps H H') (hr : ∀ v, R v → R' v) {t : V} (h : SignS K H R t) : SignS K H' R' t :=
  let ⟨t, a, b, c, d, f, g⟩ := h; ⟨t, a, b, c, d, e.tup f, hr _ g⟩
theorem TestS.mono {K : PySem.W.Frag} {Wd : Str → Prop} {H H' : Hp} {R R' : V → Prop} (e : Tps H H') (hr : ∀ v, R v → R' v) {t : V} (h : TestS K Wd H R t) : TestS K Wd H' R' t :=
  let ⟨t, a, b, c, d, f, g, i, j⟩ := h; ⟨t, a, b, c, d, f, e.tup g, i, hr _ j⟩
theorem Sh.mono {K : PySem.W.Frag} {Wd : Str → Prop} {N N' : Nat} {cl cl' : Str → Nat → Prop} {H H' : Hp} {nm nm' : Str → Prop} {R R' : (Str → Prop) → V → Prop} (e : Tps H H') (hn : N ≤ N') (hc : ∀ w i, cl w i → cl' w i) (hm : ∀ w, nm w → nm' w)
    (hr : ∀ m m' v, (∀ w, m w → m' w) → R m v → R' m' v) {v : V} (h : Sh K Wd N cl H nm R v) : Sh K Wd N' cl' H' nm' R' v := by
  have h1 : ∀ v, R nm v → R' nm' v := fun v => hr nm nm' v hm
  cases h with
  | number a => exact .number (e.tup a)
  | name a b => exact .name (e.tup a) (hm _ b)
  | call a b c d f => exact .call (e.tup a) (e.tup b) (by omega) (hc _ _ d) fun x hx => h1 x (f x hx)
  | fields a b c d => exact .fields (e.tup a) (e.tup b) (by omega) fun x hx => (d x hx).mono e h1
  | chain a b c d f => exact .chain (e.tup a) (h1 _ b) (e.tup c) (by omega) fun x hx => (f x hx).mono e h1
  | part a b c d f => exact .part (e.tup a) (h1 _ b) (e.tup c) (by omega) fun x hx => (f x hx).mono e hn h1
  | lets a b c => exact .lets (e.tup a) (h1 _ b) (hr _ _ _ (fun w z => z.imp (hm w) id) c)
  | ifs a b c d f g => exact .ifs (e.tup a) (e.tup b) (by omega) (fun x hx => (d x hx).mono e h1) (h1 _ f) (h1 _ g)
theorem G.mono {K : PySem.W.Frag} {Wd : Str → Prop} {N N' : Nat} {cl cl' : Str → Nat → Prop} {H H' : Hp} (e : Tps H H') (hn : N ≤ N') (hc : ∀ w i, cl w i → cl' w i) : ∀ {n n' : Nat} {nm nm' : Str → Prop} {v : V}, n ≤ n' → (∀ w, nm w → nm' w) → G K Wd N cl H n nm v → G K Wd N' cl' H' n' nm' v
  | 0, _, _, _, _, _, _, h => h.elim
  | n + 1, 0, _, _, _, hl, _, _ => absurd hl (by omega)
  | n + 1, n' + 1, nm, nm', v, hl, hm, h => Sh.mono (R := G K Wd N cl H n) (R' := G K Wd N' cl' H' n') e hn hc hm (fun m m' v hw g => G.mono e hn hc (by omega) hw g) h
/-- an expression as it is read: any names, any calls -/
abbrev clT : Str → Nat → Prop := fun _ _ => True
abbrev nmT : Str → Prop := fun _ => True
def IsE (K : PySem.W.Frag) (Wd : Str → Prop) (n N : Nat) (H : Hp) (v : V) : Prop := G K Wd N clT H n nmT v
theorem IsE.mono {K : PySem.W.Frag} {Wd : Str → Prop} {n n' N N' : Nat} {H H' : Hp} {v : V} (e : Tps H H') (h1 : n ≤ n') (h2 : N ≤ N') (h : IsE K Wd n N H v) : IsE K Wd n' N' H' v := G.mono e h2 (fun _ _ z => z) h1 (fun _ z => z) h
theorem IsE.of_or {K : PySem.W.Frag} {Wd : Str → Prop} {n N : Nat} {H : Hp} {v : V} {nm : Str → Prop} (h : IsE K Wd n N H v) (hn : ∀ w, nm w) : G K Wd N clT H n nm v := G.mono Tps.refl (Nat.le_refl _) (fun _ _ z => z) (Nat.le_refl _) (fun w _ => hn w) h
/-- the tag of an expression -/
theorem Sh.tag {K : PySem.W.Frag} {Wd : Str → Prop} {N : Nat} {cl : Str → Nat → Prop} {H : Hp} {nm : Str → Prop} {R : (Str → Prop) → V → Prop} {v : V} (h : Sh K Wd N cl H nm R v) : ∃ (a : Addr) (xs : List V) (s : Str), v = .ref a ∧ SqT K H a xs ∧ xs[0]? = some (.str s) ∧
    (s = "part" → ∃ (f : V) (b : Addr) (rs : List V), xs = [.str "part", f, .ref b] ∧ R nm f ∧ SqT K H b rs ∧ rs.length ≤ N ∧ ∀ r ∈ rs, StepV K Wd H N (R nm) r) ∧
    (s = "chain" → ∃ (f : V) (b : Addr) (rs : List V), xs = [.str "chain", f, .ref b] ∧ R nm f ∧ SqT K H b rs ∧ rs.length ≤ N ∧ ∀ r ∈ rs, SignS K H (R nm) r) := by
  cases h with
  | number a => exact ⟨_, _, "number", rfl, a, rfl, fun z => absurd z (by decide +kernel), fun z => absurd z (by decide +kernel)⟩
  | name a b => exact ⟨_, _, "name", rfl, a, rfl, fun z => absurd z (by decide +kernel), fun z => absurd z (by decide +kernel)⟩
  | call a b c d f => exact ⟨_, _, "call", rfl, a, rfl, fun z => absurd z (by decide +kernel), fun z => absurd z (by decide +kernel)⟩
  | fields a b c d => exact ⟨_, _, "fields", rfl, a, rfl, fun z => absurd z (by decide +kernel), fun z => absurd z (by decide +kernel)⟩
  | chain a b c d f => exact ⟨_, _, "chain", rfl, a, rfl, fun z => absurd z (by decide +kernel), fun _ => ⟨_, _, _, rfl, b, c, d, f⟩⟩
  | part a b c d f => exact ⟨_, _, "part", rfl, a, rfl, fun _ => ⟨_, _, _, rfl, b, c, d, f⟩, fun z => absurd z (by decide +kernel)⟩
  | lets a b c => exact ⟨_, _, "let", rfl, a, rfl, fun z => absurd z (by decide +kernel), fun z => absurd z (by decide +kernel)⟩
  | ifs a b c d f g => exact ⟨_, _, "if", rfl, a, rfl, fun z => absurd z (by decide +kernel), fun z => absurd z (by decide +kernel)⟩
/-- two tuples put together -/
theorem catA_of {K : PySem.W.Frag} {H : Hp} {Q : VK} {a b : Addr} {xs ys : List V} (hx : SqT K H a xs) (hy : SqT K H b ys) (hz : xs.length + ys.length ≤ sizeLine) (h : ∀ p H', Same H H' → SqT K H' p (xs ++ ys) → Q (.ref p) H') : rCatA K (.ref a) (.ref b) H Q := by
  refine ⟨a, b, xs, ys, rfl, rfl, hx, hy, hz, fun e => h b H (Same.refl H) ?_, fun _ e => h a H (Same.refl H) ?_, fun _ _ p hp => h p _ (same_new hp _) (.inl (.inl upd_same))⟩
  · rw [e]
    exact hy
  · rw [e, List.append_nil]
    exact hx
end GR
set_option Elab.async false
set_option linter.all false
set_option maxRecDepth 100000
set_option maxHeartbeats 4000000
/-! The parser's state and the calls of the cursor's methods. -/
namespace GR
open PySem PySem.Spec PyProof.Rows L2
/-- the kinds of the tokens -/
def ks (T : Toks) : List Str := T.map fun t => kd t.2
theorem ks_at {T : Toks} {q : Nat} {t : Int × Str} (h : T[q]? = some t) : (ks T)[q]? = some (kd t.2) := by
  unfold ks
  rw [List.getElem?_map, h]
  rfl
def openers : List Str := ["let", "if", "(", "{", "put", "add"]
/-- how many words from k on open something -/
def ops (T : Toks) (k : Nat) : Nat := ((T.drop k).filter fun t => decide (t.2 ∈ openers)).length
theorem ops_at {T : Toks} {q : Nat} {t : Int × Str} (h : T[q]? = some t) : ops T q = (if t.2 ∈ openers then 1 else 0) + ops T (q + 1) := by
  obtain ⟨hl, e⟩ := List.getElem?_eq_some_iff.mp h
  unfold ops
  rw [List.drop_eq_getElem_cons hl, e, List.filter_cons]
  by_cases z : t.2 ∈ openers
  · rw [if_pos (decide_eq_true z), if_pos z, List.length_cons]
    omega
  · rw [if_neg (by rw [decide_eq_false z]; decide), if_neg z]
    omega
theorem ops_step {T : Toks} {q : Nat} : ops T (q + 1) ≤ ops T q := by
  by_cases h : q < T.length
  · rw [ops_at (List.getElem?_eq_getElem h)]
    omega
  · unfold ops
    rw [List.drop_eq_nil_of_le (by omega)]
    exact Nat.zero_le _
theorem ops_le {T : Toks} {k q : Nat} (h : k ≤ q) : ops T q ≤ ops T k := by
  induction h with
  | refl => exact Nat.le_refl _
  | step _ ih => exact Nat.le_trans ops_step ih
theorem ops_open {T : Toks} {q : Nat} {t : Int × Str} (h : T[q]? = some t) (z : t.2 ∈ openers) : ops T (q + 1) + 1 = ops T q := by
  rw [ops_at h, if_pos z]
  omega
/-- the parser at work on X since k: the cursor stands at q, b is left to be read -/
structure At (K : PySem.W.Frag) (CC : Addr) (T : Toks) (c r : Addr) (H0 : Hp) (k : Nat) (X : List Str) (H : Hp) (q : Nat) (b : List Str) : Prop where
  cur0 : CurAt K CC T H0 c r k
  via : Via (ks T) X k b q
  stp : Stp c H0 H
  ins : ∃ dx, H c = some (.ins CC dx (cur r (q : Int)))
  le : k ≤ q
  lt : q < T.length
/-- what is wished of a BadText -/
def Ex (CB : Addr) (T : Toks) (c : Addr) (H0 : Hp) (k : Nat) (X : List Str) (E : XK) : Prop := ∀ (j : Nat) (t : Int × Str) (d : Addr) (H' : Hp), Bad (ks T) X k j → T[j]? = some t → Stp c H0 H' → AtX d t.1 H' → E (.ref CB) (some d) H'
/-- the promise of a reader of X with a level -/
def spRd (K : PySem.W.Frag) (CC CB : Addr) (T : Toks) (X : List Str) (val : Nat → Hp → V → Prop) (M : Nat) : Sp := fun vs H Q E => ∃ (c r : Addr) (k : Nat) (l : Int), vs = [.ref c, .int l] ∧ CurAt K CC T H c r k ∧ k < T.length ∧ ops T k < M ∧ l + M ≤ 101 ∧
  (∀ q v H', At K CC T c r H k X H' q [] → val q H' v → Q v H') ∧ Ex CB T c H k X E
/-- the promise of read_field: it begins with a name -/
def spField (K : PySem.W.Frag) (CC CB : Addr) (T : Toks) (val : Nat → Hp → V → Prop) (n : Nat) : Sp := fun vs H Q E => ∃ (c r : Addr) (k : Nat) (l : Int) (t : Int × Str), vs = [.ref c, .int l] ∧ CurAt K CC T H c r k ∧ T[k]? = some t ∧ ops T k < n ∧ l + (n + 1) ≤ 101 ∧
  (kd t.2 = "NAME" → ∀ q v H', At K CC T c r H k ["field"] H' q [] → val q H' v → Q v H') ∧
  (∀ (j : Nat) (u : Int × Str) (d : Addr) (H' : Hp), Bad (ks T) ["field"] k j → (kd t.2 ≠ "NAME" → j = k) → T[j]? = some u → Stp c H H' → AtX d u.1 H' → E (.ref CB) (some d) H')
section
variable {K : PySem.W.Frag} {CC CB : Addr} {T : Toks} {c r : Addr} {H0 H : Hp} {k q : Nat} {X b : List Str} {σ : L2.St} {Q : VK} {E : XK} {P : Program} {w : World} {mg : Str → Option Value}
theorem At.start (h : CurAt K CC T H c r k) (hk : k < T.length) : At K CC T c r H k X H k X := ⟨h, Via.refl, Stp.refl, let ⟨dx, a, _⟩ := h; ⟨dx, a⟩, Nat.le_refl _, hk⟩
theorem At.rd (A : At K CC T c r H0 k X H q b) : ∀ xs, ¬ Rd H c (.tup xs) := by
  obtain ⟨dx, h⟩ := A.ins
  exact rd_ins h
theorem At.rd0 (A : At K CC T c r H0 k X H q b) : ∀ xs, ¬ Rd H0 c (.tup xs) := A.cur0.rd
theorem At.tps0 (A : At K CC T c r H0 k X H q b) : Tps H0 H := A.stp.tps A.rd0
theorem At.tps (A : At K CC T c r H0 k X H q b) {H' : Hp} (h : Stp c H H') : Tps H H' := h.tps A.rd
theorem At.cur (A : At K CC T c r H0 k X H q b) : CurAt K CC T H c r q := by
  obtain ⟨dx, hi⟩ := A.ins
  obtain ⟨dx0, h0, rows, h1, h2, h3⟩ := A.cur0
  refine ⟨dx, hi, rows, ?_, h2, fun i t e => ?_⟩
  · rcases h1 with (h | ⟨o, h⟩) | h
    · exact .inl (.inl (A.stp _ _ (fun z => by rw [z, h0] at h; cases h) h))
    · exact .inl (.inr ⟨o, A.stp _ _ (fun z => by rw [z, h0] at h; cases h) h⟩)
    · exact .inr h
  · obtain ⟨p, q1, q2⟩ := h3 i t e
    exact ⟨p, q1, A.stp.tup (rd_ins h0) q2⟩
theorem At.c0 (A : At K CC T c r H0 k X H q b) {a : Addr} (h : H0 a = none) : a ≠ c := fun z => by
  obtain ⟨_, e, _⟩ := A.cur0
  rw [z, e] at h
  cases h
theorem At.c1 (A : At K CC T c r H0 k X H q b) {a : Addr} (h : H a = none) : a ≠ c := fun z => by
  obtain ⟨_, e⟩ := A.ins
  rw [z, e] at h
  cases h
/-- what is new now was new ahead -/
theorem At.fresh (A : At K CC T c r H0 k X H q b) {a : Addr} (h : H a = none) : H0 a = none := by
  cases e : H0 a with
  | none => rfl
  | some o =>
    rw [A.stp a o (A.c1 h) e] at h
    cases h
theorem At.upd (A : At K CC T c r H0 k X H q b) {a : Addr} {o : HO} (h : H0 a = none) : At K CC T c r H0 k X (upd H a o) q b :=
  ⟨A.cur0, A.via, fun x u n e => by rw [upd_ne (ne_of_none e h)]; exact A.stp x u n e, let ⟨dx, e⟩ := A.ins; ⟨dx, by rw [upd_ne (Ne.symm (A.c0 h))]; exact e⟩, A.le, A.lt⟩
theorem At.new (A : At K CC T c r H0 k X H q b) {a : Addr} {o : HO} (h : H a = none) : At K CC T c r H0 k X (L2.upd H a o) q b := A.upd (A.fresh h)
theorem At.same {H' : Hp} (A : At K CC T c r H0 k X H q b) (h : Same H H') : At K CC T c r H0 k X H' q b := ⟨A.cur0, A.via, A.stp.trans (Stp.of h), let ⟨dx, e⟩ := A.ins; ⟨dx, h _ _ e⟩, A.le, A.lt⟩
/-- the word at q -/
theorem At.word (A : At K CC T c r H0 k X H q b) : ∃ t, T[q]? = some t := ⟨_, List.getElem?_eq_getElem A.lt⟩
theorem At.exp {x : Str} {b' : List Str} {t : Int × Str} (A : At K CC T c r H0 k X H q (x :: b)) (ht : T[q]? = some t) (hn : next x (kd t.2) = some b') (hr : rulesOf x ≠ [] := by decide +kernel) : At K CC T c r H0 k X H q (b' ++ b) :=
  ⟨A.cur0, A.via.trans (Via.exp (ks_at ht) hn hr), A.stp, A.ins, A.le, A.lt⟩
/-- a word taken -/
theorem At.step {x : Str} {t : Int × Str} {H' : Hp} (A : At K CC T c r H0 k X H q (x :: b)) (ht : T[q]? = some t) (hx : kd t.2 = x) (hl : q + 1 < T.length) (hs : Stp c H H') (hc : CurAt K CC T H' c r (q + 1)) (hr : rulesOf x = [] := by decide +kernel) :
    At K CC T c r H0 k X H' (q + 1) b :=
  ⟨A.cur0, A.via.trans (Via.hit (by rw [ks_at ht, hx]) hr), A.stp.trans hs, let ⟨dx, e, _⟩ := hc; ⟨dx, e⟩, Nat.le_succ_of_le A.le, hl⟩
/-- a part read by another -/
theorem At.sub {Y : List Str} {q' : Nat} {H' : Hp} (A : At K CC T c r H0 k X H q (Y ++ b)) (B : At K CC T c r H q Y H' q' []) : At K CC T c r H0 k X H' q' b :=
  ⟨A.cur0, A.via.trans (B.via.more (c := b)), A.stp.trans B.stp, B.ins, Nat.le_trans A.le B.le, B.lt⟩
theorem At.ex {Y : List Str} (A : At K CC T c r H0 k X H q (Y ++ b)) (e : Ex CB T c H0 k X E) : Ex CB T c H q Y E := fun j t d H' hb ht hs ha => e j t d H' (A.via.bad (hb.more (c := b))) ht (A.stp.trans hs) ha
theorem At.bad {j : Nat} {t : Int × Str} {d : Addr} {H' : Hp} (A : At K CC T c r H0 k X H q b) (e : Ex CB T c H0 k X E) (hb : Bad (ks T) b q j) (ht : T[j]? = some t) (hs : Same H H') (ha : AtX d t.1 H') : E (.ref CB) (some d) H' :=
  e j t d H' (A.via.bad hb) ht (A.stp.trans (Stp.of hs)) ha
/-! ### the methods' calls: what stands behind the object's own reading -/
theorem At.meth {m : Str} {sp : Sp} {e : XK} {t : TA} (A : At K CC T c r H0 k X H q b) (h1 : ¬ m = "place") (h2 : ¬ m = "row") (h : t σ H fun vs H2 => sp (.ref c :: (vs ++ [])) H2 Q e) :
    ∃ a dx fs, V.ref c = .ref a ∧ H a = some (.ins CC dx fs) ∧ fs.lookup m = none ∧ t σ H fun vs H2 => sp (V.ref c :: (vs ++ [])) H2 Q e := by
  obtain ⟨dx, hc⟩ := A.ins
  exact ⟨c, dx, _, rfl, hc, cur_no _ _ h1 h2, h⟩
theorem At.nw {t : Int × Str} (A : At K CC T c r H0 k X H q b) (ht : T[q]? = some t) (h : Q (.str t.2) H) :
    ∃ a dx fs, V.ref c = .ref a ∧ H a = some (.ins CC dx fs) ∧ fs.lookup ("next_word" : Str) = none ∧ tNil σ H fun vs H2 => spNextWord K CC T (V.ref c :: (vs ++ [])) H2 Q E0 :=
  A.meth (by decide +kernel) (by decide +kernel) ⟨c, r, q, t, rfl, A.cur, ht, h⟩
theorem At.na {t : Int × Str} (A : At K CC T c r H0 k X H q b) (ht : T[q]? = some t) (h : Q (.int t.1) H) :
    ∃ a dx fs, V.ref c = .ref a ∧ H a = some (.ins CC dx fs) ∧ fs.lookup ("next_at" : Str) = none ∧ tNil σ H fun vs H2 => spNextAt K CC T (V.ref c :: (vs ++ [])) H2 Q E0 :=
  A.meth (by decide +kernel) (by decide +kernel) ⟨c, r, q, t, rfl, A.cur, ht, h⟩
theorem ne_end {t : Int × Str} {x : Str} (h : kd t.2 = x) (hx : x ≠ "end") : t.2 ≠ "" := fun z => hx (by rw [← h]; exact kd_end.mpr z)
theorem At.tk {x : Str} {t : Int × Str} (A : At K CC T c r H0 k X H q (x :: b)) (TK : TokOk T) (ht : T[q]? = some t) (hx : kd t.2 = x) (h : ∀ H', Stp c H H' → At K CC T c r H0 k X H' (q + 1) b → Q (.int t.1) H') (hr : rulesOf x = [] := by decide +kernel) (he : x ≠ "end" := by decide +kernel) :
    ∃ a dx fs, V.ref c = .ref a ∧ H a = some (.ins CC dx fs) ∧ fs.lookup ("take" : Str) = none ∧ tNil σ H fun vs H2 => spTake K CC T (V.ref c :: (vs ++ [])) H2 Q E0 :=
  A.meth (by decide +kernel) (by decide +kernel) ⟨c, r, q, t, rfl, A.cur, ht, fun H' hs hc => h H' hs (A.step ht hx (TK.next q t ht (ne_end hx he)) hs hc hr)⟩
theorem At.tw {x : Str} (A : At K CC T c r H0 k X H q (x :: b)) (TK : TokOk T) (e : Ex CB T c H0 k X E) (h : ∀ t H', T[q]? = some t → t.2 = x → Stp c H H' → At K CC T c r H0 k X H' (q + 1) b → Q (.int t.1) H') (hl : x ∈ lits := by decide +kernel) (ho : x ∉ others := by decide +kernel) (hr : rulesOf x = [] := by decide +kernel) :
    ∃ a dx fs, V.ref c = .ref a ∧ H a = some (.ins CC dx fs) ∧ fs.lookup ("take_word" : Str) = none ∧ tCons (tC (.str x)) tNil σ H fun vs H2 => spTakeWord K CC CB T (V.ref c :: (vs ++ [])) H2 Q E := by
  obtain ⟨t, ht⟩ := A.word
  refine A.meth (by decide +kernel) (by decide +kernel) ⟨c, r, q, t, x, rfl, A.cur, ht, fun z H' hs hc => ?_, fun z d H' hs ha => ?_⟩
  · have hx : kd t.2 = x := (kd_lit hl ho).mpr z
    refine h t H' ht z hs (A.step ht hx (TK.next q t ht fun w => ?_) hs hc hr)
    rw [z] at w
    rw [w] at hl
    exact absurd hl (by decide +kernel)
  · exact A.bad e (Bad.miss (ks_at ht) (fun w => z ((kd_lit hl ho).mp w)) hr) ht hs ha
theorem At.tn (A : At K CC T c r H0 k X H q (("NAME" : Str) :: b)) (TK : TokOk T) (e : Ex CB T c H0 k X E) (h : ∀ t H', T[q]? = some t → plain t.2 = true → Stp c H H' → At K CC T c r H0 k X H' (q + 1) b → Q (.str t.2) H') :
    ∃ a dx fs, V.ref c = .ref a ∧ H a = some (.ins CC dx fs) ∧ fs.lookup ("take_name" : Str) = none ∧ tNil σ H fun vs H2 => spTakeName K CC CB T (V.ref c :: (vs ++ [])) H2 Q E := by
  obtain ⟨t, ht⟩ := A.word
  refine A.meth (by decide +kernel) (by decide +kernel) ⟨c, r, q, t, rfl, A.cur, ht, fun z H' hs hc => ?_, fun z d H' hs ha => ?_⟩
  · have hx : kd t.2 = "NAME" := kd_name.mpr z
    exact h t H' ht z hs (A.step ht hx (TK.next q t ht (ne_end hx (by decide +kernel))) hs hc (by decide +kernel))
  · exact A.bad e (Bad.miss (ks_at ht) (fun w => by rw [kd_name.mp w] at z; cases z) (by decide +kernel)) ht hs ha
theorem kne {y x : Str} (h : y ≠ x) (hl : x ∈ lits := by decide +kernel) (ho : x ∉ others := by decide +kernel) : kd y ≠ x := fun z => h ((kd_lit hl ho).mp z)
theorem keq {y x : Str} (h : y = x) (hl : x ∈ lits := by decide +kernel) (ho : x ∉ others := by decide +kernel) : kd y = x := (kd_lit hl ho).mpr h
theorem nin1 {x a : Str} (h1 : x ≠ a) : x ∉ ([a] : List Str) := by simp [h1]
theorem nin2 {x a b : Str} (h1 : x ≠ a) (h2 : x ≠ b) : x ∉ ([a, b] : List Str) := by simp [h1, h2]
theorem nin3 {x a b d : Str} (h1 : x ≠ a) (h2 : x ≠ b) (h3 : x ≠ d) : x ∉ ([a, b, d] : List Str) := by simp [h1, h2, h3]
theorem nin4 {x a b d e : Str} (h1 : x ≠ a) (h2 : x ≠ b) (h3 : x ≠ d) (h4 : x ≠ e) : x ∉ ([a, b, d, e] : List Str) := by simp [h1, h2, h3, h4]
theorem At.expK {x : Str} {b' : List Str} {t : Int × Str} {y : Str} (A : At K CC T c r H0 k X H q (x :: b)) (ht : T[q]? = some t) (hy : kd t.2 = y) (hn : next x y = some b') (hr : rulesOf x ≠ [] := by decide +kernel) : At K CC T c r H0 k X H q (b' ++ b) :=
  A.exp ht (by rw [hy]; exact hn) hr
/-- a call of another reader -/
theorem At.call {Y : List Str} {val : Nat → Hp → V → Prop} {M : Nat} {l : Int} (A : At K CC T c r H0 k X H q (Y ++ b)) (e : Ex CB T c H0 k X E) (ho : ops T q < M) (hl : l + M ≤ 101) (h : ∀ q' v H', Stp c H H' → q ≤ q' → At K CC T c r H0 k X H' q' b → val q' H' v → Q v H') :
    spRd K CC CB T Y val M [.ref c, .int l] H Q E := ⟨c, r, q, l, rfl, A.cur, A.lt, ho, hl, fun q' v H' B hv => h q' v H' B.stp B.le (A.sub B) hv, A.ex e⟩
/-- a list of items at L: the list that a reader fills -/
theorem tps_upd {H : Hp} {L : Addr} {o : HO} (h : ∀ xs, ¬ Rd H L (.tup xs)) : Tps H (upd H L o) := fun b xs z => by
  have n : b ≠ L := fun e => h xs (e ▸ z)
  rcases z with z | ⟨u, z⟩
  · exact .inl (by rw [upd_ne n]; exact z)
  · exact .inr ⟨u, by rw [upd_ne n]; exact z⟩
theorem tps_new {H : Hp} {L : Addr} {o : HO} (h : H L = none) : Tps H (upd H L o) := GR.Same.tps (same_new h o)
end
end GR
set_option Elab.async false
set_option linter.all false
set_option maxRecDepth 100000
set_option maxHeartbeats 4000000
/-! The parser's defs, each once: if read_expr keeps its promise where n openers are left, the others keep theirs. -/
namespace GR
open PySem PySem.Spec PyProof.Rows L2
def vlE (K : PySem.W.Frag) (Wd : Str → Prop) (n : Nat) : Nat → Hp → V → Prop := fun q H v => IsE K Wd n q H v
def vlArgs (K : PySem.W.Frag) (Wd : Str → Prop) (n : Nat) : Nat → Hp → V → Prop := fun q H v => ∃ b es, v = .ref b ∧ SqT K H b es ∧ es.length ≤ q ∧ ∀ e ∈ es, IsE K Wd n q H e
def vlField (K : PySem.W.Frag) (Wd : Str → Prop) (n : Nat) : Nat → Hp → V → Prop := fun q H v => FieldS K Wd H (IsE K Wd n q H) v
def vlStep (K : PySem.W.Frag) (Wd : Str → Prop) (n : Nat) : Nat → Hp → V → Prop := fun q H v => StepV K Wd H q (IsE K Wd n q H) v
def vlTest (K : PySem.W.Frag) (Wd : Str → Prop) (n : Nat) : Nat → Hp → V → Prop := fun q H v => TestS K Wd H (IsE K Wd n q H) v
/-- the level of read_expr where n openers are left -/
abbrev lvE (n : Nat) : Nat := 6 * n + 4
/-- the cursor's methods and the tokens -/
structure Par (P : Program) (w : World) (K : PySem.W.Frag) (Wd : Str → Prop) (mg : Str → Option Value) (base : Heap) (CC CB aS : Addr) (T : Toks) : Prop where
  B : Blt mg
  TK : TokOk T
  len : ∀ t ∈ T, t.2.length ≤ 1000
  nums : ∀ t ∈ T, number t.2 = true → ∃ i, PySem.intText? t.2 = some i
  wd : ∀ t ∈ T, Wd t.2
  C : CurC K mg CC
  SIGNS : Glb mg "SIGNS" (.ref aS)
  hS : ∀ H, SqT K H aS (signs.map V.str)
  DEEPEST : Glb mg "DEEPEST" (.int 100)
  xBadText : ExcR P w K mg "BadText" CB 1 mf1
  m_next_at : Met P w K mg base CX0 1 CC "next_at" ["self"] (spNextAt K CC T)
  m_next_word : Met P w K mg base CX0 1 CC "next_word" ["self"] (spNextWord K CC T)
  m_take : Met P w K mg base CX0 2 CC "take" ["self"] (spTake K CC T)
  m_take_word : Met P w K mg base (L2.CX P w) 3 CC "take_word" ["self", "word"] (spTakeWord K CC CB T)
  m_take_name : Met P w K mg base (L2.CX P w) 3 CC "take_name" ["self"] (spTakeName K CC CB T)
  c_is_plain_name : Cal P w K mg base CX0 1 "is_plain_name" ["word"] spPlain
  c_is_number : Cal P w K mg base CX0 1 "is_number" ["word"] spNumber
section
variable {P : Program} {w : World} {K : PySem.W.Frag} {Wd : Str → Prop} {mg : Str → Option Value} {base : Heap} {CC CB aR aS : Addr} {T : Toks} {f : Addr} {fd : FuncData} {n : Nat}
abbrev sread_arguments : Stmt := top 46
abbrev nread_arguments : List Str := ["cursor", "level", "found"]
theorem scread_arguments : FnScope nread_arguments ["cursor", "level"] (defScope sread_arguments) := ⟨rfl, rfl, rfl, by decide +kernel, rfl, by decide +kernel, by decide +kernel⟩
-- slots of read_arguments: 0 cursor, 1 level, 2 found
theorem ok_read_arguments (F : Fun K "read_arguments" "read_arguments" sread_arguments f fd) (Z : Par P w K Wd mg base CC CB aS T) (c_read_expr : Cal P w K mg base (L2.CX P w) (lvE n) "read_expr" ["cursor", "level"] (spRd K CC CB T ["expr"] (vlE K Wd (3 * n)) n)) :
    FnOk P w K mg base (L2.CX P w) (lvE n + 1) f fd ["cursor", "level"] (spRd K CC CB T ["(", "values", ")"] (vlArgs K Wd (3 * n)) (n + 1)) := by
  refine F.ownX scread_arguments (fun vs H Q E h => ?_) (fun cdv A outer s H vs Q E hr h => ?_)
  · obtain ⟨c, r, k, l, rfl, _⟩ := h
    rfl
  obtain ⟨c, r, k, l, rfl, hC, hk, ho, hl, q, e⟩ := h
  have A0 := At.start (X := ["(", "values", ")"]) hC hk
  obtain ⟨B, TK, len, nums, wd, C, SIGNS, hS, DEEPEST, xBadText, m_next_at, m_next_word, m_take, m_take_word, m_take_name, c_is_plain_name, c_is_number⟩ := Z
  have hlv : lvE n = 6 * n + 4 := rfl
  refine ⟨_, (pss_cons (ps_expr (pe_mX m_take_word (takes_of rfl rfl rfl rfl) hr (by omega) (pv 0) (pa_cons pe_str pa_nil))) (pss_cons (ps_set (i := 2) scread_arguments.nd rfl (by first | exact Or.inl rfl | exact Or.inr rfl) (pe_lst pa_nil)) (C8.pss_cut (ps_if (pt_cmpR op_ne (pe_m00 m_next_word hr (by omega) (pv 0)) pe_str (nomark _))
    (pss_cons (ps_expr (pe_bm PySem.F.plainAttrs_list PySem.F.slot_list_append PySem.F.type_list_append mt_append (pv 2) (pa_cons (pe_cX c_read_expr (takes_of rfl rfl rfl rfl) hr (by omega) rfl (pa_cons (pv 0) (pa_cons (pe_op op_add (pv 1) pe_int) pa_nil))) pa_nil))) (pss_one (ps_while (passes_of rfl) (pt_cmpR op_eq (pe_m00 m_next_word hr (by omega) (pv 0)) pe_str (nomark _))
    (pss_cons (ps_expr (pe_m00 m_take hr (by omega) (pv 0))) (pss_one (ps_expr (pe_bm PySem.F.plainAttrs_list PySem.F.slot_list_append PySem.F.type_list_append mt_append (pv 2) (pa_cons (pe_cX c_read_expr (takes_of rfl rfl rfl rfl) hr (by omega) rfl (pa_cons (pv 0) (pa_cons (pe_op op_add (pv 1) pe_int) pa_nil))) pa_nil)))))))) pss_nil) (pss_cons (ps_expr (pe_mX m_take_word (takes_of rfl rfl rfl rfl) hr (by omega) (pv 0) (pa_cons pe_str pa_nil))) (pss_one (ps_ret (pe_callTy call_tuple_of (by rfl) B.tuple (by decide +kernel) (pa_cons (pv 2) pa_nil)))))))), ?_⟩
  refine ⟨_, rfl, A0.tw TK e fun t H1 ht hz s1 A1 => ?_⟩
  refine ⟨(by show 0 ≤ sizeLine; decide), fun L hL => ?_⟩
  have A2 := A1.new (o := .lst []) hL
  have hL0 := A1.fresh hL
  refine ⟨fun σ' H' => σ' = [some (.ref c), some (.int l), some (.ref L)] ∧ ∃ p es, At K CC T c r H k ["(", "values", ")"] H' p [")"] ∧ H' L = some (.lst es) ∧ es.length ≤ p ∧ ∀ e ∈ es, IsE K Wd (3 * n) p H' e, ?_, ?_⟩
  · obtain ⟨t2, ht2⟩ := A2.word
    refine ⟨_, rfl, A2.nw ht2 ⟨rfl, _, rfl, ?_⟩⟩
    by_cases h2 : t2.2 = ")"
    · exact if_f (neF h2) ⟨rfl, _, [], A2.expK (b' := []) ht2 (keq h2) nx_values_rp, upd_same, Nat.zero_le _, fun x hx => nomatch hx⟩
    · refine if_t (neT h2) ?_
      have A3 := A2.exp (b' := ["expr", "values2"]) ht2 (ns_values (nin2 (kd_ne_star _) (kne h2)))
      refine ⟨_, rfl, .inl ⟨rfl, _, SqL.of upd_same⟩, _, rfl, _, rfl, _, _, rfl, rfl, ?_⟩
      refine A3.call (Y := ["expr"]) e (by have := ops_open (T := T) ht (by rw [hz]; decide +kernel); omega) (by omega) fun q4 v4 H4 s4 l4 A4 hv4 => ?_
      have hL4 : H4 L = some (.lst []) := s4 _ _ (A2.c0 hL0) upd_same
      refine ⟨L, [], v4, rfl, rfl, hL4, by decide, ?_⟩
      refine ⟨fun m σ' H' => σ' = [some (.ref c), some (.int l), some (.ref L)] ∧ ∃ p es, m = T.length - p ∧ k + 1 ≤ p ∧ At K CC T c r H k ["(", "values", ")"] H' p ["values2", ")"] ∧ H' L = some (.lst es) ∧ es.length ≤ p ∧ ∀ e ∈ es, IsE K Wd (3 * n) p H' e,
        ⟨_, rfl, q4, [v4], rfl, by omega, A4.upd hL0, upd_same, (by have := l4; show 1 ≤ q4; omega), fun x hx => ?_⟩, ?_⟩
      · rw [List.mem_singleton.mp hx]
        exact hv4.mono (tps_upd (rd_lst hL4)) (Nat.le_refl _) (Nat.le_refl _)
      · rintro m σ' H5 ⟨rfl, p, es, rfl, hp, A5, hl5, hn5, he5⟩
        obtain ⟨t5, ht5⟩ := A5.word
        refine ⟨_, rfl, A5.nw ht5 ⟨rfl, _, rfl, ?_⟩⟩
        by_cases h5 : t5.2 = ","
        · refine if_t (eqT h5) ⟨_, fun _ _ z => z, ?_⟩
          have A6 := A5.expK (b' := [",", "expr", "values2"]) ht5 (keq h5) nx_values2_co
          refine ⟨_, rfl, A6.tk TK ht5 (keq h5) fun H7 s7 A7 => ?_⟩
          have hL7 : H7 L = some (.lst es) := s7 _ _ (A5.c0 hL0) hl5
          refine ⟨_, rfl, .inl ⟨rfl, _, SqL.of hL7⟩, _, rfl, _, rfl, _, _, rfl, rfl, ?_⟩
          refine A7.call (Y := ["expr"]) e (by have := ops_open (T := T) ht (by rw [hz]; decide +kernel); have := ops_le (T := T) (show k + 1 ≤ p + 1 by omega); omega) (by omega) fun q8 v8 H8 s8 l8 A8 hv8 => ?_
          have hL8 : H8 L = some (.lst es) := s8 _ _ (A5.c0 hL0) hL7
          have hz8 : es.length ≤ 1000 := by have := A5.lt; have := TK.lim; omega
          refine ⟨L, es, v8, rfl, rfl, hL8, small1000 hz8, _, ?_, rfl, q8, _, rfl, by omega, A8.upd hL0, upd_same, ?_, fun x hx => ?_⟩
          · have := A5.lt
            omega
          · rw [List.length_append, List.length_singleton]
            omega
          · rcases List.mem_append.mp hx with hx | hx
            · exact (he5 x hx).mono (((A6.tps s7).trans (A7.tps s8)).trans (tps_upd (rd_lst hL8))) (Nat.le_refl _) (by omega)
            · rw [List.mem_singleton.mp hx]
              exact hv8.mono (tps_upd (rd_lst hL8)) (Nat.le_refl _) (Nat.le_refl _)
        · refine if_f (eqF h5) ⟨rfl, p, es, A5.exp (b' := []) ht5 (ns_values2 (nin2 (kne h5) (kd_ne_star _))), hl5, hn5, he5⟩
  · rintro σ' H' ⟨rfl, p, es, A3, hl3, hn3, he3⟩
    refine ⟨_, rfl, A3.tw TK e fun t3 H4 ht3 hz3 s4 A4 => ?_⟩
    have hl4 : H4 L = some (.lst es) := s4 _ _ (A3.c0 hL0) hl3
    refine ⟨_, rfl, L, _, rfl, .inl ⟨SqL.of hl4, fun b hb => ?_⟩⟩
    refine q _ _ _ (A4.new hb) ⟨b, es, rfl, SqT.of upd_same, by omega, fun x hx => ?_⟩
    exact (he3 x hx).mono ((A3.tps s4).trans (tps_new hb)) (Nat.le_refl _) (by omega)
abbrev sread_field : Stmt := top 48
abbrev nread_field : List Str := ["cursor", "level", "at", "name"]
theorem scread_field : FnScope nread_field ["cursor", "level"] (defScope sread_field) := ⟨rfl, rfl, rfl, by decide +kernel, rfl, by decide +kernel, by decide +kernel⟩
-- slots of read_field: 0 cursor, 1 level, 2 at, 3 name
theorem ok_read_field (F : Fun K "read_field" "read_field" sread_field f fd) (Z : Par P w K Wd mg base CC CB aS T) (c_read_expr : Cal P w K mg base (L2.CX P w) (lvE n) "read_expr" ["cursor", "level"] (spRd K CC CB T ["expr"] (vlE K Wd (3 * n)) n)) :
    FnOk P w K mg base (L2.CX P w) (lvE n + 1) f fd ["cursor", "level"] (spField K CC CB T (vlField K Wd (3 * n)) n) := by
  refine F.ownX scread_field (fun vs H Q E h => ?_) (fun cdv A outer s H vs Q E hr h => ?_)
  · obtain ⟨c, r, k, l, t, rfl, _⟩ := h
    rfl
  obtain ⟨c, r, k, l, t, rfl, hC, ht, ho, hl, q, e⟩ := h
  have hk : k < T.length := (List.getElem?_eq_some_iff.mp ht).1
  have A0 := At.start (X := ["field"]) hC hk
  obtain ⟨B, TK, len, nums, wd, C, SIGNS, hS, DEEPEST, xBadText, m_next_at, m_next_word, m_take, m_take_word, m_take_name, c_is_plain_name, c_is_number⟩ := Z
  have hlv : lvE n = 6 * n + 4 := rfl
  refine ⟨_, (pss_cons (ps_set (i := 2) scread_field.nd rfl (by first | exact Or.inl rfl | exact Or.inr rfl) (pe_m00 m_next_at hr (by omega) (pv 0))) (pss_cons (ps_set (i := 3) scread_field.nd rfl (by first | exact Or.inl rfl | exact Or.inr rfl) (pe_mX0 m_take_name (takes_of rfl rfl rfl rfl) hr (by omega) (pv 0))) (pss_cons (ps_expr (pe_mX m_take_word (takes_of rfl rfl rfl rfl) hr (by omega) (pv 0) (pa_cons pe_str pa_nil))) (pss_one (ps_ret (pe_tup (pa_cons (pv 3) (pa_cons (pe_cX c_read_expr (takes_of rfl rfl rfl rfl) hr (by omega) rfl (pa_cons (pv 0) (pa_cons (pe_op op_add (pv 1) pe_int) pa_nil))) (pa_cons (pv 2) pa_nil))))))))), ?_⟩
  refine ⟨_, rfl, A0.na ht ?_⟩
  have A1 := A0.exp (b' := ["NAME", ":", "expr"]) ht (ns_field (nin1 (kd_ne_star _)))
  obtain ⟨dx, hi⟩ := A1.ins
  refine ⟨_, rfl, A1.meth (by decide +kernel) (by decide +kernel) ⟨c, r, k, t, rfl, A1.cur, ht, fun hp H2 s2 c2 => ?_, fun hp d H2 s2 ha => ?_⟩⟩
  · have hn : kd t.2 = "NAME" := kd_name.mpr hp
    have A2 := A1.step ht hn (TK.next k t ht (ne_end hn (by decide +kernel))) s2 c2 (by decide +kernel)
    have e' : Ex CB T c H k ["field"] E := fun j u d H' hb hu hs ha => e j u d H' hb (fun z => absurd hn z) hu hs ha
    refine ⟨_, rfl, A2.tw TK e' fun t3 H3 ht3 hz3 s3 A3 => ?_⟩
    refine ⟨_, rfl, _, rfl, _, rfl, _, _, rfl, rfl, ?_⟩
    refine A3.call (Y := ["expr"]) e' (by have := ops_le (T := T) (show k ≤ k + 1 + 1 by omega); omega) (by omega) fun q4 v4 H4 s4 l4 A4 hv4 => ?_
    refine ⟨_, rfl, (by show 3 ≤ sizeLine; decide), fun p hp => ?_⟩
    exact q hn _ _ _ (A4.new hp) ⟨p, _, v4, _, rfl, SqT.of upd_same, hv4.mono (tps_new hp) (Nat.le_refl _) (Nat.le_refl _), wd _ (List.mem_of_getElem? ht)⟩
  · refine e k t d H2 (A1.via.bad (Bad.miss (ks_at ht) (fun z => by rw [kd_name.mp z] at hp; cases hp) (by decide +kernel))) (fun _ => rfl) ht (Stp.of s2) ha
abbrev sread_fields : Stmt := top 47
abbrev nread_fields : List Str := ["cursor", "level", "at", "found"]
theorem scread_fields : FnScope nread_fields ["cursor", "level"] (defScope sread_fields) := ⟨rfl, rfl, rfl, by decide +kernel, rfl, by decide +kernel, by decide +kernel⟩
-- slots of read_fields: 0 cursor, 1 level, 2 at, 3 found
theorem ok_read_fields (F : Fun K "read_fields" "read_fields" sread_fields f fd) (Z : Par P w K Wd mg base CC CB aS T) (c_read_field : Cal P w K mg base (L2.CX P w) (lvE n + 1) "read_field" ["cursor", "level"] (spField K CC CB T (vlField K Wd (3 * n)) n)) :
    FnOk P w K mg base (L2.CX P w) (lvE n + 2) f fd ["cursor", "level"] (spRd K CC CB T ["{", "fields", "}"] (vlE K Wd (3 * n + 1)) (n + 1)) := by
  refine F.ownX scread_fields (fun vs H Q E h => ?_) (fun cdv A outer s H vs Q E hr h => ?_)
  · obtain ⟨c, r, k, l, rfl, _⟩ := h
    rfl
  obtain ⟨c, r, k, l, rfl, hC, hk, ho, hl, q, e⟩ := h
  have A0 := At.start (X := ["{", "fields", "}"]) hC hk
  obtain ⟨B, TK, len, nums, wd, C, SIGNS, hS, DEEPEST, xBadText, m_next_at, m_next_word, m_take, m_take_word, m_take_name, c_is_plain_name, c_is_number⟩ := Z
  have hlv : lvE n = 6 * n + 4 := rfl
  refine ⟨_, (pss_cons (ps_set (i := 2) scread_fields.nd rfl (by first | exact Or.inl rfl | exact Or.inr rfl) (pe_mX m_take_word (takes_of rfl rfl rfl rfl) hr (by omega) (pv 0) (pa_cons pe_str pa_nil))) (pss_cons (ps_set (i := 3) scread_fields.nd rfl (by first | exact Or.inl rfl | exact Or.inr rfl) (pe_lst pa_nil)) (C8.pss_cut (ps_if (pt_cmpR op_ne (pe_m00 m_next_word hr (by omega) (pv 0)) pe_str (nomark _))
    (pss_cons (ps_expr (pe_bm PySem.F.plainAttrs_list PySem.F.slot_list_append PySem.F.type_list_append mt_append (pv 3) (pa_cons (pe_cX c_read_field (takes_of rfl rfl rfl rfl) hr (by omega) rfl (pa_cons (pv 0) (pa_cons (pv 1) pa_nil))) pa_nil))) (pss_one (ps_while (passes_of rfl) (pt_cmpR op_eq (pe_m00 m_next_word hr (by omega) (pv 0)) pe_str (nomark _))
    (pss_cons (ps_expr (pe_m00 m_take hr (by omega) (pv 0))) (pss_one (ps_expr (pe_bm PySem.F.plainAttrs_list PySem.F.slot_list_append PySem.F.type_list_append mt_append (pv 3) (pa_cons (pe_cX c_read_field (takes_of rfl rfl rfl rfl) hr (by omega) rfl (pa_cons (pv 0) (pa_cons (pv 1) pa_nil))) pa_nil)))))))) pss_nil) (pss_cons (ps_expr (pe_mX m_take_word (takes_of rfl rfl rfl rfl) hr (by omega) (pv 0) (pa_cons pe_str pa_nil))) (pss_one (ps_ret (pe_tup (pa_cons pe_str (pa_cons (pv 2) (pa_cons (pe_callTy call_tuple_of (by rfl) B.tuple (by decide +kernel) (pa_cons (pv 3) pa_nil)) pa_nil)))))))))), ?_⟩
  refine ⟨_, rfl, A0.tw TK e fun t H1 ht hz s1 A1 => ?_⟩
  refine ⟨(by show 0 ≤ sizeLine; decide), fun L hL => ?_⟩
  have A2 := A1.new (o := .lst []) hL
  have hL0 := A1.fresh hL
  refine ⟨fun σ' H' => (∃ x, σ' = [some (.ref c), some (.int l), some x, some (.ref L)] ∧ x = .int t.1) ∧ ∃ p es, At K CC T c r H k ["{", "fields", "}"] H' p ["}"] ∧ H' L = some (.lst es) ∧ es.length ≤ p ∧ ∀ e ∈ es, FieldS K Wd H' (IsE K Wd (3 * n) p H') e, ?_, ?_⟩
  · obtain ⟨t2, ht2⟩ := A2.word
    refine ⟨_, rfl, A2.nw ht2 ⟨rfl, _, rfl, ?_⟩⟩
    by_cases h2 : t2.2 = "}"
    · refine if_f (neF h2) ⟨⟨_, rfl, rfl⟩, _, [], A2.exp (b' := []) ht2 (ns_fields (nin2 ?_ (kd_ne_star _))), upd_same, Nat.zero_le _, fun x hx => nomatch hx⟩
      rw [h2]
      decide +kernel
    · refine if_t (neT h2) ?_
      refine ⟨_, rfl, .inl ⟨rfl, _, SqL.of upd_same⟩, _, rfl, _, rfl, ?_⟩
      have ho2 : ops T (k + 1) < n := by have := ops_open (T := T) ht (by rw [hz]; decide +kernel); omega
      refine ⟨c, r, k + 1, l, t2, rfl, A2.cur, ht2, ho2, by omega, fun hn2 q4 v4 H4 B4 hv4 => ?_, fun j u d H' hb hj hu hs ha => ?_⟩
      · have A3 := A2.expK (b' := ["field", "fields2"]) ht2 hn2 nx_fields_NAME
        have A4 := A3.sub (Y := ["field"]) B4
        have s4 := B4.stp
        have l4 := B4.le
        have hL4 : H4 L = some (.lst []) := s4 _ _ (A2.c0 hL0) upd_same
        refine ⟨L, [], v4, rfl, rfl, hL4, by decide, ?_⟩
        refine ⟨fun m σ' H' => (∃ x, σ' = [some (.ref c), some (.int l), some x, some (.ref L)] ∧ x = .int t.1) ∧ ∃ p es, m = T.length - p ∧ k + 1 ≤ p ∧ At K CC T c r H k ["{", "fields", "}"] H' p ["fields2", "}"] ∧ H' L = some (.lst es) ∧ es.length ≤ p ∧ ∀ e ∈ es, FieldS K Wd H' (IsE K Wd (3 * n) p H') e,
          ⟨_, ⟨_, rfl, rfl⟩, q4, [v4], rfl, by omega, A4.upd hL0, upd_same, (by have := l4; show 1 ≤ q4; omega), fun x hx => ?_⟩, ?_⟩
        · rw [List.mem_singleton.mp hx]
          have tp := tps_upd (o := .lst [v4]) (rd_lst hL4)
          exact FieldS.mono tp (fun _ z => z.mono tp (Nat.le_refl _) (Nat.le_refl _)) hv4
        · rintro m σ' H5 ⟨⟨x, rfl, rfl⟩, p, es, rfl, hp, A5, hl5, hn5, he5⟩
          obtain ⟨t5, ht5⟩ := A5.word
          refine ⟨_, rfl, A5.nw ht5 ⟨rfl, _, rfl, ?_⟩⟩
          by_cases h5 : t5.2 = ","
          · refine if_t (eqT h5) ⟨_, fun _ _ z => z, ?_⟩
            have A6 := A5.expK (b' := [",", "field", "fields2"]) ht5 (keq h5) nx_fields2_co
            refine ⟨_, rfl, A6.tk TK ht5 (keq h5) fun H7 s7 A7 => ?_⟩
            have hL7 : H7 L = some (.lst es) := s7 _ _ (A5.c0 hL0) hl5
            refine ⟨_, rfl, .inl ⟨rfl, _, SqL.of hL7⟩, _, rfl, _, rfl, ?_⟩
            obtain ⟨t7, ht7⟩ := A7.word
            have ho7 : ops T (p + 1) < n := by have := ops_le (T := T) (show k + 1 ≤ p + 1 by omega); omega
            refine ⟨c, r, p + 1, l, t7, rfl, A7.cur, ht7, ho7, by omega, fun hn7 q8 v8 H8 B8 hv8 => ?_, fun j u d H' hb hj hu hs ha => ?_⟩
            · have A8 := A7.sub (Y := ["field"]) B8
              have s8 := B8.stp
              have l8 := B8.le
              have hL8 : H8 L = some (.lst es) := s8 _ _ (A5.c0 hL0) hL7
              have hz8 : es.length ≤ 1000 := by have := A5.lt; have := TK.lim; omega
              refine ⟨L, es, v8, rfl, rfl, hL8, small1000 hz8, _, ?_, ⟨_, rfl, rfl⟩, q8, _, rfl, by omega, A8.upd hL0, upd_same, ?_, fun x hx => ?_⟩
              · have := A5.lt
                omega
              · rw [List.length_append, List.length_singleton]
                omega
              · rcases List.mem_append.mp hx with hx | hx
                · have tp := ((A6.tps s7).trans (A7.tps s8)).trans (tps_upd (o := .lst (es ++ [v8])) (rd_lst hL8))
                  exact FieldS.mono tp (fun _ z => z.mono tp (Nat.le_refl _) (by omega)) (he5 x hx)
                · rw [List.mem_singleton.mp hx]
                  have tp := tps_upd (o := .lst (es ++ [v8])) (rd_lst hL8)
                  exact FieldS.mono tp (fun _ z => z.mono tp (Nat.le_refl _) (Nat.le_refl _)) hv8
            · exact A7.ex (Y := ["field"]) e j u d H' hb hu hs ha
          · exact if_f (eqF h5) ⟨⟨_, rfl, rfl⟩, p, es, A5.exp (b' := []) ht5 (ns_fields2 (nin2 (kne h5) (kd_ne_star _))), hl5, hn5, he5⟩
      · by_cases hn2 : kd t2.2 = "NAME"
        · have A3 := A2.expK (b' := ["field", "fields2"]) ht2 hn2 nx_fields_NAME
          exact A3.ex (Y := ["field"]) e j u d H' hb hu hs ha
        · have A3 := A2.exp (b' := []) ht2 (ns_fields (nin2 hn2 (kd_ne_star _)))
          have ej := hj hn2
          subst ej
          exact e _ u d H' (A3.via.bad (Bad.miss (ks_at ht2) (kne h2) (by decide +kernel))) hu (A2.stp.trans hs) ha
  · rintro σ' H' ⟨⟨x, rfl, rfl⟩, p, es, A3, hl3, hn3, he3⟩
    refine ⟨_, rfl, A3.tw TK e fun t3 H4 ht3 hz3 s4 A4 => ?_⟩
    have hl4 : H4 L = some (.lst es) := s4 _ _ (A3.c0 hL0) hl3
    refine ⟨_, rfl, _, rfl, L, _, rfl, .inl ⟨SqL.of hl4, fun b hb => ?_⟩⟩
    refine ⟨(by show 3 ≤ sizeLine; decide), fun p' hp' => ?_⟩
    have hbp : b ≠ p' := ne_of_none upd_same hp'
    have tp : Tps H' (L2.upd (L2.upd H4 b (.tup es)) p' (.tup [.str "fields", .int t.1, .ref b])) := ((A3.tps s4).trans (tps_new hb)).trans (tps_new hp')
    refine q _ _ _ ((A4.new hb).new hp') (Sh.fields (SqT.of upd_same) (SqT.of (by rw [upd_ne hbp]; exact upd_same)) (by omega) fun x hx => ?_)
    exact FieldS.mono tp (fun _ z => z.mono tp (Nat.le_refl _) (by omega)) (he3 x hx)
end
end GR
set_option Elab.async false
set_option linter.all false
set_option maxRecDepth 100000
set_option maxHeartbeats 4000000
namespace GR
open PySem PySem.Spec PyProof.Rows L2
section
variable {P : Program} {w : World} {K : PySem.W.Frag} {Wd : Str → Prop} {mg : Str → Option Value} {base : Heap} {CC CB aR aS : Addr} {T : Toks} {f : Addr} {fd : FuncData} {n : Nat}
def chW : List Str := ["put", "add", "cut", "drop", "rename", "only"]
/-- what stands behind a change's first word -/
def chB (z : Str) : List Str := if z = "only" then ["names"] else "NAME" :: (if z = "put" ∨ z = "add" then ["=", "expr"] else if z = "rename" then ["to", "NAME"] else [])
theorem chW_next : ∀ z ∈ chW, kd z = z ∧ next "change" z = some (z :: chB z) ∧ rulesOf z = [] ∧ z ≠ "end" := by decide +kernel
theorem chW_not : ∀ z : Str, z ∉ chW → next "change" (kd z) = none := by
  intro z hz
  refine ns_change ?_
  have h : ∀ x ∈ (["put", "add", "cut", "rename", "only", "drop"] : List Str), x ∈ lits ∧ x ∉ others ∧ x ∈ chW := by decide +kernel
  intro hm
  obtain ⟨h1, h2, h3⟩ := h _ hm
  have e := (kd_lit h1 h2).mp rfl
  rw [← e] at h3
  exact hz h3
abbrev sread_change : Stmt := top 44
abbrev nread_change : List Str := ["cursor", "level", "word", "at", "names", "name"]
theorem scread_change : FnScope nread_change ["cursor", "level"] (defScope sread_change) := ⟨rfl, rfl, rfl, by decide +kernel, rfl, by decide +kernel, by decide +kernel⟩
-- slots of read_change: 0 cursor, 1 level, 2 word, 3 at, 4 names, 5 name
theorem ok_read_change (F : Fun K "read_change" "read_change" sread_change f fd) (Z : Par P w K Wd mg base CC CB aS T) (c_read_expr : Cal P w K mg base (L2.CX P w) (lvE n) "read_expr" ["cursor", "level"] (spRd K CC CB T ["expr"] (vlE K Wd (3 * n)) n)) :
    FnOk P w K mg base (L2.CX P w) (lvE n + 1) f fd ["cursor", "level"] (spRd K CC CB T ["change"] (vlStep K Wd (3 * n)) (n + 1)) := by
  refine F.ownX scread_change (fun vs H Q E h => ?_) (fun cdv A outer s H vs Q E hr h => ?_)
  · obtain ⟨c, r, k, l, rfl, _⟩ := h
    rfl
  obtain ⟨c, r, k, l, rfl, hC, hk, ho, hl, q, e⟩ := h
  have A0 := At.start (X := ["change"]) hC hk
  obtain ⟨B, TK, len, nums, wd, C, SIGNS, hS, DEEPEST, xBadText, m_next_at, m_next_word, m_take, m_take_word, m_take_name, c_is_plain_name, c_is_number⟩ := Z
  have hlv : lvE n = 6 * n + 4 := rfl
  refine ⟨_, (pss_cons (ps_set (i := 2) scread_change.nd rfl (by first | exact Or.inl rfl | exact Or.inr rfl) (pe_m00 m_next_word hr (by omega) (pv 0))) (pss_cons (ps_if (pt_cmpR op_notIn_seq (pv 2) (pe_tup (pa_strs _ (by rfl))) rfl)
    (pss_one (ps_raise rfl (takes_of rfl rfl rfl rfl) (pmk_1 xBadText hr (pa_cons (pe_m00 m_next_at hr (by omega) (pv 0)) pa_nil) rfl))) pss_nil) (pss_cons (ps_set (i := 3) scread_change.nd rfl (by first | exact Or.inl rfl | exact Or.inr rfl) (pe_m00 m_take hr (by omega) (pv 0))) (pss_cons (ps_if (pt_cmpR op_eq (pv 2) pe_str (nomark _))
    (pss_cons (ps_set (i := 4) scread_change.nd rfl (by first | exact Or.inl rfl | exact Or.inr rfl) (pe_lst pa_nil)) (pss_cons (ps_while (passes_of rfl) (pt_val (pe_c0 c_is_plain_name hr (by omega) rfl (pa_cons (pe_m00 m_next_word hr (by omega) (pv 0)) pa_nil)))
    (pss_one (ps_expr (pe_bm PySem.F.plainAttrs_list PySem.F.slot_list_append PySem.F.type_list_append mt_append (pv 4) (pa_cons (pe_mX0 m_take_name (takes_of rfl rfl rfl rfl) hr (by omega) (pv 0)) pa_nil))))) (pss_one (ps_ret (pe_tup (pa_cons (pv 2) (pa_cons (pv 3) (pa_cons (pe_callTy call_tuple_of (by rfl) B.tuple (by decide +kernel) (pa_cons (pv 4) pa_nil)) pa_nil)))))))) pss_nil) (pss_cons (ps_set (i := 5) scread_change.nd rfl (by first | exact Or.inl rfl | exact Or.inr rfl) (pe_mX0 m_take_name (takes_of rfl rfl rfl rfl) hr (by omega) (pv 0))) (pss_cons (ps_if (PW.pt (pw_or (pt_cmpR op_eq (pv 2) pe_str (nomark _)) (pw_or1 (pt_cmpR op_eq (pv 2) pe_str (nomark _)))))
    (pss_cons (ps_expr (pe_mX m_take_word (takes_of rfl rfl rfl rfl) hr (by omega) (pv 0) (pa_cons pe_str pa_nil))) (pss_one (ps_ret (pe_tup (pa_cons (pv 2) (pa_cons (pv 3) (pa_cons (pv 5) (pa_cons (pe_cX c_read_expr (takes_of rfl rfl rfl rfl) hr (by omega) rfl (pa_cons (pv 0) (pa_cons (pe_op op_add (pv 1) pe_int) pa_nil))) pa_nil)))))))) pss_nil) (pss_cons (ps_if (pt_cmpR op_eq (pv 2) pe_str (nomark _))
    (pss_cons (ps_expr (pe_mX m_take_word (takes_of rfl rfl rfl rfl) hr (by omega) (pv 0) (pa_cons pe_str pa_nil))) (pss_one (ps_ret (pe_tup (pa_cons (pv 2) (pa_cons (pv 3) (pa_cons (pv 5) (pa_cons (pe_mX0 m_take_name (takes_of rfl rfl rfl rfl) hr (by omega) (pv 0)) pa_nil)))))))) pss_nil) (pss_one (ps_ret (pe_tup (pa_cons (pv 2) (pa_cons (pv 3) (pa_cons (pv 5) pa_nil))))))))))))), ?_⟩
  obtain ⟨t, ht⟩ := A0.word
  refine ⟨_, rfl, A0.nw ht ?_⟩
  refine ⟨_, rfl, (by show 6 ≤ sizeLine; decide), fun p hp => ⟨p, _, rfl, .inr (SqT.of upd_same), rfl, flatStr chW, _, rfl, ?_⟩⟩
  have A1 := A0.new (o := .tup (chW.map V.str)) hp
  by_cases hw : t.2 ∈ chW
  case neg =>
    refine if_t (show (!inV (V.str t.2) (chW.map V.str)) = true by rw [inStr, decide_eq_false hw]; rfl) ?_
    refine ⟨_, rfl, A1.na ht ⟨rfl, fun d hd => ?_⟩⟩
    exact A1.bad e (Bad.stuck (ks_at ht) (chW_not _ hw)) ht (same_new hd _) upd_same
  refine if_f (show (!inV (V.str t.2) (chW.map V.str)) = false by rw [inStr, decide_eq_true hw]; rfl) ?_
  obtain ⟨w1, w2, w3, w4⟩ := chW_next _ hw
  have A2 := A1.expK ht w1 w2
  rw [List.append_nil] at A2
  refine ⟨_, rfl, A2.tk TK ht w1 (fun H3 s3 A3 => ?_) w3 w4⟩
  refine ⟨_, rfl, rfl, _, rfl, ?_⟩
  by_cases h1 : t.2 = "only"
  · refine if_t (eqT h1) ?_
    have A4 : At K CC T c r H k ["change"] H3 (k + 1) ["names"] := by rw [h1] at A3; exact A3
    refine ⟨(by show 0 ≤ sizeLine; decide), fun L hL => ?_⟩
    have hL0 := A4.fresh hL
    refine ⟨fun m σ' H' => σ' = [some (.ref c), some (.int l), some (.str t.2), some (.int t.1), some (.ref L), none] ∧ ∃ p ws, m = T.length - p ∧ At K CC T c r H k ["change"] H' p ["names"] ∧ H' L = some (.lst (ws.map V.str)) ∧ ws.length ≤ p ∧ ∀ z ∈ ws, Wd z,
      ⟨_, rfl, k + 1, [], rfl, A4.new hL, upd_same, Nat.zero_le _, fun z hz => nomatch hz⟩, ?_⟩
    rintro m σ' H5 ⟨rfl, p, ws, rfl, A5, hl5, hn5, hw5⟩
    obtain ⟨t5, ht5⟩ := A5.word
    refine ⟨_, rfl, A5.nw ht5 ⟨t5.2, rfl, len _ (List.mem_of_getElem? ht5), _, rfl, ?_⟩⟩
    cases hp5 : plain t5.2 with
    | true =>
      refine iteT ⟨_, fun _ _ z => z, ?_⟩
      have A6 := A5.expK (b' := ["NAME", "names"]) ht5 (kd_name.mpr hp5) nx_names_NAME
      refine ⟨_, rfl, .inl ⟨rfl, _, SqL.of hl5⟩, _, rfl, A6.tn TK e fun t7 H7 ht7 hp7 s7 A7 => ?_⟩
      have hL7 := s7 _ _ (A5.c0 hL0) hl5
      have hz7 : (ws.map V.str).length ≤ 1000 := by have := A5.lt; have := TK.lim; rw [List.length_map]; omega
      refine ⟨L, _, _, rfl, rfl, hL7, small1000 hz7, _, ?_, rfl, p + 1, ws ++ [t7.2], rfl, A7.upd hL0, ?_, ?_, fun z hz => ?_⟩
      · have := A5.lt
        omega
      · rw [upd_same, List.map_append]
        rfl
      · rw [List.length_append, List.length_singleton]
        omega
      · rcases List.mem_append.mp hz with hz | hz
        · exact hw5 z hz
        · rw [List.mem_singleton.mp hz]
          exact wd _ (List.mem_of_getElem? ht7)
    | false =>
      refine iteF ?_
      have A6 := A5.exp (b' := []) ht5 (ns_names (nin2 (fun z => by rw [kd_name.mp z] at hp5; cases hp5) (kd_ne_star _)))
      refine ⟨_, rfl, _, rfl, _, rfl, L, _, rfl, .inl ⟨SqL.of hl5, fun b hb => ?_⟩⟩
      refine ⟨(by show 3 ≤ sizeLine; decide), fun p' hp' => ?_⟩
      have hbp : b ≠ p' := ne_of_none upd_same hp'
      refine q _ _ _ ((A6.new hb).new hp') ⟨p', rfl, .only (ws := ws) (SqT.of (by rw [upd_same, h1])) (SqT.of (by rw [upd_ne hbp]; exact upd_same)) hn5 hw5⟩
  · refine if_f (eqF h1) ?_
    have eb : chB t.2 = ("NAME" : Str) :: (if t.2 = "put" ∨ t.2 = "add" then (["=", "expr"] : List Str) else if t.2 = "rename" then (["to", "NAME"] : List Str) else []) := by unfold chB; rw [if_neg h1]
    rw [eb] at A3
    refine ⟨_, rfl, A3.tn TK e fun t5 H5 ht5 hp5 s5 A5 => ?_⟩
    have put_add : ∀ (h2 : t.2 = "put" ∨ t.2 = "add"), At K CC T c r H k ["change"] H5 (k + 1 + 1) ["=", "expr"] := fun h2 => by
      rw [if_pos h2] at A5
      exact A5
    have ho2 : (t.2 = "put" ∨ t.2 = "add") → ops T (k + 1 + 1 + 1) < n := fun h2 => by
      have := ops_open (T := T) ht (by rcases h2 with h | h <;> rw [h] <;> decide +kernel)
      have := ops_le (T := T) (show k + 1 ≤ k + 1 + 1 + 1 by omega)
      omega
    refine ⟨_, rfl, rfl, _, rfl, ?_⟩
    by_cases h2 : t.2 = "put"
    · refine if_t (eqT h2) (iteT ?_)
      have A6 := put_add (.inl h2)
      refine ⟨_, rfl, A6.tw TK e fun t7 H7 ht7 hz7 s7 A7 => ?_⟩
      refine ⟨_, rfl, _, rfl, _, rfl, _, rfl, _, rfl, _, _, rfl, rfl, ?_⟩
      refine A7.call (Y := ["expr"]) e (ho2 (.inl h2)) (by omega) fun q8 v8 H8 s8 l8 A8 hv8 => ?_
      refine ⟨(by show 4 ≤ sizeLine; decide), fun p' hp' => ?_⟩
      exact q _ _ _ (A8.new hp') ⟨p', rfl, .put (SqT.of upd_same) (.inl h2) (hv8.mono (tps_new hp') (Nat.le_refl _) (Nat.le_refl _)) (wd _ (List.mem_of_getElem? ht5))⟩
    · refine if_f (eqF h2) ⟨_, rfl, rfl, _, rfl, ?_⟩
      by_cases h3 : t.2 = "add"
      · refine if_t (eqT h3) ?_
        have A6 := put_add (.inr h3)
        refine ⟨_, rfl, A6.tw TK e fun t7 H7 ht7 hz7 s7 A7 => ?_⟩
        refine ⟨_, rfl, _, rfl, _, rfl, _, rfl, _, rfl, _, _, rfl, rfl, ?_⟩
        refine A7.call (Y := ["expr"]) e (ho2 (.inr h3)) (by omega) fun q8 v8 H8 s8 l8 A8 hv8 => ?_
        refine ⟨(by show 4 ≤ sizeLine; decide), fun p' hp' => ?_⟩
        exact q _ _ _ (A8.new hp') ⟨p', rfl, .put (SqT.of upd_same) (.inr h3) (hv8.mono (tps_new hp') (Nat.le_refl _) (Nat.le_refl _)) (wd _ (List.mem_of_getElem? ht5))⟩
      · refine if_f (eqF h3) ?_
        rw [if_neg (fun z => z.elim h2 h3)] at A5
        refine ⟨_, rfl, rfl, _, rfl, ?_⟩
        by_cases h4 : t.2 = "rename"
        · refine if_t (eqT h4) ?_
          rw [if_pos h4] at A5
          refine ⟨_, rfl, A5.tw TK e fun t7 H7 ht7 hz7 s7 A7 => ?_⟩
          refine ⟨_, rfl, _, rfl, _, rfl, _, rfl, A7.tn TK e fun t8 H8 ht8 hp8 s8 A8 => ?_⟩
          refine ⟨(by show 4 ≤ sizeLine; decide), fun p' hp' => ?_⟩
          exact q _ _ _ (A8.new hp') ⟨p', rfl, .ren (w := t5.2) (u := t8.2) (SqT.of (by rw [upd_same, h4])) (wd _ (List.mem_of_getElem? ht5)) (wd _ (List.mem_of_getElem? ht8))⟩
        · refine if_f (eqF h4) ?_
          rw [if_neg h4] at A5
          refine ⟨_, rfl, _, rfl, _, rfl, (by show 3 ≤ sizeLine; decide), fun p' hp' => ?_⟩
          refine q _ _ _ (A5.new hp') ⟨p', rfl, .nm (SqT.of upd_same) ?_ (wd _ (List.mem_of_getElem? ht5))⟩
          have hw' := hw
          simp only [chW, List.mem_cons, List.not_mem_nil, or_false] at hw'
          rcases hw' with z | z | z | z | z | z
          · exact absurd z h2
          · exact absurd z h3
          · exact .inr (.inl z)
          · exact .inr (.inr z)
          · exact absurd z h4
          · exact absurd z h1
abbrev sread_base : Stmt := top 45
abbrev nread_base : List Str := ["cursor", "level", "word", "at", "inner"]
theorem scread_base : FnScope nread_base ["cursor", "level"] (defScope sread_base) := ⟨rfl, rfl, rfl, by decide +kernel, rfl, by decide +kernel, by decide +kernel⟩
-- slots of read_base: 0 cursor, 1 level, 2 word, 3 at, 4 inner
theorem ok_read_base (F : Fun K "read_base" "read_base" sread_base f fd) (Z : Par P w K Wd mg base CC CB aS T) (c_read_expr : Cal P w K mg base (L2.CX P w) (lvE n) "read_expr" ["cursor", "level"] (spRd K CC CB T ["expr"] (vlE K Wd (3 * n)) n))
    (c_read_arguments : Cal P w K mg base (L2.CX P w) (lvE n + 1) "read_arguments" ["cursor", "level"] (spRd K CC CB T ["(", "values", ")"] (vlArgs K Wd (3 * n)) (n + 1)))
    (c_read_fields : Cal P w K mg base (L2.CX P w) (lvE n + 2) "read_fields" ["cursor", "level"] (spRd K CC CB T ["{", "fields", "}"] (vlE K Wd (3 * n + 1)) (n + 1))) :
    FnOk P w K mg base (L2.CX P w) (lvE n + 3) f fd ["cursor", "level"] (spRd K CC CB T ["base"] (vlE K Wd (3 * n + 1)) (n + 1)) := by
  refine F.ownX scread_base (fun vs H Q E h => ?_) (fun cdv A outer s H vs Q E hr h => ?_)
  · obtain ⟨c, r, k, l, rfl, _⟩ := h
    rfl
  obtain ⟨c, r, k, l, rfl, hC, hk, ho, hl, q, e⟩ := h
  have A0 := At.start (X := ["base"]) hC hk
  obtain ⟨B, TK, len, nums, wd, C, SIGNS, hS, DEEPEST, xBadText, m_next_at, m_next_word, m_take, m_take_word, m_take_name, c_is_plain_name, c_is_number⟩ := Z
  have hlv : lvE n = 6 * n + 4 := rfl
  refine ⟨_, (pss_cons (ps_set (i := 2) scread_base.nd rfl (by first | exact Or.inl rfl | exact Or.inr rfl) (pe_m00 m_next_word hr (by omega) (pv 0))) (pss_cons (ps_if (pt_val (pe_c0 c_is_number hr (by omega) rfl (pa_cons (pv 2) pa_nil)))
    (pss_one (ps_ret (pe_tup (pa_cons pe_str (pa_cons (pe_m00 m_take hr (by omega) (pv 0)) (pa_cons (pe_callTy call_int_str (by rfl) B.int (by decide +kernel) (pa_cons (pv 2) pa_nil)) pa_nil)))))) pss_nil) (pss_cons (ps_if (pt_val (pe_c0 c_is_plain_name hr (by omega) rfl (pa_cons (pv 2) pa_nil)))
    (pss_cons (ps_set (i := 3) scread_base.nd rfl (by first | exact Or.inl rfl | exact Or.inr rfl) (pe_m00 m_take hr (by omega) (pv 0))) (pss_cons (ps_if (pt_cmpR op_eq (pe_m00 m_next_word hr (by omega) (pv 0)) pe_str (nomark _))
    (pss_one (ps_ret (pe_tup (pa_cons pe_str (pa_cons (pv 3) (pa_cons (pv 2) (pa_cons (pe_cX c_read_arguments (takes_of rfl rfl rfl rfl) hr (by omega) rfl (pa_cons (pv 0) (pa_cons (pv 1) pa_nil))) pa_nil))))))) pss_nil) (pss_one (ps_ret (pe_tup (pa_cons pe_str (pa_cons (pv 3) (pa_cons (pv 2) pa_nil)))))))) pss_nil) (pss_cons (ps_if (pt_cmpR op_eq (pv 2) pe_str (nomark _))
    (pss_one (ps_ret (pe_cX c_read_fields (takes_of rfl rfl rfl rfl) hr (by omega) rfl (pa_cons (pv 0) (pa_cons (pv 1) pa_nil))))) pss_nil) (pss_cons (ps_if (pt_cmpR op_ne (pv 2) pe_str (nomark _))
    (pss_one (ps_raise rfl (takes_of rfl rfl rfl rfl) (pmk_1 xBadText hr (pa_cons (pe_m00 m_next_at hr (by omega) (pv 0)) pa_nil) rfl))) pss_nil) (pss_cons (ps_expr (pe_m00 m_take hr (by omega) (pv 0))) (pss_cons (ps_set (i := 4) scread_base.nd rfl (by first | exact Or.inl rfl | exact Or.inr rfl) (pe_cX c_read_expr (takes_of rfl rfl rfl rfl) hr (by omega) rfl (pa_cons (pv 0) (pa_cons (pe_op op_add (pv 1) pe_int) pa_nil)))) (pss_cons (ps_expr (pe_mX m_take_word (takes_of rfl rfl rfl rfl) hr (by omega) (pv 0) (pa_cons pe_str pa_nil))) (pss_one (ps_ret (pv 4))))))))))), ?_⟩
  obtain ⟨t, ht⟩ := A0.word
  have hlen := len _ (List.mem_of_getElem? ht)
  refine ⟨_, rfl, A0.nw ht ?_⟩
  refine ⟨_, rfl, t.2, rfl, hlen, _, rfl, ?_⟩
  cases hn : number t.2 with
  | true =>
    refine iteT ?_
    have A1 := A0.expK ht (kd_num.mpr hn) nx_base_NUMBER
    refine ⟨_, rfl, A1.tk TK ht (kd_num.mpr hn) fun H2 s2 A2 => ?_⟩
    obtain ⟨i, hi⟩ := nums _ (List.mem_of_getElem? ht) hn
    have h30 : t.2.length ≤ 640 := by
      unfold number at hn
      rw [Bool.and_eq_true, Bool.and_eq_true, Bool.and_eq_true] at hn
      have := of_decide_eq_true hn.2.2.1
      omega
    refine ⟨_, rfl, t.2, i, rfl, hi, h30, (by show 3 ≤ sizeLine; decide), fun p hp => ?_⟩
    exact q _ _ _ (A2.new hp) (Sh.number (SqT.of upd_same))
  | false =>
  refine iteF ⟨_, rfl, t.2, rfl, hlen, _, rfl, ?_⟩
  cases hp : plain t.2 with
  | true =>
    refine iteT ?_
    have A1 := A0.expK ht (kd_name.mpr hp) nx_base_NAME
    refine ⟨_, rfl, A1.tk TK ht (kd_name.mpr hp) fun H2 s2 A2 => ?_⟩
    obtain ⟨t2, ht2⟩ := A2.word
    refine ⟨_, rfl, A2.nw ht2 ⟨rfl, _, rfl, ?_⟩⟩
    by_cases h2 : t2.2 = "("
    · refine if_t (eqT h2) ?_
      have A3 := A2.expK (b' := ["(", "values", ")"]) ht2 (keq h2) nx_call_lp
      refine ⟨_, rfl, _, rfl, _, rfl, _, rfl, ?_⟩
      refine A3.call (Y := ["(", "values", ")"]) e (by have := ops_le (T := T) (show k ≤ k + 1 by omega); omega) (by omega) fun q4 v4 H4 s4 l4 A4 hv4 => ?_
      obtain ⟨b, es, rfl, hb, hbl, hbe⟩ := hv4
      refine ⟨(by show 4 ≤ sizeLine; decide), fun p hp => ?_⟩
      exact q _ _ _ (A4.new hp) (Sh.call (SqT.of upd_same) ((tps_new hp).tup hb) hbl True.intro fun x hx => (hbe x hx).mono (tps_new hp) (Nat.le_refl _) (Nat.le_refl _))
    · refine if_f (eqF h2) ⟨_, rfl, _, rfl, (by show 3 ≤ sizeLine; decide), fun p hp => ?_⟩
      have A3 := A2.exp (b' := []) ht2 (ns_call (nin2 (kne h2) (kd_ne_star _)))
      exact q _ _ _ (A3.new hp) (Sh.name (SqT.of upd_same) True.intro)
  | false =>
  refine iteF ⟨_, rfl, rfl, _, rfl, ?_⟩
  by_cases h1 : t.2 = "{"
  · refine if_t (eqT h1) ⟨_, rfl, _, rfl, ?_⟩
    have A1 := A0.expK (b' := ["{", "fields", "}"]) ht (keq h1) nx_base_lb
    refine A1.call (Y := ["{", "fields", "}"]) e ho hl fun q4 v4 H4 s4 l4 A4 hv4 => ?_
    exact q _ _ _ A4 hv4
  refine if_f (eqF h1) ⟨_, rfl, rfl, _, rfl, ?_⟩
  by_cases h2 : t.2 = "("
  · refine if_f (neF h2) ?_
    have A1 := A0.expK (b' := ["(", "expr", ")"]) ht (keq h2) nx_base_lp
    refine ⟨_, rfl, A1.tk TK ht (keq h2) fun H2 s2 A2 => ?_⟩
    refine ⟨_, rfl, _, rfl, _, _, rfl, rfl, ?_⟩
    refine A2.call (Y := ["expr"]) e (by have := ops_open (T := T) ht (by rw [h2]; decide +kernel); omega) (by omega) fun q4 v4 H4 s4 l4 A4 hv4 => ?_
    refine ⟨_, rfl, A4.tw TK e fun t5 H5 ht5 hz5 s5 A5 => ?_⟩
    refine ⟨_, rfl, q _ _ _ A5 ?_⟩
    exact hv4.mono (A4.tps s5) (by omega) (by omega)
  · refine if_t (neT h2) ?_
    refine ⟨_, rfl, A0.na ht ⟨rfl, fun d hd => ?_⟩⟩
    refine A0.bad e (Bad.stuck (ks_at ht) (ns_base (nin4 (kne h2) (kne h1) ?_ ?_))) ht (same_new hd _) upd_same
    · intro z
      rw [kd_name.mp z] at hp
      cases hp
    · intro z
      rw [kd_num.mp z] at hn
      cases hn
end
end GR
set_option Elab.async false
set_option linter.all false
set_option maxRecDepth 100000
set_option maxHeartbeats 4000000
namespace GR
open PySem PySem.Spec PyProof.Rows L2
section
variable {P : Program} {w : World} {K : PySem.W.Frag} {Wd : Str → Prop} {mg : Str → Option Value} {base : Heap} {CC CB aR aS : Addr} {T : Toks} {f : Addr} {fd : FuncData} {n : Nat}
abbrev dots : List Str := [".", "["]
abbrev sread_part : Stmt := top 43
abbrev nread_part : List Str := ["cursor", "level", "base", "steps", "at"]
theorem scread_part : FnScope nread_part ["cursor", "level"] (defScope sread_part) := ⟨rfl, rfl, rfl, by decide +kernel, rfl, by decide +kernel, by decide +kernel⟩
-- slots of read_part: 0 cursor, 1 level, 2 base, 3 steps, 4 at
theorem ok_read_part (F : Fun K "read_part" "read_part" sread_part f fd) (Z : Par P w K Wd mg base CC CB aS T) (c_read_base : Cal P w K mg base (L2.CX P w) (lvE n + 3) "read_base" ["cursor", "level"] (spRd K CC CB T ["base"] (vlE K Wd (3 * n + 1)) (n + 1)))
    (c_read_change : Cal P w K mg base (L2.CX P w) (lvE n + 1) "read_change" ["cursor", "level"] (spRd K CC CB T ["change"] (vlStep K Wd (3 * n)) (n + 1))) :
    FnOk P w K mg base (L2.CX P w) (lvE n + 4) f fd ["cursor", "level"] (spRd K CC CB T ["part"] (vlE K Wd (3 * n + 2)) (n + 1)) := by
  refine F.ownX scread_part (fun vs H Q E h => ?_) (fun cdv A outer s H vs Q E hr h => ?_)
  · obtain ⟨c, r, k, l, rfl, _⟩ := h
    rfl
  obtain ⟨c, r, k, l, rfl, hC, hk, ho, hl, q, e⟩ := h
  have A0 := At.start (X := ["part"]) hC hk
  obtain ⟨B, TK, len, nums, wd, C, SIGNS, hS, DEEPEST, xBadText, m_next_at, m_next_word, m_take, m_take_word, m_take_name, c_is_plain_name, c_is_number⟩ := Z
  have hlv : lvE n = 6 * n + 4 := rfl
  refine ⟨_, (pss_cons (ps_set (i := 2) scread_part.nd rfl (by first | exact Or.inl rfl | exact Or.inr rfl) (pe_cX c_read_base (takes_of rfl rfl rfl rfl) hr (by omega) rfl (pa_cons (pv 0) (pa_cons (pv 1) pa_nil)))) (pss_cons (ps_set (i := 3) scread_part.nd rfl (by first | exact Or.inl rfl | exact Or.inr rfl) (pe_lst pa_nil)) (pss_cons (ps_while (passes_of rfl) (pt_cmpR op_in_seq (pe_m00 m_next_word hr (by omega) (pv 0)) (pe_tup (pa_cons pe_str (pa_cons pe_str pa_nil))) rfl)
    (pss_one (ps_if (pt_cmpR op_eq (pe_m00 m_next_word hr (by omega) (pv 0)) pe_str (nomark _))
    (pss_cons (ps_set (i := 4) scread_part.nd rfl (by first | exact Or.inl rfl | exact Or.inr rfl) (pe_m00 m_take hr (by omega) (pv 0))) (pss_one (ps_expr (pe_bm PySem.F.plainAttrs_list PySem.F.slot_list_append PySem.F.type_list_append mt_append (pv 3) (pa_cons (pe_tup (pa_cons pe_str (pa_cons (pv 4) (pa_cons (pe_mX0 m_take_name (takes_of rfl rfl rfl rfl) hr (by omega) (pv 0)) pa_nil)))) pa_nil))))) (pss_cons (ps_expr (pe_m00 m_take hr (by omega) (pv 0))) (pss_cons (ps_expr (pe_bm PySem.F.plainAttrs_list PySem.F.slot_list_append PySem.F.type_list_append mt_append (pv 3) (pa_cons (pe_cX c_read_change (takes_of rfl rfl rfl rfl) hr (by omega) rfl (pa_cons (pv 0) (pa_cons (pv 1) pa_nil))) pa_nil))) (pss_cons (ps_while (passes_of rfl) (pt_cmpR op_eq (pe_m00 m_next_word hr (by omega) (pv 0)) pe_str (nomark _))
    (pss_cons (ps_expr (pe_m00 m_take hr (by omega) (pv 0))) (pss_one (ps_expr (pe_bm PySem.F.plainAttrs_list PySem.F.slot_list_append PySem.F.type_list_append mt_append (pv 3) (pa_cons (pe_cX c_read_change (takes_of rfl rfl rfl rfl) hr (by omega) rfl (pa_cons (pv 0) (pa_cons (pv 1) pa_nil))) pa_nil)))))) (pss_one (ps_expr (pe_mX m_take_word (takes_of rfl rfl rfl rfl) hr (by omega) (pv 0) (pa_cons pe_str pa_nil)))))))))) (pss_cons (ps_if (pt_not (pt_truth (pv 3) (by intro _; rfl)))
    (pss_one (ps_ret (pv 2))) pss_nil) (pss_cons (ps_if (pt_cmpR op_eq (pe_ix ix_tup (pv 2) pe_int (fun _ _ => rfl)) pe_str (nomark _))
    (pss_one (ps_ret (pe_tup (pa_cons pe_str (pa_cons (pe_ix ix_tup (pv 2) pe_int (fun _ _ => rfl)) (pa_cons (pe_op op_catA (pe_ix ix_tup (pv 2) pe_int (fun _ _ => rfl)) (pe_callTy call_tuple_of (by rfl) B.tuple (by decide +kernel) (pa_cons (pv 3) pa_nil))) pa_nil)))))) pss_nil) (pss_one (ps_ret (pe_tup (pa_cons pe_str (pa_cons (pv 2) (pa_cons (pe_callTy call_tuple_of (by rfl) B.tuple (by decide +kernel) (pa_cons (pv 3) pa_nil)) pa_nil))))))))))), ?_⟩
  obtain ⟨t, ht⟩ := A0.word
  have A1 := A0.exp (b' := ["base", "steps"]) ht (ns_part (nin1 (kd_ne_star _)))
  refine ⟨_, rfl, _, rfl, A1.call (Y := ["base"]) e ho hl fun q1 bv H2 s2 l2 A2 hv => ?_⟩
  refine ⟨(by show 0 ≤ sizeLine; decide), fun L hL => ?_⟩
  have hL0 := A2.fresh hL
  have hoq : ∀ p, k ≤ p → ops T p < n + 1 := fun p hp => by have := ops_le (T := T) hp; omega
  refine ⟨fun m σ' H' => (∃ x, σ' = [some (.ref c), some (.int l), some bv, some (.ref L), x]) ∧ ∃ p ss, m = T.length - p ∧ q1 ≤ p ∧ At K CC T c r H k ["part"] H' p ["steps"] ∧ H' L = some (.lst ss) ∧ ss.length + q1 ≤ p ∧ (∀ s ∈ ss, StepV K Wd H' p (IsE K Wd (3 * n) p H') s) ∧ IsE K Wd (3 * n + 1) q1 H' bv,
    ⟨_, ⟨_, rfl⟩, q1, [], rfl, Nat.le_refl _, A2.new hL, upd_same, by show 0 + q1 ≤ q1; omega, (fun x hx => nomatch hx), hv.mono (tps_new hL) (Nat.le_refl _) (Nat.le_refl _)⟩, ?_⟩
  rintro m σ' H5 ⟨⟨x, rfl⟩, p, ss, rfl, hp, A5, hl5, hn5, he5, hv5⟩
  obtain ⟨t5, ht5⟩ := A5.word
  have hlim := TK.lim
  have hlt5 := A5.lt
  refine ⟨_, rfl, A5.nw ht5 ⟨(by show 2 ≤ sizeLine; decide), fun p1 hp1 => ⟨p1, _, rfl, .inr (SqT.of upd_same), rfl, flatStr dots, _, rfl, ?_⟩⟩⟩
  have A6 := A5.new (o := .tup [.str ".", .str "["]) hp1
  have hl6 : (L2.upd H5 p1 (.tup [.str ".", .str "["])) L = some (.lst ss) := same_new hp1 _ _ _ hl5
  have he6 : ∀ s ∈ ss, StepV K Wd (L2.upd H5 p1 (.tup [.str ".", .str "["])) p (IsE K Wd (3 * n) p (L2.upd H5 p1 (.tup [.str ".", .str "["]))) s := fun s hs => (he5 s hs).mono (tps_new hp1) (Nat.le_refl _) fun _ z => z.mono (tps_new hp1) (Nat.le_refl _) (Nat.le_refl _)
  have hv6 : IsE K Wd (3 * n + 1) q1 (L2.upd H5 p1 (.tup [.str ".", .str "["])) bv := hv5.mono (tps_new hp1) (Nat.le_refl _) (Nat.le_refl _)
  generalize L2.upd H5 p1 (.tup [.str ".", .str "["]) = H6 at A6 hl6 he6 hv6
  by_cases h1 : t5.2 = "."
  · refine if_t (show inV (V.str t5.2) (dots.map V.str) = true by rw [inStr, h1]; decide +kernel) ⟨_, fun _ _ z => z, ?_⟩
    refine ⟨_, rfl, A6.nw ht5 ⟨rfl, _, rfl, ?_⟩⟩
    refine if_t (eqT h1) ?_
    have A7 := A6.expK (b' := [".", "NAME", "steps"]) ht5 (keq h1) nx_steps_dot
    refine ⟨_, rfl, A7.tk TK ht5 (keq h1) fun H8 s8 A8 => ?_⟩
    refine ⟨_, rfl, .inl ⟨rfl, _, SqL.of (s8 _ _ (A5.c0 hL0) hl6)⟩, _, rfl, _, rfl, A8.tn TK e fun t9 H9 ht9 hp9 s9 A9 => ?_⟩
    refine ⟨(by show 3 ≤ sizeLine; decide), fun p2 hp2 => ?_⟩
    have hL9 := s9 _ _ (A5.c0 hL0) (s8 _ _ (A5.c0 hL0) hl6)
    have hL10 := same_new hp2 (.tup [.str "get", .int t5.1, .str t9.2]) _ _ hL9
    have tp : Tps H6 (L2.upd (L2.upd H9 p2 (.tup [.str "get", .int t5.1, .str t9.2])) L (.lst (ss ++ [.ref p2]))) := (((A7.tps s8).trans (A8.tps s9)).trans (tps_new hp2)).trans (tps_upd (rd_lst hL10))
    have tp2 : Tps (L2.upd H9 p2 (.tup [.str "get", .int t5.1, .str t9.2])) (L2.upd (L2.upd H9 p2 (.tup [.str "get", .int t5.1, .str t9.2])) L (.lst (ss ++ [.ref p2]))) := tps_upd (rd_lst hL10)
    refine ⟨L, ss, _, rfl, rfl, hL10, small1000 (by omega), _, ?_, ⟨_, rfl⟩, p + 1 + 1, ss ++ [.ref p2], rfl, by omega, (A9.new hp2).upd hL0, upd_same, ?_, fun x hx => ?_, hv6.mono tp (Nat.le_refl _) (Nat.le_refl _)⟩
    · have := A8.lt
      omega
    · rw [List.length_append, List.length_singleton]
      omega
    · rcases List.mem_append.mp hx with hx | hx
      · exact (he6 x hx).mono tp (by omega) fun _ z => z.mono tp (Nat.le_refl _) (by omega)
      · rw [List.mem_singleton.mp hx]
        exact ⟨p2, rfl, .nm (tp2.tup (SqT.of upd_same)) (.inl rfl) (wd _ (List.mem_of_getElem? ht9))⟩
  by_cases h2 : t5.2 = "["
  · refine if_t (show inV (V.str t5.2) (dots.map V.str) = true by rw [inStr, h2]; decide +kernel) ⟨_, fun _ _ z => z, ?_⟩
    refine ⟨_, rfl, A6.nw ht5 ⟨rfl, _, rfl, ?_⟩⟩
    refine if_f (eqF h1) ?_
    have A7 := A6.expK (b' := ["[", "change", "changes", "]", "steps"]) ht5 (keq h2) nx_steps_ls
    refine ⟨_, rfl, A7.tk TK ht5 (keq h2) fun H8 s8 A8 => ?_⟩
    have hL8 := s8 _ _ (A5.c0 hL0) hl6
    refine ⟨_, rfl, .inl ⟨rfl, _, SqL.of hL8⟩, _, rfl, _, rfl, ?_⟩
    refine A8.call (Y := ["change"]) e (hoq _ (by have := A6.le; omega)) hl fun q9 v9 H9 s9 l9 A9 hv9 => ?_
    have hL9 := s9 _ _ (A5.c0 hL0) hL8
    refine ⟨L, ss, v9, rfl, rfl, hL9, small1000 (by omega), ?_⟩
    have tp : Tps H6 (L2.upd H9 L (.lst (ss ++ [v9]))) := ((A7.tps s8).trans (A8.tps s9)).trans (tps_upd (rd_lst hL9))
    have tp2 : Tps H9 (L2.upd H9 L (.lst (ss ++ [v9]))) := tps_upd (rd_lst hL9)
    refine ⟨fun m σ' H' => (∃ x, σ' = [some (.ref c), some (.int l), some bv, some (.ref L), x]) ∧ ∃ p' ss', m = T.length - p' ∧ p < p' ∧ At K CC T c r H k ["part"] H' p' ["changes", "]", "steps"] ∧ H' L = some (.lst ss') ∧ ss'.length + q1 ≤ p' ∧ (∀ s ∈ ss', StepV K Wd H' p' (IsE K Wd (3 * n) p' H') s) ∧ IsE K Wd (3 * n + 1) q1 H' bv,
      ⟨_, ⟨_, rfl⟩, q9, ss ++ [v9], rfl, by omega, A9.upd hL0, upd_same, ?_, fun x hx => ?_, hv6.mono tp (Nat.le_refl _) (Nat.le_refl _)⟩, ?_⟩
    · rw [List.length_append, List.length_singleton]
      omega
    · rcases List.mem_append.mp hx with hx | hx
      · exact (he6 x hx).mono tp (by omega) fun _ z => z.mono tp (Nat.le_refl _) (by omega)
      · rw [List.mem_singleton.mp hx]
        exact hv9.mono tp2 (Nat.le_refl _) fun _ z => z.mono tp2 (Nat.le_refl _) (Nat.le_refl _)
    rintro m σ' H10 ⟨⟨x, rfl⟩, p', ss', rfl, hp', A10, hl10, hn10, he10, hv10⟩
    have hlt10 := A10.lt
    obtain ⟨t10, ht10⟩ := A10.word
    refine ⟨_, rfl, A10.nw ht10 ⟨rfl, _, rfl, ?_⟩⟩
    by_cases h5 : t10.2 = ","
    · refine if_t (eqT h5) ⟨_, fun _ _ z => z, ?_⟩
      have A11 := A10.expK (b' := [",", "change", "changes"]) ht10 (keq h5) nx_changes_co
      refine ⟨_, rfl, A11.tk TK ht10 (keq h5) fun H12 s12 A12 => ?_⟩
      have hL12 := s12 _ _ (A5.c0 hL0) hl10
      refine ⟨_, rfl, .inl ⟨rfl, _, SqL.of hL12⟩, _, rfl, _, rfl, ?_⟩
      refine A12.call (Y := ["change"]) e (hoq _ (by have := A10.le; omega)) hl fun q13 v13 H13 s13 l13 A13 hv13 => ?_
      have hL13 := s13 _ _ (A5.c0 hL0) hL12
      have tp3 : Tps H10 (L2.upd H13 L (.lst (ss' ++ [v13]))) := ((A11.tps s12).trans (A12.tps s13)).trans (tps_upd (rd_lst hL13))
      have tp4 : Tps H13 (L2.upd H13 L (.lst (ss' ++ [v13]))) := tps_upd (rd_lst hL13)
      refine ⟨L, ss', v13, rfl, rfl, hL13, small1000 (by omega), _, ?_, ⟨_, rfl⟩, q13, ss' ++ [v13], rfl, by omega, A13.upd hL0, upd_same, ?_, fun x hx => ?_, hv10.mono tp3 (Nat.le_refl _) (Nat.le_refl _)⟩
      · omega
      · rw [List.length_append, List.length_singleton]
        omega
      · rcases List.mem_append.mp hx with hx | hx
        · exact (he10 x hx).mono tp3 (by omega) fun _ z => z.mono tp3 (Nat.le_refl _) (by omega)
        · rw [List.mem_singleton.mp hx]
          exact hv13.mono tp4 (Nat.le_refl _) fun _ z => z.mono tp4 (Nat.le_refl _) (Nat.le_refl _)
    · refine if_f (eqF h5) ?_
      have A11 := A10.exp (b' := []) ht10 (ns_changes (nin2 (kne h5) (kd_ne_star _)))
      refine ⟨_, rfl, A11.tw TK e fun t12 H12 ht12 hz12 s12 A12 => ?_⟩
      have tp5 := A11.tps s12
      refine ⟨_, ?_, ⟨_, rfl⟩, p' + 1, ss', rfl, by omega, A12, s12 _ _ (A5.c0 hL0) hl10, by omega, fun x hx => (he10 x hx).mono tp5 (by omega) fun _ z => z.mono tp5 (Nat.le_refl _) (by omega), hv10.mono tp5 (Nat.le_refl _) (Nat.le_refl _)⟩
      omega
  refine if_f (show inV (V.str t5.2) (dots.map V.str) = false by rw [inStr]; exact decide_eq_false (by simp [h1, h2])) ?_
  have A7 := A6.exp (b' := []) ht5 (ns_steps (nin3 (kne h1) (kne h2) (kd_ne_star _)))
  refine ⟨_, rfl, !ss.isEmpty, .inl ⟨ss, SqL.of hl6, rfl⟩, ?_⟩
  cases hss : ss with
  | nil =>
    refine iteT ⟨_, rfl, q _ _ _ A7 ?_⟩
    exact hv6.mono Tps.refl (by omega) hp
  | cons s0 sr =>
    rw [← hss]
    refine if_f (show (!(!ss.isEmpty)) = false by rw [hss]; rfl) ?_
    obtain ⟨a, xs, tag, rfl, ha, h0, hpart, _⟩ := Sh.tag hv6
    refine ⟨_, rfl, a, xs, _, _, rfl, rfl, ha, atI_nat (j := 0) h0, rfl, _, rfl, ?_⟩
    by_cases h3 : tag = "part"
    · refine if_t (eqT h3) ?_
      obtain ⟨f1, b, rs, rfl, hf, hb, hrl, hrs⟩ := hpart h3
      refine ⟨_, rfl, a, _, _, _, rfl, rfl, ha, rfl, _, rfl, a, _, _, _, rfl, rfl, ha, rfl, _, rfl, L, _, rfl, .inl ⟨SqL.of hl6, fun b2 hb2 => ?_⟩⟩
      refine catA_of ((tps_new hb2).tup hb) (SqT.of upd_same) (small (by omega)) fun p3 H8 s8 hp3 => ?_
      refine ⟨(by show 3 ≤ sizeLine; decide), fun p4 hp4 => ?_⟩
      have tp : Tps H6 (L2.upd H8 p4 (.tup [.str "part", f1, .ref p3])) := ((tps_new hb2).trans (GR.Same.tps s8)).trans (tps_new hp4)
      refine q _ _ _ (((A7.new hb2).same s8).new hp4) (Sh.part (SqT.of upd_same) (IsE.mono tp (by omega) (by omega) (show IsE K Wd (3 * n) q1 H6 f1 from hf)) ((tps_new hp4).tup hp3) ?_ fun x hx => ?_)
      · rw [List.length_append]
        omega
      · rcases List.mem_append.mp hx with hx | hx
        · exact (hrs x hx).mono tp (by omega) fun y z => IsE.mono tp (by omega) (by omega) (show IsE K Wd (3 * n) q1 H6 y from z)
        · exact (he6 x hx).mono tp (Nat.le_refl _) fun _ z => z.mono tp (by omega) (Nat.le_refl _)
    · refine if_f (eqF h3) ?_
      refine ⟨_, rfl, _, rfl, L, _, rfl, .inl ⟨SqL.of hl6, fun b2 hb2 => ?_⟩⟩
      refine ⟨(by show 3 ≤ sizeLine; decide), fun p4 hp4 => ?_⟩
      have hbp : b2 ≠ p4 := ne_of_none upd_same hp4
      have tp : Tps H6 (L2.upd (L2.upd H6 b2 (.tup ss)) p4 (.tup [.str "part", .ref a, .ref b2])) := (tps_new hb2).trans (tps_new hp4)
      refine q _ _ _ ((A7.new hb2).new hp4) (Sh.part (SqT.of upd_same) (hv6.mono tp (Nat.le_refl _) hp) (SqT.of (by rw [upd_ne hbp]; exact upd_same)) (by omega) fun x hx => ?_)
      exact (he6 x hx).mono tp (Nat.le_refl _) fun _ z => z.mono tp (by omega) (Nat.le_refl _)
end
end GR
set_option Elab.async false
set_option linter.all false
set_option maxRecDepth 100000
set_option maxHeartbeats 4000000
namespace GR
open PySem PySem.Spec PyProof.Rows L2
section
variable {P : Program} {w : World} {K : PySem.W.Frag} {Wd : Str → Prop} {mg : Str → Option Value} {base : Heap} {CC CB aR aS : Addr} {T : Toks} {f : Addr} {fd : FuncData} {n : Nat}
abbrev sread_chain : Stmt := top 42
abbrev nread_chain : List Str := ["cursor", "level", "first", "rest", "sign", "at"]
theorem scread_chain : FnScope nread_chain ["cursor", "level"] (defScope sread_chain) := ⟨rfl, rfl, rfl, by decide +kernel, rfl, by decide +kernel, by decide +kernel⟩
-- slots of read_chain: 0 cursor, 1 level, 2 first, 3 rest, 4 sign, 5 at
theorem ok_read_chain (F : Fun K "read_chain" "read_chain" sread_chain f fd) (Z : Par P w K Wd mg base CC CB aS T) (c_read_part : Cal P w K mg base (L2.CX P w) (lvE n + 4) "read_part" ["cursor", "level"] (spRd K CC CB T ["part"] (vlE K Wd (3 * n + 2)) (n + 1))) :
    FnOk P w K mg base (L2.CX P w) (lvE n + 5) f fd ["cursor", "level"] (spRd K CC CB T ["chain"] (vlE K Wd (3 * n + 3)) (n + 1)) := by
  refine F.ownX scread_chain (fun vs H Q E h => ?_) (fun cdv A outer s H vs Q E hr h => ?_)
  · obtain ⟨c, r, k, l, rfl, _⟩ := h
    rfl
  obtain ⟨c, r, k, l, rfl, hC, hk, ho, hl, q, e⟩ := h
  have A0 := At.start (X := ["chain"]) hC hk
  obtain ⟨B, TK, len, nums, wd, C, SIGNS, hS, DEEPEST, xBadText, m_next_at, m_next_word, m_take, m_take_word, m_take_name, c_is_plain_name, c_is_number⟩ := Z
  have hlv : lvE n = 6 * n + 4 := rfl
  refine ⟨_, (pss_cons (ps_set (i := 2) scread_chain.nd rfl (by first | exact Or.inl rfl | exact Or.inr rfl) (pe_cX c_read_part (takes_of rfl rfl rfl rfl) hr (by omega) rfl (pa_cons (pv 0) (pa_cons (pv 1) pa_nil)))) (pss_cons (ps_set (i := 3) scread_chain.nd rfl (by first | exact Or.inl rfl | exact Or.inr rfl) (pe_lst pa_nil)) (pss_cons (ps_while (passes_of rfl) (pt_cmpR op_in_seq (pe_m00 m_next_word hr (by omega) (pv 0)) (pe_gc rfl SIGNS) rfl)
    (pss_cons (ps_set (i := 4) scread_chain.nd rfl (by first | exact Or.inl rfl | exact Or.inr rfl) (pe_m00 m_next_word hr (by omega) (pv 0))) (pss_cons (ps_set (i := 5) scread_chain.nd rfl (by first | exact Or.inl rfl | exact Or.inr rfl) (pe_m00 m_take hr (by omega) (pv 0))) (pss_one (ps_expr (pe_bm PySem.F.plainAttrs_list PySem.F.slot_list_append PySem.F.type_list_append mt_append (pv 3) (pa_cons (pe_tup (pa_cons (pv 4) (pa_cons (pv 5) (pa_cons (pe_cX c_read_part (takes_of rfl rfl rfl rfl) hr (by omega) rfl (pa_cons (pv 0) (pa_cons (pv 1) pa_nil))) pa_nil)))) pa_nil))))))) (pss_cons (ps_if (pt_not (pt_truth (pv 3) (by intro _; rfl)))
    (pss_one (ps_ret (pv 2))) pss_nil) (pss_cons (ps_if (pt_cmpR op_eq (pe_ix ix_tup (pv 2) pe_int (fun _ _ => rfl)) pe_str (nomark _))
    (pss_one (ps_ret (pe_tup (pa_cons pe_str (pa_cons (pe_ix ix_tup (pv 2) pe_int (fun _ _ => rfl)) (pa_cons (pe_op op_catA (pe_ix ix_tup (pv 2) pe_int (fun _ _ => rfl)) (pe_callTy call_tuple_of (by rfl) B.tuple (by decide +kernel) (pa_cons (pv 3) pa_nil))) pa_nil)))))) pss_nil) (pss_one (ps_ret (pe_tup (pa_cons pe_str (pa_cons (pv 2) (pa_cons (pe_callTy call_tuple_of (by rfl) B.tuple (by decide +kernel) (pa_cons (pv 3) pa_nil)) pa_nil))))))))))), ?_⟩
  obtain ⟨t, ht⟩ := A0.word
  have A1 := A0.exp (b' := ["part", "chain2"]) ht (ns_chain (nin1 (kd_ne_star _)))
  refine ⟨_, rfl, _, rfl, A1.call (Y := ["part"]) e ho hl fun q1 bv H2 s2 l2 A2 hv => ?_⟩
  refine ⟨(by show 0 ≤ sizeLine; decide), fun L hL => ?_⟩
  have hL0 := A2.fresh hL
  have hoq : ∀ p, k ≤ p → ops T p < n + 1 := fun p hp => by have := ops_le (T := T) hp; omega
  refine ⟨fun m σ' H' => (∃ x y, σ' = [some (.ref c), some (.int l), some bv, some (.ref L), x, y]) ∧ ∃ p ss, m = T.length - p ∧ q1 ≤ p ∧ At K CC T c r H k ["chain"] H' p ["chain2"] ∧ H' L = some (.lst ss) ∧ ss.length + q1 ≤ p ∧ (∀ s ∈ ss, SignS K H' (IsE K Wd (3 * n + 2) p H') s) ∧ IsE K Wd (3 * n + 2) q1 H' bv,
    ⟨_, ⟨_, _, rfl⟩, q1, [], rfl, Nat.le_refl _, A2.new hL, upd_same, by show 0 + q1 ≤ q1; omega, (fun x hx => nomatch hx), hv.mono (tps_new hL) (Nat.le_refl _) (Nat.le_refl _)⟩, ?_⟩
  rintro m σ' H6 ⟨⟨x, y, rfl⟩, p, ss, rfl, hp, A6, hl6, hn6, he6, hv6⟩
  obtain ⟨t5, ht5⟩ := A6.word
  have hlim := TK.lim
  have hlt5 := A6.lt
  refine ⟨_, rfl, A6.nw ht5 ⟨aS, _, rfl, .inr (hS _), rfl, flatStr signs, _, rfl, ?_⟩⟩
  by_cases h1 : t5.2 ∈ signs
  · refine if_t (show inV (V.str t5.2) (signs.map V.str) = true by rw [inStr]; exact decide_eq_true h1) ⟨_, fun _ _ z => z, ?_⟩
    refine ⟨_, rfl, A6.nw ht5 ?_⟩
    have A7 := A6.expK (b' := ["sign", "part", "chain2"]) ht5 (kd_sign.mpr h1) nx_chain2_sign
    refine ⟨_, rfl, A7.tk TK ht5 (kd_sign.mpr h1) fun H8 s8 A8 => ?_⟩
    have hL8 := s8 _ _ (A2.c0 hL0) hl6
    refine ⟨_, rfl, .inl ⟨rfl, _, SqL.of hL8⟩, _, rfl, _, rfl, _, rfl, _, rfl, ?_⟩
    refine A8.call (Y := ["part"]) e (hoq _ (by have := A6.le; omega)) hl fun q9 v9 H9 s9 l9 A9 hv9 => ?_
    have hL9 := s9 _ _ (A2.c0 hL0) hL8
    refine ⟨(by show 3 ≤ sizeLine; decide), fun p2 hp2 => ?_⟩
    have hL10 := same_new hp2 (.tup [.str t5.2, .int t5.1, v9]) _ _ hL9
    have tp2 : Tps (L2.upd H9 p2 (.tup [.str t5.2, .int t5.1, v9])) (L2.upd (L2.upd H9 p2 (.tup [.str t5.2, .int t5.1, v9])) L (.lst (ss ++ [.ref p2]))) := tps_upd (rd_lst hL10)
    have tp3 : Tps H9 (L2.upd (L2.upd H9 p2 (.tup [.str t5.2, .int t5.1, v9])) L (.lst (ss ++ [.ref p2]))) := (tps_new hp2).trans tp2
    have tp : Tps H6 (L2.upd (L2.upd H9 p2 (.tup [.str t5.2, .int t5.1, v9])) L (.lst (ss ++ [.ref p2]))) := ((A7.tps s8).trans (A8.tps s9)).trans tp3
    refine ⟨L, ss, _, rfl, rfl, hL10, small1000 (by omega), _, ?_, ⟨_, _, rfl⟩, q9, ss ++ [.ref p2], rfl, by omega, (A9.new hp2).upd hL0, upd_same, ?_, fun x hx => ?_, hv6.mono tp (Nat.le_refl _) (Nat.le_refl _)⟩
    · omega
    · rw [List.length_append, List.length_singleton]
      omega
    · rcases List.mem_append.mp hx with hx | hx
      · exact (he6 x hx).mono tp fun _ z => z.mono tp (Nat.le_refl _) (by omega)
      · rw [List.mem_singleton.mp hx]
        exact ⟨p2, _, _, v9, rfl, tp2.tup (SqT.of upd_same), hv9.mono tp3 (Nat.le_refl _) (Nat.le_refl _)⟩
  refine if_f (show inV (V.str t5.2) (signs.map V.str) = false by rw [inStr]; exact decide_eq_false h1) ?_
  have A7 := A6.exp (b' := []) ht5 (ns_chain2 (nin2 (fun z => h1 (kd_sign.mp z)) (kd_ne_star _)))
  refine ⟨_, rfl, !ss.isEmpty, .inl ⟨ss, SqL.of hl6, rfl⟩, ?_⟩
  cases hss : ss with
  | nil =>
    refine iteT ⟨_, rfl, q _ _ _ A7 ?_⟩
    exact hv6.mono Tps.refl (by omega) hp
  | cons s0 sr =>
    rw [← hss]
    refine if_f (show (!(!ss.isEmpty)) = false by rw [hss]; rfl) ?_
    obtain ⟨a, xs, tag, rfl, ha, h0, _, hchain⟩ := Sh.tag hv6
    refine ⟨_, rfl, a, xs, _, _, rfl, rfl, ha, atI_nat (j := 0) h0, rfl, _, rfl, ?_⟩
    by_cases h3 : tag = "chain"
    · refine if_t (eqT h3) ?_
      obtain ⟨f1, b, rs, rfl, hf, hb, hrl, hrs⟩ := hchain h3
      refine ⟨_, rfl, a, _, _, _, rfl, rfl, ha, rfl, _, rfl, a, _, _, _, rfl, rfl, ha, rfl, _, rfl, L, _, rfl, .inl ⟨SqL.of hl6, fun b2 hb2 => ?_⟩⟩
      refine catA_of ((tps_new hb2).tup hb) (SqT.of upd_same) (small (by omega)) fun p3 H8 s8 hp3 => ?_
      refine ⟨(by show 3 ≤ sizeLine; decide), fun p4 hp4 => ?_⟩
      have tp : Tps H6 (L2.upd H8 p4 (.tup [.str "chain", f1, .ref p3])) := ((tps_new hb2).trans (GR.Same.tps s8)).trans (tps_new hp4)
      refine q _ _ _ (((A7.new hb2).same s8).new hp4) (Sh.chain (SqT.of upd_same) (IsE.mono tp (by omega) (by omega) (show IsE K Wd (3 * n + 1) q1 H6 f1 from hf)) ((tps_new hp4).tup hp3) ?_ fun x hx => ?_)
      · rw [List.length_append]
        omega
      · rcases List.mem_append.mp hx with hx | hx
        · exact (hrs x hx).mono tp fun y z => IsE.mono tp (by omega) (by omega) (show IsE K Wd (3 * n + 1) q1 H6 y from z)
        · exact (he6 x hx).mono tp fun _ z => z.mono tp (Nat.le_refl _) (Nat.le_refl _)
    · refine if_f (eqF h3) ?_
      refine ⟨_, rfl, _, rfl, L, _, rfl, .inl ⟨SqL.of hl6, fun b2 hb2 => ?_⟩⟩
      refine ⟨(by show 3 ≤ sizeLine; decide), fun p4 hp4 => ?_⟩
      have hbp : b2 ≠ p4 := ne_of_none upd_same hp4
      have tp : Tps H6 (L2.upd (L2.upd H6 b2 (.tup ss)) p4 (.tup [.str "chain", .ref a, .ref b2])) := (tps_new hb2).trans (tps_new hp4)
      refine q _ _ _ ((A7.new hb2).new hp4) (Sh.chain (SqT.of upd_same) (hv6.mono tp (Nat.le_refl _) hp) (SqT.of (by rw [upd_ne hbp]; exact upd_same)) (by omega) fun x hx => ?_)
      exact (he6 x hx).mono tp fun _ z => z.mono tp (Nat.le_refl _) (Nat.le_refl _)
abbrev sread_test : Stmt := top 41
abbrev nread_test : List Str := ["cursor", "level", "negated", "chain", "at"]
theorem scread_test : FnScope nread_test ["cursor", "level"] (defScope sread_test) := ⟨rfl, rfl, rfl, by decide +kernel, rfl, by decide +kernel, by decide +kernel⟩
-- slots of read_test: 0 cursor, 1 level, 2 negated, 3 chain, 4 at
theorem ok_read_test {m : Nat} (F : Fun K "read_test" "read_test" sread_test f fd) (Z : Par P w K Wd mg base CC CB aS T) (hm : 3 ≤ m) (c_read_chain : Cal P w K mg base (L2.CX P w) m "read_chain" ["cursor", "level"] (spRd K CC CB T ["chain"] (vlE K Wd (3 * n)) n)) :
    FnOk P w K mg base (L2.CX P w) (m + 1) f fd ["cursor", "level"] (spRd K CC CB T ["test"] (vlTest K Wd (3 * n)) n) := by
  refine F.ownX scread_test (fun vs H Q E h => ?_) (fun cdv A outer s H vs Q E hr h => ?_)
  · obtain ⟨c, r, k, l, rfl, _⟩ := h
    rfl
  obtain ⟨c, r, k, l, rfl, hC, hk, ho, hl, q, e⟩ := h
  have A0 := At.start (X := ["test"]) hC hk
  obtain ⟨B, TK, len, nums, wd, C, SIGNS, hS, DEEPEST, xBadText, m_next_at, m_next_word, m_take, m_take_word, m_take_name, c_is_plain_name, c_is_number⟩ := Z
  refine ⟨_, (pss_cons (ps_set (i := 2) scread_test.nd rfl (by first | exact Or.inl rfl | exact Or.inr rfl) pe_bl) (pss_cons (ps_while (passes_of rfl) (pt_cmpR op_eq (pe_m00 m_next_word hr (by omega) (pv 0)) pe_str (nomark _))
    (pss_cons (ps_expr (pe_m00 m_take hr (by omega) (pv 0))) (pss_one (ps_set (i := 2) scread_test.nd rfl (by first | exact Or.inl rfl | exact Or.inr rfl) (pe_not (pv 2)))))) (pss_cons (ps_set (i := 3) scread_test.nd rfl (by first | exact Or.inl rfl | exact Or.inr rfl) (pe_cX c_read_chain (takes_of rfl rfl rfl rfl) hr (by omega) rfl (pa_cons (pv 0) (pa_cons (pv 1) pa_nil)))) (pss_cons (ps_if (pt_cmpR op_eq (pe_m00 m_next_word hr (by omega) (pv 0)) pe_str (nomark _))
    (pss_cons (ps_set (i := 4) scread_test.nd rfl (by first | exact Or.inl rfl | exact Or.inr rfl) (pe_m00 m_take hr (by omega) (pv 0))) (pss_one (ps_ret (pe_tup (pa_cons (pv 2) (pa_cons (pv 3) (pa_cons (pv 4) (pa_cons (pe_mX0 m_take_name (takes_of rfl rfl rfl rfl) hr (by omega) (pv 0)) pa_nil)))))))) pss_nil) (pss_cons (ps_set (i := 4) scread_test.nd rfl (by first | exact Or.inl rfl | exact Or.inr rfl) (pe_mX m_take_word (takes_of rfl rfl rfl rfl) hr (by omega) (pv 0) (pa_cons pe_str pa_nil))) (pss_cons (ps_expr (pe_mX m_take_word (takes_of rfl rfl rfl rfl) hr (by omega) (pv 0) (pa_cons pe_str pa_nil))) (pss_one (ps_ret (pe_tup (pa_cons (pv 2) (pa_cons (pv 3) (pa_cons (pv 4) (pa_cons pe_non pa_nil))))))))))))), ?_⟩
  refine ⟨fun m σ' H' => (∃ g : Bool, σ' = [some (.ref c), some (.int l), some (.bl g), none, none]) ∧ ∃ p, m = T.length - p ∧ At K CC T c r H k ["test"] H' p ["test"], ⟨_, ⟨_, rfl⟩, k, rfl, A0⟩, ?_⟩
  rintro m σ' H1 ⟨⟨g, rfl⟩, p, rfl, A1⟩
  obtain ⟨t1, ht1⟩ := A1.word
  have hlt1 := A1.lt
  refine ⟨_, rfl, A1.nw ht1 ⟨rfl, _, rfl, ?_⟩⟩
  by_cases h1 : t1.2 = "not"
  · refine if_t (eqT h1) ⟨_, fun _ _ z => z, ?_⟩
    have A2 := A1.expK (b' := ["not", "test"]) ht1 (keq h1) nx_test_not
    refine ⟨_, rfl, A2.tk TK ht1 (keq h1) fun H3 s3 A3 => ?_⟩
    refine ⟨_, rfl, _, rfl, _, ?_, ⟨_, rfl⟩, p + 1, rfl, A3⟩
    omega
  refine if_f (eqF h1) ?_
  have A2 := A1.exp (b' := ["chain", "ask"]) ht1 (ns_test (nin2 (kne h1) (kd_ne_star _)))
  refine ⟨_, rfl, _, rfl, A2.call (Y := ["chain"]) e (by have := ops_le (T := T) A1.le; omega) hl fun q3 v3 H3 s3 l3 A3 hv3 => ?_⟩
  obtain ⟨t3, ht3⟩ := A3.word
  refine ⟨_, rfl, A3.nw ht3 ⟨rfl, _, rfl, ?_⟩⟩
  by_cases h3 : t3.2 = "has"
  · refine if_t (eqT h3) ?_
    have A4 := A3.expK (b' := ["has", "NAME"]) ht3 (keq h3) nx_ask_has
    refine ⟨_, rfl, A4.tk TK ht3 (keq h3) fun H5 s5 A5 => ?_⟩
    refine ⟨_, rfl, _, rfl, _, rfl, _, rfl, A5.tn TK e fun t6 H6 ht6 hp6 s6 A6 => ?_⟩
    refine ⟨(by show 4 ≤ sizeLine; decide), fun p2 hp2 => ?_⟩
    exact q _ _ _ (A6.new hp2) ⟨p2, g, v3, _, _, rfl, SqT.of upd_same, (.inr ⟨_, rfl, wd _ (List.mem_of_getElem? ht6)⟩), hv3.mono (((A4.tps s5).trans (A5.tps s6)).trans (tps_new hp2)) (Nat.le_refl _) (by omega)⟩
  refine if_f (eqF h3) ?_
  by_cases h4 : t3.2 = "is"
  · have A4 := A3.expK (b' := ["is", "record"]) ht3 (keq h4) nx_ask_is
    refine ⟨_, rfl, A4.tw TK e fun t5 H5 ht5 hz5 s5 A5 => ?_⟩
    refine ⟨_, rfl, A5.tw TK e fun t6 H6 ht6 hz6 s6 A6 => ?_⟩
    refine ⟨_, rfl, _, rfl, _, rfl, (by show 4 ≤ sizeLine; decide), fun p2 hp2 => ?_⟩
    exact q _ _ _ (A6.new hp2) ⟨p2, g, v3, _, _, rfl, SqT.of upd_same, .inl rfl, hv3.mono (((A4.tps s5).trans (A5.tps s6)).trans (tps_new hp2)) (Nat.le_refl _) (by omega)⟩
  · refine ⟨_, rfl, A3.meth (by decide +kernel) (by decide +kernel) ⟨c, r, q3, t3, "is", rfl, A3.cur, ht3, fun z => absurd z h4, fun z d H' hs ha => ?_⟩⟩
    exact A3.bad e (Bad.stuck (ks_at ht3) (ns_ask (nin2 (kne h3) (kne h4)))) ht3 hs ha
abbrev sread_expr : Stmt := top 40
abbrev nread_expr : List Str := ["cursor", "level", "at", "name", "value", "found", "then"]
theorem scread_expr : FnScope nread_expr ["cursor", "level"] (defScope sread_expr) := ⟨rfl, rfl, rfl, by decide +kernel, rfl, by decide +kernel, by decide +kernel⟩
-- slots of read_expr: 0 cursor, 1 level, 2 at, 3 name, 4 value, 5 found, 6 then
theorem ok_read_expr (F : Fun K "read_expr" "read_expr" sread_expr f fd) (Z : Par P w K Wd mg base CC CB aS T) (c_read_expr : Cal P w K mg base (L2.CX P w) (lvE n) "read_expr" ["cursor", "level"] (spRd K CC CB T ["expr"] (vlE K Wd (3 * n)) n))
    (c_read_chain : Cal P w K mg base (L2.CX P w) (lvE n + 5) "read_chain" ["cursor", "level"] (spRd K CC CB T ["chain"] (vlE K Wd (3 * n + 3)) (n + 1)))
    (c_read_test : Cal P w K mg base (L2.CX P w) (lvE n) "read_test" ["cursor", "level"] (spRd K CC CB T ["test"] (vlTest K Wd (3 * n)) n)) :
    FnOk P w K mg base (L2.CX P w) (lvE (n + 1)) f fd ["cursor", "level"] (spRd K CC CB T ["expr"] (vlE K Wd (3 * (n + 1))) (n + 1)) := by
  refine F.ownX (k := lvE n + 5) scread_expr (fun vs H Q E h => ?_) (fun cdv A outer s H vs Q E hr h => ?_)
  · obtain ⟨c, r, k, l, rfl, _⟩ := h
    rfl
  obtain ⟨c, r, k, l, rfl, hC, hk, ho, hl, q, e⟩ := h
  have A0 := At.start (X := ["expr"]) hC hk
  obtain ⟨B, TK, len, nums, wd, C, SIGNS, hS, DEEPEST, xBadText, m_next_at, m_next_word, m_take, m_take_word, m_take_name, c_is_plain_name, c_is_number⟩ := Z
  have hlv : lvE n = 6 * n + 4 := rfl
  refine ⟨_, (pss_cons (ps_if (pt_cmpR op_gt (pv 1) (pe_gc rfl DEEPEST) (nomark _))
    (pss_one ps_never) pss_nil) (pss_cons (ps_if (pt_cmpR op_eq (pe_m00 m_next_word hr (by omega) (pv 0)) pe_str (nomark _))
    (pss_cons (ps_set (i := 2) scread_expr.nd rfl (by first | exact Or.inl rfl | exact Or.inr rfl) (pe_m00 m_take hr (by omega) (pv 0))) (pss_cons (ps_set (i := 3) scread_expr.nd rfl (by first | exact Or.inl rfl | exact Or.inr rfl) (pe_mX0 m_take_name (takes_of rfl rfl rfl rfl) hr (by omega) (pv 0))) (pss_cons (ps_expr (pe_mX m_take_word (takes_of rfl rfl rfl rfl) hr (by omega) (pv 0) (pa_cons pe_str pa_nil))) (pss_cons (ps_set (i := 4) scread_expr.nd rfl (by first | exact Or.inl rfl | exact Or.inr rfl) (pe_cX c_read_expr (takes_of rfl rfl rfl rfl) hr (by omega) rfl (pa_cons (pv 0) (pa_cons (pe_op op_add (pv 1) pe_int) pa_nil)))) (pss_cons (ps_expr (pe_mX m_take_word (takes_of rfl rfl rfl rfl) hr (by omega) (pv 0) (pa_cons pe_str pa_nil))) (pss_one (ps_ret (pe_tup (pa_cons pe_str (pa_cons (pv 2) (pa_cons (pv 3) (pa_cons (pv 4) (pa_cons (pe_cX c_read_expr (takes_of rfl rfl rfl rfl) hr (by omega) rfl (pa_cons (pv 0) (pa_cons (pe_op op_add (pv 1) pe_int) pa_nil))) pa_nil))))))))))))) pss_nil) (pss_cons (ps_if (pt_cmpR op_eq (pe_m00 m_next_word hr (by omega) (pv 0)) pe_str (nomark _))
    (pss_cons (ps_set (i := 2) scread_expr.nd rfl (by first | exact Or.inl rfl | exact Or.inr rfl) (pe_m00 m_take hr (by omega) (pv 0))) (pss_cons (ps_set (i := 5) scread_expr.nd rfl (by first | exact Or.inl rfl | exact Or.inr rfl) (pe_lst (pa_cons (pe_cX c_read_test (takes_of rfl rfl rfl rfl) hr (by omega) rfl (pa_cons (pv 0) (pa_cons (pv 1) pa_nil))) pa_nil))) (pss_cons (ps_while (passes_of rfl) (pt_cmpR op_eq (pe_m00 m_next_word hr (by omega) (pv 0)) pe_str (nomark _))
    (pss_cons (ps_expr (pe_m00 m_take hr (by omega) (pv 0))) (pss_one (ps_expr (pe_bm PySem.F.plainAttrs_list PySem.F.slot_list_append PySem.F.type_list_append mt_append (pv 5) (pa_cons (pe_cX c_read_test (takes_of rfl rfl rfl rfl) hr (by omega) rfl (pa_cons (pv 0) (pa_cons (pv 1) pa_nil))) pa_nil)))))) (pss_cons (ps_expr (pe_mX m_take_word (takes_of rfl rfl rfl rfl) hr (by omega) (pv 0) (pa_cons pe_str pa_nil))) (pss_cons (ps_set (i := 6) scread_expr.nd rfl (by first | exact Or.inl rfl | exact Or.inr rfl) (pe_cX c_read_expr (takes_of rfl rfl rfl rfl) hr (by omega) rfl (pa_cons (pv 0) (pa_cons (pe_op op_add (pv 1) pe_int) pa_nil)))) (pss_cons (ps_expr (pe_mX m_take_word (takes_of rfl rfl rfl rfl) hr (by omega) (pv 0) (pa_cons pe_str pa_nil))) (pss_one (ps_ret (pe_tup (pa_cons pe_str (pa_cons (pv 2) (pa_cons (pe_callTy call_tuple_of (by rfl) B.tuple (by decide +kernel) (pa_cons (pv 5) pa_nil)) (pa_cons (pv 6) (pa_cons (pe_cX c_read_expr (takes_of rfl rfl rfl rfl) hr (by omega) rfl (pa_cons (pv 0) (pa_cons (pe_op op_add (pv 1) pe_int) pa_nil))) pa_nil)))))))))))))) pss_nil) (pss_one (ps_ret (pe_cX c_read_chain (takes_of rfl rfl rfl rfl) hr (by omega) rfl (pa_cons (pv 0) (pa_cons (pv 1) pa_nil)))))))), ?_⟩
  obtain ⟨t, ht⟩ := A0.word
  refine ⟨_, rfl, _, _, rfl, rfl, _, rfl, if_f (decide_eq_false (by omega)) ?_⟩
  refine ⟨_, rfl, A0.nw ht ⟨rfl, _, rfl, ?_⟩⟩
  by_cases h1 : t.2 = "let"
  · refine if_t (eqT h1) ?_
    have A1 := A0.expK (b' := ["let", "NAME", "=", "expr", "in", "expr"]) ht (keq h1) nx_expr_let
    have hop : ops T (k + 1) < n := by have := ops_open (T := T) ht (by rw [h1]; decide +kernel); omega
    have hoq : ∀ p, k + 1 ≤ p → ops T p < n := fun p hp => by have := ops_le (T := T) hp; omega
    refine ⟨_, rfl, A1.tk TK ht (keq h1) fun H2 s2 A2 => ?_⟩
    refine ⟨_, rfl, A2.tn TK e fun t3 H3 ht3 hp3 s3 A3 => ?_⟩
    refine ⟨_, rfl, A3.tw TK e fun t4 H4 ht4 hz4 s4 A4 => ?_⟩
    refine ⟨_, rfl, _, rfl, _, _, rfl, rfl, ?_⟩
    refine A4.call (Y := ["expr"]) e (hoq _ (by omega)) (by omega) fun q5 v5 H5 s5 l5 A5 hv5 => ?_
    refine ⟨_, rfl, A5.tw TK e fun t6 H6 ht6 hz6 s6 A6 => ?_⟩
    refine ⟨_, rfl, _, rfl, _, rfl, _, rfl, _, rfl, _, _, rfl, rfl, ?_⟩
    refine A6.call (Y := ["expr"]) e (hoq _ (by omega)) (by omega) fun q7 v7 H7 s7 l7 A7 hv7 => ?_
    refine ⟨(by show 5 ≤ sizeLine; decide), fun p2 hp2 => ?_⟩
    refine q _ _ _ (A7.new hp2) (IsE.mono (n := 3 * n + 1) Tps.refl (by omega) (Nat.le_refl _) (Sh.lets (SqT.of upd_same) (hv5.mono (((A5.tps s6).trans (A6.tps s7)).trans (tps_new hp2)) (Nat.le_refl _) (by omega)) ?_))
    exact IsE.of_or (hv7.mono (tps_new hp2) (Nat.le_refl _) (Nat.le_refl _)) fun _ => .inl True.intro
  refine if_f (eqF h1) ?_
  refine ⟨_, rfl, A0.nw ht ⟨rfl, _, rfl, ?_⟩⟩
  by_cases h2 : t.2 = "if"
  · refine if_t (eqT h2) ?_
    have A1 := A0.expK (b' := ["if", "test", "tests", "then", "expr", "else", "expr"]) ht (keq h2) nx_expr_if
    have hop : ops T (k + 1) < n := by have := ops_open (T := T) ht (by rw [h2]; decide +kernel); omega
    have hoq : ∀ p, k + 1 ≤ p → ops T p < n := fun p hp => by have := ops_le (T := T) hp; omega
    have hlim := TK.lim
    refine ⟨_, rfl, A1.tk TK ht (keq h2) fun H2 s2 A2 => ?_⟩
    refine ⟨_, rfl, _, rfl, ?_⟩
    refine A2.call (Y := ["test"]) e (hoq _ (by omega)) (by omega) fun q3 v3 H3 s3 l3 A3 hv3 => ?_
    refine ⟨(by show 1 ≤ sizeLine; decide), fun L hL => ?_⟩
    have hL0 := A3.fresh hL
    refine ⟨fun m σ' H' => (∃ x y, σ' = [some (.ref c), some (.int l), some (.int t.1), x, y, some (.ref L), none]) ∧ ∃ p es, m = T.length - p ∧ k + 1 ≤ p ∧ At K CC T c r H k ["expr"] H' p ["tests", "then", "expr", "else", "expr"] ∧ H' L = some (.lst es) ∧ es.length ≤ p ∧ ∀ e ∈ es, TestS K Wd H' (IsE K Wd (3 * n) p H') e,
      ⟨_, ⟨_, _, rfl⟩, q3, [v3], rfl, by omega, A3.new hL, upd_same, (by show 1 ≤ q3; omega), fun x hx => ?_⟩, ?_⟩
    · rw [List.mem_singleton.mp hx]
      exact TestS.mono (tps_new hL) (fun _ z => z.mono (tps_new hL) (Nat.le_refl _) (Nat.le_refl _)) hv3
    rintro m σ' H5 ⟨⟨x, y, rfl⟩, p, es, rfl, hp, A5, hl5, hn5, he5⟩
    obtain ⟨t5, ht5⟩ := A5.word
    have hlt5 := A5.lt
    refine ⟨_, rfl, A5.nw ht5 ⟨rfl, _, rfl, ?_⟩⟩
    by_cases h5 : t5.2 = "and"
    · refine if_t (eqT h5) ⟨_, fun _ _ z => z, ?_⟩
      have A6 := A5.expK (b' := ["and", "test", "tests"]) ht5 (keq h5) nx_tests_and
      refine ⟨_, rfl, A6.tk TK ht5 (keq h5) fun H7 s7 A7 => ?_⟩
      have hL7 : H7 L = some (.lst es) := s7 _ _ (A5.c0 hL0) hl5
      refine ⟨_, rfl, .inl ⟨rfl, _, SqL.of hL7⟩, _, rfl, _, rfl, ?_⟩
      refine A7.call (Y := ["test"]) e (hoq _ (by omega)) (by omega) fun q8 v8 H8 s8 l8 A8 hv8 => ?_
      have hL8 : H8 L = some (.lst es) := s8 _ _ (A5.c0 hL0) hL7
      refine ⟨L, es, v8, rfl, rfl, hL8, small1000 (by omega), _, ?_, ⟨_, _, rfl⟩, q8, _, rfl, by omega, A8.upd hL0, upd_same, ?_, fun x hx => ?_⟩
      · omega
      · rw [List.length_append, List.length_singleton]
        omega
      · have tp2 := tps_upd (o := .lst (es ++ [v8])) (rd_lst hL8)
        have tp := ((A6.tps s7).trans (A7.tps s8)).trans tp2
        rcases List.mem_append.mp hx with hx | hx
        · exact (he5 x hx).mono tp fun _ z => z.mono tp (Nat.le_refl _) (by omega)
        · rw [List.mem_singleton.mp hx]
          exact TestS.mono tp2 (fun _ z => z.mono tp2 (Nat.le_refl _) (Nat.le_refl _)) hv8
    · refine if_f (eqF h5) ?_
      have A6 := A5.exp (b' := []) ht5 (ns_tests (nin2 (kne h5) (kd_ne_star _)))
      refine ⟨_, rfl, A6.tw TK e fun t7 H7 ht7 hz7 s7 A7 => ?_⟩
      refine ⟨_, rfl, _, rfl, _, _, rfl, rfl, ?_⟩
      refine A7.call (Y := ["expr"]) e (hoq _ (by omega)) (by omega) fun q8 v8 H8 s8 l8 A8 hv8 => ?_
      refine ⟨_, rfl, A8.tw TK e fun t9 H9 ht9 hz9 s9 A9 => ?_⟩
      have hL9 : H9 L = some (.lst es) := s9 _ _ (A5.c0 hL0) (s8 _ _ (A5.c0 hL0) (s7 _ _ (A5.c0 hL0) hl5))
      refine ⟨_, rfl, _, rfl, L, _, rfl, .inl ⟨SqL.of hL9, fun b2 hb2 => ?_⟩⟩
      have A10 := A9.new (o := .tup es) hb2
      refine ⟨_, rfl, _, rfl, _, rfl, _, _, rfl, rfl, ?_⟩
      refine A10.call (Y := ["expr"]) e (hoq _ (by omega)) (by omega) fun q11 v11 H11 s11 l11 A11 hv11 => ?_
      refine ⟨(by show 5 ≤ sizeLine; decide), fun p2 hp2 => ?_⟩
      have tp9 : Tps H9 (L2.upd H11 p2 (.tup [.str "if", .int t.1, .ref b2, v8, v11])) := ((tps_new hb2).trans (A10.tps s11)).trans (tps_new hp2)
      have tp8 : Tps H8 (L2.upd H11 p2 (.tup [.str "if", .int t.1, .ref b2, v8, v11])) := (A8.tps s9).trans tp9
      have tp : Tps H5 (L2.upd H11 p2 (.tup [.str "if", .int t.1, .ref b2, v8, v11])) := (((A6.tps s7).trans (A7.tps s8))).trans tp8
      refine q _ _ _ (A11.new hp2) (IsE.mono (n := 3 * n + 1) Tps.refl (by omega) (Nat.le_refl _) (Sh.ifs (SqT.of upd_same) (((A10.tps s11).trans (tps_new hp2)).tup (SqT.of upd_same)) (by omega) (fun x hx => ?_) (hv8.mono tp8 (Nat.le_refl _) (by omega)) (hv11.mono (tps_new hp2) (Nat.le_refl _) (Nat.le_refl _))))
      exact (he5 x hx).mono tp fun _ z => z.mono tp (Nat.le_refl _) (by omega)
  · refine if_f (eqF h2) ?_
    have A1 := A0.exp (b' := ["chain"]) ht (ns_expr (nin3 (kne h1) (kne h2) (kd_ne_star _)))
    refine ⟨_, rfl, _, rfl, ?_⟩
    refine A1.call (Y := ["chain"]) e ho hl fun q3 v3 H3 s3 l3 A3 hv3 => ?_
    exact q _ _ _ A3 (hv3.mono Tps.refl (by omega) (Nat.le_refl _))
end
end GR
set_option Elab.async false
set_option linter.all false
set_option maxRecDepth 100000
set_option maxHeartbeats 4000000
namespace GR
open PySem PySem.Spec PyProof.Rows L2
section
variable {P : Program} {w : World} {K : PySem.W.Frag} {Wd : Str → Prop} {mg : Str → Option Value} {base : Heap} {CC CB aR aS : Addr} {T : Toks} {f : Addr} {fd : FuncData} {n : Nat}
def ParV (K : PySem.W.Frag) (H : Hp) (v : V) : Prop := ∃ (t : Addr) (z : Str) (sp : Int), v = .ref t ∧ SqT K H t [.str z, .int sp]
def DefV (K : PySem.W.Frag) (Wd : Str → Prop) (n N : Nat) (H : Hp) (v : V) : Prop := ∃ (a b : Addr) (nm : Str) (at_ : Int) (ps : List V) (body : V), v = .ref a ∧ SqT K H a [.str nm, .int at_, .ref b, body] ∧ SqT K H b ps ∧ ps.length ≤ N ∧ (∀ p ∈ ps, ParV K H p) ∧ IsE K Wd n N H body
theorem ParV.mono {K : PySem.W.Frag} {H H' : Hp} {v : V} (e : Tps H H') (h : ParV K H v) : ParV K H' v := let ⟨t, z, s, a, b⟩ := h; ⟨t, z, s, a, e.tup b⟩
theorem DefV.mono {K : PySem.W.Frag} {Wd : Str → Prop} {n n' N N' : Nat} {H H' : Hp} {v : V} (e : Tps H H') (h1 : n ≤ n') (h2 : N ≤ N') (h : DefV K Wd n N H v) : DefV K Wd n' N' H' v :=
  let ⟨a, b, nm, at_, ps, body, x1, x2, x3, x4, x5, x6⟩ := h; ⟨a, b, nm, at_, ps, body, x1, e.tup x2, e.tup x3, by omega, fun p hp => (x5 p hp).mono e, x6.mono e h1 h2⟩
/-- the promise of read_definition -/
def spDef (K : PySem.W.Frag) (Wd : Str → Prop) (CC CB : Addr) (T : Toks) (n : Nat) : Sp := fun vs H Q E => ∃ (c r : Addr) (k : Nat) (t : Int × Str), vs = [.ref c] ∧ CurAt K CC T H c r k ∧ T[k]? = some t ∧ ops T k < n ∧ n ≤ 100 ∧
  (kd t.2 = "def" → ∀ q v H', k < q → At K CC T c r H k ["definition"] H' q [] → DefV K Wd (3 * n) q H' v → Q v H') ∧
  (∀ (j : Nat) (u : Int × Str) (d : Addr) (H' : Hp), Bad (ks T) ["definition"] k j → (kd t.2 ≠ "def" → j = k) → T[j]? = some u → Stp c H H' → AtX d u.1 H' → E (.ref CB) (some d) H')
abbrev sread_definition : Stmt := top 39
abbrev nread_definition : List Str := ["cursor", "at", "name", "parameters", "spot", "word"]
theorem scread_definition : FnScope nread_definition ["cursor"] (defScope sread_definition) := ⟨rfl, rfl, rfl, by decide +kernel, rfl, by decide +kernel, by decide +kernel⟩
-- slots of read_definition: 0 cursor, 1 at, 2 name, 3 parameters, 4 spot, 5 word
theorem ok_read_definition (F : Fun K "read_definition" "read_definition" sread_definition f fd) (Z : Par P w K Wd mg base CC CB aS T) (c_read_expr : Cal P w K mg base (L2.CX P w) (lvE n) "read_expr" ["cursor", "level"] (spRd K CC CB T ["expr"] (vlE K Wd (3 * n)) n)) :
    FnOk P w K mg base (L2.CX P w) (lvE n + 1) f fd ["cursor"] (spDef K Wd CC CB T n) := by
  refine F.ownX (k := lvE n) scread_definition (fun vs H Q E h => ?_) (fun cdv A outer s H vs Q E hr h => ?_)
  · obtain ⟨c, r, k, t, rfl, _⟩ := h
    rfl
  obtain ⟨c, r, k, t, rfl, hC, ht, ho, hl, q, e⟩ := h
  have hk : k < T.length := (List.getElem?_eq_some_iff.mp ht).1
  have A0 := At.start (X := ["definition"]) hC hk
  obtain ⟨B, TK, len, nums, wd, C, SIGNS, hS, DEEPEST, xBadText, m_next_at, m_next_word, m_take, m_take_word, m_take_name, c_is_plain_name, c_is_number⟩ := Z
  have hlv : lvE n = 6 * n + 4 := rfl
  refine ⟨_, (pss_cons (ps_expr (pe_mX m_take_word (takes_of rfl rfl rfl rfl) hr (by omega) (pv 0) (pa_cons pe_str pa_nil))) (pss_cons (ps_set (i := 1) scread_definition.nd rfl (by first | exact Or.inl rfl | exact Or.inr rfl) (pe_m00 m_next_at hr (by omega) (pv 0))) (pss_cons (ps_set (i := 2) scread_definition.nd rfl (by first | exact Or.inl rfl | exact Or.inr rfl) (pe_mX0 m_take_name (takes_of rfl rfl rfl rfl) hr (by omega) (pv 0))) (pss_cons (ps_expr (pe_mX m_take_word (takes_of rfl rfl rfl rfl) hr (by omega) (pv 0) (pa_cons pe_str pa_nil))) (pss_cons (ps_set (i := 3) scread_definition.nd rfl (by first | exact Or.inl rfl | exact Or.inr rfl) (pe_lst pa_nil)) (C8.pss_cut (ps_if (pt_cmpR op_ne (pe_m00 m_next_word hr (by omega) (pv 0)) pe_str (nomark _))
    (pss_cons (ps_expr (pe_bm PySem.F.plainAttrs_list PySem.F.slot_list_append PySem.F.type_list_append mt_append (pv 3) (pa_cons (pe_tup (pa_cons (pe_m00 m_next_at hr (by omega) (pv 0)) (pa_cons (pe_mX0 m_take_name (takes_of rfl rfl rfl rfl) hr (by omega) (pv 0)) pa_nil))) pa_nil))) (pss_one (ps_while (passes_of rfl) (pt_cmpR op_eq (pe_m00 m_next_word hr (by omega) (pv 0)) pe_str (nomark _))
    (pss_cons (ps_expr (pe_m00 m_take hr (by omega) (pv 0))) (pss_one (ps_expr (pe_bm PySem.F.plainAttrs_list PySem.F.slot_list_append PySem.F.type_list_append mt_append (pv 3) (pa_cons (pe_tup (pa_cons (pe_m00 m_next_at hr (by omega) (pv 0)) (pa_cons (pe_mX0 m_take_name (takes_of rfl rfl rfl rfl) hr (by omega) (pv 0)) pa_nil))) pa_nil)))))))) pss_nil) (pss_cons (ps_expr (pe_mX m_take_word (takes_of rfl rfl rfl rfl) hr (by omega) (pv 0) (pa_cons pe_str pa_nil))) (pss_cons (ps_expr (pe_mX m_take_word (takes_of rfl rfl rfl rfl) hr (by omega) (pv 0) (pa_cons pe_str pa_nil))) (pss_one (ps_ret (pe_tup (pa_cons (pv 2) (pa_cons (pv 1) (pa_cons (pe_callTy call_tuple_of (by rfl) B.tuple (by decide +kernel) (pa_cons (pe_lc (own := [("spot", 4), ("word", 5)]) (g := (gTup K 2 (gCons (gName 4) (gCons (gName 5) gNil)))) (tt := tYes) (by rfl) scread_definition.nd (pi_list (pv 3)) (blkOk_by (own := [("spot", 4), ("word", 5)]) (N := nread_definition) (sc := (defScope sread_definition)) (by decide +kernel)) (fun _ _ _ _ _ => (pg_tup (by rfl) (pgs_cons (pg_name (i := 4) scread_definition.nd rfl (by first | exact Or.inl rfl | exact Or.inr rfl)) (pgs_cons (pg_name (i := 5) scread_definition.nd rfl (by first | exact Or.inl rfl | exact Or.inr rfl)) pgs_nil)))) (fun _ _ _ _ _ => pts_nil) (fun _ _ _ _ _ => (pe_tup (pa_cons (pv 5) (pa_cons (pv 4) pa_nil))))) pa_nil)) (pa_cons (pe_cX c_read_expr (takes_of rfl rfl rfl rfl) hr (by omega) rfl (pa_cons (pv 0) (pa_cons pe_int pa_nil))) pa_nil))))))))))))))), ?_⟩
  have hoq : ∀ p, k ≤ p → ops T p < n := fun p hp => by have := ops_le (T := T) hp; omega
  have hlim := TK.lim
  by_cases hd : t.2 = "def"
  case neg =>
    refine ⟨_, rfl, A0.meth (by decide +kernel) (by decide +kernel) ⟨c, r, k, t, "def", rfl, A0.cur, ht, fun z => absurd z hd, fun z d H' hs ha => ?_⟩⟩
    exact e k t d H' (Bad.stuck (ks_at ht) (ns_definition (nin1 (kne hd)))) (fun _ => rfl) ht (Stp.of hs) ha
  have hkd := keq hd
  have e' : Ex CB T c H k ["definition"] E := fun j u d H' hb hu hs ha => e j u d H' hb (fun z => absurd hkd z) hu hs ha
  have A1 := A0.expK (b' := ["def", "NAME", "(", "parameters", ")", "=", "expr"]) ht hkd nx_definition_def
  refine ⟨_, rfl, A1.tw TK e' fun t2 H2 ht2 hz2 s2 A2 => ?_⟩
  obtain ⟨t3, ht3⟩ := A2.word
  refine ⟨_, rfl, A2.na ht3 ?_⟩
  refine ⟨_, rfl, A2.tn TK e' fun t4 H4 ht4 hp4 s4 A4 => ?_⟩
  refine ⟨_, rfl, A4.tw TK e' fun t5 H5 ht5 hz5 s5 A5 => ?_⟩
  refine ⟨(by show 0 ≤ sizeLine; decide), fun L hL => ?_⟩
  have hL0 := A5.fresh hL
  have A6 := A5.new (o := .lst []) hL
  refine ⟨fun σ' H' => (σ' = [some (.ref c), some (.int t3.1), some (.str t4.2), some (.ref L), none, none]) ∧ ∃ p es, k < p ∧ At K CC T c r H k ["definition"] H' p [")", "=", "expr"] ∧ H' L = some (.lst es) ∧ es.length ≤ p ∧ ∀ e ∈ es, ∃ (a : Addr) (x : Str) (i : Int), e = .ref a ∧ SqT K H' a [.int i, .str x], ?_, ?_⟩
  · obtain ⟨t7, ht7⟩ := A6.word
    refine ⟨_, rfl, A6.nw ht7 ⟨rfl, _, rfl, ?_⟩⟩
    by_cases h7 : t7.2 = ")"
    · exact if_f (neF h7) ⟨rfl, _, [], by omega, A6.exp (b' := []) ht7 (ns_parameters (nin2 (by rw [h7]; decide +kernel) (kd_ne_star _))), upd_same, Nat.zero_le _, fun x hx => nomatch hx⟩
    refine if_t (neT h7) ?_
    refine ⟨_, rfl, .inl ⟨rfl, _, SqL.of upd_same⟩, _, rfl, A6.na ht7 ⟨_, rfl, A6.meth (by decide +kernel) (by decide +kernel) ⟨c, r, _, t7, rfl, A6.cur, ht7, fun hp7 H8 s8 c8 => ?_, fun hp7 d H8 s8 ha => ?_⟩⟩⟩
    · have hn7 := kd_name.mpr hp7
      have A7 := A6.expK (b' := ["NAME", "parameters2"]) ht7 hn7 nx_parameters_NAME
      have A8 := A7.step ht7 hn7 (TK.next _ t7 ht7 (ne_end hn7 (by decide +kernel))) s8 c8 (by decide +kernel)
      refine ⟨(by show 2 ≤ sizeLine; decide), fun p2 hp2 => ?_⟩
      have hL8 : H8 L = some (.lst []) := s8 _ _ (A5.c0 hL0) upd_same
      have hL9 := same_new hp2 (.tup [.int t7.1, .str t7.2]) _ _ hL8
      refine ⟨L, [], _, rfl, rfl, hL9, by decide, ?_⟩
      refine ⟨fun m σ' H' => (σ' = [some (.ref c), some (.int t3.1), some (.str t4.2), some (.ref L), none, none]) ∧ ∃ p es, m = T.length - p ∧ k < p ∧ At K CC T c r H k ["definition"] H' p ["parameters2", ")", "=", "expr"] ∧ H' L = some (.lst es) ∧ es.length ≤ p ∧ ∀ e ∈ es, ∃ (a : Addr) (x : Str) (i : Int), e = .ref a ∧ SqT K H' a [.int i, .str x],
        ⟨_, rfl, _, [.ref p2], rfl, by omega, (A8.new hp2).upd hL0, upd_same, (by show 1 ≤ _; omega), fun x hx => ?_⟩, ?_⟩
      · rw [List.mem_singleton.mp hx]
        exact ⟨p2, _, _, rfl, (tps_upd (rd_lst hL9)).tup (SqT.of upd_same)⟩
      rintro m σ' H10 ⟨rfl, p, es, rfl, hp, A10, hl10, hn10, he10⟩
      have hlt10 := A10.lt
      obtain ⟨t10, ht10⟩ := A10.word
      refine ⟨_, rfl, A10.nw ht10 ⟨rfl, _, rfl, ?_⟩⟩
      by_cases h5 : t10.2 = ","
      · refine if_t (eqT h5) ⟨_, fun _ _ z => z, ?_⟩
        have A11 := A10.expK (b' := [",", "NAME", "parameters2"]) ht10 (keq h5) nx_parameters2_co
        refine ⟨_, rfl, A11.tk TK ht10 (keq h5) fun H12 s12 A12 => ?_⟩
        have hL12 := s12 _ _ (A5.c0 hL0) hl10
        obtain ⟨t12, ht12⟩ := A12.word
        refine ⟨_, rfl, .inl ⟨rfl, _, SqL.of hL12⟩, _, rfl, A12.na ht12 ⟨_, rfl, A12.tn TK e' fun t13 H13 ht13 hp13 s13 A13 => ?_⟩⟩
        refine ⟨(by show 2 ≤ sizeLine; decide), fun p3 hp3 => ?_⟩
        have hL13 := same_new hp3 (.tup [.int t12.1, .str t13.2]) _ _ (s13 _ _ (A5.c0 hL0) hL12)
        have tp2 : Tps (L2.upd H13 p3 (.tup [.int t12.1, .str t13.2])) (L2.upd (L2.upd H13 p3 (.tup [.int t12.1, .str t13.2])) L (.lst (es ++ [.ref p3]))) := tps_upd (rd_lst hL13)
        have tp : Tps H10 _ := (((A11.tps s12).trans (A12.tps s13)).trans (tps_new hp3)).trans tp2
        refine ⟨L, es, _, rfl, rfl, hL13, small1000 (by omega), _, ?_, rfl, _, es ++ [.ref p3], rfl, ?_, (A13.new hp3).upd hL0, upd_same, ?_, fun x hx => ?_⟩
        · have := A12.lt
          omega
        · omega
        · rw [List.length_append, List.length_singleton]
          omega
        · rcases List.mem_append.mp hx with hx | hx
          · obtain ⟨a, x', i, ea, hsq⟩ := he10 x hx
            exact ⟨a, x', i, ea, tp.tup hsq⟩
          · rw [List.mem_singleton.mp hx]
            exact ⟨p3, _, _, rfl, tp2.tup (SqT.of upd_same)⟩
      · exact if_f (eqF h5) ⟨rfl, p, es, hp, A10.exp (b' := []) ht10 (ns_parameters2 (nin2 (kne h5) (kd_ne_star _))), hl10, hn10, he10⟩
    · have A7 := A6.exp (b' := []) ht7 (ns_parameters (nin2 (fun z => by rw [kd_name.mp z] at hp7; cases hp7) (kd_ne_star _)))
      exact A7.bad e' (Bad.miss (ks_at ht7) (kne h7) (by decide +kernel)) ht7 s8 ha
  · rintro σ' H6 ⟨rfl, p, es, hp, A6, hl6, hn6, he6⟩
    refine ⟨_, rfl, A6.tw TK e' fun t7 H7 ht7 hz7 s7 A7 => ?_⟩
    refine ⟨_, rfl, A7.tw TK e' fun t8 H8 ht8 hz8 s8 A8 => ?_⟩
    have hl8 := s8 _ _ (A5.c0 hL0) (s7 _ _ (A5.c0 hL0) hl6)
    have tp8 : Tps H6 H8 := (A6.tps s7).trans (A7.tps s8)
    have hlt6 := A6.lt
    refine ⟨_, rfl, _, rfl, _, rfl, L, rfl, ⟨_, SqL.of hl8⟩, fun D hD => lc_list (xs := es) (fun i H' => ∃ acc, H' D = some (.lst acc) ∧ acc.length = i ∧ (∀ x ∈ acc, ParV K H' x) ∧ Stp D H8 H') ⟨[], upd_same, rfl, (fun x hx => nomatch hx), Stp.of (same_new hD _)⟩ ?_ ?_ ?_⟩
    · rintro i H' _ ⟨acc, _, _, _, st⟩
      exact SqL.of (st _ _ (ne_of_none hl8 hD) hl8)
    · rintro i x H' hx ⟨acc, ha, hn, hv, st⟩
      obtain ⟨a, x', j, rfl, hsq⟩ := he6 x (List.mem_of_getElem? hx)
      have hsq' : SqT K H' a [.int j, .str x'] := st.tup (fun xs z => by rcases z with z | ⟨_, z⟩ <;> rw [hD] at z <;> cases z) (tp8.tup hsq)
      refine ⟨a, _, rfl, hsq', rfl, _, _, rfl, _, _, rfl, rfl, rfl, ?_⟩
      refine ⟨_, rfl, _, rfl, (by show 2 ≤ sizeLine; decide), fun p2 hp2 => ?_⟩
      have ha2 := same_new hp2 (.tup [.str x', .int j]) _ _ ha
      have tp2 : Tps (L2.upd H' p2 (.tup [.str x', .int j])) (L2.upd (L2.upd H' p2 (.tup [.str x', .int j])) D (.lst (acc ++ [.ref p2]))) := tps_upd (rd_lst ha2)
      have hil : i < es.length := (List.getElem?_eq_some_iff.mp hx).1
      refine ⟨acc, ha2, small1000 (by omega), acc ++ [.ref p2], upd_same, by rw [List.length_append, hn]; rfl, fun y hy => ?_, fun b u nb eb => ?_⟩
      · rcases List.mem_append.mp hy with hy | hy
        · exact (hv y hy).mono ((tps_new hp2).trans tp2)
        · rw [List.mem_singleton.mp hy]
          exact ⟨p2, _, _, rfl, tp2.tup (SqT.of upd_same)⟩
      · rw [upd_ne nb]
        exact same_new hp2 _ _ _ (st b u nb eb)
    · rintro H9 ⟨acc, ha, hn, hv, st⟩
      have A9 : At K CC T c r H k ["definition"] H9 (p + 1 + 1) ["expr"] := A8.same (Stp.same st hD)
      refine ⟨D, _, rfl, .inl ⟨SqL.of ha, fun b hb => ?_⟩⟩
      have A10 := A9.new (o := .tup acc) hb
      refine ⟨_, rfl, ?_⟩
      refine A10.call (Y := ["expr"]) e' (hoq _ (by omega)) (by omega) fun q11 v11 H11 s11 l11 A11 hv11 => ?_
      refine ⟨(by show 4 ≤ sizeLine; decide), fun p2 hp2 => ?_⟩
      have tp9 : Tps H9 (L2.upd H11 p2 (.tup [.str t4.2, .int t3.1, .ref b, v11])) := ((tps_new hb).trans (A10.tps s11)).trans (tps_new hp2)
      refine q hkd _ _ _ (by omega) (A11.new hp2) ⟨p2, b, _, _, acc, v11, rfl, SqT.of upd_same, ((A10.tps s11).trans (tps_new hp2)).tup (SqT.of upd_same), by omega, fun x hx => (hv x hx).mono tp9, hv11.mono (tps_new hp2) (Nat.le_refl _) (Nat.le_refl _)⟩
end
end GR
set_option Elab.async false
set_option linter.all false
set_option maxRecDepth 100000
set_option maxHeartbeats 4000000
/-! The tokens of a text. -/
namespace GR
open PySem PySem.Spec PyProof.Rows L2
def WordOk (w : List Nat) : Prop := (w ≠ [] ∧ ∀ c ∈ w, c ∈ letters) ∨ (w ≠ [] ∧ ∀ c ∈ w, c ∈ digits) ∨ ∃ c, w = [c] ∧ c ∉ letters ∧ c ∉ digits ∧ c ≠ 32 ∧ c ≠ 10
/-- what stands behind a word does not go on with it -/
def EndOk (w cs : List Nat) : Prop := ∀ c d r, w.head? = some c → cs = d :: r → (c ∈ letters → d ∉ letters) ∧ (c ∈ digits → d ∉ digits)
/-- the text cs, from the place p on, holds the tokens T -/
inductive Lay : Nat → List Nat → Toks → Prop
  | done {p : Nat} : Lay p [] [((p : Int), "")]
  | blank {p c : Nat} {cs : List Nat} {T : Toks} : (c = 32 ∨ c = 10) → Lay (p + 1) cs T → Lay p (c :: cs) T
  | word {p : Nat} {w cs : List Nat} {T : Toks} : WordOk w → EndOk w cs → Lay (p + w.length) cs T → Lay p (w ++ cs) (((p : Int), SX.S w) :: T)
/-- how long the run of signs of S is -/
def run (S l : List Nat) : Nat := (l.takeWhile fun c => decide (c ∈ S)).length
theorem run_le (S l : List Nat) : run S l ≤ l.length := by
  unfold run
  exact (List.takeWhile_prefix _).length_le
theorem run_at {S : List Nat} : ∀ {l : List Nat} {j : Nat}, j < run S l → ∃ c, l[j]? = some c ∧ c ∈ S
  | [], j, h => by simp [run] at h
  | a :: r, j, h => by
    unfold run at h
    rw [List.takeWhile_cons] at h
    by_cases ha : a ∈ S
    · rw [if_pos (decide_eq_true ha), List.length_cons] at h
      cases j with
      | zero => exact ⟨a, rfl, ha⟩
      | succ j => exact run_at (l := r) (j := j) (by unfold run; omega)
    · rw [if_neg (by simp [ha])] at h
      simp at h
theorem run_end {S : List Nat} : ∀ {l : List Nat} {c : Nat}, l[run S l]? = some c → c ∉ S
  | [], c, h => by simp at h
  | a :: r, c, h => by
    unfold run at h
    rw [List.takeWhile_cons] at h
    by_cases ha : a ∈ S
    · rw [if_pos (decide_eq_true ha), List.length_cons, List.getElem?_cons_succ] at h
      exact run_end (l := r) (by unfold run; exact h)
    · rw [if_neg (by simp [ha])] at h
      have e : a = c := Option.some.inj h
      rw [← e]
      exact ha
theorem run_app {S : List Nat} : ∀ {w cs : List Nat}, (∀ c ∈ w, c ∈ S) → (∀ d r, cs = d :: r → d ∉ S) → run S (w ++ cs) = w.length
  | [], cs, _, h => by
    cases cs with
    | nil => rfl
    | cons d r => unfold run; rw [List.nil_append, List.takeWhile_cons, if_neg (by simp [h d r rfl])]; first | done | rfl
  | a :: w, cs, hw, h => by
    have ih := run_app (w := w) (cs := cs) (fun c hc => hw c (List.mem_cons_of_mem _ hc)) h
    unfold run at ih ⊢
    rw [List.cons_append, List.takeWhile_cons, if_pos (decide_eq_true (hw a (List.mem_cons_self ..))), List.length_cons, List.length_cons, ih]
/-- the end of the token whose first sign is c, r stands behind -/
def runEnd (c : Nat) (r : List Nat) : Nat := 1 + (if c ∈ letters then run letters r else 0) + (if c ∈ digits then run digits r else 0)
theorem runEnd_word {c : Nat} {r w cs : List Nat} (e : w ++ cs = c :: r) (hw : WordOk w) (he : EndOk w cs) : runEnd c r = w.length := by
  cases w with
  | nil =>
    rcases hw with h | h | ⟨c, h, _⟩
    · exact absurd rfl h.1
    · exact absurd rfl h.1
    · cases h
  | cons a v =>
    have ea : a = c := (List.cons.inj e).1
    have er : v ++ cs = r := (List.cons.inj e).2
    subst ea er
    unfold runEnd
    rcases hw with ⟨_, h⟩ | ⟨_, h⟩ | ⟨b, h, h1, h2, _⟩
    · have ha : a ∈ letters := h a (List.mem_cons_self ..)
      rw [if_pos ha, if_neg (let_not_dig _ ha), run_app (fun c hc => h c (List.mem_cons_of_mem _ hc)) (fun d r ed => (he a d r rfl ed).1 ha), List.length_cons]
      omega
    · have ha : a ∈ digits := h a (List.mem_cons_self ..)
      rw [if_neg (fun z => let_not_dig _ z ha), if_pos ha, run_app (fun c hc => h c (List.mem_cons_of_mem _ hc)) (fun d r ed => (he a d r rfl ed).2 ha), List.length_cons]
      omega
    · cases h
      rw [if_neg h1, if_neg h2]
      first | done | rfl
theorem blank_not : ∀ c ∈ ([32, 10] : List Nat), c ∉ letters ∧ c ∉ digits := by decide +kernel
def spTokenEnd : Sp := fun vs H Q _ => ∃ (z : Str) (p c : Nat) (r : List Nat), vs = [.str z, .int (p : Int)] ∧ z.cps.toList.drop p = c :: r ∧ z.length ≤ 10000 ∧ ∀ H', Same H H' → Q (.int ((p + runEnd c r : Nat) : Int)) H'
section
variable {P : Program} {w : World} {K : PySem.W.Frag} {mg : Str → Option Value} {base : Heap} {CC CB aR aS : Addr} {T : Toks} {f : Addr} {fd : FuncData}
theorem at_drop {z : Str} {p j c d : Nat} {r : List Nat} (h : z.cps.toList.drop p = c :: r) (hj : r[j]? = some d) : z.cps.toList[p + 1 + j]? = some d := by
  have e : (z.cps.toList.drop p)[1 + j]? = some d := by
    rw [h, Nat.add_comm 1 j, List.getElem?_cons_succ]
    exact hj
  rw [List.getElem?_drop] at e
  rw [← e]
  congr 1
  omega
theorem len_drop {z : Str} {p c : Nat} {r : List Nat} (h : z.cps.toList.drop p = c :: r) : z.length = p + 1 + r.length := by
  have e : (z.cps.toList.drop p).length = r.length + 1 := by rw [h]; rfl
  rw [List.length_drop] at e
  have : z.length = z.cps.toList.length := by unfold Str.length; simp
  omega
theorem hd_drop {z : Str} {p c : Nat} {r : List Nat} (h : z.cps.toList.drop p = c :: r) : z.cps.toList[p]? = some c := by
  have e : (z.cps.toList.drop p)[0]? = some c := by rw [h]; rfl
  rw [List.getElem?_drop] at e
  exact e
abbrev stoken_end : Stmt := top 31
abbrev ntoken_end : List Str := ["text", "at", "end", "signs"]
theorem sctoken_end : FnScope ntoken_end ["text", "at"] (defScope stoken_end) := ⟨rfl, rfl, rfl, by decide +kernel, rfl, by decide +kernel, by decide +kernel⟩
-- slots of token_end: 0 text, 1 at, 2 end, 3 signs
theorem ok_token_end (F : Fun K "token_end" "token_end" stoken_end f fd) (B : Blt mg) (C : Cst K mg aR aS) : FnOk P w K mg base CX0 1 f fd ["text", "at"] spTokenEnd := by
  refine F.own sctoken_end (fun vs H Q E h => ?_) (fun cdv A outer s H vs Q E hr h => ?_)
  · obtain ⟨z, p, c, r, rfl, _⟩ := h
    rfl
  obtain ⟨z, p, c, r, rfl, hd, hz, q⟩ := h
  refine ⟨_, (pss_cons (ps_set (i := 2) sctoken_end.nd rfl (by first | exact Or.inl rfl | exact Or.inr rfl) (pe_op op_add (pv 1) pe_int)) (pss_cons (ps_for (PassesOwn.never) rfl (pi_tup (pe_tup (pa_cons (pe_gc rfl C.LETTERS) (pa_cons (pe_gc rfl C.DIGITS) pa_nil)))) (pg_name (i := 3) sctoken_end.nd rfl (by first | exact Or.inl rfl | exact Or.inr rfl))
    (pss_one (ps_if (pt_cmpR op_in_sign (pe_ix ix_str (pv 0) (pv 1) (fun _ _ => rfl)) (pv 3) rfl)
    (pss_one (ps_while (PassesOwn.never) (PW.pt (pw_and (pt_cmpR op_lt (pv 2) (pe_callB call_len_str (by rfl) B.len PySem.boot_len (pa_cons (pv 0) pa_nil)) (nomark _)) (pw_and1 (pt_cmpR op_in_sign (pe_ix ix_str (pv 0) (pv 2) (fun _ _ => rfl)) (pv 3) rfl))))
    (pss_one (ps_aug (i := 2) sctoken_end.nd rfl (.inl rfl) pe_int ip_add)))) pss_nil))) (pss_one (ps_ret (pv 2))))), ?_⟩
  have hlen := len_drop hd
  have h0 := hd_drop hd
  have hsz : z.length ≤ sizeLine := by have : (10000 : Nat) ≤ sizeLine := by decide
                                       omega
  refine ⟨_, rfl, _, _, rfl, rfl, ?_⟩
  refine ⟨(by show 2 ≤ sizeLine; decide), fun a ha => ?_⟩
  refine ⟨a, rfl, ⟨_, SqT.of upd_same⟩, for_tup (xs := [.str lettersS, .str digitsS]) (fun i σ' H' => (∃ x, σ' = [some (.str z), some (.int (p : Int)), some (.int ((p + 1 + (if 0 < i ∧ c ∈ letters then run letters r else 0) + (if 1 < i ∧ c ∈ digits then run digits r else 0) : Nat) : Int)), x]) ∧ H' = L2.upd H a (.tup [.str lettersS, .str digitsS])) ⟨⟨_, rfl⟩, rfl⟩ ?_ ?_ ?_⟩
  · rintro i σ' H' _ ⟨_, rfl⟩
    exact SqT.of upd_same
  · rintro i x σ' H' hx ⟨⟨y, rfl⟩, rfl⟩
    obtain ⟨ss, S, rfl, hS, he, hn⟩ : ∃ (ss : Str) (S : List Nat), x = .str ss ∧ ss.cps.toList = S ∧ (c ∈ S → (p + 1 + (if 0 < i ∧ c ∈ letters then run letters r else 0) + (if 1 < i ∧ c ∈ digits then run digits r else 0)) = p + 1) ∧
        (p + 1 + (if 0 < i + 1 ∧ c ∈ letters then run letters r else 0) + (if 1 < i + 1 ∧ c ∈ digits then run digits r else 0)) = (p + 1 + (if 0 < i ∧ c ∈ letters then run letters r else 0) + (if 1 < i ∧ c ∈ digits then run digits r else 0)) + (if c ∈ S then run S r else 0) := by
      match i, hx with
      | 0, hx =>
        refine ⟨lettersS, letters, (Option.some.inj hx).symm, rfl, fun _ => by simp, ?_⟩
        by_cases hc : c ∈ letters <;> simp [hc]
      | 1, hx =>
        refine ⟨digitsS, digits, (Option.some.inj hx).symm, rfl, fun hc => ?_, ?_⟩
        · have : c ∉ letters := fun z => let_not_dig _ z hc
          simp [this]
        · by_cases hc : c ∈ digits <;> by_cases hl : c ∈ letters <;> simp [hc, hl]
      | n + 2, hx => cases hx
    rw [hn]
    generalize (p + 1 + (if 0 < i ∧ c ∈ letters then run letters r else 0) + (if 1 < i ∧ c ∈ digits then run digits r else 0)) = e at he
    refine ⟨_, rfl, _, rfl, z, _, c, rfl, rfl, hsz, atI_nat h0, _, rfl, c, ss, rfl, rfl, _, rfl, ?_⟩
    rw [hS]
    by_cases hc : c ∈ S
    · refine if_t (decide_eq_true hc) ?_
      rw [if_pos hc, he hc]
      refine ⟨fun m σ' H' => ∃ j, m = run S r - j ∧ j ≤ run S r ∧ σ' = [some (.str z), some (.int (p : Int)), some (.int ((p + 1 + j : Nat) : Int)), some (.str ss)] ∧ H' = L2.upd H a (.tup [.str lettersS, .str digitsS]), ⟨_, 0, rfl, Nat.zero_le _, rfl, rfl⟩, ?_⟩
      rintro m σ' H' ⟨j, rfl, hj, rfl, rfl⟩
      have hrl := run_le S r
      refine ⟨_, rfl, _, rfl, _, rfl, hsz, _, _, rfl, rfl, _, rfl, ?_⟩
      by_cases hend : p + 1 + j < z.length
      · refine if_t (decide_eq_true (by omega)) ?_
        obtain ⟨d, hdd⟩ : ∃ d, r[j]? = some d := ⟨_, List.getElem?_eq_getElem (by omega)⟩
        refine ⟨_, rfl, _, rfl, z, _, d, rfl, rfl, hsz, atI_nat (at_drop hd hdd), _, rfl, d, ss, rfl, rfl, _, rfl, ?_⟩
        rw [hS]
        by_cases hds : d ∈ S
        · refine if_t (decide_eq_true hds) ⟨_, fun _ _ z => z, ?_⟩
          have hjr : j < run S r := by
            refine Nat.lt_of_le_of_ne hj fun z => ?_
            rw [z] at hdd
            exact run_end hdd hds
          refine ⟨_, rfl, _, _, rfl, rfl, _, ?_, j + 1, rfl, by omega, ?_, rfl⟩
          · omega
          · show [some (V.str z), some (V.int (p : Int)), some (V.int (((p + 1 + j : Nat) : Int) + 1)), some (V.str ss)] = _
            rw [show ((p + 1 + j : Nat) : Int) + 1 = ((p + 1 + (j + 1) : Nat) : Int) by omega]
        · refine if_f (decide_eq_false hds) ⟨⟨some (.str ss), ?_⟩, rfl⟩
          have hjr : j = run S r := by
            refine Nat.le_antisymm hj (Nat.not_lt.mp fun z => ?_)
            obtain ⟨d', h1, h2⟩ := run_at z
            rw [hdd] at h1
            cases h1
            exact hds h2
          rw [hjr]
      · refine if_f (decide_eq_false (by omega)) (iteF ⟨⟨some (.str ss), ?_⟩, rfl⟩)
        have hjr : j = run S r := by omega
        rw [hjr]
    · refine if_f (decide_eq_false hc) ⟨⟨some (.str ss), ?_⟩, rfl⟩
      rw [if_neg hc]
      rfl
  · rintro σ' H' ⟨⟨x, rfl⟩, rfl⟩
    refine ⟨_, rfl, ?_⟩
    have := q _ (same_new ha (.tup [.str lettersS, .str digitsS]))
    unfold runEnd at this
    rw [show ([V.str lettersS, V.str digitsS]).length = 2 from rfl, show (p + 1 + (if 0 < 2 ∧ c ∈ letters then run letters r else 0) + (if 1 < 2 ∧ c ∈ digits then run digits r else 0)) = p + (1 + (if c ∈ letters then run letters r else 0) + (if c ∈ digits then run digits r else 0)) by simp; omega]
    exact this
theorem slice_mid {z : Str} {p : Nat} {u v : List Nat} (h : z.cps.toList.drop p = u ++ v) (h0 : p ≤ z.length) : Txt.slice z (some (p : Int)) (some ((p + u.length : Nat) : Int)) = SX.S u := by
  have hl : (z.cps.toList.drop p).length = u.length + v.length := by rw [h, List.length_append]
  rw [List.length_drop] at hl
  have hz : z.length = z.cps.toList.length := by unfold Str.length; simp
  have e := beq_iff_eq.mp (PyProof.Rows.slice_closesL (x := z) (i := (p : Int)) (j := ((p + u.length : Nat) : Int)) (by omega) (by omega) (by omega))
  rw [e]
  show (⟨((z.cps.toList.drop p).take (((p + u.length : Nat) : Int) - (p : Int)).toNat).toArray⟩ : Str) = _
  rw [h, show (((p + u.length : Nat) : Int) - (p : Int)).toNat = u.length by omega, List.take_left]
theorem Lay.nil {p : Nat} {T : Toks} (h : Lay p [] T) : T = ([((p : Int), ("" : Str))] : Toks) := by
  generalize e : ([] : List Nat) = cs at h
  cases h with
  | done => rfl
  | blank _ _ => cases e
  | word hw he hl =>
    rename_i w cs T'
    have : w = [] := (List.append_eq_nil_iff.mp e.symm).1
    subst this
    rcases hw with h | h | ⟨c, h, _⟩
    · exact absurd rfl h.1
    · exact absurd rfl h.1
    · cases h
theorem Lay.cons {p c : Nat} {r : List Nat} {T : Toks} (h : Lay p (c :: r) T) : ((c = 32 ∨ c = 10) ∧ runEnd c r = 1 ∧ Lay (p + 1) r T) ∨ (c ≠ 32 ∧ c ≠ 10 ∧ ∃ w cs T', c :: r = w ++ cs ∧ runEnd c r = w.length ∧ 0 < w.length ∧ T = ((p : Int), SX.S w) :: T' ∧ Lay (p + w.length) cs T') := by
  generalize e : c :: r = l at h
  cases h with
  | done => cases e
  | blank hb hl =>
    cases e
    refine .inl ⟨hb, ?_, hl⟩
    have := blank_not c (by rcases hb with h | h <;> simp [h])
    unfold runEnd
    rw [if_neg this.1, if_neg this.2]
  | word hw he hl =>
    rename_i w cs T'
    have hre := runEnd_word e.symm hw he
    have hpos : 0 < w.length := by
      rcases hw with h | h | ⟨c, h, _⟩
      · exact List.length_pos_iff.mpr h.1
      · exact List.length_pos_iff.mpr h.1
      · rw [h]; exact Nat.one_pos
    have hc : c ∈ w := by
      cases w with
      | nil => exact absurd hpos (by decide)
      | cons a v => rw [List.cons_append] at e; rw [(List.cons.inj e).1]; exact List.mem_cons_self ..
    have hne : c ≠ 32 ∧ c ≠ 10 := by
      have b1 : (32 : Nat) ∉ letters ∧ 32 ∉ digits := blank_not 32 (by decide)
      have b2 : (10 : Nat) ∉ letters ∧ 10 ∉ digits := blank_not 10 (by decide)
      rcases hw with h | h | ⟨d, h, _, _, h1, h2⟩
      · exact ⟨fun z => b1.1 (z ▸ h.2 c hc), fun z => b2.1 (z ▸ h.2 c hc)⟩
      · exact ⟨fun z => b1.2 (z ▸ h.2 c hc), fun z => b2.2 (z ▸ h.2 c hc)⟩
      · rw [h] at hc
        rw [List.mem_singleton.mp hc]
        exact ⟨h1, h2⟩
    exact .inr ⟨hne.1, hne.2, w, cs, T', rfl, hre, hpos, rfl, hl⟩
def RowV (K : PySem.W.Frag) (H : Hp) (t : Int × Str) (v : V) : Prop := ∃ p : Addr, v = .ref p ∧ SqT K H p [.int t.1, .str t.2]
def spTokens (K : PySem.W.Frag) (T : Toks) : Sp := fun vs H Q _ => ∃ z : Str, vs = [.str z] ∧ Lay 0 z.cps.toList T ∧ z.length ≤ 10000 ∧ T.length ≤ 1000 ∧ ∀ r H', Same H H' → RowsAt K T H' r → Q (.ref r) H'
theorem blanks_in (c : Nat) : decide (c ∈ (" \n" : Str).cps.toList) = decide (c = 32 ∨ c = 10) := by
  rw [show (" \n" : Str).cps.toList = [32, 10] by decide +kernel]
  simp
abbrev stokens : Stmt := top 30
abbrev ntokens : List Str := ["text", "found", "at", "end"]
theorem sctokens : FnScope ntokens ["text"] (defScope stokens) := ⟨rfl, rfl, rfl, by decide +kernel, rfl, by decide +kernel, by decide +kernel⟩
-- slots of tokens: 0 text, 1 found, 2 at, 3 end
theorem ok_tokens (F : Fun K "tokens" "tokens" stokens f fd) (B : Blt mg) (c_token_end : Cal P w K mg base CX0 1 "token_end" ["text", "at"] spTokenEnd) : FnOk P w K mg base CX0 2 f fd ["text"] (spTokens K T) := by
  refine F.own sctokens (fun vs H Q E h => ?_) (fun cdv A outer s H vs Q E hr h => ?_)
  · obtain ⟨z, rfl, _⟩ := h
    rfl
  obtain ⟨z, rfl, hL, hz, hT, q⟩ := h
  refine ⟨_, (pss_cons (ps_set (i := 1) sctokens.nd rfl (by first | exact Or.inl rfl | exact Or.inr rfl) (pe_lst pa_nil)) (pss_cons (ps_set (i := 2) sctokens.nd rfl (by first | exact Or.inl rfl | exact Or.inr rfl) pe_int) (pss_cons (ps_while (PassesOwn.never) (pt_cmpR op_lt (pv 2) (pe_callB call_len_str (by rfl) B.len PySem.boot_len (pa_cons (pv 0) pa_nil)) (nomark _))
    (pss_cons (ps_set (i := 3) sctokens.nd rfl (by first | exact Or.inl rfl | exact Or.inr rfl) (pe_c0 c_token_end hr (by omega) rfl (pa_cons (pv 0) (pa_cons (pv 2) pa_nil)))) (pss_cons (ps_if (pt_cmpR op_notIn_sign (pe_ix ix_str (pv 0) (pv 2) (fun _ _ => rfl)) pe_str rfl)
    (pss_one (ps_expr (pe_bm PySem.F.plainAttrs_list PySem.F.slot_list_append PySem.F.type_list_append mt_append (pv 1) (pa_cons (pe_tup (pa_cons (pv 2) (pa_cons (pe_slice C8.sl_txt (pv 0) (po_some (pv 2)) (po_some (pv 3))) pa_nil))) pa_nil)))) pss_nil) (pss_one (ps_set (i := 2) sctokens.nd rfl (by first | exact Or.inl rfl | exact Or.inr rfl) (pv 3)))))) (pss_cons (ps_expr (pe_bm PySem.F.plainAttrs_list PySem.F.slot_list_append PySem.F.type_list_append mt_append (pv 1) (pa_cons (pe_tup (pa_cons (pe_callB call_len_str (by rfl) B.len PySem.boot_len (pa_cons (pv 0) pa_nil)) (pa_cons pe_str pa_nil))) pa_nil))) (pss_one (ps_ret (pv 1))))))), ?_⟩
  have hsz : z.length ≤ sizeLine := by have : (10000 : Nat) ≤ sizeLine := by decide
                                       omega
  have hzl : z.length = z.cps.toList.length := by unfold Str.length; simp
  refine ⟨(by show 0 ≤ sizeLine; decide), fun L hL0 => ?_⟩
  refine ⟨fun m σ' H' => (∃ x, σ' = [some (.str z), some (.ref L), some (.int ((z.length - m : Nat) : Int)), x]) ∧ m ≤ z.length ∧ ∃ (T1 T2 : Toks) (rows : List V), T = T1 ++ T2 ∧ Lay (z.length - m) (z.cps.toList.drop (z.length - m)) T2 ∧ H' L = some (.lst rows) ∧ rows.length = T1.length ∧ (∀ (i : Nat) (t : Int × Str), T1[i]? = some t → ∃ v, rows[i]? = some v ∧ RowV K H' t v) ∧ Stp L H H',
    ⟨z.length, ⟨none, ?_⟩, Nat.le_refl _, [], T, [], rfl, ?_, upd_same, rfl, ?_, Stp.of (same_new hL0 _)⟩, ?_⟩
  · rw [Nat.sub_self]
    rfl
  · rw [Nat.sub_self]
    exact hL
  · intro i t h
    simp at h
  rintro m σ' H1 ⟨⟨x, rfl⟩, hm, T1, T2, rows, rfl, hL1, hl1, hr1, hv1, st1⟩
  have hTl : T1.length + T2.length ≤ 1000 := by rw [List.length_append] at hT; exact hT
  refine ⟨_, rfl, _, rfl, _, rfl, hsz, _, _, rfl, rfl, _, rfl, ?_⟩
  generalize hp : z.length - m = p at *
  have nL : ∀ {p2 : Addr}, H1 p2 = none → p2 ≠ L := fun h e => by rw [e, hl1] at h; cases h
  by_cases hlt : p < z.length
  · refine if_t (decide_eq_true (by omega)) ⟨_, fun _ _ z => z, ?_⟩
    obtain ⟨c, r, hcr⟩ : ∃ c r, z.cps.toList.drop p = c :: r := by
      cases e : z.cps.toList.drop p with
      | nil => have := List.drop_eq_nil_iff.mp e; omega
      | cons c r => exact ⟨c, r, rfl⟩
    refine ⟨_, rfl, _, rfl, z, p, c, r, rfl, hcr, hz, fun H2 s2 => ?_⟩
    refine ⟨_, rfl, _, rfl, z, _, c, rfl, rfl, hsz, atI_nat (hd_drop hcr), c, _, rfl, rfl, _, rfl, ?_⟩
    have hl2 := s2 _ _ hl1
    have tp2 : Tps H1 H2 := GR.Same.tps s2
    have hlen := len_drop hcr
    rw [blanks_in]
    rw [hcr] at hL1
    rcases Lay.cons hL1 with ⟨hb, hre, hlay⟩ | ⟨n1, n2, u, cs, T', hu, hre, hpos, rfl, hlay⟩
    · refine if_f (show (!decide (c = 32 ∨ c = 10)) = false by rw [decide_eq_true hb]; rfl) ?_
      refine ⟨_, rfl, m - 1, by omega, ⟨some (.int ((p + runEnd c r : Nat) : Int)), ?_⟩, by omega, T1, T2, rows, rfl, ?_, hl2, hr1, fun i t ht => ?_, st1.trans (Stp.of s2)⟩
      · rw [hre, show z.length - (m - 1) = p + 1 by omega]
        rfl
      · rw [show z.length - (m - 1) = p + 1 by omega, show z.cps.toList.drop (p + 1) = r by rw [← List.drop_drop, hcr]; rfl]
        exact hlay
      · obtain ⟨v, h1, p2, h2, h3⟩ := hv1 i t ht
        exact ⟨v, h1, p2, h2, tp2.tup h3⟩
    · refine if_t (show (!decide (c = 32 ∨ c = 10)) = true by rw [decide_eq_false (by omega)]; rfl) ?_
      have hul : u.length + cs.length = r.length + 1 := by rw [← List.length_append, ← hu]; rfl
      refine ⟨_, rfl, .inl ⟨rfl, _, SqL.of hl2⟩, _, rfl, _, rfl, _, rfl, _, rfl, _, rfl, _, rfl, z, rfl, hsz, (by show 2 ≤ sizeLine; decide), fun p2 hp2 => ?_⟩
      rw [hre, slice_mid (u := u) (v := cs) (by rw [hcr, hu]) (by omega)]
      have hl3 := same_new hp2 (.tup [.int (p : Int), .str (SX.S u)]) _ _ hl2
      have tp3 : Tps (L2.upd H2 p2 (.tup [.int (p : Int), .str (SX.S u)])) (L2.upd (L2.upd H2 p2 (.tup [.int (p : Int), .str (SX.S u)])) L (.lst (rows ++ [.ref p2]))) := tps_upd (rd_lst hl3)
      have hT2 : T1.length + (T'.length + 1) ≤ 1000 := hTl
      refine ⟨L, rows, _, rfl, rfl, hl3, small1000 (by omega), ?_⟩
      refine ⟨_, rfl, m - u.length, by omega, ⟨some (.int ((p + u.length : Nat) : Int)), ?_⟩, by omega, T1 ++ [((p : Int), SX.S u)], T', rows ++ [.ref p2], by rw [List.append_assoc]; rfl, ?_, upd_same, by rw [List.length_append, List.length_append, hr1]; rfl, fun i t ht => ?_, ?_⟩
      · rw [show z.length - (m - u.length) = p + u.length by omega]
        rfl
      · rw [show z.length - (m - u.length) = p + u.length by omega, show z.cps.toList.drop (p + u.length) = cs by rw [← List.drop_drop, hcr, hu]; exact List.drop_left]
        exact hlay
      · by_cases hi : i < T1.length
        · rw [List.getElem?_append_left hi] at ht
          obtain ⟨v, h1, p3, h2, h3⟩ := hv1 i t ht
          exact ⟨v, by rw [List.getElem?_append_left (by omega)]; exact h1, p3, h2, (tp2.trans ((tps_new hp2).trans tp3)).tup h3⟩
        · rw [List.getElem?_append_right (by omega)] at ht ⊢
          rw [hr1]
          cases e : i - T1.length with
          | zero =>
            rw [e] at ht
            have et : ((p : Int), SX.S u) = t := Option.some.inj ht
            subst et
            exact ⟨_, rfl, p2, rfl, tp3.tup (SqT.of upd_same)⟩
          | succ j => rw [e] at ht; simp at ht
      · intro b o nb eb
        rw [upd_ne nb]
        exact same_new hp2 _ _ _ (s2 _ _ (st1 b o nb eb))
  · refine if_f (decide_eq_false (by omega)) ?_
    have hpe : p = z.length := by omega
    rw [hpe, hzl, List.drop_length] at hL1
    have eT := Lay.nil hL1
    subst eT
    refine ⟨_, rfl, .inl ⟨rfl, _, SqL.of hl1⟩, _, rfl, _, rfl, hsz, (by show 2 ≤ sizeLine; decide), fun p2 hp2 => ?_⟩
    have hl3 := same_new hp2 (.tup [.int (z.length : Int), .str ""]) _ _ hl1
    have tp3 : Tps (L2.upd H1 p2 (.tup [.int (z.length : Int), .str ""])) (L2.upd (L2.upd H1 p2 (.tup [.int (z.length : Int), .str ""])) L (.lst (rows ++ [.ref p2]))) := tps_upd (rd_lst hl3)
    refine ⟨L, rows, _, rfl, rfl, hl3, small1000 (by omega), _, rfl, ?_⟩
    refine q _ _ (Stp.same (fun b o nb eb => ?_) hL0) ⟨rows ++ [.ref p2], SqL.of upd_same, by rw [List.length_append, List.length_append, hr1]; rfl, fun i t ht => ?_⟩
    · rw [upd_ne nb]
      exact same_new hp2 _ _ _ (st1 b o nb eb)
    · by_cases hi : i < T1.length
      · rw [List.getElem?_append_left hi] at ht
        obtain ⟨v, h1, p3, h2, h3⟩ := hv1 i t ht
        exact ⟨p3, by rw [List.getElem?_append_left (by omega), h1, h2], ((tps_new hp2).trans tp3).tup h3⟩
      · rw [List.getElem?_append_right (by omega)] at ht ⊢
        rw [hr1]
        cases e : i - T1.length with
        | zero =>
          rw [e] at ht
          have et : (((z.cps.toList.length : Nat) : Int), ("" : Str)) = t := Option.some.inj ht
          subst et
          rw [← hzl]
          exact ⟨p2, rfl, tp3.tup (SqT.of upd_same)⟩
        | succ j => rw [e] at ht; simp at ht
end
end GR
set_option Elab.async false
set_option linter.all false
set_option maxRecDepth 100000
set_option maxHeartbeats 4000000
namespace GR
open PySem PySem.Spec PyProof.Rows L2
section
variable {P : Program} {w : World} {K : PySem.W.Frag} {Wd : Str → Prop} {mg : Str → Option Value} {base : Heap} {CC CB aR aS : Addr} {T : Toks} {f : Addr} {fd : FuncData} {n : Nat}
theorem RowsAt.ins {H : Hp} {r x C dx : Addr} {fs : List (Str × V)} {o : HO} (h : RowsAt K T H r) (hx : H x = some (.ins C dx fs)) : RowsAt K T (L2.upd H x o) r := by
  obtain ⟨rows, h1, h2, h3⟩ := h
  have st : Stp x H (L2.upd H x o) := fun b u n e => by rw [upd_ne n]; exact e
  refine ⟨rows, ?_, h2, fun i t e => ?_⟩
  · rcases h1 with (h | ⟨o', h⟩) | h
    · exact .inl (.inl (st _ _ (fun z => by rw [z, hx] at h; cases h) h))
    · exact .inl (.inr ⟨o', st _ _ (fun z => by rw [z, hx] at h; cases h) h⟩)
    · exact .inr h
  · obtain ⟨p, q1, q2⟩ := h3 i t e
    exact ⟨p, q1, st.tup (rd_ins hx) q2⟩
def spInit (K : PySem.W.Frag) (CC : Addr) (T : Toks) : Sp := fun vs H Q _ => ∃ (x dx : Addr) (z : Str), vs = [.ref x, .str z] ∧ H x = some (.ins CC dx []) ∧ Lay 0 z.cps.toList T ∧ z.length ≤ 10000 ∧ T.length ≤ 1000 ∧
  ∀ r H', Stp x H H' → H' x = some (.ins CC dx (cur r 0)) → RowsAt K T H' r → Q .non H'
abbrev sCursor_init : Stmt := mth 37 0
abbrev nCursor_init : List Str := ["self", "text"]
theorem scCursor_init : FnScope nCursor_init ["self", "text"] (defScope sCursor_init) := ⟨rfl, rfl, rfl, by decide +kernel, rfl, by decide +kernel, by decide +kernel⟩
-- slots of Cursor_init: 0 self, 1 text
theorem ok_Cursor_init (F : Fun K "__init__" "Cursor.__init__" sCursor_init f fd) (C : CurC K mg CC) (c_tokens : Cal P w K mg base CX0 2 "tokens" ["text"] (spTokens K T)) : FnOk P w K mg base CX0 3 f fd ["self", "text"] (spInit K CC T) := by
  refine F.own scCursor_init (fun vs H Q E h => ?_) (fun cdv A outer s H vs Q E hr h => ?_)
  · obtain ⟨x, dx, z, rfl, _⟩ := h
    rfl
  obtain ⟨x, dx, z, rfl, hx, hL, hz, hT, q⟩ := h
  refine ⟨_, (pss_cons (ps_fld (pv 0) (pe_c0 c_tokens hr (by omega) rfl (pa_cons (pv 1) pa_nil)) rfl) (pss_one (ps_fld (pv 0) pe_int rfl))), ?_⟩
  refine ⟨_, rfl, z, rfl, hL, hz, hT, fun r H1 s1 hrow => ?_⟩
  have hx1 := s1 _ _ hx
  refine ⟨_, rfl, x, CC, dx, _, rfl, hx1, C.cl, C.nR, (by show 0 < 1000; decide), ?_⟩
  refine ⟨_, rfl, x, CC, dx, _, rfl, upd_same, C.cl, C.nP, (by show 1 < 1000; decide), ?_⟩
  have hrow2 := (hrow.ins (o := .ins CC dx (putF "row" (.ref r) [])) hx1).ins (o := .ins CC dx (cur r 0)) upd_same
  refine q r _ (fun b u n e => ?_) upd_same hrow2
  rw [upd_ne n, upd_ne n]
  exact s1 _ _ e
/-- the promise of read_definitions -/
def spDefs (K : PySem.W.Frag) (Wd : Str → Prop) (CB : Addr) (T : Toks) (n : Nat) : Sp := fun vs H Q E => ∃ (z : Str), vs = [.str z] ∧ Lay 0 z.cps.toList T ∧ z.length ≤ 10000 ∧ TokOk T ∧ ops T 0 < n ∧ n ≤ 100 ∧
  (∀ b ds H', Same H H' → GR.Run (ks T) ["program"] 0 none → SqT K H' b ds → ds.length ≤ 1000 → (∀ d ∈ ds, DefV K Wd (3 * n) 1000 H' d) → Q (.ref b) H') ∧
  (∀ (j : Nat) (t : Int × Str) (d : Addr) (H' : Hp), GR.Run (ks T) ["program"] 0 (some j) → T[j]? = some t → Same H H' → AtX d t.1 H' → E (.ref CB) (some d) H')
theorem Bad.run {ks : List Str} {X : Str} {p j : Nat} (h : Bad ks [X] p j) : GR.Run ks [X] p (some j) := by
  have := h []
  exact this
abbrev sread_definitions : Stmt := top 38
abbrev nread_definitions : List Str := ["text", "cursor", "found"]
theorem scread_definitions : FnScope nread_definitions ["text"] (defScope sread_definitions) := ⟨rfl, rfl, rfl, by decide +kernel, rfl, by decide +kernel, by decide +kernel⟩
-- slots of read_definitions: 0 text, 1 cursor, 2 found
theorem ok_read_definitions {fI : Addr} {fdI : FuncData} (F : Fun K "read_definitions" "read_definitions" sread_definitions f fd) (Z : Par P w K Wd mg base CC CB aS T) (MK : Mk K CC fI) (FI : FnOk P w K mg base CX0 3 fI fdI ["self", "text"] (spInit K CC T)) (bI : Binds K fdI ["self", "text"] [])
    (c_read_definition : Cal P w K mg base (L2.CX P w) (lvE n + 1) "read_definition" ["cursor"] (spDef K Wd CC CB T n)) :
    FnOk P w K mg base (L2.CX P w) (lvE n + 2) f fd ["text"] (spDefs K Wd CB T n) := by
  refine F.ownX (k := lvE n + 1) scread_definitions (fun vs H Q E h => ?_) (fun cdv A outer s H vs Q E hr h => ?_)
  · obtain ⟨z, rfl, _⟩ := h
    rfl
  obtain ⟨z, rfl, hL, hz, _, ho, hn, q, e⟩ := h
  obtain ⟨B, TK, len, nums, wd, C, SIGNS, hS, DEEPEST, xBadText, m_next_at, m_next_word, m_take, m_take_word, m_take_name, c_is_plain_name, c_is_number⟩ := Z
  have hlv : lvE n = 6 * n + 4 := rfl
  refine ⟨_, (pss_cons (ps_set (i := 1) scread_definitions.nd rfl (by first | exact Or.inl rfl | exact Or.inr rfl) (pe_make MK FI (hr.mono (by omega)) (by rfl) C.mg bI .nil (pa_cons (pv 0) pa_nil))) (pss_cons (ps_set (i := 2) scread_definitions.nd rfl (by first | exact Or.inl rfl | exact Or.inr rfl) (pe_lst (pa_cons (pe_cX c_read_definition (takes_of rfl rfl rfl rfl) hr (by omega) rfl (pa_cons (pv 1) pa_nil)) pa_nil))) (pss_cons (ps_while (passes_of rfl) (pt_cmpR op_ne (pe_m00 m_next_word hr (by omega) (pv 1)) pe_str (nomark _))
    (pss_one (ps_expr (pe_bm PySem.F.plainAttrs_list PySem.F.slot_list_append PySem.F.type_list_append mt_append (pv 2) (pa_cons (pe_cX c_read_definition (takes_of rfl rfl rfl rfl) hr (by omega) rfl (pa_cons (pv 1) pa_nil)) pa_nil))))) (pss_one (ps_ret (pe_callTy call_tuple_of (by rfl) B.tuple (by decide +kernel) (pa_cons (pv 2) pa_nil))))))), ?_⟩
  have hlim := TK.lim
  refine ⟨_, rfl, fun x dx hx hdx hne => ?_⟩
  refine ⟨x, dx, z, rfl, upd_same, hL, hz, hlim, fun r H1 s1 hx1 hrow => ⟨rfl, ?_⟩⟩
  have s01 : Same H H1 := fun b u eb => s1 b u (ne_of_none eb hx) (by rw [upd_ne (ne_of_none eb hx), upd_ne (ne_of_none eb hdx)]; exact eb)
  have hC : CurAt K CC T H1 x r 0 := ⟨dx, hx1, hrow⟩
  have A0 := At.start (X := ["program"]) hC TK.pos
  have hoq : ∀ p, ops T p < n := fun p => by have := ops_le (T := T) (Nat.zero_le p); omega
  have e' : Ex CB T x H1 0 ["program"] E := fun j u d H' hb hu hs ha => e j u d H' hb.run hu (fun b o eb => hs b o (ne_of_none eb hx) (s01 b o eb)) ha
  obtain ⟨t, ht⟩ := A0.word
  refine ⟨_, rfl, x, r, 0, t, rfl, hC, ht, hoq 0, hn, fun hd q2 v2 H2 l2 B2 hv2 => ?_, fun j u d H' hb hj hu hs ha => ?_⟩
  case refine_2 =>
    by_cases hd : kd t.2 = "def"
    · have A1 := A0.expK (b' := ["definition", "more"]) ht hd nx_program_def
      exact A1.ex (Y := ["definition"]) e' j u d H' hb hu hs ha
    · have ej := hj hd
      subst ej
      exact e' _ u d H' (Bad.stuck (ks_at ht) (ns_program (nin1 hd))) hu hs ha
  have A1 := A0.expK (b' := ["definition", "more"]) ht hd nx_program_def
  have A2 := A1.sub (Y := ["definition"]) B2
  refine ⟨(by show 1 ≤ sizeLine; decide), fun L hL => ?_⟩
  have hL0 := A2.fresh hL
  refine ⟨fun m σ' H' => σ' = [some (.str z), some (.ref x), some (.ref L)] ∧ ∃ p es, m = T.length - p ∧ At K CC T x r H1 0 ["program"] H' p ["more"] ∧ H' L = some (.lst es) ∧ es.length ≤ p ∧ ∀ e ∈ es, DefV K Wd (3 * n) p H' e,
    ⟨_, rfl, q2, [v2], rfl, A2.new hL, upd_same, l2, fun y hy => ?_⟩, ?_⟩
  · rw [List.mem_singleton.mp hy]
    exact hv2.mono (tps_new hL) (Nat.le_refl _) (Nat.le_refl _)
  rintro m σ' H5 ⟨rfl, p, es, rfl, A5, hl5, hn5, he5⟩
  have hlt5 := A5.lt
  obtain ⟨t5, ht5⟩ := A5.word
  refine ⟨_, rfl, A5.nw ht5 ⟨rfl, _, rfl, ?_⟩⟩
  by_cases h5 : t5.2 = ""
  · refine if_f (neF h5) ?_
    have A6 := A5.expK (b' := []) ht5 (kd_end.mpr h5) nx_more_end
    refine ⟨_, rfl, L, _, rfl, .inl ⟨SqL.of hl5, fun b hb => ?_⟩⟩
    refine q b es _ (fun a o ea => ?_) ?_ (SqT.of upd_same) (by omega) fun y hy => (he5 y hy).mono (tps_new hb) (Nat.le_refl _) (by omega)
    · exact same_new hb _ _ _ (A6.stp a o (ne_of_none ea hx) (s01 a o ea))
    · exact A6.via [] none ⟨0, .fin (by rw [ks_at ht5, kd_end.mpr h5])⟩
  · refine if_t (neT h5) ⟨_, fun _ _ z => z, ?_⟩
    refine ⟨_, rfl, .inl ⟨rfl, _, SqL.of hl5⟩, _, rfl, x, r, p, t5, rfl, A5.cur, ht5, hoq p, hn, fun hd5 q6 v6 H6 l6 B6 hv6 => ?_, fun j u d H' hb hj hu hs ha => ?_⟩
    · have A6 := A5.expK (b' := ["definition", "more"]) ht5 hd5 nx_more_def
      have A7 := A6.sub (Y := ["definition"]) B6
      have hL6 : H6 L = some (.lst es) := B6.stp _ _ (A2.c0 hL0) hl5
      have tp2 : Tps H6 (L2.upd H6 L (.lst (es ++ [v6]))) := tps_upd (rd_lst hL6)
      have tp : Tps H5 (L2.upd H6 L (.lst (es ++ [v6]))) := (A5.tps B6.stp).trans tp2
      refine ⟨L, es, v6, rfl, rfl, hL6, small1000 (by omega), _, ?_, rfl, q6, es ++ [v6], rfl, A7.upd hL0, upd_same, ?_, fun y hy => ?_⟩
      · omega
      · rw [List.length_append, List.length_singleton]
        omega
      · rcases List.mem_append.mp hy with hy | hy
        · exact (he5 y hy).mono tp (Nat.le_refl _) (by omega)
        · rw [List.mem_singleton.mp hy]
          exact hv6.mono tp2 (Nat.le_refl _) (Nat.le_refl _)
    · by_cases hd5 : kd t5.2 = "def"
      · have A6 := A5.expK (b' := ["definition", "more"]) ht5 hd5 nx_more_def
        exact A6.ex (Y := ["definition"]) e' j u d H' hb hu hs ha
      · have ej := hj hd5
        subst ej
        exact e' _ u d H' (A5.via.bad (Bad.stuck (ks_at ht5) (ns_more (nin2 hd5 fun z => h5 (kd_end.mp z))))) hu (A5.stp.trans hs) ha
end
end GR
set_option Elab.async false
set_option linter.all false
set_option maxRecDepth 100000
set_option maxHeartbeats 4000000
namespace GR
open PySem PySem.Spec PyProof.Rows L2
section
variable {P : Program} {w : World} {K : PySem.W.Frag} {Wd : Str → Prop} {mg : Str → Option Value} {base : Heap} {CC CB aR aS : Addr} {T : Toks} {f : Addr} {fd : FuncData} {n : Nat}
/-- a def of the module as the top has made it -/
def Df (K : PySem.W.Frag) (mg : Str → Option Value) (x : Str) (st : Stmt) (ps : List Str) : Prop := ∃ f fd, Fun K x x st f fd ∧ mg x = some (.ref f) ∧ Binds K fd ps []
/-- a method -/
def Dm (K : PySem.W.Frag) (C : Addr) (m qual : Str) (st : Stmt) (ps : List Str) : Prop := ∃ f fd, Meth K C m f ∧ Fun K m qual st f fd ∧ Binds K fd ps []
theorem Df.cal {CX : CXT} {k : Nat} {x : Str} {st : Stmt} {ps : List Str} {sp : Sp} (D : Df K mg x st ps) (h : ∀ f fd, Fun K x x st f fd → FnOk P w K mg base CX k f fd ps sp) : Cal P w K mg base CX k x ps sp :=
  let ⟨f, fd, F, m, b⟩ := D; ⟨f, fd, m, F.kp, b, h f fd F⟩
theorem Dm.met {CX : CXT} {k : Nat} {C : Addr} {m qual : Str} {st : Stmt} {ps : List Str} {sp : Sp} (D : Dm K C m qual st ps) (cl : Cls K C) (h : ∀ f fd, Fun K m qual st f fd → FnOk P w K mg base CX k f fd ps sp) : Met P w K mg base CX k C m ps sp :=
  let ⟨f, fd, M, F, b⟩ := D; ⟨cl, f, fd, M, b, h f fd F⟩
/-- the facts of the parser's defs -/
structure PF (P : Program) (w : World) (K : PySem.W.Frag) (mg : Str → Option Value) (CC CB aR aS : Addr) : Prop where
  B : Blt mg
  S : Cst K mg aR aS
  C : CurC K mg CC
  xB : ExcR P w K mg "BadText" CB 1 mf1
  tokens : Df K mg "tokens" stokens ["text"]
  token_end : Df K mg "token_end" stoken_end ["text", "at"]
  is_plain_name : Df K mg "is_plain_name" sis_plain_name ["word"]
  is_number : Df K mg "is_number" sis_number ["word"]
  init : ∃ fI fdI, Mk K CC fI ∧ Fun K "__init__" "Cursor.__init__" sCursor_init fI fdI ∧ Binds K fdI ["self", "text"] []
  next_at : Dm K CC "next_at" "Cursor.next_at" sCursor_next_at ["self"]
  next_word : Dm K CC "next_word" "Cursor.next_word" sCursor_next_word ["self"]
  take : Dm K CC "take" "Cursor.take" sCursor_take ["self"]
  take_word : Dm K CC "take_word" "Cursor.take_word" sCursor_take_word ["self", "word"]
  take_name : Dm K CC "take_name" "Cursor.take_name" sCursor_take_name ["self"]
  read_definitions : Df K mg "read_definitions" sread_definitions ["text"]
  read_definition : Df K mg "read_definition" sread_definition ["cursor"]
  read_expr : Df K mg "read_expr" sread_expr ["cursor", "level"]
  read_test : Df K mg "read_test" sread_test ["cursor", "level"]
  read_chain : Df K mg "read_chain" sread_chain ["cursor", "level"]
  read_part : Df K mg "read_part" sread_part ["cursor", "level"]
  read_change : Df K mg "read_change" sread_change ["cursor", "level"]
  read_base : Df K mg "read_base" sread_base ["cursor", "level"]
  read_arguments : Df K mg "read_arguments" sread_arguments ["cursor", "level"]
  read_fields : Df K mg "read_fields" sread_fields ["cursor", "level"]
  read_field : Df K mg "read_field" sread_field ["cursor", "level"]
/-- what is asked of the tokens -/
structure TkOk (T : Toks) : Prop where
  TK : TokOk T
  len : ∀ t ∈ T, t.2.length ≤ 1000
  nums : ∀ t ∈ T, number t.2 = true → ∃ i, PySem.intText? t.2 = some i
theorem PF.par (Z : PF P w K mg CC CB aR aS) (hT : TkOk T) (hwd : ∀ t ∈ T, Wd t.2) : Par P w K Wd mg base CC CB aS T := by
  have hp : Cal P w K mg base CX0 1 "is_plain_name" ["word"] spPlain := Z.is_plain_name.cal fun f fd F => ok_plain F Z.B Z.S
  have hna : Met P w K mg base CX0 1 CC "next_at" ["self"] (spNextAt K CC T) := Z.next_at.met Z.C.cl fun f fd F => ok_next_at F Z.C
  have hnw : Met P w K mg base CX0 1 CC "next_word" ["self"] (spNextWord K CC T) := Z.next_word.met Z.C.cl fun f fd F => ok_next_word F Z.C
  have htk : Met P w K mg base CX0 2 CC "take" ["self"] (spTake K CC T) := Z.take.met Z.C.cl fun f fd F => ok_take F Z.C hna
  exact { B := Z.B, TK := hT.TK, len := hT.len, nums := hT.nums, wd := hwd, C := Z.C, SIGNS := Z.S.SIGNS, hS := Z.S.hS, DEEPEST := Z.S.DEEPEST, xBadText := Z.xB, m_next_at := hna, m_next_word := hnw, m_take := htk,
          m_take_word := Z.take_word.met Z.C.cl fun f fd F => ok_take_word F Z.C Z.xB hna hnw htk,
          m_take_name := Z.take_name.met Z.C.cl fun f fd F => ok_take_name F Z.C Z.xB hna hnw hp hT.len,
          c_is_plain_name := hp, c_is_number := Z.is_number.cal fun f fd F => ok_number F Z.B Z.S }
theorem none_left {X : List Str} {val : Nat → Hp → V → Prop} {CX : CXT} {k : Nat} : FnOk P w K mg base CX k f fd ["cursor", "level"] (spRd K CC CB T X val 0) := by
  have no : ∀ vs H Q E, ¬ spRd K CC CB T X val 0 vs H Q E := fun vs H Q E h => by
    obtain ⟨c, r, k, l, _, _, _, h1, _⟩ := h
    omega
  exact ⟨fun vs H Q E h => absurd h (no vs H Q E), fun A outer s H args us vs Q E _ _ _ _ h => absurd h (no vs H Q E)⟩
/-- read_expr and read_test where n openers are left -/
theorem fam (Z : PF P w K mg CC CB aR aS) (hT : TkOk T) (hwd : ∀ t ∈ T, Wd t.2) : ∀ n : Nat, Cal P w K mg base (L2.CX P w) (lvE n) "read_expr" ["cursor", "level"] (spRd K CC CB T ["expr"] (vlE K Wd (3 * n)) n) ∧
    Cal P w K mg base (L2.CX P w) (lvE n) "read_test" ["cursor", "level"] (spRd K CC CB T ["test"] (vlTest K Wd (3 * n)) n)
  | 0 => ⟨Z.read_expr.cal fun f fd F => none_left, Z.read_test.cal fun f fd F => none_left⟩
  | n + 1 => by
    obtain ⟨hE, hTs⟩ := fam Z hT hwd n
    have par : Par P w K Wd mg base CC CB aS T := Z.par hT hwd
    have ha := Z.read_arguments.cal fun f fd F => ok_read_arguments F par hE
    have hfd := Z.read_field.cal fun f fd F => ok_read_field F par hE
    have hfs := Z.read_fields.cal fun f fd F => ok_read_fields F par hfd
    have hch := Z.read_change.cal fun f fd F => ok_read_change F par hE
    have hb := Z.read_base.cal fun f fd F => ok_read_base F par hE ha hfs
    have hp := Z.read_part.cal fun f fd F => ok_read_part F par hb hch
    have hc := Z.read_chain.cal fun f fd F => ok_read_chain F par hp
    exact ⟨Z.read_expr.cal fun f fd F => ok_read_expr F par hE hc hTs, Z.read_test.cal fun f fd F => ok_read_test (n := n + 1) (m := lvE n + 5) F par (by omega) hc⟩
theorem PF.defs (Z : PF P w K mg CC CB aR aS) (hT : TkOk T) (hwd : ∀ t ∈ T, Wd t.2) (n : Nat) : Cal P w K mg base (L2.CX P w) (lvE n + 2) "read_definitions" ["text"] (spDefs K Wd CB T n) := by
  have par : Par P w K Wd mg base CC CB aS T := Z.par hT hwd
  have hte : Cal P w K mg base CX0 1 "token_end" ["text", "at"] spTokenEnd := Z.token_end.cal fun f fd F => ok_token_end F Z.B Z.S
  have htk : Cal P w K mg base CX0 2 "tokens" ["text"] (spTokens K T) := Z.tokens.cal fun f fd F => ok_tokens F Z.B hte
  obtain ⟨fI, fdI, MK, FI, bI⟩ := Z.init
  have hd := Z.read_definition.cal fun f fd F => ok_read_definition (n := n) F par (fam Z hT hwd n).1
  exact Z.read_definitions.cal fun f fd F => ok_read_definitions F par MK (ok_Cursor_init FI Z.C htk) bI hd
end
end GR
set_option Elab.async false
set_option linter.all false
set_option maxRecDepth 100000
set_option maxHeartbeats 4000000
namespace GR
open PySem PySem.Spec PyProof.Rows L2
section
variable {P : Program} {w : World} {K : PySem.W.Frag} {Wd : Str → Prop} {mg : Str → Option Value} {base : Heap} {CC CB aR aS : Addr} {T : Toks} {f : Addr} {fd : FuncData} {n : Nat}
variable {N : Nat} {cl : Str → Nat → Prop}
theorem sml {n : Nat} (h : n ≤ 10000) : n ≤ sizeLine := Nat.le_trans h (by decide)
theorem sml1 {n : Nat} (h : n ≤ 10000) : n < sizeLine := Nat.lt_of_le_of_lt h (by decide)
/-- an expression with a row of parts: if, chain, part -/
def InnS (K : PySem.W.Frag) (Wd : Str → Prop) (N : Nat) (H : Hp) (R : V → Prop) (v : V) : Prop := ∃ (a b : Addr) (rs : List V), v = .ref a ∧ SqT K H b rs ∧ rs.length ≤ N ∧
  ((∃ p e1 e2, SqT K H a [.str "if", .int p, .ref b, e1, e2] ∧ (∀ r ∈ rs, TestS K Wd H R r) ∧ R e1 ∧ R e2) ∨ (∃ f, SqT K H a [.str "chain", f, .ref b] ∧ R f ∧ ∀ r ∈ rs, SignS K H R r) ∨ ∃ f, SqT K H a [.str "part", f, .ref b] ∧ R f ∧ ∀ r ∈ rs, StepV K Wd H N R r)
/-- what is asked of the first i rows comes down to their parts in acc -/
def Cov (S : (V → Prop) → V → Prop) (rs acc : List V) (i : Nat) : Prop := ∀ (j : Nat) (r : V), j < i → rs[j]? = some r → ∀ R' : V → Prop, (∀ x ∈ acc, R' x) → S R' r
theorem Cov.nil {S : (V → Prop) → V → Prop} {rs acc : List V} : Cov S rs acc 0 := fun j r h => absurd h (Nat.not_lt_zero _)
theorem Cov.skip {S : (V → Prop) → V → Prop} {rs acc : List V} {i : Nat} {x : V} (c : Cov S rs acc i) (hx : rs[i]? = some x) (h : ∀ R', S R' x) : Cov S rs acc (i + 1) := fun j r hj hr R' ha => by
  rcases Nat.lt_succ_iff_lt_or_eq.mp hj with z | z
  · exact c j r z hr R' ha
  · subst z
    rw [hx] at hr
    cases hr
    exact h R'
theorem Cov.snoc {S : (V → Prop) → V → Prop} {rs acc : List V} {i : Nat} {x y : V} (c : Cov S rs acc i) (hx : rs[i]? = some x) (h : ∀ R' : V → Prop, R' y → S R' x) : Cov S rs (acc ++ [y]) (i + 1) := fun j r hj hr R' ha => by
  rcases Nat.lt_succ_iff_lt_or_eq.mp hj with z | z
  · exact c j r z hr R' fun a b => ha a (List.mem_append_left _ b)
  · subst z
    rw [hx] at hr
    cases hr
    exact h R' (ha y (List.mem_append_right _ (List.mem_singleton.mpr rfl)))
theorem Cov.all {S : (V → Prop) → V → Prop} {rs acc : List V} (c : Cov S rs acc rs.length) {R' : V → Prop} (h : ∀ x ∈ acc, R' x) : ∀ r ∈ rs, S R' r := fun r hr => by
  obtain ⟨j, hj, e⟩ := List.mem_iff_getElem.mp hr
  exact c j r hj (by rw [List.getElem?_eq_getElem hj, e]) R' h
theorem InnS.mono {H H' : Hp} {R R' : V → Prop} {v : V} (e : Tps H H') (hr : ∀ v, R v → R' v) (h : InnS K Wd N H R v) : InnS K Wd N H' R' v := by
  obtain ⟨a, b, rs, rfl, hb, hN, hc⟩ := h
  refine ⟨a, b, rs, rfl, e.tup hb, hN, ?_⟩
  rcases hc with ⟨p, e1, e2, ha, hrs, h1, h2⟩ | ⟨g, ha, hg, hrs⟩ | ⟨g, ha, hg, hrs⟩
  · exact .inl ⟨p, e1, e2, e.tup ha, fun r hr' => (hrs r hr').mono e hr, hr _ h1, hr _ h2⟩
  · exact .inr (.inl ⟨g, e.tup ha, hr _ hg, fun r hr' => (hrs r hr').mono e hr⟩)
  · exact .inr (.inr ⟨g, e.tup ha, hr _ hg, fun r hr' => (hrs r hr').mono e (Nat.le_refl _) hr⟩)
theorem Sh.of_inn {H : Hp} {nm : Str → Prop} {R : (Str → Prop) → V → Prop} {v : V} (h : InnS K Wd N H (R nm) v) : Sh K Wd N cl H nm R v := by
  obtain ⟨a, b, rs, rfl, hb, hN, hc⟩ := h
  rcases hc with ⟨p, e1, e2, ha, hrs, h1, h2⟩ | ⟨g, ha, hg, hrs⟩ | ⟨g, ha, hg, hrs⟩
  · exact .ifs ha hb hN hrs h1 h2
  · exact .chain ha hg hb hN hrs
  · exact .part ha hg hb hN hrs
def spInner (K : PySem.W.Frag) (Wd : Str → Prop) (N : Nat) (R : Hp → V → Prop) : Sp := fun vs H Q _ => ∃ v, vs = [v] ∧ InnS K Wd N H (R H) v ∧ N ≤ 1000 ∧ ∀ p H' es, Same H H' → H' p = some (.lst es) → es.length ≤ N + 2 → (∀ e ∈ es, R H' e) → (∀ R' : V → Prop, (∀ e ∈ es, R' e) → InnS K Wd N H R' v) → Q (.ref p) H'
abbrev sinner_exprs : Stmt := top 14
abbrev ninner_exprs : List Str := ["expr", "test", "row", "step"]
theorem scinner_exprs : FnScope ninner_exprs ["expr"] (defScope sinner_exprs) := ⟨rfl, rfl, rfl, by decide +kernel, rfl, by decide +kernel, by decide +kernel⟩
-- slots of inner_exprs: 0 expr, 1 test, 2 row, 3 step
theorem ok_inner_exprs {R : Hp → V → Prop} (hR : ∀ H H' v, Tps H H' → R H v → R H' v) (F : Fun K "inner_exprs" "inner_exprs" sinner_exprs f fd) : FnOk P w K mg base CX0 1 f fd ["expr"] (spInner K Wd N R) := by
  refine F.own scinner_exprs (fun vs H Q E h => ?_) (fun cdv A outer s H vs Q E hr h => ?_)
  · obtain ⟨v, rfl, _⟩ := h
    rfl
  obtain ⟨v, rfl, ⟨a, b, rs, rfl, hb, hN, hc⟩, hN2, q⟩ := h
  refine ⟨_, (pss_cons (ps_if (pt_cmpR op_eq (pe_ix ix_tup (pv 0) pe_int (fun _ _ => rfl)) pe_str (nomark _))
    (pss_one (ps_ret (pe_op op_cat (pe_lc (own := [("test", 1)]) (g := (gName 1)) (tt := tYes) (te := (tOp (rIxT K) _ _)) (by rfl) scinner_exprs.nd (pi_tup (pe_ix ix_tup (pv 0) pe_int (fun _ _ => rfl))) (blkOk_by (own := [("test", 1)]) (N := ninner_exprs) (sc := (defScope sinner_exprs)) (by decide +kernel)) (fun _ _ _ _ _ => (pg_name (i := 1) scinner_exprs.nd rfl (by first | exact Or.inl rfl | exact Or.inr rfl))) (fun _ _ _ _ _ => pts_nil) (fun _ _ _ _ _ => (pe_ix ix_tup (pv 1) pe_int (fun _ _ => rfl)))) (pe_lst (pa_cons (pe_ix ix_tup (pv 0) pe_int (fun _ _ => rfl)) (pa_cons (pe_ix ix_tup (pv 0) pe_int (fun _ _ => rfl)) pa_nil)))))) pss_nil) (pss_cons (ps_if (pt_cmpR op_eq (pe_ix ix_tup (pv 0) pe_int (fun _ _ => rfl)) pe_str (nomark _))
    (pss_one (ps_ret (pe_op op_cat (pe_lst (pa_cons (pe_ix ix_tup (pv 0) pe_int (fun _ _ => rfl)) pa_nil)) (pe_lc (own := [("row", 2)]) (g := (gName 2)) (tt := tYes) (te := (tOp (rIxT K) _ _)) (by rfl) scinner_exprs.nd (pi_tup (pe_ix ix_tup (pv 0) pe_int (fun _ _ => rfl))) (blkOk_by (own := [("row", 2)]) (N := ninner_exprs) (sc := (defScope sinner_exprs)) (by decide +kernel)) (fun _ _ _ _ _ => (pg_name (i := 2) scinner_exprs.nd rfl (by first | exact Or.inl rfl | exact Or.inr rfl))) (fun _ _ _ _ _ => pts_nil) (fun _ _ _ _ _ => (pe_ix ix_tup (pv 2) pe_int (fun _ _ => rfl))))))) pss_nil) (pss_one (ps_ret (pe_op op_cat (pe_lst (pa_cons (pe_ix ix_tup (pv 0) pe_int (fun _ _ => rfl)) pa_nil)) (pe_lc (own := [("step", 3)]) (g := (gName 3)) (tt := (tTest (tOp (rIn K false) (tOp (rIxT K) _ _) _))) (te := (tOp (rIxT K) _ _)) (by rfl) scinner_exprs.nd (pi_tup (pe_ix ix_tup (pv 0) pe_int (fun _ _ => rfl))) (blkOk_by (own := [("step", 3)]) (N := ninner_exprs) (sc := (defScope sinner_exprs)) (by decide +kernel)) (fun _ _ _ _ _ => (pg_name (i := 3) scinner_exprs.nd rfl (by first | exact Or.inl rfl | exact Or.inr rfl))) (fun _ _ _ _ _ => (pts_one (pt_cmpR op_in_seq (pe_ix ix_tup (pv 3) pe_int (fun _ _ => rfl)) (pe_tup (pa_cons pe_str (pa_cons pe_str pa_nil))) rfl))) (fun _ _ _ _ _ => (pe_ix ix_tup (pv 3) pe_int (fun _ _ => rfl))))))))), ?_⟩
  have nD : ∀ {D : Addr} {H' : Hp}, H D = none → Stp D H H' → Same H H' := fun hD st => Stp.same st hD
  rcases hc with ⟨p, e1, e2, ha, hrs, h1, h2⟩ | ⟨g, ha, hg, hrs⟩ | ⟨g, ha, hg, hrs⟩
  · refine ⟨_, rfl, a, _, _, _, rfl, rfl, ha, rfl, rfl, _, rfl, if_t (eqT rfl) ?_⟩
    refine ⟨_, rfl, a, _, _, _, rfl, rfl, ha, rfl, b, rfl, ⟨_, hb⟩, fun D hD => lc_tup (xs := rs) (fun i H' => ∃ acc, H' D = some (.lst acc) ∧ acc.length = i ∧ (∀ x ∈ acc, R H' x) ∧ Cov (TestS K Wd H) rs acc i ∧ Stp D H H') ⟨[], upd_same, rfl, (fun x hx => nomatch hx), Cov.nil, Stp.of (same_new hD _)⟩ ?_ ?_ ?_⟩
    · rintro i H' _ ⟨acc, _, _, _, _, st⟩
      exact Same.tup (nD hD st) hb
    · rintro i x H' hx ⟨acc, hac, hn, hv, cv, st⟩
      obtain ⟨t, g, c, q1, o, rfl, ht, ho, hc⟩ := hrs x (List.mem_of_getElem? hx)
      have hil : i < rs.length := (List.getElem?_eq_some_iff.mp hx).1
      have s1 := nD hD st
      have tp : Tps H' (L2.upd H' D (.lst (acc ++ [c]))) := tps_upd (rd_lst hac)
      refine ⟨rfl, _, rfl, t, _, _, _, rfl, rfl, Same.tup s1 ht, rfl, acc, hac, small1000 (by omega), acc ++ [c], upd_same, by rw [List.length_append, hn]; rfl, fun y hy => ?_, cv.snoc hx fun R' z => ⟨t, g, c, q1, o, rfl, ht, ho, z⟩, fun u o nb eb => by rw [upd_ne nb]; exact st u o nb eb⟩
      rcases List.mem_append.mp hy with hy | hy
      · exact hR _ _ _ tp (hv y hy)
      · rw [List.mem_singleton.mp hy]
        exact hR _ _ _ ((GR.Same.tps s1).trans tp) hc
    · rintro H1 ⟨acc, hac, hn, hv, cv, st⟩
      have s1 := nD hD st
      refine ⟨_, rfl, a, _, _, _, rfl, rfl, Same.tup s1 ha, rfl, _, rfl, a, _, _, _, rfl, rfl, Same.tup s1 ha, rfl, (by show 2 ≤ sizeLine; decide), fun p2 hp2 => ?_⟩
      have tp : Tps H1 (L2.upd H1 p2 (.lst [e1, e2])) := tps_new hp2
      refine ⟨D, p2, _, _, rfl, rfl, same_new hp2 _ _ _ hac, upd_same, (by show acc.length + 2 ≤ sizeLine; exact sml (by omega)), fun p3 hp3 => ?_⟩
      refine q p3 _ _ (s1.trans ((same_new hp2 _).trans (same_new hp3 _))) upd_same (by rw [List.length_append, hn]; show rs.length + 2 ≤ N + 2; omega) (fun y hy => ?_) fun R' z => ⟨a, b, rs, rfl, hb, hN, .inl ⟨p, e1, e2, ha, Cov.all (hn ▸ cv) fun x hx => z x (List.mem_append_left _ hx), z e1 (List.mem_append_right _ (by simp)), z e2 (List.mem_append_right _ (by simp))⟩⟩
      have tp3 := tp.trans (tps_new (o := .lst (acc ++ [e1, e2])) hp3)
      have tp0 := (GR.Same.tps s1).trans tp3
      rcases List.mem_append.mp hy with hy | hy
      · exact hR _ _ _ tp3 (hv y hy)
      · rcases List.mem_cons.mp hy with rfl | hy
        · exact hR _ _ _ tp0 h1
        · rw [List.mem_singleton.mp hy]
          exact hR _ _ _ tp0 h2
  · refine ⟨_, rfl, a, _, _, _, rfl, rfl, ha, rfl, rfl, _, rfl, if_f (eqF (by decide +kernel)) ?_⟩
    refine ⟨_, rfl, a, _, _, _, rfl, rfl, ha, rfl, rfl, _, rfl, if_t (eqT rfl) ?_⟩
    refine ⟨_, rfl, a, _, _, _, rfl, rfl, ha, rfl, (by show 1 ≤ sizeLine; decide), fun p2 hp2 => ?_⟩
    have s2 := same_new hp2 (.lst [g])
    refine ⟨_, rfl, a, _, _, _, rfl, rfl, Same.tup s2 ha, rfl, b, rfl, ⟨_, Same.tup s2 hb⟩, fun D hD => lc_tup (xs := rs) (fun i H' => ∃ acc, H' D = some (.lst acc) ∧ acc.length = i ∧ (∀ x ∈ acc, R H' x) ∧ Cov (SignS K H) rs acc i ∧ Stp D (L2.upd H p2 (.lst [g])) H') ⟨[], upd_same, rfl, (fun x hx => nomatch hx), Cov.nil, Stp.of (same_new hD _)⟩ ?_ ?_ ?_⟩
    · rintro i H' _ ⟨acc, _, _, _, _, st⟩
      exact Same.tup (s2.trans (Stp.same st hD)) hb
    · rintro i x H' hx ⟨acc, hac, hn, hv, cv, st⟩
      obtain ⟨t, z, q1, c, rfl, ht, hc⟩ := hrs x (List.mem_of_getElem? hx)
      have hil : i < rs.length := (List.getElem?_eq_some_iff.mp hx).1
      have s1 := s2.trans (Stp.same st hD)
      have tp : Tps H' (L2.upd H' D (.lst (acc ++ [c]))) := tps_upd (rd_lst hac)
      refine ⟨rfl, _, rfl, t, _, _, _, rfl, rfl, Same.tup s1 ht, rfl, acc, hac, small1000 (by omega), acc ++ [c], upd_same, by rw [List.length_append, hn]; rfl, fun y hy => ?_, cv.snoc hx fun R' w => ⟨t, z, q1, c, rfl, ht, w⟩, fun u o nb eb => by rw [upd_ne nb]; exact st u o nb eb⟩
      rcases List.mem_append.mp hy with hy | hy
      · exact hR _ _ _ tp (hv y hy)
      · rw [List.mem_singleton.mp hy]
        exact hR _ _ _ ((GR.Same.tps s1).trans tp) hc
    · rintro H1 ⟨acc, hac, hn, hv, cv, st⟩
      have s1 := Stp.same st hD
      refine ⟨p2, D, _, _, rfl, rfl, s1 _ _ upd_same, hac, (by show 1 + acc.length ≤ sizeLine; exact sml (by omega)), fun p3 hp3 => ?_⟩
      have tp3 := tps_new (o := .lst ([g] ++ acc)) hp3
      refine q p3 _ _ (s2.trans (s1.trans (same_new hp3 _))) upd_same (by show acc.length + 1 ≤ N + 2; omega) (fun y hy => ?_) fun R' z => ⟨a, b, rs, rfl, hb, hN, .inr (.inl ⟨g, ha, z g (List.mem_append_left _ (List.mem_singleton.mpr rfl)), Cov.all (hn ▸ cv) fun x hx => z x (List.mem_append_right _ hx)⟩)⟩
      rcases List.mem_cons.mp hy with rfl | hy
      · exact hR _ _ _ ((GR.Same.tps (s2.trans s1)).trans tp3) hg
      · exact hR _ _ _ tp3 (hv y hy)
  · refine ⟨_, rfl, a, _, _, _, rfl, rfl, ha, rfl, rfl, _, rfl, if_f (eqF (by decide +kernel)) ?_⟩
    refine ⟨_, rfl, a, _, _, _, rfl, rfl, ha, rfl, rfl, _, rfl, if_f (eqF (by decide +kernel)) ?_⟩
    refine ⟨_, rfl, a, _, _, _, rfl, rfl, ha, rfl, (by show 1 ≤ sizeLine; decide), fun p2 hp2 => ?_⟩
    have s2 := same_new hp2 (.lst [g])
    refine ⟨_, rfl, a, _, _, _, rfl, rfl, Same.tup s2 ha, rfl, b, rfl, ⟨_, Same.tup s2 hb⟩, fun D hD => lc_tup (xs := rs) (fun i H' => ∃ acc, H' D = some (.lst acc) ∧ acc.length ≤ i ∧ (∀ x ∈ acc, R H' x) ∧ Cov (StepV K Wd H N) rs acc i ∧ Stp D (L2.upd H p2 (.lst [g])) H') ⟨[], upd_same, Nat.zero_le _, (fun x hx => nomatch hx), Cov.nil, Stp.of (same_new hD _)⟩ ?_ ?_ ?_⟩
    · rintro i H' _ ⟨acc, _, _, _, _, st⟩
      exact Same.tup (s2.trans (Stp.same st hD)) hb
    · rintro i x H' hx ⟨acc, hac, hn, hv, cv, st⟩
      obtain ⟨t, rfl, hst⟩ := hrs x (List.mem_of_getElem? hx)
      have hil : i < rs.length := (List.getElem?_eq_some_iff.mp hx).1
      have s1 := s2.trans (Stp.same st hD)
      have go : ∀ (xs : List V) (z : Str), SqT K H t xs → xs[0]? = some (.str z) → ((z = "put" ∨ z = "add") → ∃ c, xs[3]? = some c ∧ R H c ∧ ∀ R' : V → Prop, R' c → StepV K Wd H N R' (.ref t)) → (¬ (z = "put" ∨ z = "add") → ∀ R', StepV K Wd H N R' (.ref t)) → gName 3 (.ref t) (wipe (L2.start ninner_exprs [.ref a]) [3]) H' fun σ2 H2 => wipe σ2 [3] = wipe (L2.start ninner_exprs [.ref a]) [3] ∧ tTest (tOp (rIn K false) (tOp (rIxT K) (tVar 3) (tC (.int 0))) (tTup (tCons (tC (.str "put")) (tCons (tC (.str "add")) tNil)))) σ2 H2 fun b H3 =>
          if b = true then tOp (rIxT K) (tVar 3) (tC (.int 3)) σ2 H3 fun y H4 => ∃ acc, H4 D = some (.lst acc) ∧ acc.length < sizeLine ∧ (fun H' => ∃ acc, H' D = some (.lst acc) ∧ acc.length ≤ i + 1 ∧ (∀ x ∈ acc, R H' x) ∧ Cov (StepV K Wd H N) rs acc (i + 1) ∧ Stp D (L2.upd H p2 (.lst [g])) H') (L2.upd H4 D (.lst (acc ++ [y]))) else (fun H' => ∃ acc, H' D = some (.lst acc) ∧ acc.length ≤ i + 1 ∧ (∀ x ∈ acc, R H' x) ∧ Cov (StepV K Wd H N) rs acc (i + 1) ∧ Stp D (L2.upd H p2 (.lst [g])) H') H3 := by
        intro xs z hxs h0 h3 h4
        refine ⟨rfl, _, rfl, t, xs, _, _, rfl, rfl, Same.tup s1 hxs, atI_nat (j := 0) h0, (by show 2 ≤ sizeLine; decide), fun p5 hp5 => ⟨p5, _, rfl, .inr (SqT.of upd_same), rfl, flatStr ["put", "add"], _, rfl, ?_⟩⟩
        have s5 := same_new hp5 (.tup [.str "put", .str "add"])
        have hac5 := s5 _ _ hac
        have e5 : inV (V.str z) (List.map V.str (["put", "add"] : List Str)) = decide (z = "put" ∨ z = "add") := by rw [inStr]; simp
        by_cases hz : z = "put" ∨ z = "add"
        · refine if_t (show inV (V.str z) (List.map V.str (["put", "add"] : List Str)) = true by rw [e5]; exact decide_eq_true hz) ?_
          obtain ⟨c, hc, hRc, hcv⟩ := h3 hz
          have tp : Tps (L2.upd H' p5 (.tup [.str "put", .str "add"])) (L2.upd (L2.upd H' p5 (.tup [.str "put", .str "add"])) D (.lst (acc ++ [c]))) := tps_upd (rd_lst hac5)
          refine ⟨_, rfl, t, xs, _, _, rfl, rfl, Same.tup (s1.trans s5) hxs, atI_nat (j := 3) hc, acc, hac5, small1000 (by omega), acc ++ [c], upd_same, by rw [List.length_append, List.length_singleton]; omega, fun y hy => ?_, cv.snoc hx hcv, fun u o nb eb => by rw [upd_ne nb]; exact s5 _ _ (st u o nb eb)⟩
          rcases List.mem_append.mp hy with hy | hy
          · exact hR _ _ _ ((GR.Same.tps s5).trans tp) (hv y hy)
          · rw [List.mem_singleton.mp hy]
            exact hR _ _ _ ((GR.Same.tps (s1.trans s5)).trans tp) hRc
        · refine if_f (show inV (V.str z) (List.map V.str (["put", "add"] : List Str)) = false by rw [e5]; exact decide_eq_false hz) ?_
          exact ⟨acc, hac5, by omega, fun y hy => hR _ _ _ (GR.Same.tps s5) (hv y hy), cv.skip hx (h4 hz), fun u o nb eb => s5 _ _ (st u o nb eb)⟩
      cases hst with
      | nm h1 h2 h5 => exact go _ _ h1 rfl (fun z => by rcases h2 with rfl | rfl | rfl <;> rcases z with z | z <;> exact absurd z (by decide +kernel)) fun _ R' => ⟨t, rfl, .nm h1 h2 h5⟩
      | only h1 h2 h3 h5 => exact go _ _ h1 rfl (fun z => by rcases z with z | z <;> exact absurd z (by decide +kernel)) fun _ R' => ⟨t, rfl, .only h1 h2 h3 h5⟩
      | ren h1 h5 h6 => exact go _ _ h1 rfl (fun z => by rcases z with z | z <;> exact absurd z (by decide +kernel)) fun _ R' => ⟨t, rfl, .ren h1 h5 h6⟩
      | put h1 h2 h3 h5 => exact go _ _ h1 rfl (fun _ => ⟨_, rfl, h3, fun R' z => ⟨t, rfl, .put h1 h2 z h5⟩⟩) fun z => absurd h2 z
    · rintro H1 ⟨acc, hac, hn, hv, cv, st⟩
      have s1 := Stp.same st hD
      refine ⟨p2, D, _, _, rfl, rfl, s1 _ _ upd_same, hac, (by show 1 + acc.length ≤ sizeLine; exact sml (by omega)), fun p3 hp3 => ?_⟩
      have tp3 := tps_new (o := .lst ([g] ++ acc)) hp3
      refine q p3 _ _ (s2.trans (s1.trans (same_new hp3 _))) upd_same (by show acc.length + 1 ≤ N + 2; omega) (fun y hy => ?_) fun R' z => ⟨a, b, rs, rfl, hb, hN, .inr (.inr ⟨g, ha, z g (List.mem_append_left _ (List.mem_singleton.mpr rfl)), Cov.all cv fun x hx => z x (List.mem_append_right _ hx)⟩)⟩
      rcases List.mem_cons.mp hy with rfl | hy
      · exact hR _ _ _ ((GR.Same.tps (s2.trans s1)).trans tp3) hg
      · exact hR _ _ _ tp3 (hv y hy)
/-- the calls that the counts allow -/
def clOf (kvs : List (Key × V)) : Str → Nat → Prop := fun z i => valV kvs (Sum.inr z : Key) = some (.int (i : Int))
/-- an exception with a name and a place -/
def NmX (CD CU CW : Addr) (cls : Value) (d : Addr) (H : Hp) : Prop := (cls = .ref CD ∨ cls = .ref CU ∨ cls = .ref CW) ∧ ∃ (z : Str) (i : Int), H d = some (.xd [("at", .int i), ("name", .str z)])
def ExN (CD CU CW : Addr) (H : Hp) (E : XK) : Prop := ∀ cls d H', NmX CD CU CW cls d H' → Same H H' → E cls (some d) H'
theorem ExN.up {CD CU CW : Addr} {H H1 : Hp} {E : XK} (e : ExN CD CU CW H E) (s : Same H H1) : ExN CD CU CW H1 E := fun cls d H' h s1 => e cls d H' h (s.trans s1)
structure NmF (P : Program) (w : World) (K : PySem.W.Frag) (mg : Str → Option Value) (CD CU CW : Addr) : Prop where
  xDoubleName : ExcR P w K mg "DoubleName" CD 2 mf2
  xUnknownName : ExcR P w K mg "UnknownName" CU 2 mf2
  xWrongCount : ExcR P w K mg "WrongCount" CW 2 mf2
def IntsD (kvs : List (Key × V)) : Prop := ∀ (z : Str) (v : V), valV kvs (Sum.inr z : Key) = some v → ∃ i : Nat, v = .int (i : Int)
def spCheckE (K : PySem.W.Frag) (Wd : Str → Prop) (CD CU CW : Addr) (N n : Nat) : Sp := fun vs H Q E => ∃ (v : V) (kn ct : Addr) (ns : List Str) (kvs : List (Key × V)), vs = [v, .ref kn, .ref ct] ∧ IsE K Wd n N H v ∧ H kn = some (.lst (ns.map V.str)) ∧ H ct = some (.dK kvs) ∧ IntsD kvs ∧ ns.length + n ≤ 5000 ∧ N ≤ 1000 ∧
  (∀ H', Same H H' → G K Wd N (clOf kvs) H' n (fun z => z ∈ ns) v → Q .non H') ∧ ExN CD CU CW H E
abbrev scheck_expr : Stmt := top 13
abbrev ncheck_expr : List Str := ["expr", "known", "counts", "kind", "value", "seen", "name", "at", "inner"]
theorem sccheck_expr : FnScope ncheck_expr ["expr", "known", "counts"] (defScope scheck_expr) := ⟨rfl, rfl, rfl, by decide +kernel, rfl, by decide +kernel, by decide +kernel⟩
-- slots of check_expr: 0 expr, 1 known, 2 counts, 3 kind, 4 value, 5 seen, 6 name, 7 at, 8 inner
theorem ok_check_expr {CD CU CW : Addr} {n : Nat} (F : Fun K "check_expr" "check_expr" scheck_expr f fd) (B : Blt mg) (X : NmF P w K mg CD CU CW)
    (c_inner_exprs : ∀ m, Cal P w K mg base CX0 1 "inner_exprs" ["expr"] (spInner K Wd N (IsE K Wd m N)))
    (c_check_expr : Cal P w K mg base (L2.CX P w) (n + 2) "check_expr" ["expr", "known", "counts"] (spCheckE K Wd CD CU CW N n)) (hn : n ≤ 1000) : FnOk P w K mg base (L2.CX P w) (n + 3) f fd ["expr", "known", "counts"] (spCheckE K Wd CD CU CW N (n + 1)) := by
  refine F.ownX (k := n + 2) sccheck_expr (fun vs H Q E h => ?_) (fun cdv A outer s H vs Q E hr h => ?_)
  · obtain ⟨v, kn, ct, ns, kvs, rfl, _⟩ := h
    rfl
  obtain ⟨v, kn, ct, ns, kvs, rfl, hv, hk, hd, hi, hz, hN, q, e⟩ := h
  obtain ⟨xDoubleName, xUnknownName, xWrongCount⟩ := X
  have c_inner_exprs := c_inner_exprs n
  refine ⟨_, (pss_cons (ps_set (i := 3) sccheck_expr.nd rfl (by first | exact Or.inl rfl | exact Or.inr rfl) (pe_ix ix_tup (pv 0) pe_int (fun _ _ => rfl))) (pss_cons (ps_if (PW.pt (pw_and (pt_cmpR op_eq (pv 3) pe_str (nomark _)) (pw_and1 (pt_cmpR op_notIn_seq (pe_ix ix_tup (pv 0) pe_int (fun _ _ => rfl)) (pv 1) rfl))))
    (pss_one (ps_raise rfl (takes_of rfl rfl rfl rfl) (pmk_2 xUnknownName hr (pa_cons (pe_ix ix_tup (pv 0) pe_int (fun _ _ => rfl)) (pa_cons (pe_ix ix_tup (pv 0) pe_int (fun _ _ => rfl)) pa_nil)) rfl))) pss_nil) (pss_cons (ps_if (pt_cmpR op_eq (pv 3) pe_str (nomark _))
    (pss_cons (ps_if (pt_cmp (pc_dnotin (hu_of hr) (pe_ix ix_tup (pv 0) pe_int (fun _ _ => rfl)) (pv 2)))
    (pss_one (ps_raise rfl (takes_of rfl rfl rfl rfl) (pmk_2 xUnknownName hr (pa_cons (pe_ix ix_tup (pv 0) pe_int (fun _ _ => rfl)) (pa_cons (pe_ix ix_tup (pv 0) pe_int (fun _ _ => rfl)) pa_nil)) rfl))) pss_nil) (pss_cons (ps_if (pt_cmpR op_ne (pe_callB call_len_seq (by rfl) B.len PySem.boot_len (pa_cons (pe_ix ix_tup (pv 0) pe_int (fun _ _ => rfl)) pa_nil)) (pe_dget (hu_of hr) (pv 2) (pe_ix ix_tup (pv 0) pe_int (fun _ _ => rfl)) (fun _ _ => rfl)) (nomark _))
    (pss_one (ps_raise rfl (takes_of rfl rfl rfl rfl) (pmk_2 xWrongCount hr (pa_cons (pe_ix ix_tup (pv 0) pe_int (fun _ _ => rfl)) (pa_cons (pe_ix ix_tup (pv 0) pe_int (fun _ _ => rfl)) pa_nil)) rfl))) pss_nil) (pss_one (ps_for (passes_of rfl) rfl (pi_tup (pe_ix ix_tup (pv 0) pe_int (fun _ _ => rfl))) (pg_name (i := 4) sccheck_expr.nd rfl (by first | exact Or.inl rfl | exact Or.inr rfl))
    (pss_one (ps_expr (pe_cX c_check_expr (takes_of rfl rfl rfl rfl) hr (by omega) rfl (pa_cons (pv 4) (pa_cons (pv 1) (pa_cons (pv 2) pa_nil)))))))))) pss_nil) (pss_cons (ps_if (pt_cmpR op_eq (pv 3) pe_str (nomark _))
    (pss_cons (ps_set (i := 5) sccheck_expr.nd rfl (by first | exact Or.inl rfl | exact Or.inr rfl) (pe_lst pa_nil)) (pss_one (ps_for (passes_of rfl) rfl (pi_tup (pe_ix ix_tup (pv 0) pe_int (fun _ _ => rfl))) (pg_tup (by rfl) (pgs_cons (pg_name (i := 6) sccheck_expr.nd rfl (by first | exact Or.inl rfl | exact Or.inr rfl)) (pgs_cons (pg_name (i := 4) sccheck_expr.nd rfl (by first | exact Or.inl rfl | exact Or.inr rfl)) (pgs_cons (pg_name (i := 7) sccheck_expr.nd rfl (by first | exact Or.inl rfl | exact Or.inr rfl)) pgs_nil))))
    (pss_cons (ps_if (pt_cmpR op_in_seq (pv 6) (pv 5) rfl)
    (pss_one (ps_raise rfl (takes_of rfl rfl rfl rfl) (pmk_2 xDoubleName hr (pa_cons (pv 6) (pa_cons (pv 7) pa_nil)) rfl))) pss_nil) (pss_cons (ps_expr (pe_bm PySem.F.plainAttrs_list PySem.F.slot_list_append PySem.F.type_list_append mt_append (pv 5) (pa_cons (pv 6) pa_nil))) (pss_one (ps_expr (pe_cX c_check_expr (takes_of rfl rfl rfl rfl) hr (by omega) rfl (pa_cons (pv 4) (pa_cons (pv 1) (pa_cons (pv 2) pa_nil))))))))))) pss_nil) (pss_cons (ps_if (pt_cmpR op_eq (pv 3) pe_str (nomark _))
    (pss_cons (ps_expr (pe_cX c_check_expr (takes_of rfl rfl rfl rfl) hr (by omega) rfl (pa_cons (pe_ix ix_tup (pv 0) pe_int (fun _ _ => rfl)) (pa_cons (pv 1) (pa_cons (pv 2) pa_nil))))) (pss_one (ps_expr (pe_cX c_check_expr (takes_of rfl rfl rfl rfl) hr (by omega) rfl (pa_cons (pe_ix ix_tup (pv 0) pe_int (fun _ _ => rfl)) (pa_cons (pe_op op_cat (pv 1) (pe_lst (pa_cons (pe_ix ix_tup (pv 0) pe_int (fun _ _ => rfl)) pa_nil))) (pa_cons (pv 2) pa_nil))))))) pss_nil) (pss_one (ps_if (pt_cmpR op_in_seq (pv 3) (pe_tup (pa_strs _ (by rfl))) rfl)
    (pss_one (ps_for (passes_of rfl) rfl (pi_list (pe_c0 c_inner_exprs hr (by omega) rfl (pa_cons (pv 0) pa_nil))) (pg_name (i := 8) sccheck_expr.nd rfl (by first | exact Or.inl rfl | exact Or.inr rfl))
    (pss_one (ps_expr (pe_cX c_check_expr (takes_of rfl rfl rfl rfl) hr (by omega) rfl (pa_cons (pv 8) (pa_cons (pv 1) (pa_cons (pv 2) pa_nil)))))))) pss_nil))))))), ?_⟩
  have dk : ∀ {H' : Hp} {z : Str}, H' ct = some (.dK kvs) → DGet H' ct (.str z) (valV kvs (Sum.inr z : Key)) := fun h => DGet.k (k := Sum.inr _) h
  have up : ∀ {H1 H2 : Hp} {x : V}, Same H1 H2 → G K Wd N (clOf kvs) H1 n (fun z => z ∈ ns) x → G K Wd N (clOf kvs) H2 n (fun z => z ∈ ns) x := fun s1 hx => G.mono (GR.Same.tps s1) (Nat.le_refl _) (fun _ _ z => z) (Nat.le_refl _) (fun _ z => z) hx
  cases hv with
  | @number a p i ha =>
    refine ⟨_, rfl, a, _, _, _, rfl, rfl, ha, rfl, ?_⟩
    refine ⟨_, rfl, rfl, _, rfl, if_f (eqF (by decide +kernel)) (iteF ?_)⟩
    refine ⟨_, rfl, rfl, _, rfl, if_f (eqF (by decide +kernel)) ?_⟩
    refine ⟨_, rfl, rfl, _, rfl, if_f (eqF (by decide +kernel)) ?_⟩
    refine ⟨_, rfl, rfl, _, rfl, if_f (eqF (by decide +kernel)) ?_⟩
    refine ⟨_, rfl, (by show 3 ≤ sizeLine; decide), fun p hp => ⟨p, _, rfl, .inr (SqT.of upd_same), rfl, flatStr ["if", "chain", "part"], _, rfl, if_f (show inV (V.str "number") (List.map V.str (["if", "chain", "part"] : List Str)) = false by rw [inStr]; decide +kernel) ?_⟩⟩
    exact q _ (same_new hp _) (Sh.number (Same.tup (same_new hp _) ha))
  | @name a p z ha _ =>
    refine ⟨_, rfl, a, _, _, _, rfl, rfl, ha, rfl, ?_⟩
    refine ⟨_, rfl, rfl, _, rfl, if_t (eqT rfl) ?_⟩
    refine ⟨_, rfl, a, _, _, _, rfl, rfl, ha, rfl, _, rfl, kn, _, rfl, .inl (SqL.of hk), rfl, flatStr ns, _, rfl, ?_⟩
    by_cases hz1 : z ∈ ns
    case neg =>
      refine if_t (show (!inV (V.str z) (ns.map V.str)) = true by rw [inStr, decide_eq_false hz1]; rfl) ?_
      refine ⟨_, rfl, a, _, _, _, rfl, rfl, ha, rfl, _, rfl, a, _, _, _, rfl, rfl, ha, rfl, rfl, fun d hd => ?_⟩
      exact e _ d _ ⟨.inr (.inl rfl), _, _, upd_same⟩ (same_new hd _)
    refine if_f (show (!inV (V.str z) (ns.map V.str)) = false by rw [inStr, decide_eq_true hz1]; rfl) ?_
    refine ⟨_, rfl, rfl, _, rfl, if_f (eqF (by decide +kernel)) ?_⟩
    refine ⟨_, rfl, rfl, _, rfl, if_f (eqF (by decide +kernel)) ?_⟩
    refine ⟨_, rfl, rfl, _, rfl, if_f (eqF (by decide +kernel)) ?_⟩
    refine ⟨_, rfl, (by show 3 ≤ sizeLine; decide), fun p hp => ⟨p, _, rfl, .inr (SqT.of upd_same), rfl, flatStr ["if", "chain", "part"], _, rfl, if_f (show inV (V.str "name") (List.map V.str (["if", "chain", "part"] : List Str)) = false by rw [inStr]; decide +kernel) ?_⟩⟩
    exact q _ (same_new hp _) (Sh.name (Same.tup (same_new hp _) ha) hz1)
  | @call a b p z es ha hb hel _ hes =>
    refine ⟨_, rfl, a, _, _, _, rfl, rfl, ha, rfl, ?_⟩
    refine ⟨_, rfl, rfl, _, rfl, if_f (eqF (by decide +kernel)) (iteF ?_)⟩
    refine ⟨_, rfl, rfl, _, rfl, if_t (eqT rfl) ?_⟩
    refine ⟨_, rfl, a, _, _, _, rfl, rfl, ha, rfl, _, rfl, ct, _, rfl, dk hd, _, rfl, ?_⟩
    cases hz1 : valV kvs (Sum.inr z : Key) with
    | none =>
      refine iteT ?_
      refine ⟨_, rfl, a, _, _, _, rfl, rfl, ha, rfl, _, rfl, a, _, _, _, rfl, rfl, ha, rfl, rfl, fun d hd => ?_⟩
      exact e _ d _ ⟨.inr (.inl rfl), _, _, upd_same⟩ (same_new hd _)
    | some y =>
    obtain ⟨i, rfl⟩ := hi z y hz1
    refine iteF ?_
    refine ⟨_, rfl, a, _, _, _, rfl, rfl, ha, rfl, b, _, rfl, .inr hb, _, rfl, _, rfl, a, _, _, _, rfl, rfl, ha, rfl, ct, _, rfl, hz1 ▸ dk hd, rfl, _, rfl, ?_⟩
    by_cases hlen : es.length = i
    case neg =>
      refine if_t (show (!decide (V.int (es.length : Int) = V.int (i : Int))) = true by rw [decide_eq_false (fun w => hlen (by have := V.int.inj w; omega))]; rfl) ?_
      refine ⟨_, rfl, a, _, _, _, rfl, rfl, ha, rfl, _, rfl, a, _, _, _, rfl, rfl, ha, rfl, rfl, fun d hd => ?_⟩
      exact e _ d _ ⟨.inr (.inr rfl), _, _, upd_same⟩ (same_new hd _)
    refine if_f (show (!decide (V.int (es.length : Int) = V.int (i : Int))) = false by rw [hlen, decide_eq_true rfl]; rfl) ?_
    refine ⟨_, rfl, a, _, _, _, rfl, rfl, ha, rfl, b, rfl, ⟨_, hb⟩, for_tup (xs := es) (fun j σ' H' => (∃ x, σ' = [some (.ref a), some (.ref kn), some (.ref ct), some (.str "call"), x, none, none, none, none]) ∧ Same H H' ∧ ∀ k y, k < j → es[k]? = some y → G K Wd N (clOf kvs) H' n (fun z => z ∈ ns) y) ⟨⟨none, rfl⟩, Same.refl H, fun k y hk => absurd hk (Nat.not_lt_zero _)⟩ ?_ ?_ ?_⟩
    · rintro j σ' H' _ ⟨_, s1, _⟩
      exact Same.tup s1 hb
    · rintro j y σ' H' hy ⟨⟨x, rfl⟩, s1, hg⟩
      refine ⟨_, rfl, _, rfl, _, rfl, ?_⟩
      refine ⟨_, kn, ct, ns, kvs, rfl, IsE.mono (GR.Same.tps s1) (Nat.le_refl _) (Nat.le_refl _) (hes y (List.mem_of_getElem? hy)), s1 _ _ hk, s1 _ _ hd, hi, by omega, hN, fun H2 s2 g2 => ⟨⟨_, rfl⟩, s1.trans s2, fun k y' hk hy' => ?_⟩, e.up s1⟩
      rcases Nat.lt_succ_iff_lt_or_eq.mp hk with w | w
      · exact up s2 (hg k y' w hy')
      · subst w
        rw [hy] at hy'
        cases hy'
        exact g2
    · rintro σ' H1 ⟨⟨x, rfl⟩, s1, hg⟩
      refine ⟨_, rfl, rfl, _, rfl, if_f (eqF (by decide +kernel)) ?_⟩
      refine ⟨_, rfl, rfl, _, rfl, if_f (eqF (by decide +kernel)) ?_⟩
      refine ⟨_, rfl, (by show 3 ≤ sizeLine; decide), fun p hp => ⟨p, _, rfl, .inr (SqT.of upd_same), rfl, flatStr ["if", "chain", "part"], _, rfl, if_f (show inV (V.str "call") (List.map V.str (["if", "chain", "part"] : List Str)) = false by rw [inStr]; decide +kernel) ?_⟩⟩
      have s2 := s1.trans (same_new hp (.tup [.str "if", .str "chain", .str "part"]))
      refine q _ s2 (Sh.call (Same.tup s2 ha) (Same.tup s2 hb) hel (by rw [hlen]; exact hz1) fun y hy => ?_)
      obtain ⟨j, hj, ej⟩ := List.mem_iff_getElem.mp hy
      exact up (same_new hp _) (hg j y hj (by rw [List.getElem?_eq_getElem hj, ej]))
  | @fields a b p rs ha hb hrl hrs =>
    refine ⟨_, rfl, a, _, _, _, rfl, rfl, ha, rfl, ?_⟩
    refine ⟨_, rfl, rfl, _, rfl, if_f (eqF (by decide +kernel)) (iteF ?_)⟩
    refine ⟨_, rfl, rfl, _, rfl, if_f (eqF (by decide +kernel)) ?_⟩
    refine ⟨_, rfl, rfl, _, rfl, if_t (eqT rfl) ?_⟩
    refine ⟨(by show 0 ≤ sizeLine; decide), fun L hL => ?_⟩
    have sL := same_new hL (.lst [])
    refine ⟨_, rfl, a, _, _, _, rfl, rfl, Same.tup sL ha, rfl, b, rfl, ⟨_, Same.tup sL hb⟩, for_tup (xs := rs) (fun j σ' H' => (∃ x y z, σ' = [some (.ref a), some (.ref kn), some (.ref ct), some (.str "fields"), x, some (.ref L), y, z, none]) ∧ Stp L H H' ∧ (∃ ws : List Str, H' L = some (.lst (ws.map V.str)) ∧ ws.length = j) ∧ ∀ k y, k < j → rs[k]? = some y → FieldS K Wd H' (G K Wd N (clOf kvs) H' n (fun z => z ∈ ns)) y) ⟨⟨none, none, none, rfl⟩, Stp.of sL, ⟨[], upd_same, rfl⟩, fun k y hk => absurd hk (Nat.not_lt_zero _)⟩ ?_ ?_ ?_⟩
    · rintro j σ' H' _ ⟨_, s1, _⟩
      exact Same.tup (Stp.same s1 hL) hb
    · rintro j y σ' H' hy ⟨⟨x1, x2, x3, rfl⟩, s1, ⟨ws, hws, hwl⟩, hg⟩
      have s1 := Stp.same s1 hL
      obtain ⟨t, w0, c, q1, rfl, ht, hc, hwd⟩ := hrs y (List.mem_of_getElem? hy)
      have hjl : j < rs.length := (List.getElem?_eq_some_iff.mp hy).1
      refine ⟨t, _, rfl, Same.tup s1 ht, rfl, _, _, rfl, _, _, rfl, _, _, rfl, rfl, ?_⟩
      refine ⟨_, rfl, _, rfl, L, _, rfl, .inl (SqL.of hws), rfl, flatStr ws, _, rfl, ?_⟩
      by_cases hw : w0 ∈ ws
      · refine if_t (show inV (V.str w0) (ws.map V.str) = true by rw [inStr]; exact decide_eq_true hw) ?_
        refine ⟨_, rfl, _, rfl, rfl, fun d hd => ?_⟩
        exact e _ d _ ⟨.inl rfl, _, _, upd_same⟩ (s1.trans (same_new hd _))
      refine if_f (show inV (V.str w0) (ws.map V.str) = false by rw [inStr]; exact decide_eq_false hw) ?_
      refine ⟨_, rfl, .inl ⟨rfl, _, SqL.of hws⟩, _, rfl, L, _, _, rfl, rfl, hws, sml1 (by rw [List.length_map]; omega), ?_⟩
      have tp3 : Tps H' (L2.upd H' L (.lst (ws.map V.str ++ [.str w0]))) := tps_upd (rd_lst hws)
      have s3 : Same H (L2.upd H' L (.lst (ws.map V.str ++ [.str w0]))) := fun b o eb => by rw [upd_ne (ne_of_none eb hL)]; exact s1 b o eb
      refine ⟨_, rfl, _, rfl, _, rfl, ?_⟩
      refine ⟨_, kn, ct, ns, kvs, rfl, IsE.mono (GR.Same.tps s3) (Nat.le_refl _) (Nat.le_refl _) hc, s3 _ _ hk, s3 _ _ hd, hi, by omega, hN, fun H2 s2 g2 => ⟨⟨_, _, _, rfl⟩, Stp.of (s3.trans s2), ⟨ws ++ [w0], ?_, ?_⟩, fun k y' hk hy' => ?_⟩, e.up s3⟩
      · rw [s2 _ _ upd_same, List.map_append]
        rfl
      · rw [List.length_append, List.length_singleton, hwl]
      · have tp4 := tp3.trans (GR.Same.tps s2)
        rcases Nat.lt_succ_iff_lt_or_eq.mp hk with w | w
        · exact (hg k y' w hy').mono tp4 fun v hv => G.mono tp4 (Nat.le_refl _) (fun _ _ z => z) (Nat.le_refl _) (fun _ z => z) hv
        · subst w
          rw [hy] at hy'
          cases hy'
          exact ⟨t, w0, c, q1, rfl, Same.tup (s3.trans s2) ht, g2, hwd⟩
    · rintro σ' H1 ⟨⟨x1, x2, x3, rfl⟩, s1, _, hg⟩
      have s1 := Stp.same s1 hL
      refine ⟨_, rfl, rfl, _, rfl, if_f (eqF (by decide +kernel)) ?_⟩
      refine ⟨_, rfl, (by show 3 ≤ sizeLine; decide), fun p hp => ⟨p, _, rfl, .inr (SqT.of upd_same), rfl, flatStr ["if", "chain", "part"], _, rfl, if_f (show inV (V.str "fields") (List.map V.str (["if", "chain", "part"] : List Str)) = false by rw [inStr]; decide +kernel) ?_⟩⟩
      have s2 := s1.trans (same_new hp (.tup [.str "if", .str "chain", .str "part"]))
      refine q _ s2 (Sh.fields (Same.tup s2 ha) (Same.tup s2 hb) hrl fun y hy => ?_)
      obtain ⟨j, hj, ej⟩ := List.mem_iff_getElem.mp hy
      exact (hg j y hj (by rw [List.getElem?_eq_getElem hj, ej])).mono (tps_new hp) fun v hv => up (same_new hp _) hv
  | @lets a p z e1 e2 ha h1 h2 =>
    refine ⟨_, rfl, a, _, _, _, rfl, rfl, ha, rfl, ?_⟩
    refine ⟨_, rfl, rfl, _, rfl, if_f (eqF (by decide +kernel)) (iteF ?_)⟩
    refine ⟨_, rfl, rfl, _, rfl, if_f (eqF (by decide +kernel)) ?_⟩
    refine ⟨_, rfl, rfl, _, rfl, if_f (eqF (by decide +kernel)) ?_⟩
    refine ⟨_, rfl, rfl, _, rfl, if_t (eqT rfl) ?_⟩
    refine ⟨_, rfl, a, _, _, _, rfl, rfl, ha, rfl, _, rfl, _, rfl, ?_⟩
    refine ⟨_, kn, ct, ns, kvs, rfl, IsE.mono (GR.Same.tps (Same.refl H)) (Nat.le_refl _) (Nat.le_refl _) h1, (Same.refl H) _ _ hk, (Same.refl H) _ _ hd, hi, by omega, hN, fun H1 s1 g1 => ?_, e.up (Same.refl H)⟩
    refine ⟨_, rfl, a, _, _, _, rfl, rfl, Same.tup s1 ha, rfl, _, rfl, _, rfl, a, _, _, _, rfl, rfl, Same.tup s1 ha, rfl, (by show 1 ≤ sizeLine; decide), fun p2 hp2 => ?_⟩
    have s2 := s1.trans (same_new hp2 (.lst [.str z]))
    refine ⟨kn, p2, _, _, rfl, rfl, s2 _ _ hk, upd_same, sml (by rw [List.length_map]; show ns.length + 1 ≤ 10000; omega), fun p3 hp3 => ?_⟩
    have s3 := s2.trans (same_new hp3 (.lst (ns.map V.str ++ [.str z])))
    have h2' : IsE K Wd n N H e2 := G.mono Tps.refl (Nat.le_refl _) (fun _ _ z => z) (Nat.le_refl _) (fun _ _ => True.intro) h2
    refine ⟨_, rfl, e2, p3, ct, ns ++ [z], kvs, rfl, IsE.mono (GR.Same.tps s3) (Nat.le_refl _) (Nat.le_refl _) h2', by rw [upd_same, List.map_append]; rfl, s3 _ _ hd, hi, by rw [List.length_append, List.length_singleton]; omega, hN, fun H4 s4 g4 => ?_, e.up s3⟩
    refine ⟨_, rfl, (by show 3 ≤ sizeLine; decide), fun p hp => ⟨p, _, rfl, .inr (SqT.of upd_same), rfl, flatStr ["if", "chain", "part"], _, rfl, if_f (show inV (V.str "let") (List.map V.str (["if", "chain", "part"] : List Str)) = false by rw [inStr]; decide +kernel) ?_⟩⟩
    have s5 := s4.trans (same_new hp (.tup [.str "if", .str "chain", .str "part"]))
    refine q _ (s3.trans s5) (Sh.lets (Same.tup (s3.trans s5) ha) (up ((((same_new hp2 _).trans (same_new hp3 _))).trans s5) g1) (G.mono (GR.Same.tps (same_new hp _)) (Nat.le_refl _) (fun _ _ z => z) (Nat.le_refl _) (fun x hx => ?_) g4))
    rcases List.mem_append.mp hx with hx | hx
    · exact .inl hx
    · exact .inr (List.mem_singleton.mp hx)
  | @chain a b g rs ha hg hb hrl hrs =>
    have hin : InnS K Wd N H (IsE K Wd n N H) (.ref a) := ⟨a, b, rs, rfl, hb, hrl, .inr (.inl ⟨g, ha, hg, hrs⟩)⟩
    refine ⟨_, rfl, a, _, _, _, rfl, rfl, ha, rfl, ?_⟩
    refine ⟨_, rfl, rfl, _, rfl, if_f (eqF (by decide +kernel)) (iteF ?_)⟩
    refine ⟨_, rfl, rfl, _, rfl, if_f (eqF (by decide +kernel)) ?_⟩
    refine ⟨_, rfl, rfl, _, rfl, if_f (eqF (by decide +kernel)) ?_⟩
    refine ⟨_, rfl, rfl, _, rfl, if_f (eqF (by decide +kernel)) ?_⟩
    refine ⟨_, rfl, (by show 3 ≤ sizeLine; decide), fun p1 hp1 => ⟨p1, _, rfl, .inr (SqT.of upd_same), rfl, flatStr ["if", "chain", "part"], _, rfl, if_t (show inV (V.str "chain") (List.map V.str (["if", "chain", "part"] : List Str)) = true by rw [inStr]; decide +kernel) ?_⟩⟩
    have s1 := same_new hp1 (.tup [.str "if", .str "chain", .str "part"])
    refine ⟨_, rfl, _, rfl, hin.mono (GR.Same.tps s1) (fun _ w => IsE.mono (GR.Same.tps s1) (Nat.le_refl _) (Nat.le_refl _) w), hN, fun p2 H2 es s2 hp2 hlen hes hcov => ?_⟩
    have s2a := s2
    have s2 := s1.trans s2
    refine ⟨p2, rfl, ⟨_, SqL.of hp2⟩, for_list (xs := es) (fun j σ' H' => (∃ x, σ' = [some (.ref a), some (.ref kn), some (.ref ct), some (.str "chain"), none, none, none, none, x]) ∧ Same H2 H' ∧ ∀ k y, k < j → es[k]? = some y → G K Wd N (clOf kvs) H' n (fun z => z ∈ ns) y) ⟨⟨none, rfl⟩, Same.refl _, fun k y hk => absurd hk (Nat.not_lt_zero _)⟩ ?_ ?_ ?_⟩
    · rintro j σ' H' _ ⟨_, s3, _⟩
      exact SqL.of (s3 _ _ hp2)
    · rintro j y σ' H' hy ⟨⟨x, rfl⟩, s3, hg⟩
      refine ⟨_, rfl, _, rfl, _, rfl, y, kn, ct, ns, kvs, rfl, IsE.mono (GR.Same.tps s3) (Nat.le_refl _) (Nat.le_refl _) (hes y (List.mem_of_getElem? hy)), s3 _ _ (s2 _ _ hk), s3 _ _ (s2 _ _ hd), hi, by omega, hN, fun H4 s4 g4 => ⟨⟨_, rfl⟩, s3.trans s4, fun k y' hk hy' => ?_⟩, e.up (s2.trans s3)⟩
      rcases Nat.lt_succ_iff_lt_or_eq.mp hk with w | w
      · exact up s4 (hg k y' w hy')
      · subst w
        rw [hy] at hy'
        cases hy'
        exact g4
    · rintro σ' H1 ⟨⟨x, rfl⟩, s3, hg⟩
      refine q _ (s2.trans s3) ?_
      have hfin0 := hcov (G K Wd N (clOf kvs) H1 n (fun z => z ∈ ns)) fun y hy => by
        obtain ⟨j, hj, ej⟩ := List.mem_iff_getElem.mp hy
        exact hg j y hj (by rw [List.getElem?_eq_getElem hj, ej])
      exact Sh.of_inn (InnS.mono (GR.Same.tps (s2a.trans s3)) (fun _ w => w) hfin0)
  | @part a b g rs ha hg hb hrl hrs =>
    have hin : InnS K Wd N H (IsE K Wd n N H) (.ref a) := ⟨a, b, rs, rfl, hb, hrl, .inr (.inr ⟨g, ha, hg, hrs⟩)⟩
    refine ⟨_, rfl, a, _, _, _, rfl, rfl, ha, rfl, ?_⟩
    refine ⟨_, rfl, rfl, _, rfl, if_f (eqF (by decide +kernel)) (iteF ?_)⟩
    refine ⟨_, rfl, rfl, _, rfl, if_f (eqF (by decide +kernel)) ?_⟩
    refine ⟨_, rfl, rfl, _, rfl, if_f (eqF (by decide +kernel)) ?_⟩
    refine ⟨_, rfl, rfl, _, rfl, if_f (eqF (by decide +kernel)) ?_⟩
    refine ⟨_, rfl, (by show 3 ≤ sizeLine; decide), fun p1 hp1 => ⟨p1, _, rfl, .inr (SqT.of upd_same), rfl, flatStr ["if", "chain", "part"], _, rfl, if_t (show inV (V.str "part") (List.map V.str (["if", "chain", "part"] : List Str)) = true by rw [inStr]; decide +kernel) ?_⟩⟩
    have s1 := same_new hp1 (.tup [.str "if", .str "chain", .str "part"])
    refine ⟨_, rfl, _, rfl, hin.mono (GR.Same.tps s1) (fun _ w => IsE.mono (GR.Same.tps s1) (Nat.le_refl _) (Nat.le_refl _) w), hN, fun p2 H2 es s2 hp2 hlen hes hcov => ?_⟩
    have s2a := s2
    have s2 := s1.trans s2
    refine ⟨p2, rfl, ⟨_, SqL.of hp2⟩, for_list (xs := es) (fun j σ' H' => (∃ x, σ' = [some (.ref a), some (.ref kn), some (.ref ct), some (.str "part"), none, none, none, none, x]) ∧ Same H2 H' ∧ ∀ k y, k < j → es[k]? = some y → G K Wd N (clOf kvs) H' n (fun z => z ∈ ns) y) ⟨⟨none, rfl⟩, Same.refl _, fun k y hk => absurd hk (Nat.not_lt_zero _)⟩ ?_ ?_ ?_⟩
    · rintro j σ' H' _ ⟨_, s3, _⟩
      exact SqL.of (s3 _ _ hp2)
    · rintro j y σ' H' hy ⟨⟨x, rfl⟩, s3, hg⟩
      refine ⟨_, rfl, _, rfl, _, rfl, y, kn, ct, ns, kvs, rfl, IsE.mono (GR.Same.tps s3) (Nat.le_refl _) (Nat.le_refl _) (hes y (List.mem_of_getElem? hy)), s3 _ _ (s2 _ _ hk), s3 _ _ (s2 _ _ hd), hi, by omega, hN, fun H4 s4 g4 => ⟨⟨_, rfl⟩, s3.trans s4, fun k y' hk hy' => ?_⟩, e.up (s2.trans s3)⟩
      rcases Nat.lt_succ_iff_lt_or_eq.mp hk with w | w
      · exact up s4 (hg k y' w hy')
      · subst w
        rw [hy] at hy'
        cases hy'
        exact g4
    · rintro σ' H1 ⟨⟨x, rfl⟩, s3, hg⟩
      refine q _ (s2.trans s3) ?_
      have hfin0 := hcov (G K Wd N (clOf kvs) H1 n (fun z => z ∈ ns)) fun y hy => by
        obtain ⟨j, hj, ej⟩ := List.mem_iff_getElem.mp hy
        exact hg j y hj (by rw [List.getElem?_eq_getElem hj, ej])
      exact Sh.of_inn (InnS.mono (GR.Same.tps (s2a.trans s3)) (fun _ w => w) hfin0)
  | @ifs a b p rs e1 e2 ha hb hrl hrs h1 h2 =>
    have hin : InnS K Wd N H (IsE K Wd n N H) (.ref a) := ⟨a, b, rs, rfl, hb, hrl, .inl ⟨p, e1, e2, ha, hrs, h1, h2⟩⟩
    refine ⟨_, rfl, a, _, _, _, rfl, rfl, ha, rfl, ?_⟩
    refine ⟨_, rfl, rfl, _, rfl, if_f (eqF (by decide +kernel)) (iteF ?_)⟩
    refine ⟨_, rfl, rfl, _, rfl, if_f (eqF (by decide +kernel)) ?_⟩
    refine ⟨_, rfl, rfl, _, rfl, if_f (eqF (by decide +kernel)) ?_⟩
    refine ⟨_, rfl, rfl, _, rfl, if_f (eqF (by decide +kernel)) ?_⟩
    refine ⟨_, rfl, (by show 3 ≤ sizeLine; decide), fun p1 hp1 => ⟨p1, _, rfl, .inr (SqT.of upd_same), rfl, flatStr ["if", "chain", "part"], _, rfl, if_t (show inV (V.str "if") (List.map V.str (["if", "chain", "part"] : List Str)) = true by rw [inStr]; decide +kernel) ?_⟩⟩
    have s1 := same_new hp1 (.tup [.str "if", .str "chain", .str "part"])
    refine ⟨_, rfl, _, rfl, hin.mono (GR.Same.tps s1) (fun _ w => IsE.mono (GR.Same.tps s1) (Nat.le_refl _) (Nat.le_refl _) w), hN, fun p2 H2 es s2 hp2 hlen hes hcov => ?_⟩
    have s2a := s2
    have s2 := s1.trans s2
    refine ⟨p2, rfl, ⟨_, SqL.of hp2⟩, for_list (xs := es) (fun j σ' H' => (∃ x, σ' = [some (.ref a), some (.ref kn), some (.ref ct), some (.str "if"), none, none, none, none, x]) ∧ Same H2 H' ∧ ∀ k y, k < j → es[k]? = some y → G K Wd N (clOf kvs) H' n (fun z => z ∈ ns) y) ⟨⟨none, rfl⟩, Same.refl _, fun k y hk => absurd hk (Nat.not_lt_zero _)⟩ ?_ ?_ ?_⟩
    · rintro j σ' H' _ ⟨_, s3, _⟩
      exact SqL.of (s3 _ _ hp2)
    · rintro j y σ' H' hy ⟨⟨x, rfl⟩, s3, hg⟩
      refine ⟨_, rfl, _, rfl, _, rfl, y, kn, ct, ns, kvs, rfl, IsE.mono (GR.Same.tps s3) (Nat.le_refl _) (Nat.le_refl _) (hes y (List.mem_of_getElem? hy)), s3 _ _ (s2 _ _ hk), s3 _ _ (s2 _ _ hd), hi, by omega, hN, fun H4 s4 g4 => ⟨⟨_, rfl⟩, s3.trans s4, fun k y' hk hy' => ?_⟩, e.up (s2.trans s3)⟩
      rcases Nat.lt_succ_iff_lt_or_eq.mp hk with w | w
      · exact up s4 (hg k y' w hy')
      · subst w
        rw [hy] at hy'
        cases hy'
        exact g4
    · rintro σ' H1 ⟨⟨x, rfl⟩, s3, hg⟩
      refine q _ (s2.trans s3) ?_
      have hfin0 := hcov (G K Wd N (clOf kvs) H1 n (fun z => z ∈ ns)) fun y hy => by
        obtain ⟨j, hj, ej⟩ := List.mem_iff_getElem.mp hy
        exact hg j y hj (by rw [List.getElem?_eq_getElem hj, ej])
      exact Sh.of_inn (InnS.mono (GR.Same.tps (s2a.trans s3)) (fun _ w => w) hfin0)
end
end GR
set_option Elab.async false
set_option linter.all false
set_option maxRecDepth 100000
set_option maxHeartbeats 4000000
namespace GR
open PySem PySem.Spec PyProof.Rows L2
section
variable {P : Program} {w : World} {K : PySem.W.Frag} {Wd : Str → Prop} {mg : Str → Option Value} {base : Heap} {CC CB aR aS : Addr} {T : Toks} {f : Addr} {fd : FuncData} {n : Nat}
variable {N : Nat}
abbrev Info := List (Str × List Str)
/-- the calls that some definitions allow -/
def clI (info : Info) : Str → Nat → Prop := fun z i => ∃ ws, (z, ws) ∈ info ∧ ws.length = i
/-- a definition, well formed -/
def DefW (K : PySem.W.Frag) (Wd : Str → Prop) (n : Nat) (cl : Str → Nat → Prop) (H : Hp) (nm : Str) (ws : List Str) (d : V) : Prop := ∃ (a b : Addr) (at_ : Int) (ps : List V) (body : V), d = .ref a ∧ SqT K H a [.str nm, .int at_, .ref b, body] ∧ SqT K H b ps ∧ ps.length = ws.length ∧ ws.length ≤ 1000 ∧
  (∀ (k : Nat) (z : Str), ws[k]? = some z → ∃ (t : Addr) (sp : Int), ps[k]? = some (V.ref t) ∧ SqT K H t [.str z, .int sp]) ∧ G K Wd 1000 cl H n (fun z => z ∈ ws) body
theorem DefW.mono {n : Nat} {cl : Str → Nat → Prop} {H H' : Hp} {nm : Str} {ws : List Str} {d : V} (e : Tps H H') (h : DefW K Wd n cl H nm ws d) : DefW K Wd n cl H' nm ws d := by
  obtain ⟨a, b, at_, ps, body, h1, h2, h3, h4, h5, h6, h7⟩ := h
  refine ⟨a, b, at_, ps, body, h1, e.tup h2, e.tup h3, h4, h5, fun k z hz => ?_, G.mono e (Nat.le_refl _) (fun _ _ w => w) (Nat.le_refl _) (fun _ w => w) h7⟩
  obtain ⟨t, sp, g1, g2⟩ := h6 k z hz
  exact ⟨t, sp, g1, e.tup g2⟩
/-- the first i definitions are well formed, each by those ahead of it -/
def WfD (K : PySem.W.Frag) (Wd : Str → Prop) (n : Nat) (H : Hp) (ds : List V) (info : Info) (i : Nat) : Prop := ∀ (j : Nat) (d : V), j < i → ds[j]? = some d → ∃ nm ws, info[j]? = some (nm, ws) ∧ DefW K Wd n (clI (info.take j)) H nm ws d
def CtI (kvs : List (Key × V)) (info : Info) : Prop := ∀ (z : Str) (v : V), valV kvs (Sum.inr z : Key) = some v → ∃ ws, (z, ws) ∈ info ∧ v = .int (ws.length : Int)
theorem ParV.names {H : Hp} {ps : List V} (h : ∀ p ∈ ps, ParV K H p) : ∃ ws : List Str, ws.length = ps.length ∧ ∀ (k : Nat) (z : Str), ws[k]? = some z → ∃ (t : Addr) (sp : Int), ps[k]? = some (V.ref t) ∧ SqT K H t [.str z, .int sp] := by
  induction ps with
  | nil => exact ⟨[], rfl, fun k z hz => by simp at hz⟩
  | cons p r ih =>
    obtain ⟨ws, h1, h2⟩ := ih fun x hx => h x (List.mem_cons_of_mem _ hx)
    obtain ⟨t, z, sp, rfl, ht⟩ := h p (List.mem_cons_self ..)
    refine ⟨z :: ws, by rw [List.length_cons, List.length_cons, h1], fun k y hy => ?_⟩
    cases k with
    | zero => cases Option.some.inj hy; exact ⟨t, sp, rfl, ht⟩
    | succ k => exact h2 k y hy
def spCheckN (K : PySem.W.Frag) (Wd : Str → Prop) (CD CU CW : Addr) (n : Nat) : Sp := fun vs H Q E => ∃ (a : Addr) (ds : List V), vs = [.ref a] ∧ SqT K H a ds ∧ ds.length ≤ 1000 ∧ (∀ d ∈ ds, DefV K Wd n 1000 H d) ∧ n ≤ 1000 ∧
  (∀ H' info, Same H H' → info.length = ds.length → WfD K Wd n H' ds info ds.length → (info.map (·.1)).Nodup → Q .non H') ∧ ExN CD CU CW H E
abbrev scheck_names : Stmt := top 12
abbrev ncheck_names : List Str := ["definitions", "counts", "name", "at", "parameters", "body", "known", "parameter", "spot"]
theorem sccheck_names : FnScope ncheck_names ["definitions"] (defScope scheck_names) := ⟨rfl, rfl, rfl, by decide +kernel, rfl, by decide +kernel, by decide +kernel⟩
-- slots of check_names: 0 definitions, 1 counts, 2 name, 3 at, 4 parameters, 5 body, 6 known, 7 parameter, 8 spot
theorem ok_check_names {CD CU CW : Addr} (F : Fun K "check_names" "check_names" scheck_names f fd) (B : Blt mg) (X : NmF P w K mg CD CU CW)
    (c_check_expr : Cal P w K mg base (L2.CX P w) (n + 2) "check_expr" ["expr", "known", "counts"] (spCheckE K Wd CD CU CW 1000 n)) : FnOk P w K mg base (L2.CX P w) (n + 3) f fd ["definitions"] (spCheckN K Wd CD CU CW n) := by
  refine F.ownX (k := n + 2) sccheck_names (fun vs H Q E h => ?_) (fun cdv A outer s H vs Q E hr h => ?_)
  · obtain ⟨a, ds, rfl, _⟩ := h
    rfl
  obtain ⟨a, ds, rfl, ha, hl, hd, hn, q, e⟩ := h
  obtain ⟨xDoubleName, xUnknownName, xWrongCount⟩ := X
  refine ⟨_, (pss_cons (ps_set (i := 1) sccheck_names.nd rfl (by first | exact Or.inl rfl | exact Or.inr rfl) pe_dnewK) (pss_one (ps_for (passes_of rfl) rfl (pi_tup (pv 0)) (pg_tup (by rfl) (pgs_cons (pg_name (i := 2) sccheck_names.nd rfl (by first | exact Or.inl rfl | exact Or.inr rfl)) (pgs_cons (pg_name (i := 3) sccheck_names.nd rfl (by first | exact Or.inl rfl | exact Or.inr rfl)) (pgs_cons (pg_name (i := 4) sccheck_names.nd rfl (by first | exact Or.inl rfl | exact Or.inr rfl)) (pgs_cons (pg_name (i := 5) sccheck_names.nd rfl (by first | exact Or.inl rfl | exact Or.inr rfl)) pgs_nil)))))
    (pss_cons (ps_if (pt_cmp (pc_din (hu_of hr) (pv 2) (pv 1)))
    (pss_one (ps_raise rfl (takes_of rfl rfl rfl rfl) (pmk_2 xDoubleName hr (pa_cons (pv 2) (pa_cons (pv 3) pa_nil)) rfl))) pss_nil) (pss_cons (ps_set (i := 6) sccheck_names.nd rfl (by first | exact Or.inl rfl | exact Or.inr rfl) (pe_lst pa_nil)) (pss_cons (ps_for (passes_of rfl) rfl (pi_tup (pv 4)) (pg_tup (by rfl) (pgs_cons (pg_name (i := 7) sccheck_names.nd rfl (by first | exact Or.inl rfl | exact Or.inr rfl)) (pgs_cons (pg_name (i := 8) sccheck_names.nd rfl (by first | exact Or.inl rfl | exact Or.inr rfl)) pgs_nil)))
    (pss_cons (ps_if (pt_cmpR op_in_seq (pv 7) (pv 6) rfl)
    (pss_one (ps_raise rfl (takes_of rfl rfl rfl rfl) (pmk_2 xDoubleName hr (pa_cons (pv 7) (pa_cons (pv 8) pa_nil)) rfl))) pss_nil) (pss_one (ps_expr (pe_bm PySem.F.plainAttrs_list PySem.F.slot_list_append PySem.F.type_list_append mt_append (pv 6) (pa_cons (pv 7) pa_nil)))))) (pss_cons (ps_expr (pe_cX c_check_expr (takes_of rfl rfl rfl rfl) hr (by omega) rfl (pa_cons (pv 5) (pa_cons (pv 6) (pa_cons (pv 1) pa_nil))))) (pss_one (ps_dput (hu_of hr) (pv 1) (pv 2) (pe_callB call_len_seq (by rfl) B.len PySem.boot_len (pa_cons (pv 4) pa_nil)) rfl))))))))), ?_⟩
  intro ct hct
  have nc : ∀ {H' : Hp} {o : HO} {x : Addr}, H' ct = some o → H' x = none → x ≠ ct := fun h h' z => by rw [z, h] at h'; cases h'
  refine ⟨_, rfl, a, rfl, ⟨_, Same.tup (same_new hct _) ha⟩, for_tup (xs := ds) (fun i σ' H' => (∃ x2 x3 x4 x5 x6 x7 x8, σ' = [some (.ref a), some (.ref ct), x2, x3, x4, x5, x6, x7, x8]) ∧ ∃ kvs info, H' ct = some (.dK kvs) ∧ kvs.length ≤ i ∧ info.length = i ∧ CtI kvs info ∧ WfD K Wd n H' ds info i ∧ ((info.map (·.1)).Nodup ∧ ∀ z ws, (z, ws) ∈ info → ∃ v, valV kvs (Sum.inr z : Key) = some v) ∧ Stp ct H H')
    ⟨⟨_, _, _, _, _, _, _, rfl⟩, [], [], upd_same, Nat.le_refl _, rfl, (fun z v h => by rw [valV_nil] at h; cases h), (fun j d h => absurd h (Nat.not_lt_zero _)), ⟨List.nodup_nil, fun z ws h => nomatch h⟩, Stp.of (same_new hct _)⟩ ?_ ?_ ?_⟩
  · rintro i σ' H' _ ⟨_, kvs, info, _, _, _, _, _, _, st⟩
    exact Same.tup (Stp.same st hct) ha
  · rintro i d σ' H' hdi ⟨⟨x2, x3, x4, x5, x6, x7, x8, rfl⟩, kvs, info, hk, hkl, hil, hci, hwf, ⟨hnd, hkeys⟩, st⟩
    have hi : i < ds.length := (List.getElem?_eq_some_iff.mp hdi).1
    have s0 := Stp.same st hct
    obtain ⟨da, b, nm, at_, ps, body, rfl, hda, hb, hpl, hps, hbody⟩ := (hd d (List.mem_of_getElem? hdi)).mono (GR.Same.tps s0) (Nat.le_refl _) (Nat.le_refl _)
    obtain ⟨ws, hwl, hws⟩ := ParV.names hps
    refine ⟨da, _, rfl, hda, rfl, _, _, rfl, _, _, rfl, _, _, rfl, _, _, rfl, rfl, ?_⟩
    refine ⟨_, rfl, _, rfl, ct, _, rfl, DGet.k (k := Sum.inr nm) hk, _, rfl, ?_⟩
    cases hv : valV kvs (Sum.inr nm : Key) with
    | some y =>
      refine iteT ⟨_, rfl, _, rfl, rfl, fun dd hdd => ?_⟩
      exact e _ dd _ ⟨.inl rfl, _, _, upd_same⟩ (s0.trans (same_new hdd _))
    | none =>
    refine iteF ⟨(by show 0 ≤ sizeLine; decide), fun L hL => ?_⟩
    have sL := same_new hL (.lst [])
    have hkL : (L2.upd H' L (.lst [])) ct = some (.dK kvs) := sL _ _ hk
    refine ⟨_, rfl, b, rfl, ⟨_, Same.tup sL hb⟩, for_tup (xs := ps) (fun j σ'' H'' => (∃ y7 y8, σ'' = [some (.ref a), some (.ref ct), some (.str nm), some (.int at_), some (.ref b), some body, some (.ref L), y7, y8]) ∧ H'' L = some (.lst ((ws.take j).map V.str)) ∧ Stp L H' H'') ⟨⟨_, _, rfl⟩, by rw [upd_same]; rfl, Stp.of sL⟩ ?_ ?_ ?_⟩
    · rintro j σ'' H'' _ ⟨_, _, st2⟩
      exact Same.tup (Stp.same st2 hL) hb
    · rintro j p σ'' H'' hp ⟨⟨y7, y8, rfl⟩, hl2, st2⟩
      have s2 := Stp.same st2 hL
      have hj : j < ps.length := (List.getElem?_eq_some_iff.mp hp).1
      obtain ⟨z, hz⟩ : ∃ z, ws[j]? = some z := ⟨_, List.getElem?_eq_getElem (by omega)⟩
      obtain ⟨t, sp, h1, h2⟩ := hws j z hz
      rw [hp] at h1
      cases h1
      refine ⟨t, _, rfl, Same.tup s2 h2, rfl, _, _, rfl, _, _, rfl, rfl, ?_⟩
      refine ⟨_, rfl, _, rfl, L, _, rfl, .inl (SqL.of hl2), rfl, flatStr _, _, rfl, ?_⟩
      by_cases hin : z ∈ ws.take j
      · refine if_t (show inV (V.str z) ((ws.take j).map V.str) = true by rw [inStr]; exact decide_eq_true hin) ⟨_, rfl, _, rfl, rfl, fun dd hdd => ?_⟩
        exact e _ dd _ ⟨.inl rfl, _, _, upd_same⟩ ((s0.trans s2).trans (same_new hdd _))
      · refine if_f (show inV (V.str z) ((ws.take j).map V.str) = false by rw [inStr]; exact decide_eq_false hin) ?_
        refine ⟨_, rfl, .inl ⟨rfl, _, SqL.of hl2⟩, _, rfl, L, _, _, rfl, rfl, hl2, sml1 (by rw [List.length_map, List.length_take]; omega), ⟨_, _, rfl⟩, ?_, fun u o nu eu => by rw [upd_ne nu]; exact st2 u o nu eu⟩
        rw [upd_same, List.take_succ, hz, List.map_append]
        rfl
    · rintro σ'' H2 ⟨⟨y7, y8, rfl⟩, hl2, st2⟩
      have s2 := Stp.same st2 hL
      rw [← hwl, List.take_length] at hl2
      have ci2 : IntsD kvs := fun z v h => let ⟨ws', _, e'⟩ := hci z v h; ⟨_, e'⟩
      refine ⟨_, rfl, _, rfl, _, rfl, body, L, ct, ws, kvs, rfl, IsE.mono (GR.Same.tps s2) (Nat.le_refl _) (by omega) hbody, hl2, s2 _ _ hk, ci2, by omega, by decide, fun H3 s3 g3 => ?_, e.up (s0.trans s2)⟩
      have s3' := s2.trans s3
      have hk3 := s3' _ _ hk
      refine ⟨_, rfl, b, _, rfl, .inr (Same.tup s3' hb), _, rfl, _, rfl, ct, _, rfl, DPut.k (k := Sum.inr nm) hk3 (sml1 (by omega)), ⟨_, _, _, _, _, _, _, rfl⟩, putK kvs (Sum.inr nm) (.int (ps.length : Int)), info ++ [(nm, ws)], upd_same, ?_, by rw [List.length_append, hil]; rfl, fun z v h => ?_, fun j d' hj hd' => ?_, ⟨?_, fun z ws' hz => ?_⟩, fun u o nu eu => by rw [upd_ne nu]; exact s3' _ _ (st u o nu eu)⟩
      · rw [putK_new _ hv, List.length_append, List.length_singleton]
        omega
      · rw [valV_put] at h
        by_cases hzz : (Sum.inr z : Key) = Sum.inr nm
        · rw [if_pos hzz] at h
          cases h
          cases hzz
          exact ⟨ws, List.mem_append_right _ (List.mem_singleton.mpr rfl), by rw [hwl]⟩
        · rw [if_neg hzz] at h
          obtain ⟨ws', h1, h2⟩ := hci z v h
          exact ⟨ws', List.mem_append_left _ h1, h2⟩
      · have tp := (GR.Same.tps s3').trans (tps_upd (o := .dK (putK kvs (Sum.inr nm) (.int (ps.length : Int)))) (rd_dK hk3))
        rcases Nat.lt_succ_iff_lt_or_eq.mp hj with w | w
        · obtain ⟨nm', ws', h1, h2⟩ := hwf j d' w hd'
          refine ⟨nm', ws', by rw [List.getElem?_append_left (by omega)]; exact h1, ?_⟩
          rw [List.take_append_of_le_length (by omega)]
          exact h2.mono tp
        · subst w
          rw [hdi] at hd'
          cases hd'
          refine ⟨nm, ws, by rw [List.getElem?_append_right (by omega), hil, Nat.sub_self]; rfl, ?_⟩
          rw [List.take_append_of_le_length (by omega), show info.take j = info by rw [← hil]; exact List.take_length]
          refine ⟨da, b, at_, ps, body, rfl, tp.tup hda, tp.tup hb, hwl.symm, by omega, fun k z hz => ?_, G.mono ((tps_upd (rd_dK hk3))) (Nat.le_refl _) (fun z c hzc => ?_) (Nat.le_refl _) (fun _ w => w) g3⟩
          · obtain ⟨t, sp, h1, h2⟩ := hws k z hz
            exact ⟨t, sp, h1, tp.tup h2⟩
          · obtain ⟨ws', h1, h2⟩ := hci z _ hzc
            have := V.int.inj h2
            exact ⟨ws', h1, by omega⟩
      · rw [List.map_append]
        refine List.nodup_append.mpr ⟨hnd, by simp, fun a ha b hb' e => ?_⟩
        obtain ⟨⟨z', ws'⟩, h1, rfl⟩ := List.mem_map.mp ha
        rw [List.map_cons, List.map_nil] at hb'
        have e2 := List.mem_singleton.mp hb'
        obtain ⟨v, h2⟩ := hkeys z' ws' h1
        have e3 : z' = nm := e.trans e2
        rw [e3, hv] at h2
        cases h2
      · rw [valV_put]
        by_cases hzz : (Sum.inr z : Key) = Sum.inr nm
        · exact ⟨_, if_pos hzz⟩
        · rw [if_neg hzz]
          rcases List.mem_append.mp hz with hz | hz
          · exact hkeys z ws' hz
          · have := List.mem_singleton.mp hz
            exact absurd (congrArg (fun p : Str × List Str => (Sum.inr p.1 : Key)) this) hzz
  · rintro σ' H' ⟨_, kvs, info, _, _, hil, _, hwf, ⟨hnd, _⟩, st⟩
    exact q H' info (Stp.same st hct) hil hwf hnd
end
end GR
set_option Elab.async false
set_option linter.all false
set_option maxRecDepth 100000
set_option maxHeartbeats 4000000
/-! zip(*rows) of tuples, walked with a name as the target. -/
namespace PySem
open Sem (wp)
namespace F
theorem typeCall_zip_n (us : List Value) : checkTypeCall "zip" ⟨us, []⟩ = pure () := by kernel_rfl
theorem newCall_zip_n : ∀ us : List Value, checkBuiltinCall "zip.__new__" ⟨.type "zip" :: us, []⟩ = pure ()
  | [] => by kernel_rfl
  | [_] => by kernel_rfl
  | _ :: _ :: _ => by kernel_rfl
theorem args_object_init_n (a : Value) (us : List Value) : argsOk "object.__init__" ⟨a :: us, []⟩ := by
  unfold argsOk; rw [signature?_of (id := "object.__init__") (n := ['_', '_', 't', 'i', 'n', 'i', '_', '_']) (o := ['t', 'c', 'e', 'j', 'b', 'o']) (by kernel_rfl) owner_object]; kernel_rfl
end F
end PySem
namespace PySem
open Sem (wp)
namespace ZS
/-- a zip object, its first two fields as they are -/
abbrev IsZ (h : Heap) (z TI TO : Addr) (f0 f1 : Value) : Prop := h.get? z = some { cls := .type "zip", dict := none, data := .fields #[f0, f1, .bool false, .ref TI, .ref TO], slots := #[] }
abbrev IsTupN (h : Heap) (T : Addr) (vs : List Value) : Prop := h.get? T = some { cls := .type "tuple", data := .seq vs.toArray }
abbrev tIt (a : Addr) : Obj := { cls := .type "tuple_iterator", data := .fields #[.ref a, .int 0 0] }
section
variable {prog : Program} {w : World} {A : Around} {E : Value → Shared → Prop} {s : Shared} {z TI TO : Addr} {its as : List Addr}
theorem wpAny_alive {M : Model} {a : Addr} {Q : Option Obj → Shared → Prop} (h : Q (s.heap.get? a) s) : wpAny M A (loadIfAlive a) Q E s := fun Γ p hΓ => by
  show Sem.wp M Γ (.loadIfAlive a .pure) _ _ _ _
  rw [Sem.wp_loadIfAlive]
  exact h
theorem iterAll_tuples {Q : List Value → Shared → Prop} (hT : ∀ a ∈ as, ∃ items, s.heap.IsTuple a items)
    (hQ : ∀ h', h'.objs.size = s.heap.objs.size + as.length → (∀ c o, s.heap.get? c = some o → h'.get? c = some o) → (∀ j a, as[j]? = some a → h'.get? (s.heap.objs.size + j) = some (tIt a)) →
      Q ((List.range as.length).map fun j => .ref (s.heap.objs.size + j)) { s with heap := h' }) : wpAny (model prog w) A (Builtin.SmallTypes.iterAll (as.map .ref)) Q E s := by
  unfold Builtin.SmallTypes.iterAll
  refine wpAny_bind (wpAny_forIn_list _ (fun rest (b : Array Value) s' => ∃ k h', k ≤ as.length ∧ rest = (as.drop k).map Value.ref ∧ b.toList = (List.range k).map (fun j => Value.ref (s.heap.objs.size + j)) ∧ s' = { s with heap := h' } ∧ h'.objs.size = s.heap.objs.size + k ∧
    (∀ c o, s.heap.get? c = some o → h'.get? c = some o) ∧ ∀ j a, j < k → as[j]? = some a → h'.get? (s.heap.objs.size + j) = some (tIt a)) _ ?_ ?_ _ _ ⟨0, s.heap, Nat.zero_le _, rfl, rfl, rfl, rfl, fun _ _ e => e, fun j a hj => absurd hj (Nat.not_lt_zero _)⟩)
  · rintro x rest b s' ⟨k, h', hk, hr, hb, rfl, hsz, hkeep, hit⟩
    have hlt : k < as.length := by
      refine Nat.lt_of_le_of_ne hk fun e => ?_
      rw [e, List.drop_length] at hr
      cases hr
    rw [List.drop_eq_getElem_cons hlt, List.map_cons] at hr
    obtain ⟨rfl, rfl⟩ := List.cons.inj hr
    obtain ⟨items, ht⟩ := hT _ (List.getElem_mem hlt)
    have ht' : h'.IsTuple as[k] items := ht.at fun o e => hkeep _ _ e
    refine wpAny_bind (wpAny_holding (wpAny_pyIter_tuple (s := { s with heap := h' }) ht' (wpAny_pure ?_)))
    refine ⟨k + 1, h'.push (tIt as[k]), hlt, rfl, ?_, rfl, by rw [Heap.size_push, hsz]; omega, fun c o e => Heap.get?_push_of_some _ (hkeep c o e), fun j a hj ha => ?_⟩
    · show (b.push (Value.ref h'.objs.size)).toList = _
      rw [Array.toList_push, hb, List.range_succ, List.map_append, hsz]
      rfl
    · rcases Nat.lt_succ_iff_lt_or_eq.mp hj with e | e
      · exact Heap.get?_push_of_some _ (hit j a e ha)
      · subst e
        rw [List.getElem?_eq_getElem hlt] at ha
        cases ha
        rw [← hsz]
        exact Heap.get?_push_size _ rfl
  · rintro b s' ⟨k, h', hk, hr, hb, rfl, hsz, hkeep, hit⟩
    have e : k = as.length := by
      have := congrArg List.length hr
      rw [List.length_map, List.length_drop] at this
      simp at this
      omega
    subst e
    refine wpAny_pure ?_
    rw [hb]
    exact hQ h' hsz hkeep fun j a ha => hit j a (List.getElem?_eq_some_iff.mp ha).1 ha
/-- the cells of a zip lie apart -/
structure Sep (z TI TO : Addr) (its as : List Addr) : Prop where
  TIz : TI ≠ z
  TOz : TO ≠ z
  TITO : TI ≠ TO
  nd : its.Nodup
  zi : z ∉ its
  Ti : TI ∉ its
  To : TO ∉ its
  za : z ∉ as
  ta : TO ∉ as
  ia : ∀ a ∈ as, a ∉ its
  len : as.length = its.length
/-- where the iterators stand -/
def ItsAt (h : Heap) (its as : List Addr) (p : Nat → Nat) : Prop := ∀ (j : Nat) (it a : Addr), its[j]? = some it → as[j]? = some a → h.IsTupleIter it a (p j)
def VD (h : Heap) (as : List Addr) (xs : List Value) (i : Nat) : Prop := ∀ (j : Nat) (a : Addr) (x : Value), as[j]? = some a → xs[j]? = some x → ∃ items, h.IsTuple a items ∧ items[i]? = some x
theorem ItsAt.over {h h' : Heap} {p : Nat → Nat} {c : Addr} (H : ItsAt h its as p) (sb : Heap.SameBut c h h') (hc : c ∉ its) : ItsAt h' its as p := fun j it a h1 h2 => (H j it a h1 h2).at fun o e => (sb.2 it (fun z => hc (z ▸ List.mem_of_getElem? h1))).trans e
theorem VD.over {h h' : Heap} {xs : List Value} {i : Nat} {c : Addr} (H : VD h as xs i) (sb : Heap.SameBut c h h') (hc : c ∉ as) : VD h' as xs i := fun j a x h1 h2 => let ⟨items, g1, g2⟩ := H j a x h1 h2; ⟨items, g1.at fun o e => (sb.2 a (fun z => hc (z ▸ List.mem_of_getElem? h1))).trans e, g2⟩
/-- one iterator turns -/
theorem ItsAt.step {h h' : Heap} {i k : Nat} {it a : Addr} (S : Sep z TI TO its as) (H : ItsAt h its as fun j => if j < k then i + 1 else i) (h1 : its[k]? = some it) (h2 : as[k]? = some a) (ht : h'.IsTupleIter it a (i + 1)) (sb : Heap.SameBut it h h') : ItsAt h' its as fun j => if j < k + 1 then i + 1 else i := fun j it' a' g1 g2 => by
  by_cases e : j = k
  · subst e
    rw [h1] at g1
    rw [h2] at g2
    cases g1
    cases g2
    show h'.IsTupleIter it a (if j < j + 1 then i + 1 else i)
    rw [if_pos (Nat.lt_succ_self _)]
    exact ht
  · have ne : it' ≠ it := fun z => by
      subst z
      obtain ⟨l1, e1⟩ := List.getElem?_eq_some_iff.mp g1
      obtain ⟨l2, e2⟩ := List.getElem?_eq_some_iff.mp h1
      exact e ((List.getElem_inj S.nd).mp (e1.trans e2.symm))
    have := (H j it' a' g1 g2).at fun o e => (sb.2 it' ne).trans e
    show h'.IsTupleIter it' a' (if j < k + 1 then i + 1 else i)
    rw [show (if j < k + 1 then i + 1 else i) = (if j < k then i + 1 else i) by
      by_cases hj : j < k
      · rw [if_pos hj, if_pos (by omega)]
      · rw [if_neg hj, if_neg (by omega)]]
    exact this
/-- all but z, TO and the iterators stands -/
def Kp (z TO : Addr) (its : List Addr) (h h' : Heap) : Prop := ∀ c o, c ≠ z → c ≠ TO → c ∉ its → h.get? c = some o → h'.get? c = some o
theorem Kp.sb {h h1 h2 : Heap} {c : Addr} (k : Kp z TO its h h1) (sb : Heap.SameBut c h1 h2) (hc : c = z ∨ c = TO ∨ c ∈ its) : Kp z TO its h h2 := fun b o b1 b2 b3 e => by
  refine (sb.2 b (fun q => ?_)).trans (k b o b1 b2 b3 e)
  subst q
  rcases hc with q | q | q
  · exact b1 q
  · exact b2 q
  · exact b3 q
theorem updSeq {T k : Nat} {vals : List Value} {x : Value} {Q : Unit → Shared → Prop} (hT : IsTupN s.heap T vals) (hl : vals.length ≤ 100000)
    (h : ∀ h', IsTupN h' T (vals.set k x) → Heap.SameBut T s.heap h' → Q () { s with heap := h' }) : wpAny (model prog w) A (updateSeq T (·.setIfInBounds k x)) Q E s := by
  have hs : (100000 : Nat) ≤ sizeLine := by decide
  refine wpAny_updateSeq hT rfl (h _ ?_ (Heap.SameBut.update ..)) (by rw [List.size_toArray]; omega) (by rw [Array.size_setIfInBounds, List.size_toArray]; omega)
  show Heap.get? _ _ = _
  rw [Heap.get?_update_self _ hT rfl]
  simp [Obj.mapSeq]
theorem free_z {f0 f1 : Value} (hz : IsZ s.heap z TI TO f0 f1) (hf : f0 = .none ∨ ∃ n t, f0 = .int n t) :
    wpAny (model prog w) A (Builtin.SmallTypes.ownedTupleIsFree (.ref z)) (fun _ s' => ∃ h' f1', s' = { s with heap := h' } ∧ IsZ h' z TI TO f0 f1' ∧ Heap.SameBut z s.heap h') E s := by
  unfold Builtin.SmallTypes.ownedTupleIsFree
  refine wpAny_bind (wpAny_field hz rfl (x := f0) rfl ?_)
  rcases hf with rfl | ⟨n, t, rfl⟩
  · exact wpAny_pure ⟨s.heap, f1, rfl, hz, Heap.SameBut.refl _ _⟩
  · refine wpAny_bind (wpAny_alive ?_)
    cases e : s.heap.get? n.toNat with
    | none =>
      simp only [Option.isNone_none, if_true]
      exact wpAny_pure ⟨s.heap, f1, rfl, hz, Heap.SameBut.refl _ _⟩
    | some o =>
      simp only [Option.isNone_some, Bool.false_eq_true, if_false]
      refine wpAny_bind (wpAny_field hz rfl (x := f1) rfl ?_)
      by_cases hb : (f1 != Value.bool true) = true
      · rw [if_pos hb]
        refine wpAny_bind (wpAny_setField_rec hz (by simp) fun g0 hz0 hs0 => ?_)
        exact wpAny_pure ⟨g0, _, rfl, hz0, hs0⟩
      · rw [if_neg hb]
        first
          | exact wpAny_pure ⟨s.heap, f1, rfl, hz, Heap.SameBut.refl _ _⟩
          | exact wpAny_bind (wpAny_pure (wpAny_pure ⟨s.heap, f1, rfl, hz, Heap.SameBut.refl _ _⟩))
theorem zipIdx_drop {l : List Value} {k : Nat} {x : Value × Nat} {rest : List (Value × Nat)} (h : x :: rest = l.zipIdx.drop k) : k < l.length ∧ l[k]? = some x.1 ∧ x.2 = k ∧ rest = l.zipIdx.drop (k + 1) := by
  have hlt : k < l.zipIdx.length := by
    refine Nat.lt_of_not_le fun e => ?_
    rw [List.drop_eq_nil_of_le e] at h
    cases h
  rw [List.drop_eq_getElem_cons hlt] at h
  obtain ⟨rfl, rfl⟩ := List.cons.inj h
  have hl : k < l.length := by rw [List.length_zipIdx] at hlt; exact hlt
  refine ⟨hl, ?_, ?_, rfl⟩
  · rw [List.getElem_zipIdx, List.getElem?_eq_getElem hl]
  · rw [List.getElem_zipIdx]
    simp
theorem zip_next {Q : Value → Shared → Prop} {i : Nat} {f0 f1 : Value} {xs vals : List Value} (S : Sep z TI TO its as) (hz : IsZ s.heap z TI TO f0 f1) (hf : f0 = .none ∨ ∃ n t, f0 = .int n t) (hTI : IsTupN s.heap TI (its.map .ref)) (hTO : IsTupN s.heap TO vals) (hvl : vals.length = its.length)
    (hit : ItsAt s.heap its as fun _ => i) (hxl : xs.length = its.length) (hv : VD s.heap as xs i) (hpos : its ≠ []) (hsz : its.length ≤ 100000)
    (hQ : ∀ h' f0' f1' vals', IsZ h' z TI TO f0' f1' → (f0' = .none ∨ ∃ n t, f0' = .int n t) → IsTupN h' TI (its.map .ref) → IsTupN h' TO vals' → vals'.length = its.length → ItsAt h' its as (fun _ => i + 1) → IsTupN h' s.heap.objs.size xs → h'.objs.size = s.heap.objs.size + 1 →
      Kp z TO its s.heap h' → Q (.ref s.heap.objs.size) { s with heap := h' }) :
    wpAny (model prog w) A (Builtin.«zip.__next__» ⟨[.ref z], []⟩) (fun fin s' => ∃ v, fin = .done (.ret v) ∧ Q v s') E s := by
  obtain ⟨hp, g, d, tk0, os⟩ := s
  have hsl : (100000 : Nat) ≤ sizeLine := by decide
  have nTIz := S.TIz
  show wpAny _ _ (field (.ref z) 2 >>= _) _ _ _
  refine wpAny_bind (wpAny_field hz rfl (x := .bool false) rfl ?_)
  show wpAny _ _ (field (.ref z) 3 >>= _) _ _ _
  refine wpAny_bind (wpAny_field hz rfl (x := .ref TI) rfl ?_)
  refine wpAny_bind (wpAny_seqItems hTI rfl ?_)
  show wpAny _ _ (if (its.map Value.ref).toArray.isEmpty = true then _ else Builtin.SmallTypes.ownedTupleIsFree (.ref z) >>= _) _ _ _
  rw [if_neg (by cases its with
    | nil => exact absurd rfl hpos
    | cons a r => simp)]
  -- the owned tuple is free, or it isn't
  refine wpAny_bind (wpAny_mono (free_z hz hf) (fun b s1 hb => ?_) fun _ _ e => e)
  obtain ⟨h1, f1', rfl, hz1, sb1⟩ := hb
  have kp1 : Kp z TO its hp h1 := Kp.sb (fun _ _ _ _ _ e => e) sb1 (.inl rfl)
  have hTI1 : IsTupN h1 TI (its.map .ref) := (sb1.2 _ S.TIz).trans hTI
  have hTO1 : IsTupN h1 TO vals := (sb1.2 _ S.TOz).trans hTO
  have hit1 := hit.over sb1 S.zi
  have hv1 := hv.over sb1 S.za
  have hml : (its.map Value.ref).length = its.length := List.length_map _
  have get : ∀ {k : Nat} {x : Value}, (its.map Value.ref)[k]? = some x → ∃ it a y, x = .ref it ∧ its[k]? = some it ∧ as[k]? = some a ∧ xs[k]? = some y := fun {k x} h => by
    have hk : k < its.length := by rw [← hml]; exact (List.getElem?_eq_some_iff.mp h).1
    rw [List.getElem?_map, List.getElem?_eq_getElem hk] at h
    cases h
    exact ⟨_, as[k]'(by rw [S.len]; exact hk), xs[k]'(by omega), rfl, List.getElem?_eq_getElem hk, List.getElem?_eq_getElem _, List.getElem?_eq_getElem _⟩
  have mono : ∀ {j k : Nat} {h' : Heap} {a : Addr} {x : Value}, Kp z TO its hp h' → as[j]? = some a → xs[j]? = some x → ∃ items, h'.IsTuple a items ∧ items[i]? = some x := fun {j k h' a x} kp ha hx => by
    obtain ⟨items, g1, g2⟩ := hv j a x ha hx
    have hm := List.mem_of_getElem? ha
    exact ⟨items, g1.at fun o e => kp a o (fun q => S.za (q ▸ hm)) (fun q => S.ta (q ▸ hm)) (S.ia a hm) e, g2⟩
  cases b with
  | true =>
    simp only [if_true]
    refine wpAny_bind (wpAny_rule ?_)
    refine wpAny_bind (wpAny_field hz1 rfl (x := .ref TO) rfl ?_)
    refine wpAny_bind (wpAny_setField_rec hz1 (by simp) fun g0 hz0 hs0 => ?_)
    replace hz0 : IsZ g0 z TI TO .ellipsis f1' := hz0
    replace hs0 : Heap.SameBut z h1 g0 := hs0
    refine wpAny_bind (wpAny_forIn_list _ (fun rest b s' => b = ((none : Option Fin), ()) ∧ ∃ k h' vals', k ≤ its.length ∧ rest = ((its.map Value.ref).zipIdx.drop k) ∧ s' = ⟨h', g, d, tk0, os⟩ ∧ IsZ h' z TI TO .ellipsis f1' ∧ IsTupN h' TI (its.map .ref) ∧ IsTupN h' TO vals' ∧ vals'.length = its.length ∧ (∀ j, j < k → vals'[j]? = xs[j]?) ∧ ItsAt h' its as (fun j => if j < k then i + 1 else i) ∧ Kp z TO its hp h' ∧ h'.objs.size = hp.objs.size) _ ?_ ?_ _ _ ?_)
    · rintro x rest b s' ⟨rfl, k, h', vals', hk, hr, rfl, hz', hTI', hTO', hvl', hpre, hits, hkp, hszz⟩
      obtain ⟨hkl, hxk, hx2, hrest⟩ := zipIdx_drop hr
      obtain ⟨it, a, y, hx1, e1, e2, e3⟩ := get hxk
      obtain ⟨x1, x2⟩ := x
      replace hx1 : x1 = Value.ref it := hx1
      replace hx2 : x2 = k := hx2
      subst hx1 hx2
      refine wpAny_bind (wpAny_onRaise ?_)
      show wpAny _ _ (Builtin.SmallTypes.nextOf (.ref it) >>= _) _ _ _
      obtain ⟨items, t1, t2⟩ := mono (k := 0) hkp e2 e3
      have hti : h'.IsTupleIter it a i := by
        have this : h'.IsTupleIter it a (if x2 < x2 then i + 1 else i) := hits _ it a e1 e2
        rw [if_neg (Nat.lt_irrefl _)] at this
        exact this
      have itm := List.mem_of_getElem? e1
      have nm : ∀ {c : Addr}, c ∉ its → c ≠ it := fun h q => h (by rw [q]; exact itm)
      refine wpAny_bind (wpAny_nextOf_tuple_item (s := ⟨h', g, d, tk0, os⟩) hti t1 t2 fun p1 hp1 sp1 => wpAny_pure ?_)
      replace sp1 : Heap.SameBut it h' p1 := sp1
      have hTO2 : IsTupN p1 TO vals' := (sp1.2 _ (nm S.To)).trans hTO'
      refine wpAny_bind (wpAny_seqItems (s := ⟨p1, g, d, tk0, os⟩) hTO2 rfl ?_)
      refine wpAny_bind (updSeq (s := ⟨p1, g, d, tk0, os⟩) hTO2 (by omega) fun g1 hT1 hs1 => ?_)
      replace hs1 : Heap.SameBut TO p1 g1 := hs1
      refine wpAny_bind (wpAny_letGo (wpAny_pure ⟨rfl, x2 + 1, g1, _, by omega, hrest, rfl, ?_, ?_, hT1, by rw [List.length_set]; exact hvl', fun j hj => ?_, ?_, ?_, ?_⟩))
      · exact (hs1.2 _ (Ne.symm S.TOz)).trans ((sp1.2 _ (nm S.zi)).trans hz')
      · exact (hs1.2 _ S.TITO).trans ((sp1.2 _ (nm S.Ti)).trans hTI')
      · rcases Nat.lt_succ_iff_lt_or_eq.mp hj with e | e
        · rw [List.getElem?_set_ne (by omega)]
          exact hpre j e
        · subst e
          rw [List.getElem?_set_self (by omega), e3]
      · exact (ItsAt.step S hits e1 e2 hp1 sp1).over hs1 S.To
      · exact (hkp.sb sp1 (.inr (.inr itm))).sb hs1 (.inr (.inl rfl))
      · rw [hs1.1, sp1.1]
        exact hszz
    · rintro b s' ⟨rfl, k, h', vals', hk, hr, rfl, hz', hTI', hTO', hvl', hpre, hits, hkp, hszz⟩
      have ek : k = its.length := by
        have := congrArg List.length hr
        rw [List.length_drop, List.length_zipIdx, hml] at this
        simp at this
        omega
      have ev : vals' = xs := by
        refine List.ext_getElem? fun j => ?_
        by_cases hj : j < its.length
        · exact hpre j (by omega)
        · rw [List.getElem?_eq_none (by omega), List.getElem?_eq_none (by omega)]
      subst ev
      dsimp only
      refine wpAny_bind (wpAny_seqItems (s := ⟨h', g, d, tk0, os⟩) hTO' rfl ?_)
      refine wpAny_bind (wpAny_newTuple ?_ (by rw [List.toList_toArray]; omega))
      have hzlt : z < h'.objs.size := Heap.lt_size hz'
      show wpAny _ _ (Builtin.SmallTypes.ownedTupleHandOut (.ref z) (.ref h'.objs.size) >>= _) _ _ _
      refine wpAny_bind ?_
      unfold Builtin.SmallTypes.ownedTupleHandOut
      have hz2 : IsZ (h'.push { cls := .type "tuple", data := .seq vals'.toArray.toList.toArray }) z TI TO .ellipsis f1' := Heap.get?_push_of_some _ hz'
      refine wpAny_bind (wpAny_setField_rec hz2 (by simp) fun h3 hz3 hs3 => ?_)
      replace hz3 : IsZ h3 z TI TO (rawInt h'.objs.size) f1' := hz3
      refine wpAny_setField_rec hz3 (by simp) fun h4 hz4 hs4 => ?_
      replace hz4 : IsZ h4 z TI TO (rawInt h'.objs.size) (.bool false) := hz4
      replace hs3 : Heap.SameBut z (h'.push { cls := .type "tuple", data := .seq vals'.toArray.toList.toArray }) h3 := hs3
      replace hs4 : Heap.SameBut z h3 h4 := hs4
      have up : ∀ c o, c ≠ z → h'.get? c = some o → h4.get? c = some o := fun c o c1 e => hs4.extBut _ _ c1 (hs3.extBut _ _ c1 (Heap.get?_push_of_some _ e))
      have hT4 : IsTupN h4 h'.objs.size vals' := hs4.extBut _ _ (Nat.ne_of_gt hzlt) (hs3.extBut _ _ (Nat.ne_of_gt hzlt) (by
        have := Heap.get?_push_size h' (o := { cls := .type "tuple", data := .seq vals'.toArray.toList.toArray }) rfl
        simpa using this))
      have hz8 : h4.objs.size = h'.objs.size + 1 := by rw [hs4.1, hs3.1, Heap.size_push]
      rw [hszz] at hz4 hT4 hz8
      refine wpAny_pure ⟨_, rfl, ?_⟩
      show Q (.ref h'.objs.size) ⟨h4, g, d, tk0, os⟩
      rw [hszz]
      refine hQ h4 _ _ vals' hz4 (.inr ⟨_, _, rfl⟩) (up _ _ S.TIz hTI') (up _ _ S.TOz hTO') hvl' (fun j it a h1 h2 => ?_) hT4 hz8 fun c o c1 c2 c3 e => up c o c1 (hkp c o c1 c2 c3 e)
      have hj : j < its.length := (List.getElem?_eq_some_iff.mp h1).1
      have this : h4.IsTupleIter it a (if j < k then i + 1 else i) := (hits j it a h1 h2).at fun o e => up it o (fun q => S.zi (by rw [← q]; exact List.mem_of_getElem? h1)) e
      rw [if_pos (by omega)] at this
      exact this
    · refine ⟨rfl, 0, g0, vals, Nat.zero_le _, rfl, rfl, hz0, (hs0.2 _ S.TIz).trans hTI1, (hs0.2 _ S.TOz).trans hTO1, hvl, fun j hj => absurd hj (Nat.not_lt_zero _), ?_, kp1.sb hs0 (.inl rfl), hs0.1.trans sb1.1⟩
      have := hit1.over hs0 S.zi
      exact this
  | false =>
    simp only [Bool.false_eq_true, if_false]
    refine wpAny_bind (wpAny_forIn_array' _ (fun rest (b : Option Fin × Array Value) s' => b.1 = none ∧ ∃ k h', k ≤ its.length ∧ rest = ((its.map Value.ref).drop k) ∧ b.2.toList = xs.take k ∧ s' = ⟨h', g, d, tk0, os⟩ ∧ IsZ h' z TI TO f0 f1' ∧ IsTupN h' TI (its.map .ref) ∧ IsTupN h' TO vals ∧ ItsAt h' its as (fun j => if j < k then i + 1 else i) ∧ Kp z TO its hp h' ∧ h'.objs.size = hp.objs.size) _ ?_ ?_ _ _ ?_)
    · rintro x rest ⟨b1, b2⟩ s' ⟨hb1, k, h', hk, hr, hb2, rfl, hz', hTI', hTO', hits, hkp, hszz⟩
      replace hb1 : b1 = none := hb1
      subst hb1
      replace hb2 : b2.toList = xs.take k := hb2
      have hlt : k < its.length := by
        refine Nat.lt_of_le_of_ne hk fun e => ?_
        rw [e, ← hml, List.drop_length] at hr
        cases hr
      rw [List.drop_eq_getElem_cons (by rw [hml]; exact hlt)] at hr
      obtain ⟨rfl, hrest⟩ := List.cons.inj hr
      obtain ⟨it, a, y, hx1, e1, e2, e3⟩ := get (List.getElem?_eq_getElem (by rw [hml]; exact hlt))
      rw [hx1]
      have itm := List.mem_of_getElem? e1
      have nm : ∀ {c : Addr}, c ∉ its → c ≠ it := fun h q => h (by rw [q]; exact itm)
      obtain ⟨items, t1, t2⟩ := mono (k := 0) hkp e2 e3
      have hti : h'.IsTupleIter it a i := by
        have this : h'.IsTupleIter it a (if k < k then i + 1 else i) := hits _ it a e1 e2
        rw [if_neg (Nat.lt_irrefl _)] at this
        exact this
      refine wpAny_bind (wpAny_holding ?_)
      show wpAny _ _ (Builtin.SmallTypes.nextOf (.ref it) >>= _) _ _ _
      refine wpAny_bind (wpAny_nextOf_tuple_item (s := ⟨h', g, d, tk0, os⟩) hti t1 t2 fun p1 hp1 sp1 => wpAny_pure ?_)
      replace sp1 : Heap.SameBut it h' p1 := sp1
      refine wpAny_pure ⟨rfl, k + 1, p1, hlt, hrest, ?_, rfl, (sp1.2 _ (nm S.zi)).trans hz', (sp1.2 _ (nm S.Ti)).trans hTI', (sp1.2 _ (nm S.To)).trans hTO', ItsAt.step S hits e1 e2 hp1 sp1, hkp.sb sp1 (.inr (.inr itm)), by rw [sp1.1]; exact hszz⟩
      show (b2.push y).toList = _
      rw [Array.toList_push, hb2, List.take_succ, e3]
      rfl
    · rintro ⟨b1, b2⟩ s' ⟨hb1, k, h', hk, hr, hb2, rfl, hz', hTI', hTO', hits, hkp, hszz⟩
      replace hb1 : b1 = none := hb1
      subst hb1
      replace hb2 : b2.toList = xs.take k := hb2
      have ek : k = its.length := by
        have := congrArg List.length hr
        rw [List.length_drop, hml] at this
        simp at this
        omega
      rw [ek, ← hxl, List.take_length] at hb2
      dsimp only
      refine wpAny_bind (wpAny_newTuple ?_ (by rw [hb2]; omega))
      rw [hb2]
      refine wpAny_pure ⟨_, rfl, ?_⟩
      show Q (.ref h'.objs.size) ⟨h'.push { cls := .type "tuple", data := .seq xs.toArray }, g, d, tk0, os⟩
      have up : ∀ c o, h'.get? c = some o → (h'.push { cls := .type "tuple", data := .seq xs.toArray }).get? c = some o := fun c o e => Heap.get?_push_of_some _ e
      have hT : IsTupN (h'.push { cls := .type "tuple", data := .seq xs.toArray }) h'.objs.size xs := Heap.get?_push_size _ rfl
      rw [hszz] at hT
      rw [hszz]
      refine hQ _ _ _ vals (up _ _ hz') hf (up _ _ hTI') (up _ _ hTO') hvl (fun j it a h1 h2 => ?_) hT (by rw [Heap.size_push, hszz]) fun c o c1 c2 c3 e => up _ _ (hkp c o c1 c2 c3 e)
      have hj : j < its.length := (List.getElem?_eq_some_iff.mp h1).1
      have this := (hits j it a h1 h2).at fun o e => up it o e
      replace this : Heap.IsTupleIter _ it a (if j < k then i + 1 else i) := this
      rw [if_pos (by omega)] at this
      exact this
    · refine ⟨rfl, 0, h1, Nat.zero_le _, rfl, rfl, rfl, hz1, hTI1, hTO1, ?_, kp1, sb1.1⟩
      exact hit1
theorem zip_end {Q : Fin → Shared → Prop} {i : Nat} {f0 f1 : Value} {vals : List Value} {it0 a0 : Addr} {ir ar : List Addr} {items : Array Value} (hh : A.handled = none) (S : Sep z TI TO its as) (hz : IsZ s.heap z TI TO f0 f1) (hf : f0 = .none ∨ ∃ n t, f0 = .int n t) (hTI : IsTupN s.heap TI (its.map .ref)) (hTO : IsTupN s.heap TO vals)
    (hit : ItsAt s.heap its as fun _ => i) (ei : its = it0 :: ir) (ea : as = a0 :: ar) (ht : s.heap.IsTuple a0 items) (hx : items[i]? = none)
    (hE : ∀ h' e, Kp z TO its s.heap h' → (∃ o, h'.get? e = some o ∧ o.cls = .type "StopIteration") → E (.ref e) { s with heap := h' }) :
    wpAny (model prog w) A (Builtin.«zip.__next__» ⟨[.ref z], []⟩) Q E s := by
  obtain ⟨hp, g, d, tk0, os⟩ := s
  have itm : it0 ∈ its := by rw [ei]; exact List.mem_cons_self ..
  have nm : ∀ {c : Addr}, c ∉ its → c ≠ it0 := fun h q => h (by rw [q]; exact itm)
  have am : a0 ∈ as := by rw [ea]; exact List.mem_cons_self ..
  show wpAny _ _ (field (.ref z) 2 >>= _) _ _ _
  refine wpAny_bind (wpAny_field hz rfl (x := .bool false) rfl ?_)
  show wpAny _ _ (field (.ref z) 3 >>= _) _ _ _
  refine wpAny_bind (wpAny_field hz rfl (x := .ref TI) rfl ?_)
  refine wpAny_bind (wpAny_seqItems hTI rfl ?_)
  show wpAny _ _ (if (its.map Value.ref).toArray.isEmpty = true then _ else Builtin.SmallTypes.ownedTupleIsFree (.ref z) >>= _) _ _ _
  rw [if_neg (by rw [ei]; simp)]
  refine wpAny_bind (wpAny_mono (free_z hz hf) (fun b s1 hb => ?_) fun _ _ e => e)
  obtain ⟨h1, f1', rfl, hz1, sb1⟩ := hb
  have kp1 : Kp z TO its hp h1 := Kp.sb (fun _ _ _ _ _ e => e) sb1 (.inl rfl)
  have ht1 : h1.IsTuple a0 items := ht.at fun o e => (sb1.2 a0 (fun q => S.za (q ▸ am))).trans e
  have hi1 : h1.IsTupleIter it0 a0 i := (hit.over sb1 S.zi) 0 it0 a0 (by rw [ei]; rfl) (by rw [ea]; rfl)
  cases b with
  | true =>
    simp only [if_true]
    refine wpAny_bind (wpAny_rule ?_)
    refine wpAny_bind (wpAny_field hz1 rfl (x := .ref TO) rfl ?_)
    refine wpAny_bind (wpAny_setField_rec hz1 (by simp) fun g0 hz0 hs0 => ?_)
    replace hz0 : IsZ g0 z TI TO .ellipsis f1' := hz0
    replace hs0 : Heap.SameBut z h1 g0 := hs0
    refine wpAny_bind ?_
    rw [ei]
    simp only [List.map_cons, List.zipIdx_cons, List.forIn_cons]
    refine wpAny_bind (wpAny_bind (wpAny_onRaise ?_))
    show wpAny _ _ (Builtin.SmallTypes.nextOf (.ref it0) >>= _) _ _ _
    refine wpAny_bind (wpAny_nextOf_tuple_end (s := ⟨g0, g, d, tk0, os⟩) hh (hi1.at fun o e => (hs0.2 _ (Ne.symm (nm S.zi))).trans e) (ht1.at fun o e => (hs0.2 _ (fun q => S.za (q ▸ am))).trans e) hx fun q e hq he => ?_)
    replace hq : Heap.ExtBut it0 g0 q := hq
    obtain ⟨oe, hoe, hce⟩ := he
    have hzq : IsZ q z TI TO .ellipsis f1' := hq _ _ (nm S.zi) hz0
    have hez : e ≠ z := fun x => by
      subst x
      have hoe' : q.get? e = some oe := hoe
      rw [hzq] at hoe'
      cases hoe'
      simp at hce
    refine wpAny_setField_rec (s := ⟨q, g, d, tk0, os⟩) hzq (by simp) fun q' _ hq' => ?_
    replace hq' : Heap.SameBut z q q' := hq'
    exact hE q' e (fun c o c1 c2 c3 x => hq'.extBut _ _ c1 (hq _ _ (fun q => c3 (by rw [q]; exact itm)) (hs0.extBut _ _ c1 (kp1 c o c1 c2 c3 x)))) ⟨oe, hq'.extBut _ _ hez hoe, hce⟩
  | false =>
    simp only [Bool.false_eq_true, if_false]
    refine wpAny_bind ?_
    rw [ei, ← Array.forIn_toList]
    simp only [List.map_cons, List.forIn_cons]
    refine wpAny_bind (wpAny_bind (wpAny_holding ?_))
    show wpAny _ _ (Builtin.SmallTypes.nextOf (.ref it0) >>= _) _ _ _
    refine wpAny_bind (wpAny_nextOf_tuple_end (s := ⟨h1, g, d, tk0, os⟩) hh hi1 ht1 hx fun q e hq he => ?_)
    replace hq : Heap.ExtBut it0 h1 q := hq
    exact hE q e (fun c o c1 c2 c3 x => hq _ _ (fun q => c3 (by rw [q]; exact itm)) (kp1 c o c1 c2 c3 x)) he
theorem pyNext_item {Q : Option Value → Shared → Prop} {i : Nat} {f0 f1 : Value} {xs vals : List Value} (S : Sep z TI TO its as) (hz : IsZ s.heap z TI TO f0 f1) (hf : f0 = .none ∨ ∃ n t, f0 = .int n t) (hTI : IsTupN s.heap TI (its.map .ref)) (hTO : IsTupN s.heap TO vals) (hvl : vals.length = its.length)
    (hit : ItsAt s.heap its as fun _ => i) (hxl : xs.length = its.length) (hv : VD s.heap as xs i) (hpos : its ≠ []) (hsz : its.length ≤ 100000)
    (hQ : ∀ h' f0' f1' vals', IsZ h' z TI TO f0' f1' → (f0' = .none ∨ ∃ n t, f0' = .int n t) → IsTupN h' TI (its.map .ref) → IsTupN h' TO vals' → vals'.length = its.length → ItsAt h' its as (fun _ => i + 1) → IsTupN h' s.heap.objs.size xs → h'.objs.size = s.heap.objs.size + 1 →
      Kp z TO its s.heap h' → Q (some (.ref s.heap.objs.size)) { s with heap := h' }) : wpAny (model prog w) A (pyNext (.ref z)) Q E s := by
  have hT : s.TypeIs (.ref z) "zip" := ⟨_, hz, rfl⟩
  unfold pyNext
  exact wpAny_bind (wpAny_attempt (wpAny_callSpecial?_slot (name := Str.ofString "__next__") hT F.slot_zip_next
    (wpAny_call_entry F.slot_zip_next hT F.entry_zip_next
      (zip_next S hz hf hTI hTO hvl hit hxl hv hpos hsz fun h' f0' f1' vals' b1 b2 b3 b4 b5 b6 b7 b8 b9 => wpAny_pure (hQ h' f0' f1' vals' b1 b2 b3 b4 b5 b6 b7 b8 b9)) (F.args_zip_next_1 _))))
theorem pyNext_end {Q : Option Value → Shared → Prop} {i : Nat} {f0 f1 : Value} {vals : List Value} {it0 a0 : Addr} {ir ar : List Addr} {items : Array Value} (hh : A.handled = none) (S : Sep z TI TO its as) (hz : IsZ s.heap z TI TO f0 f1) (hf : f0 = .none ∨ ∃ n t, f0 = .int n t) (hTI : IsTupN s.heap TI (its.map .ref)) (hTO : IsTupN s.heap TO vals)
    (hit : ItsAt s.heap its as fun _ => i) (ei : its = it0 :: ir) (ea : as = a0 :: ar) (ht : s.heap.IsTuple a0 items) (hx : items[i]? = none)
    (hQ : ∀ h', Kp z TO its s.heap h' → Q none { s with heap := h' }) : wpAny (model prog w) A (pyNext (.ref z)) Q E s := by
  have hT : s.TypeIs (.ref z) "zip" := ⟨_, hz, rfl⟩
  unfold pyNext
  refine wpAny_bind (wpAny_attempt (wpAny_callSpecial?_slot (name := Str.ofString "__next__") hT F.slot_zip_next
    (wpAny_call_entry F.slot_zip_next hT F.entry_zip_next (zip_end (A := A.in1) hh S hz hf hTI hTO hit ei ea ht hx fun h' e hk he => ?_) (F.args_zip_next_1 _))))
  obtain ⟨o, ho, hc⟩ := he
  refine wpAny_bind (wpAny_isInstance (T := "StopIteration") (b := true) ⟨o, ho, hc⟩ isSubtype_stop ?_)
  exact wpAny_pure (hQ _ hk)
theorem pyIter_z {Q : Value → Shared → Prop} {f0 f1 : Value} (hz : IsZ s.heap z TI TO f0 f1) (h : Q (.ref z) s) : wpAny (model prog w) A (pyIter (.ref z)) Q E s := by
  have hT : s.TypeIs (.ref z) "zip" := ⟨_, hz, rfl⟩
  refine wpAny_pyIter_slot hT F.slot_zip_iter (wpAny_call_entry F.slot_zip_iter hT F.entry_zip_iter ?_ (F.args_zip_iter_1 _))
  show wpAny _ _ (ret (.ref z)) _ _ s
  exact wpAny_pure ⟨_, rfl, "zip", _, hT, F.slot_zip_next.lookup, h⟩
/-- zip(*as) -/
theorem meets_zip (as : List Addr) (hl : as.length ≤ 100000) : Meets (Builtin.«zip.__new__» ⟨.type "zip" :: as.map .ref, []⟩) (fun _ R s => (∀ a ∈ as, ∃ items, s.heap.IsTuple a items) ∧
    ∀ h', h'.objs.size = s.heap.objs.size + as.length + 3 → (∀ c o, s.heap.get? c = some o → h'.get? c = some o) → (∀ j a, as[j]? = some a → h'.get? (s.heap.objs.size + j) = some (tIt a)) →
      IsTupN h' (s.heap.objs.size + as.length) ((List.range as.length).map fun j => .ref (s.heap.objs.size + j)) → IsTupN h' (s.heap.objs.size + as.length + 1) ((List.range as.length).map fun _ => .none) →
      IsZ h' (s.heap.objs.size + as.length + 2) (s.heap.objs.size + as.length) (s.heap.objs.size + as.length + 1) .none (.bool false) → R (.ok (.ret (.ref (s.heap.objs.size + as.length + 2)))) { s with heap := h' }) :=
  .of_wp fun prog w A R s h => by
    obtain ⟨hp, g, d, tk, os⟩ := s
    obtain ⟨hT, h⟩ := h
    have hsub := sub_zip
    have hsl : (100000 : Nat) ≤ sizeLine := by decide
    wp_walk using iterAll_tuples hT
    intro h' hsz hkeep hits
    have e1 : ((List.range as.length).map fun j => (Value.ref (hp.objs.size + j) : Value)).length = as.length := by simp
    refine wpAny_bind (wpAny_newTuple ?_ (by rw [e1]; omega))
    refine wpAny_bind (wpAny_newTuple ?_ (by rw [List.length_map, e1]; omega))
    show wpAny _ _ (newObj (.type "zip") (.fields #[.none, .bool false, .bool false, .ref _, .ref _]) >>= _) _ _ _
    refine wpAny_bind (wpAny_newObj_type (wpAny_pure ⟨_, rfl, ?_⟩))
    have z1 : (h'.push { cls := .type "tuple", data := .seq ((List.range as.length).map fun j => (Value.ref (hp.objs.size + j) : Value)).toArray }).objs.size = hp.objs.size + as.length + 1 := by rw [Heap.size_push, hsz]
    have z2 : ((h'.push { cls := .type "tuple", data := .seq ((List.range as.length).map fun j => (Value.ref (hp.objs.size + j) : Value)).toArray }).push { cls := .type "tuple", data := .seq (((List.range as.length).map fun j => (Value.ref (hp.objs.size + j) : Value)).map fun _ => Value.none).toArray }).objs.size = hp.objs.size + as.length + 2 := by rw [Heap.size_push, z1]
    have zs : h'.objs.size = hp.objs.size + as.length := hsz
    dsimp only
    rw [z2, z1, zs]
    have g1 := Heap.get?_push_size h' (o := { cls := .type "tuple", data := .seq ((List.range as.length).map fun j => (Value.ref (hp.objs.size + j) : Value)).toArray }) rfl
    have g2 := Heap.get?_push_size (h'.push { cls := .type "tuple", data := .seq ((List.range as.length).map fun j => (Value.ref (hp.objs.size + j) : Value)).toArray }) (o := { cls := .type "tuple", data := .seq (((List.range as.length).map fun j => (Value.ref (hp.objs.size + j) : Value)).map fun _ => Value.none).toArray }) rfl
    rw [zs] at g1
    rw [z1] at g2
    refine h _ (by rw [Heap.size_push, z2]) (fun c o e => Heap.get?_push_of_some _ (Heap.get?_push_of_some _ (Heap.get?_push_of_some _ (hkeep c o e)))) (fun j a ha => Heap.get?_push_of_some _ (Heap.get?_push_of_some _ (Heap.get?_push_of_some _ (hits j a ha)))) (Heap.get?_push_of_some _ (Heap.get?_push_of_some _ g1)) ?_ ?_
    · have := Heap.get?_push_of_some { cls := .type "zip", data := .fields #[.none, .bool false, .bool false, .ref (hp.objs.size + as.length), .ref (hp.objs.size + as.length + 1)] } g2
      rw [List.map_map] at this
      rw [List.map_map]
      exact this
    · have := Heap.get?_push_size ((h'.push { cls := .type "tuple", data := .seq ((List.range as.length).map fun j => (Value.ref (hp.objs.size + j) : Value)).toArray }).push { cls := .type "tuple", data := .seq (((List.range as.length).map fun j => (Value.ref (hp.objs.size + j) : Value)).map fun _ => Value.none).toArray }) (o := { cls := .type "zip", data := .fields #[.none, .bool false, .bool false, .ref (hp.objs.size + as.length), .ref (hp.objs.size + as.length + 1)] }) rfl
      rw [z2] at this
      exact this
theorem call_zip {Q : Value → Shared → Prop} (hl : as.length ≤ 100000) (hT : ∀ a ∈ as, ∃ items, s.heap.IsTuple a items)
    (h : ∀ h', h'.objs.size = s.heap.objs.size + as.length + 3 → (∀ c o, s.heap.get? c = some o → h'.get? c = some o) → (∀ j a, as[j]? = some a → h'.get? (s.heap.objs.size + j) = some (tIt a)) →
      IsTupN h' (s.heap.objs.size + as.length) ((List.range as.length).map fun j => .ref (s.heap.objs.size + j)) → IsTupN h' (s.heap.objs.size + as.length + 1) ((List.range as.length).map fun _ => .none) →
      IsZ h' (s.heap.objs.size + as.length + 2) (s.heap.objs.size + as.length) (s.heap.objs.size + as.length + 1) .none (.bool false) → Q (.ref (s.heap.objs.size + as.length + 2)) { s with heap := h' }) :
    wpAny (model prog w) A (call (.type "zip") (as.map .ref)) Q E s := by
  refine callType_new F.called_zip (by decide) (F.typeCall_zip_n _) (F.newCall_zip_n _) (fun obj => F.args_object_init_n obj _) F.entry_zip_new (meets_zip as hl) ⟨hT, fun h' z1 z2 z3 z4 z5 z6 => ?_⟩
  exact ⟨⟨_, z6, rfl⟩, h h' z1 z2 z3 z4 z5 z6⟩
end
end ZS
end PySem
set_option Elab.async false
set_option linter.all false
set_option maxRecDepth 100000
set_option maxHeartbeats 4000000
/-! zip(*rows), the target a name: the walk. -/
namespace L2
open PySem PySem.Spec PyProof.Rows PySem.ZS
/-- the columns of the tuples at as, each in a new tuple -/
def Itzs (K : PySem.W.Frag) (as : List Addr) : It :=
  ⟨fun i H => ∃ xs : List V, xs.length = as.length ∧ ∀ (j : Nat) (a : Addr) (x : V), as[j]? = some a → xs[j]? = some x → ∃ ys, SqT K H a ys ∧ ys[i]? = some x,
    fun i H v H' => ∃ T xs, v = .ref T ∧ H T = none ∧ H' = upd H T (.tup xs) ∧ xs.length = as.length ∧ ∀ (j : Nat) (a : Addr) (ys : List V), as[j]? = some a → SqT K H a ys → xs[j]? = ys[i]?,
    fun i H => ∃ a ar ys, as = a :: ar ∧ SqT K H a ys ∧ ys.length ≤ i⟩
/-- values for the column -/
theorem vals_for {P : Nat → Value → Prop} : ∀ {xs : List V} {k : Nat}, (∀ j x, xs[j]? = some x → ∃ u, RelV x u ∧ P (k + j) u) → ∃ us, Vals xs us ∧ ∀ j u, us[j]? = some u → P (k + j) u
  | [], k, _ => ⟨[], .nil, fun j u h => by simp at h⟩
  | x :: r, k, h => by
    obtain ⟨u, r1, p1⟩ := h 0 x rfl
    obtain ⟨us, r2, p2⟩ := vals_for (xs := r) (k := k + 1) fun j y hy => by
      obtain ⟨v, a, b⟩ := h (j + 1) y hy
      exact ⟨v, a, by rw [Nat.add_assoc, Nat.add_comm 1 j]; exact b⟩
    refine ⟨u :: us, .cons r1 r2, fun j v hv => ?_⟩
    cases j with
    | zero => cases Option.some.inj hv; exact p1
    | succ j =>
      have := p2 j v hv
      rw [Nat.add_assoc, Nat.add_comm 1 j] at this
      exact this
theorem turn_zips {P : Program} {w : World} {K : PySem.W.Frag} {x : Str} {tp : Pos} {z TI TO : Addr} {its as : List Addr} (D : Sep z TI TO its as) (hpos : its ≠ []) (hsz : its.length ≤ 100000) :
    Turn P w K (.Name x tp) (Itzs K as) (z :: TI :: TO :: its) z (fun i h => ∃ f0 f1 vals, IsZ h z TI TO f0 f1 ∧ (f0 = .none ∨ ∃ n t, f0 = .int n t) ∧ IsTupN h TI (its.map .ref) ∧ IsTupN h TO vals ∧ vals.length = its.length ∧ ItsAt h its as fun _ => i) where
  mem := by simp
  obj := fun i h st c hc => by
    obtain ⟨f0, f1, vals, hz, hf, hTI, hTO, hvl, hit⟩ := st
    rcases List.mem_cons.mp hc with rfl | hc
    · exact ⟨_, hz, fun v q => nomatch q⟩
    rcases List.mem_cons.mp hc with rfl | hc
    · exact ⟨_, hTI, fun v q => nomatch q⟩
    rcases List.mem_cons.mp hc with rfl | hc
    · exact ⟨_, hTO, fun v q => nomatch q⟩
    obtain ⟨j, hj, e⟩ := List.mem_iff_getElem.mp hc
    obtain ⟨o, h1, _, h3⟩ := hit j c (as[j]'(by rw [D.len]; exact hj)) (by rw [List.getElem?_eq_getElem hj, e]) (List.getElem?_eq_getElem _)
    exact ⟨o, h1, fun v q => by rw [h3] at q; cases q⟩
  keep := fun i h h' st k => by
    obtain ⟨f0, f1, vals, hz, hf, hTI, hTO, hvl, hit⟩ := st
    exact ⟨f0, f1, vals, k z (by simp) _ hz, hf, k TI (by simp) _ hTI, k TO (by simp) _ hTO, hvl, fun j it a h1 h2 => (hit j it a h1 h2).at fun o q => k it (List.mem_cons_of_mem _ (List.mem_cons_of_mem _ (List.mem_cons_of_mem _ (List.mem_of_getElem? h1)))) o q⟩
  item := by
    intro X hP hw hK hc i pins s σ H E I hf st hg
    subst hP hw hK
    obtain ⟨f0, f1, vals, hz, hf0, hTI, hTO, hvl, hit⟩ := st
    obtain ⟨xs, hxl, hgo⟩ := hg
    obtain ⟨us, rus, hus⟩ := vals_for (xs := xs) (k := 0) (P := fun j u => ∀ a, as[j]? = some a → ∃ items, s.heap.IsTuple a items ∧ items[i]? = some u) fun j y hy => by
      have hj : j < as.length := by rw [← hxl]; exact (List.getElem?_eq_some_iff.mp hy).1
      obtain ⟨ys, hq, hyi⟩ := hgo j as[j] y (List.getElem?_eq_getElem hj) hy
      obtain ⟨its2, rv, p, _⟩ := I.tuple hq
      obtain ⟨u, hu, ru⟩ := rv.get hyi
      refine ⟨u, ru, fun a ha => ?_⟩
      rw [Nat.zero_add, List.getElem?_eq_getElem hj] at ha
      cases ha
      exact ⟨its2.toArray, p, by simpa using hu⟩
    have hul : us.length = its.length := by rw [← rus.length, hxl, D.len]
    have hzl : z < s.heap.objs.size := Heap.lt_size hz
    have hvd : VD s.heap as us i := fun j a u ha hu => by
      have := hus j u hu a
      rw [Nat.zero_add] at this
      exact this ha
    refine pyNext_item D hz hf0 hTI hTO hvl hit hul hvd hpos hsz fun h' f0' f1' vals' b1 b2 b3 b4 b5 b6 b7 b8 hk => ?_
    refine ⟨_, rfl, ?_⟩
    have new : ObjOk X.prog X.w (upd H s.heap.objs.size (.tup xs)) h' s.heap.objs.size (.tup xs) :=
      ⟨by have : (100000 : Nat) ≤ sizeLine := by decide
          rw [rus.length, hul]; omega, us, rus, ⟨_, b7, rfl, _, rfl⟩⟩
    have I1 : Inv X pins σ (upd H s.heap.objs.size (.tup xs)) { s with heap := h' } :=
      I.turnedNew (t' := s.toks) (ch := z :: TI :: TO :: its) (fun c o hb q => hk c o (fun e => hb (by simp [e])) (fun e => hb (by simp [e])) (fun e => hb (by simp [e])) q) hf (Nat.le_refl _) new
    have fin : ∃ x' H', Inv X pins σ H' { s with heap := h' } ∧ RelV x' (.ref s.heap.objs.size) ∧ (Itzs X.K as).yld i H x' H' ∧ (∃ f0 f1 vals, IsZ h' z TI TO f0 f1 ∧ (f0 = .none ∨ ∃ n t, f0 = .int n t) ∧ IsTupN h' TI (its.map .ref) ∧ IsTupN h' TO vals ∧ vals.length = its.length ∧ ItsAt h' its as fun _ => i + 1) ∧ ∀ b ∈ z :: TI :: TO :: its, H' b = none := by
      refine ⟨.ref s.heap.objs.size, _, I1, rfl, ⟨_, xs, rfl, I.hok.fresh (Nat.le_refl _), rfl, hxl, fun j a ys ha hq => ?_⟩, ⟨f0', f1', vals', b1, b2, b3, b4, b5, b6⟩, fun c hcm => ?_⟩
      · have hj : j < xs.length := by rw [hxl]; exact (List.getElem?_eq_some_iff.mp ha).1
        obtain ⟨ys', hq', e'⟩ := hgo j a xs[j] ha (List.getElem?_eq_getElem hj)
        rw [I.tuple_inj hq hq', e', List.getElem?_eq_getElem hj]
      · have hlt : c < s.heap.objs.size := by
          obtain ⟨o, e, _⟩ := (show ∃ o, s.heap.get? c = some o ∧ ∀ v, o.data ≠ .cell v from by
            rcases List.mem_cons.mp hcm with rfl | hc
            · exact ⟨_, hz, fun v q => nomatch q⟩
            rcases List.mem_cons.mp hc with rfl | hc
            · exact ⟨_, hTI, fun v q => nomatch q⟩
            rcases List.mem_cons.mp hc with rfl | hc
            · exact ⟨_, hTO, fun v q => nomatch q⟩
            obtain ⟨j, hj, e⟩ := List.mem_iff_getElem.mp hc
            obtain ⟨o, h1, _, h3⟩ := hit j c (as[j]'(by rw [D.len]; exact hj)) (by rw [List.getElem?_eq_getElem hj, e]) (List.getElem?_eq_getElem _)
            exact ⟨o, h1, fun v q => by rw [h3] at q; cases q⟩)
          exact Heap.lt_size e
        rw [upd_ne (Nat.ne_of_lt hlt)]
        exact (hf c hcm).1
    unfold letOwnedTupleGo
    exact wpAny_pure fin
  done := by
    intro X hP hw hK hc i pins s σ H E I hf st hg
    subst hP hw hK
    obtain ⟨f0, f1, vals, hz, hf0, hTI, hTO, hvl, hit⟩ := st
    obtain ⟨a, ar, ys, ea, hq, hend⟩ := hg
    obtain ⟨its2, rv, p, _⟩ := I.tuple hq
    have l1 := rv.length
    cases ei : its with
    | nil => exact absurd ei hpos
    | cons it0 ir =>
    refine pyNext_end (I.ok.hd hc) D hz hf0 hTI hTO hit ei ea (items := its2.toArray) p (by simp; omega) fun h' hk => ⟨rfl, I.turnedL (t' := s.toks) (ch := z :: TI :: TO :: its) (fun c o hb q => hk c o (fun e => hb (by simp [e])) (fun e => hb (by simp [e])) (fun e => hb (by simp [e])) q) hf⟩
  self := fun A i s Q E st h => by
    obtain ⟨f0, f1, vals, hz, _⟩ := st
    exact pyIter_z hz h
def iZips (K : PySem.W.Frag) (te : TE) : TI := fun σ H R => te σ H fun y H1 => ∃ L as, y = .ref L ∧ SqL K H1 L (as.map V.ref) ∧ as ≠ [] ∧ as.length ≤ 100000 ∧ (∀ a ∈ as, ∃ xs, SqT K H1 a xs) ∧ R (Itzs K as) H1
theorem vals_refs : ∀ {as : List Addr} {us : List Value}, Vals (as.map V.ref) us → us = as.map Value.ref
  | [], _, h => by cases h; rfl
  | a :: r, _, h => by
    cases h with
    | cons h1 h2 =>
      cases h1
      rw [vals_refs h2]
      rfl
theorem pi_zips {X : Cx} {e : Expr} {te : TE} {p pos sp tp : Pos} {x : Str} (hg : Gl X "zip") (hm : X.mg "zip" = none) (he : PE X e te) (hs : starEach [.Starred e sp] X.env = [(true, eval e X.env)] := by rfl) :
    PI X (.Name x tp) (.Call (.Name "zip" p) [.Starred e sp] [] pos) (iZips X.K te) := by
  refine ⟨fun pins s σ H R I h => ?_⟩
  refine Call_ (ld_blt I hg hm PyProof.Rows.boot_zip ?_)
  rw [hs]
  refine PySem.W.ks_call (P := fun _ => True) rfl (fun h _ => ⟨.machine, .inr (.inl rfl), PySem.W.Looks.of_pure rfl⟩) (PySem.W.ks_lone ?_)
  refine thn (he.run pins s σ H _ I h) fun v s1 ⟨y, H1, I1, ry, L, as, ey, hL, hne, hal, hT, q⟩ => ?_
  subst ey
  obtain rfl : v = Value.ref L := ry
  refine StX.star_lst I1 hL fun us s2 I2 rv => ⟨trivial, ?_⟩
  have eu := vals_refs rv
  subst eu
  have hT2 : ∀ a ∈ as, ∃ items, s2.heap.IsTuple a items := fun a ha => by
    obtain ⟨xs, hx⟩ := hT a ha
    obtain ⟨its, _, pp, _⟩ := I2.tuple hx
    exact ⟨_, pp⟩
  show wpAny _ _ (call (.type "zip") ([] ++ as.map Value.ref)) _ _ _
  rw [List.nil_append]
  refine call_zip hal hT2 fun h' z1 z2 z3 z4 z5 z6 => pyIter_z z6 ?_
  have I3 : Inv X pins σ H1 { s2 with heap := h' } := I2.kept (t' := s2.toks) z2
  have lt : ∀ a ∈ as, a < s2.heap.objs.size := fun a ha => by
    obtain ⟨items, o, e, _⟩ := hT2 a ha
    exact Heap.lt_size e
  have hmem : ∀ c, c ∈ (List.range as.length).map (fun j => s2.heap.objs.size + j) → s2.heap.objs.size ≤ c ∧ c < s2.heap.objs.size + as.length := fun c hc => by
    obtain ⟨j, hj, rfl⟩ := List.mem_map.mp hc
    have := List.mem_range.mp hj
    exact ⟨Nat.le_add_right _ _, Nat.add_lt_add_left this _⟩
  have S : Sep (s2.heap.objs.size + as.length + 2) (s2.heap.objs.size + as.length) (s2.heap.objs.size + as.length + 1) ((List.range as.length).map fun j => s2.heap.objs.size + j) as := by
    refine ⟨?_, ?_, ?_, ?_, ?_, ?_, ?_, ?_, ?_, ?_, ?_⟩
    · exact Nat.ne_of_lt (by omega)
    · exact Nat.ne_of_lt (by omega)
    · exact Nat.ne_of_lt (by omega)
    · rw [List.nodup_iff_pairwise_ne]
      refine List.Pairwise.map _ (fun (a b : Nat) (hab : a ≠ b) => ?_) List.nodup_range
      show s2.heap.objs.size + a ≠ s2.heap.objs.size + b
      omega
    · intro hc; have := hmem _ hc; omega
    · intro hc; have := hmem _ hc; omega
    · intro hc; have := hmem _ hc; omega
    · intro hc; exact absurd (lt _ hc) (Nat.not_lt.mpr (by omega))
    · intro hc; exact absurd (lt _ hc) (Nat.not_lt.mpr (by omega))
    · intro a ha hc; exact absurd (lt _ ha) (Nat.not_lt.mpr (hmem _ hc).1)
    · simp
  refine ⟨s2.heap.objs.size + as.length + 2, _, _, _, H1, rfl, I3, turn_zips S (fun e => hne (by
    have := congrArg List.length e
    rw [List.length_map, List.length_range] at this
    exact List.eq_nil_of_length_eq_zero this)) (by rw [List.length_map, List.length_range]; exact hal), ⟨.none, .bool false, _, z6, .inl rfl, ?_, z5, ?_, ?_⟩, fun c hcm => ?_, q⟩
  · rw [List.map_map]
    exact z4
  · simp
  · intro j it a h1 h2
    have hj : j < as.length := (List.getElem?_eq_some_iff.mp h2).1
    rw [List.getElem?_map, List.getElem?_range hj] at h1
    cases h1
    exact ⟨_, z3 j a h2, rfl, rfl⟩
  · have hle : s2.heap.objs.size ≤ c := by
      rcases List.mem_cons.mp hcm with rfl | hc
      · omega
      rcases List.mem_cons.mp hc with rfl | hc
      · omega
      rcases List.mem_cons.mp hc with rfl | hc
      · omega
      exact (hmem _ hc).1
    exact I2.fpOk hle (I2.hok.fresh hle)
end L2
set_option Elab.async false
set_option linter.all false
set_option maxRecDepth 100000
set_option maxHeartbeats 4000000
/-! sum of a tuple, text * int, enumerate over a tuple, the call of a static method. -/
namespace L2
open PySem PySem.Spec PyProof.Rows
section
variable {X : Cx}
/-- sum(t) of a tuple of ints -/
theorem cr_sumT (hc : X.calm = true) : CallR X (.builtin "sum") (GR.rSumT X.K) := by
  intro pins s σ H vs us Q I r h
  obtain ⟨a, ns, rfl, hs, q⟩ := h
  obtain ⟨its, rv, hl, _⟩ := I.tuple hs
  rw [Vals.ref1 r]
  obtain ⟨xs, e⟩ := (intsAre_of rv).allInts.items
  have hn : numsOf (intItems xs).toList = ns := by rw [← e]; exact (intsAre_of rv).numsOf
  rw [nums_intItems] at hn
  have hlt : a < s.heap.objs.size := by
    obtain ⟨o, h1, _⟩ := hl
    exact Heap.lt_size h1
  have ht : s.heap.IsTuple a (intItems xs) := e ▸ hl
  refine call_sum_walkG (wpAny_pyIter_tuple ht ?_)
  have hne : a ≠ s.heap.objs.size := Nat.ne_of_lt hlt
  refine ⟨_, _, _, _, _, _, numAt xs, rfl, Walks.tuple (A := X.A.in1) (I.ok.hd hc) s.heap.objs.size a hne (intItems xs), ⟨⟨_, Heap.get?_push_size _ rfl, rfl, rfl⟩, ht.push _⟩, fun b hb => ?_, (fun _ _ => intItems_at), fun h' tk t' hk => ?_⟩
  · show b < (s.heap.push _).objs.size
    rw [Heap.size_push]
    have hb' : b = s.heap.objs.size ∨ b = a := by simpa using hb
    rcases hb' with z | z
    · rw [z]; exact Nat.lt_succ_self _
    · rw [z]; exact Nat.lt_succ_of_lt hlt
  · have hkeep : ∀ b o, s.heap.get? b = some o → h'.get? b = some o := fun b o eb => hk b o (by simpa using Nat.ne_of_lt (Heap.lt_size eb)) (Heap.get?_push_of_some _ eb)
    have e2 : preSum (numAt xs) (intItems xs).size = ns.sum := by rw [show (intItems xs).size = xs.size by simp [intItems], preSum_eq, List.take_of_length_le (by simp), hn]
    rw [e2]
    exact ⟨.int _, H, I.kept hkeep, ⟨_, rfl⟩, q⟩
/-- text * int -/
def rMulS : R2 := fun x y H Q => ∃ (z : Str) (n : Int), x = .str z ∧ y = .int n ∧ z.length ≤ 1000 ∧ 0 ≤ n ∧ n ≤ 1000 ∧ Q (.str (Txt.mul z n)) H
theorem op_mulS : OpR X (binaryOp .Mult) rMulS := by
  intro pins s σ H x y v u Q I rx ry h
  obtain ⟨z, n, rfl, rfl, hz, h0, hn, q⟩ := h
  obtain ⟨t, rfl⟩ := rx
  obtain ⟨t', rfl⟩ := ry
  refine SB.mul (PyProof.Rows.mulOk_of 1000 1000 hz (by omega) (by omega) (by decide) (by decide)) fun t2 k => ?_
  exact ⟨.str _, H, I.tok _, ⟨_, rfl⟩, q⟩
end
theorem reps_mem {c : Array Nat} {P : Nat → Prop} (h : ∀ x ∈ c.toList, P x) : ∀ (k : Nat) (acc : Array Nat), (∀ x ∈ acc.toList, P x) → ∀ x ∈ ((List.replicate k c).foldl (· ++ ·) acc).toList, P x
  | 0, acc, ha, x, hx => ha x hx
  | k + 1, acc, ha, x, hx => by
    rw [List.replicate_succ, List.foldl_cons] at hx
    refine reps_mem h k (acc ++ c) (fun y hy => ?_) x hx
    rw [Array.toList_append] at hy
    rcases List.mem_append.mp hy with hy | hy
    · exact ha y hy
    · exact h y hy
theorem mul_mem {z : Str} {n : Int} {P : Nat → Prop} (h : ∀ x ∈ z.cps.toList, P x) : ∀ x ∈ (Txt.mul z n).cps.toList, P x := by
  unfold Txt.mul
  split
  · intro x hx
    simp [Str.empty] at hx
  · split
    · exact h
    · exact reps_mem h _ _ (by simp)
/-! ### enumerate(tuple) -/
def Iet (K : PySem.W.Frag) (a : Addr) : It :=
  ⟨fun i H => ∃ (xs : List V) (x : V), SqT K H a xs ∧ xs[i]? = some x, fun i H v H' => ∃ T x, v = .ref T ∧ H T = none ∧ H' = upd H T (.tup [.int (i : Nat), x]) ∧ ∀ xs, SqT K H a xs → xs[i]? = some x, fun i H => ∃ xs : List V, SqT K H a xs ∧ xs.length ≤ i⟩
theorem turn_enumT {P : Program} {w : World} {K : PySem.W.Frag} {elts : List Expr} {kk : Nat} {tpos : Pos} (a e it : Addr) :
    Turn P w K (.Tuple elts kk tpos) (Iet K a) [e, it] e (fun i h => (∃ old, IsEnum h e it ((i : Nat) : Int) old) ∧ h.IsTupleIter it a i ∧ e ≠ it ∧ a ≠ it ∧ a ≠ e) where
  mem := by simp
  obj := fun i h st b hb => by
    obtain ⟨⟨old, he⟩, ⟨o, ho, hc, hd⟩, _⟩ := st
    have e' : b = e ∨ b = it := by simpa using hb
    rcases e' with z | z
    · rw [z]; exact ⟨_, he, fun v q => nomatch q⟩
    · rw [z]; exact ⟨o, ho, fun v q => by rw [hd] at q; cases q⟩
  keep := fun i h h' st k => let ⟨⟨old, he⟩, hi, hne⟩ := st; ⟨⟨old, k e (by simp) _ he⟩, hi.at fun o q => k it (by simp) o q, hne⟩
  item := by
    intro X hP hw hK hc i pins s σ H E I hf st hg
    subst hP hw hK
    obtain ⟨⟨old, he⟩, hit, hne, hai, hae⟩ := st
    obtain ⟨xs, x, hq, hx⟩ := hg
    obtain ⟨its, rv, p, hz⟩ := I.tuple hq
    obtain ⟨u, hu, ru⟩ := rv.get hx
    have hel : e < s.heap.objs.size := Heap.lt_size he
    have hil : it < s.heap.objs.size := by obtain ⟨_, q, _⟩ := hit; exact Heap.lt_size q
    have hlen : i < its.toArray.size := by
      rw [List.size_toArray]
      exact (List.getElem?_eq_some_iff.mp hu).1
    refine wpAny_pyNext_enum_itemD (Draws.tuple (A := X.A.in1) (I.ok.hd hc) it a hai its.toArray) he ⟨hit, p⟩ hlen hne (by simp [hne, Ne.symm hae]) fun u' h' tk hu' ho hit' hT hsz hk => ?_
    have eu : u' = u := by
      have h1 : its.toArray[i]? = some u' := hu'
      have h2 : its.toArray[i]? = some u := by simpa using hu
      rw [h1] at h2
      exact Option.some.inj h2
    subst eu
    refine ⟨_, rfl, wpAny_letOwnedTupleGo_enum (s := { s with heap := h', toks := tk + 1 }) ho fun h'' he' sb => ?_⟩
    have hT2 : h''.get? s.heap.objs.size = some { cls := .type "tuple", data := .seq #[.int i tk, u'] } := (sb.2 _ (Nat.ne_of_gt hel)).trans hT
    have new : ObjOk X.prog X.w (upd H s.heap.objs.size (.tup [.int (i : Nat), x])) h'' s.heap.objs.size (.tup [.int (i : Nat), x]) :=
      ⟨by show 2 ≤ sizeLine; decide, [.int i tk, u'], .cons ⟨_, rfl⟩ (.cons ru .nil), ⟨_, hT2, rfl, _, rfl⟩⟩
    have I1 : Inv X pins σ (upd H s.heap.objs.size (.tup [.int (i : Nat), x])) { s with heap := h'', toks := tk + 1 } :=
      I.turnedNew (ch := [e, it]) (fun b ob hb q => (sb.2 b (fun z => hb (by simp [z]))).trans (hk b ob (fun z => hb (by simp [z])) (fun z => hb (by simp [z])) q)) hf (Nat.le_refl _) new
    refine ⟨.ref s.heap.objs.size, _, I1, rfl, ⟨_, x, rfl, I.hok.fresh (Nat.le_refl _), rfl, fun ys hy => by rw [I.tuple_inj hy hq]; exact hx⟩, ⟨⟨u', ?_⟩, hit'.1.at fun o q => (sb.2 it (Ne.symm hne)).trans q, hne, hai, hae⟩, fun b hb => ?_⟩
    · have e1 : ((i + 1 : Nat) : Int) = (i : Int) + 1 := by omega
      rw [e1]; exact he'
    · have hb' : b < s.heap.objs.size := by
        have e' : b = e ∨ b = it := by simpa using hb
        rcases e' with z | z
        · rw [z]; exact hel
        · rw [z]; exact hil
      rw [upd_ne (Nat.ne_of_lt hb')]
      exact (hf b hb).1
  done := by
    intro X hP hw hK hc i pins s σ H E I hf st hg
    subst hP hw hK
    obtain ⟨⟨old, he⟩, hit, hne, hai, hae⟩ := st
    obtain ⟨xs, hq, hx⟩ := hg
    obtain ⟨its, rv, p, hz⟩ := I.tuple hq
    obtain ⟨f0, f1, f2, f3, f4, f5⟩ := hf it (by simp)
    have hl := rv.length
    have ti : s.heap.IsTupleIter it a i := hit
    -- the iterator stands at its end or beyond
    have D : Draws X.prog X.w X.A.in1 it [it, a] i (fun j v => its.toArray[j]? = some v ∧ j < i) (fun j h => h.IsTupleIter it a j ∧ h.IsTuple a its.toArray ∧ i ≥ its.toArray.size ∧ (j = i)) := {
      live := fun _ _ st => let ⟨o, ho, _⟩ := st.1; ⟨o, ho⟩
      frame := fun _ _ _ st hk => ⟨st.1.at fun o e => hk it (by simp) o e, st.2.1.at fun o e => hk a (by simp) o e, st.2.2⟩
      item := fun j s' Q E' hj st' hQ => by
        obtain ⟨_, _, _, rfl⟩ := st'
        exact absurd hj (Nat.lt_irrefl _)
      done := fun s' Q E' st' hE => wpAny_nextOf_tuple_end (I.ok.hd hc) st'.1 st'.2.1 (Array.getElem?_eq_none st'.2.2.1) hE }
    exact wpAny_pyNext_enum_endD D he ⟨ti, p, by simp; omega, rfl⟩ fun h' eb => ⟨rfl, I.turned (t' := s.toks) (fun b o hb q => eb b o hb q) f0 f1 f3 f4 f5⟩
  self := fun A i s Q E st h => let ⟨⟨_, he⟩, _⟩ := st; wpAny_pyIter_enum he h
theorem meets_enumT (l : Addr) (items : Array Value) (n : Nat) (dct : Option Addr) (sl : Array (Option Value)) :
    Meets (Builtin.«enumerate.__new__» ⟨[.type "enumerate", .ref l], []⟩) (fun _ R s => s.heap.get? l = some { cls := .type "tuple", dict := dct, data := .seq items n, slots := sl } ∧
      R (.ok (.ret (.ref (s.heap.push { cls := .type "tuple_iterator", data := .fields #[.ref l, .int 0 0] }).objs.size)))
        { s with heap := (s.heap.push { cls := .type "tuple_iterator", data := .fields #[.ref l, .int 0 0] }).push { cls := .type "enumerate", data := .fields #[.none, .bool false, .ref s.heap.objs.size, rawInt 0, .none, .none] } }) :=
  .of_wp fun prog w A R s h => by
    obtain ⟨hp, g, d, tk, os⟩ := s; obtain ⟨hl, h⟩ := h
    have hsub := sub_enumerate
    have hL : Heap.IsTuple (Shared.heap ⟨hp, g, d, tk, os⟩) l items := ⟨_, hl, rfl, n, rfl⟩
    wp_walk using wpAny_loadPart' hl
    refine wpAny_stack_any fun st => wpAny_pure ?_
    split
    · rename_i c _ _ _ _ _
      cases (c == Value.type "enumerate")
      · wp_walk using wpAny_loadPart' hl, wpAny_pyIter_tuple hL
        exact ⟨_, rfl, h⟩
      · wp_walk using wpAny_loadPart' hl, wpAny_pyIter_tuple hL
        exact ⟨_, rfl, h⟩
    · wp_walk using wpAny_loadPart' hl, wpAny_pyIter_tuple hL
      exact ⟨_, rfl, h⟩
theorem call_enumT {prog : Program} {w : World} {A : Around} {E : Value → Shared → Prop} {s : Shared} {l : Addr} {items : Array Value} {Q : Value → Shared → Prop} (hL : s.heap.IsTuple l items)
    (h : ∀ h', IsEnum h' (s.heap.objs.size + 1) s.heap.objs.size 0 .none → h'.IsTupleIter s.heap.objs.size l 0 → h'.objs.size = s.heap.objs.size + 2 →
      (∀ b o, s.heap.get? b = some o → h'.get? b = some o) → Q (.ref (s.heap.objs.size + 1)) { s with heap := h' }) :
    wpAny (model prog w) A (call (.type "enumerate") [.ref l]) Q E s := by
  obtain ⟨⟨c, dct, dt, sl⟩, hl, hc, n, hd⟩ := hL
  replace hc : c = .type "tuple" := hc
  replace hd : dt = .seq items n := hd
  subst hc hd
  refine callType_new F.called_enumerate (by decide) (F.typeCall_enumerate_1 _) (F.newCall_enumerate_1 _) (fun obj => F.args_object_init_2 obj _) F.entry_enumerate_new
    (meets_enumT l items n dct sl) ⟨hl, ?_⟩
  have hz : (s.heap.push { cls := .type "tuple_iterator", data := .fields #[.ref l, .int 0 0] }).objs.size = s.heap.objs.size + 1 := Heap.size_push ..
  have he : IsEnum ((s.heap.push { cls := .type "tuple_iterator", data := .fields #[.ref l, .int 0 0] }).push { cls := .type "enumerate", data := .fields #[.none, .bool false, .ref s.heap.objs.size, rawInt 0, .none, .none] }) (s.heap.objs.size + 1) s.heap.objs.size 0 .none := by
    have := Heap.get?_push_size (s.heap.push { cls := .type "tuple_iterator", data := .fields #[.ref l, .int 0 0] }) (o := { cls := .type "enumerate", data := .fields #[.none, .bool false, .ref s.heap.objs.size, rawInt 0, .none, .none] }) rfl
    rw [hz] at this
    exact this
  show _ ∧ _
  rw [hz]
  exact ⟨⟨_, he, rfl⟩, h _ he ⟨_, Heap.get?_push_of_some _ (Heap.get?_push_size _ rfl), rfl, rfl⟩ (by rw [Heap.size_push, hz]) fun b o eb => Heap.get?_push_of_some _ (Heap.get?_push_of_some _ eb)⟩
def iEnumT (K : PySem.W.Frag) (ta : TA) : TI := fun σ H R => ta σ H fun vs H1 => ∃ a xs, vs = [.ref a] ∧ SqT K H1 a xs ∧ R (Iet K a) H1
theorem pi_enumT {X : Cx} {e : Expr} {ta : TA} {p pos tpos : Pos} {elts : List Expr} {kk : Nat} (hg : Gl X "enumerate") (hm : X.mg "enumerate" = none) (ha : PA X [e] ta) (hs : starEach [e] X.env = [(false, eval e X.env)] := by rfl) :
    PI X (.Tuple elts kk tpos) (.Call (.Name "enumerate" p) [e] [] pos) (iEnumT X.K ta) := by
  refine ⟨fun pins s σ H R I h => ?_⟩
  refine Call_ (ld_blt I hg hm boot_enumerate (PyProof.Rows.callWith_type1 (thn (ha.run pos pins s σ H _ I h) fun us s1 ⟨vs, H1, I1, r1, q1⟩ => ?_) hs rfl))
  obtain ⟨a, xs, ex, hq, q⟩ := q1
  subst ex
  cases r1 with
  | cons r rr =>
    cases rr
    cases r
    obtain ⟨its, rv, p', hz⟩ := I1.tuple hq
    have hlt : a < s1.heap.objs.size := by
      obtain ⟨o, h1, _⟩ := p'
      exact Heap.lt_size h1
    refine call_enumT p' fun h' he hit hsz hk => wpAny_pyIter_enum he ?_
    have I2 : Inv X pins σ H1 { s1 with heap := h' } := I1.kept (t' := s1.toks) hk
    refine ⟨s1.heap.objs.size + 1, [s1.heap.objs.size + 1, s1.heap.objs.size], _, _, H1, rfl, I2, turn_enumT a (s1.heap.objs.size + 1) s1.heap.objs.size, ⟨⟨.none, he⟩, hit, Nat.succ_ne_self _, Nat.ne_of_lt hlt, Nat.ne_of_lt (Nat.lt_succ_of_lt hlt)⟩, fun b hb => ?_, q⟩
    have e' : b = s1.heap.objs.size + 1 ∨ b = s1.heap.objs.size := by simpa using hb
    have hle : s1.heap.objs.size ≤ b := by
      rcases e' with z | z
      · rw [z]; exact Nat.le_add_right _ _
      · rw [z]; exact Nat.le_refl _
    exact I1.fpOk hle (I1.hok.fresh hle)
/-! ### C.m(e), m a static method of the class C -/
structure SMet (K : PySem.W.Frag) (C : Addr) (mc : Value) (m : Str) (p g : Addr) : Prop where
  at_ : PySem.W.findCls K (.ref C) mc m = some (.get (.builtin "staticmethod.__get__") (.ref p) .none (.ref C))
  rc : ∃ rest, PySem.W.recIn K p "staticmethod" = some (.ref g :: rest)
  kp : PySem.W.keepIn K (.ref g) = true
def tSMeth (C : Addr) (sp : Sp) (E : XK) (ta : TE) (t : TA) : TE := fun σ H Q => ta σ H fun x H1 => x = .ref C ∧ t σ H1 fun vs H2 => sp vs H2 Q E
section
variable {X : Cx} {CX : CXT} {k : Nat} {C p g : Addr} {gd : FuncData} {ps : List Str} {mc : Value} {sp : Sp} {E : XK} {o e : Expr} {es : List Expr} {f m : Str} {pos apos : Pos} {ta : TE} {t : TA} {pl : Sem Bool}
theorem pe_smeth (he : PE X o ta) (r : ClX.CRead X.K C mc) (c : SMet X.K C mc m p g) (F : FnOk X.prog X.w X.K X.mg X.base CX k g gd ps sp) (hb : Binds X.K gd ps []) (hr : Room k X.A) (hx : Passes CX X E) (ha : PA X (e :: es) t)
    (hst : starEach (e :: es) X.env = (false, eval e X.env) :: starEach es X.env := by rfl) (hpl : (backTo pos (starEach es X.env)).any (·.1) = false := by rfl)
    (ht : eval (.Call (.Attribute o m apos) (e :: es) [] pos) X.env = (do
      let ov ← eval o X.env
      standAt apos.atName
      let (f, first) ← holding [ov] (getMethod ov m pl)
      callWith pos f first (backTo pos (starEach (e :: es) X.env)) (backToKw pos (keywordEach [] X.env))) := by rfl) :
    PE X (.Call (.Attribute o m apos) (e :: es) [] pos) (tSMeth C sp E ta t) := by
  refine ⟨fun pins s σ H Q I h => ?_⟩
  refine PySem.W.methodCall_KW (pl := pl) (thn (he.run pins s σ H _ I h) fun u s1 ⟨x, H1, I1, rx, ex, q⟩ => ?_) ht
  subst ex
  obtain rfl : u = Value.ref C := rx
  obtain ⟨rest, hp⟩ := c.rc
  refine PySem.W.method_cls I1.kIn r.ga (PySem.W.cls_bind I1.kIn r.rd c.at_ ?_)
  refine wpAny_call (PySem.W.sm_get (s := { s1 with toks := s1.toks + 1 }) I1.kIn hp (PySem.W.handed_on rfl ?_))
  refine PySem.W.callWith_K (h₀ := X.base) I.ok.mod.kin c.kp (thn (ha.run pos pins _ σ _ _ (I1.tok _) q) fun us s2 ⟨vs, H2, I2, rv, q2⟩ => ⟨I2.kIn, ?_⟩) hst hpl
  exact run_fn F hr hb .nil hx I2 rv (by rw [List.append_nil]; exact q2)
end
end L2
set_option Elab.async false
set_option linter.all false
set_option maxRecDepth 100000
set_option maxHeartbeats 4000000
namespace GR
open PySem PySem.Spec PyProof.Rows L2
section
variable {P : Program} {w : World} {K : PySem.W.Frag} {Wd : Str → Prop} {mg : Str → Option Value} {base : Heap} {CC CB aR aS : Addr} {T : Toks} {f : Addr} {fd : FuncData} {n : Nat}
/-- a row of c + 1 small numbers -/
def RowA (K : PySem.W.Frag) (H : Hp) (c : Nat) (v : V) : Prop := ∃ (a : Addr) (ns : List Int), v = .ref a ∧ SqT K H a (ns.map V.int) ∧ ns.length = c + 1 ∧ ∀ x ∈ ns, 0 ≤ x ∧ x ≤ 5000
theorem RowA.mono {H H' : Hp} {c : Nat} {v : V} (e : Tps H H') (h : RowA K H c v) : RowA K H' c v := let ⟨a, ns, h1, h2, h3, h4⟩ := h; ⟨a, ns, h1, e.tup h2, h3, h4⟩
def spPlainRow (K : PySem.W.Frag) : Sp := fun vs H Q _ => ∃ (wt : Int) (c : Nat), vs = [.int wt, .int (c : Int)] ∧ 0 ≤ wt ∧ wt ≤ 5000 ∧ c ≤ 1000 ∧ ∀ p H', Same H H' → RowA K H' c (.ref p) → Q (.ref p) H'
abbrev splain_row : Stmt := top 19
abbrev nplain_row : List Str := ["weight", "count", "index"]
theorem scplain_row : FnScope nplain_row ["weight", "count"] (defScope splain_row) := ⟨rfl, rfl, rfl, by decide +kernel, rfl, by decide +kernel, by decide +kernel⟩
-- slots of plain_row: 0 weight, 1 count, 2 index
theorem ok_plain_row (F : Fun K "plain_row" "plain_row" splain_row f fd) (B : Blt mg) : FnOk P w K mg base CX0 1 f fd ["weight", "count"] (spPlainRow K) := by
  refine F.own scplain_row (fun vs H Q E h => ?_) (fun cdv A outer s H vs Q E hr h => ?_)
  · obtain ⟨wt, c, rfl, _⟩ := h
    rfl
  obtain ⟨wt, c, rfl, h0, h1, hc, q⟩ := h
  refine ⟨_, (pss_one (ps_ret (pe_callTy call_tuple_of (by rfl) B.tuple (by decide +kernel) (pa_cons (pe_op op_cat (pe_lst (pa_cons (pv 0) pa_nil)) (pe_lc (own := [("index", 2)]) (g := (gName 2)) (tt := tYes) (by rfl) scplain_row.nd (pi_range1 (by rfl) B.range (pa_cons (pv 1) pa_nil)) (blkOk_by (own := [("index", 2)]) (N := nplain_row) (sc := (defScope splain_row)) (by decide +kernel)) (fun _ _ _ _ _ => (pg_name (i := 2) scplain_row.nd rfl (by first | exact Or.inl rfl | exact Or.inr rfl))) (fun _ _ _ _ _ => pts_nil) (fun _ _ _ _ _ => pe_int))) pa_nil)))), ?_⟩
  refine ⟨_, rfl, (by show 1 ≤ sizeLine; decide), fun p1 hp1 => ?_⟩
  have s1 := same_new hp1 (.lst [.int wt])
  refine ⟨_, rfl, (c : Int), rfl, by omega, by omega, fun D hD => lc_range (lo := 0) (n := (c : Int).toNat) (fun i H' => ∃ acc : List Int, H' D = some (.lst (acc.map V.int)) ∧ acc.length = i ∧ (∀ x ∈ acc, x = 0) ∧ Stp D (L2.upd H p1 (.lst [.int wt])) H') ⟨[], upd_same, rfl, (fun x hx => nomatch hx), Stp.of (same_new hD _)⟩ ?_ ?_⟩
  · rintro i H' hi ⟨acc, hac, hn, hv, st⟩
    refine ⟨rfl, _, hac, sml1 (by rw [List.length_map]; omega), acc ++ [0], by rw [upd_same, List.map_append]; rfl, by rw [List.length_append, hn]; rfl, fun x hx => ?_, fun u o nb eb => by rw [upd_ne nb]; exact st u o nb eb⟩
    rcases List.mem_append.mp hx with hx | hx
    · exact hv x hx
    · exact List.mem_singleton.mp hx
  · rintro H2 ⟨acc, hac, hn, hv, st⟩
    have s2 := Stp.same st hD
    refine ⟨p1, D, _, _, rfl, rfl, s2 _ _ upd_same, hac, sml (by rw [List.length_map]; show 1 + acc.length ≤ 10000; omega), fun p3 hp3 => ?_⟩
    refine ⟨p3, _, rfl, .inl ⟨SqL.of upd_same, fun p4 hp4 => ?_⟩⟩
    refine q p4 _ (((s1.trans s2).trans (same_new hp3 _)).trans (same_new hp4 _)) ⟨p4, wt :: acc, rfl, SqT.of upd_same, by rw [List.length_cons]; omega, fun x hx => ?_⟩
    rcases List.mem_cons.mp hx with rfl | hx
    · exact ⟨h0, h1⟩
    · rw [hv x hx]
      exact ⟨by decide, by decide⟩
def spTimes (K : PySem.W.Frag) : Sp := fun vs H Q _ => ∃ (v : V) (k : Int) (c : Nat), vs = [v, .int k] ∧ RowA K H c v ∧ 0 ≤ k ∧ k ≤ 5000 ∧ c ≤ 1000 ∧ ∀ p H', Same H H' → RowA K H' c (.ref p) → Q (.ref p) H'
abbrev stimes : Stmt := top 21
abbrev ntimes : List Str := ["row", "factor", "number"]
theorem sctimes : FnScope ntimes ["row", "factor"] (defScope stimes) := ⟨rfl, rfl, rfl, by decide +kernel, rfl, by decide +kernel, by decide +kernel⟩
-- slots of times: 0 row, 1 factor, 2 number
theorem ok_times {aR aS : Addr} (F : Fun K "times" "times" stimes f fd) (B : Blt mg) (T : Glb mg "HEAVIEST" (.int 80)) : FnOk P w K mg base CX0 1 f fd ["row", "factor"] (spTimes K) := by
  refine F.own sctimes (fun vs H Q E h => ?_) (fun cdv A outer s H vs Q E hr h => ?_)
  · obtain ⟨v, k, c, rfl, _⟩ := h
    rfl
  obtain ⟨v, k, c, rfl, ⟨a, ns, rfl, ha, hl, hb⟩, h0, h1, hc, q⟩ := h
  have HEAVIEST := T
  refine ⟨_, (pss_one (ps_ret (pe_callTy call_tuple_of (by rfl) B.tuple (by decide +kernel) (pa_cons (pe_lc (own := [("number", 2)]) (g := (gName 2)) (tt := tYes) (by rfl) sctimes.nd (pi_tup (pv 0)) (blkOk_by (own := [("number", 2)]) (N := ntimes) (sc := (defScope stimes)) (by decide +kernel)) (fun _ _ _ _ _ => (pg_name (i := 2) sctimes.nd rfl (by first | exact Or.inl rfl | exact Or.inr rfl))) (fun _ _ _ _ _ => pts_nil) (fun _ _ _ _ _ => (pe_callB (call_min2 rfl) (by rfl) B.min (by decide +kernel) (pa_cons (pe_op op_add (pe_gc rfl HEAVIEST) pe_int) (pa_cons (pe_callTy call_int1 (by rfl) B.int (by decide +kernel) (pa_cons (pe_op op_mul (pv 2) (pv 1)) pa_nil)) pa_nil))))) pa_nil)))), ?_⟩
  refine ⟨_, rfl, a, rfl, ⟨_, ha⟩, fun D hD => lc_tup (xs := ns.map V.int) (fun i H' => ∃ acc : List Int, H' D = some (.lst (acc.map V.int)) ∧ acc.length = i ∧ (∀ x ∈ acc, 0 ≤ x ∧ x ≤ 5000) ∧ Stp D H H') ⟨[], upd_same, rfl, (fun x hx => nomatch hx), Stp.of (same_new hD _)⟩ ?_ ?_ ?_⟩
  · rintro i H' _ ⟨_, _, _, _, st⟩
    exact Same.tup (Stp.same st hD) ha
  · rintro i x H' hx ⟨acc, hac, hn, hv, st⟩
    rw [List.getElem?_map] at hx
    obtain ⟨y, hy, rfl⟩ := Option.map_eq_some_iff.mp hx
    have hyb := hb y (List.mem_of_getElem? hy)
    have hil : i < ns.length := (List.getElem?_eq_some_iff.mp hy).1
    refine ⟨rfl, _, _, rfl, rfl, _, rfl, _, rfl, _, _, rfl, rfl, .inl ⟨by omega, by omega⟩, .inl ⟨_, rfl, _, _, rfl, _, hac, sml1 (by rw [List.length_map]; omega), acc ++ [if y * k < 80 + 1 then y * k else 80 + 1], by rw [upd_same, List.map_append]; rfl, by rw [List.length_append, hn]; rfl, fun z hz => ?_, fun u o nb eb => by rw [upd_ne nb]; exact st u o nb eb⟩⟩
    rcases List.mem_append.mp hz with hz | hz
    · exact hv z hz
    · rw [List.mem_singleton.mp hz]
      have := Int.mul_nonneg hyb.1 h0
      split <;> omega
  · rintro H2 ⟨acc, hac, hn, hv, st⟩
    have s2 := Stp.same st hD
    refine ⟨D, _, rfl, .inl ⟨SqL.of hac, fun p4 hp4 => ?_⟩⟩
    exact q p4 _ (s2.trans (same_new hp4 _)) ⟨p4, acc, rfl, SqT.of upd_same, by rw [hn, List.length_map]; exact hl, hv⟩
def spSumOf (K : PySem.W.Frag) : Sp := fun vs H Q _ => ∃ (L : Addr) (rs : List V) (c : Nat), vs = [.ref L] ∧ SqL K H L rs ∧ rs ≠ [] ∧ rs.length ≤ 10000 ∧ (∀ r ∈ rs, RowA K H c r) ∧ c ≤ 1000 ∧ ∀ p H', Same H H' → RowA K H' c (.ref p) → Q (.ref p) H'
theorem rows_addr {H : Hp} {c : Nat} : ∀ {rs : List V}, (∀ r ∈ rs, RowA K H c r) → ∃ as : List Addr, rs = as.map V.ref ∧ ∀ a ∈ as, ∃ ns : List Int, SqT K H a (ns.map V.int) ∧ ns.length = c + 1 ∧ ∀ x ∈ ns, 0 ≤ x ∧ x ≤ 5000
  | [], _ => ⟨[], rfl, fun a ha => nomatch ha⟩
  | r :: rs, h => by
    obtain ⟨as, h1, h2⟩ := rows_addr (rs := rs) fun x hx => h x (List.mem_cons_of_mem _ hx)
    obtain ⟨a, ns, rfl, h3, h4, h5⟩ := h r (List.mem_cons_self ..)
    refine ⟨a :: as, by rw [h1]; rfl, fun b hb => ?_⟩
    rcases List.mem_cons.mp hb with rfl | hb
    · exact ⟨ns, h3, h4, h5⟩
    · exact h2 b hb
theorem ints_of {xs : List V} (h : ∀ (j : Nat) (x : V), xs[j]? = some x → ∃ n : Int, x = V.int n ∧ 0 ≤ n) : ∃ ns : List Int, xs = ns.map V.int ∧ ∀ n ∈ ns, 0 ≤ n := by
  induction xs with
  | nil => exact ⟨[], rfl, fun n hn => nomatch hn⟩
  | cons x r ih =>
    obtain ⟨ns, h1, h2⟩ := ih fun j y hy => h (j + 1) y hy
    obtain ⟨n, rfl, h3⟩ := h 0 x rfl
    refine ⟨n :: ns, by rw [h1]; rfl, fun m hm => ?_⟩
    rcases List.mem_cons.mp hm with rfl | hm
    · exact h3
    · exact h2 m hm
theorem sum_nonneg : ∀ {ns : List Int}, (∀ n ∈ ns, 0 ≤ n) → 0 ≤ ns.sum
  | [], _ => Int.le_refl 0
  | n :: r, h => by
    rw [List.sum_cons]
    have := h n (List.mem_cons_self ..)
    have := sum_nonneg (ns := r) fun m hm => h m (List.mem_cons_of_mem _ hm)
    omega
abbrev ssum_of : Stmt := top 20
abbrev nsum_of : List Str := ["rows", "column"]
theorem scsum_of : FnScope nsum_of ["rows"] (defScope ssum_of) := ⟨rfl, rfl, rfl, by decide +kernel, rfl, by decide +kernel, by decide +kernel⟩
-- slots of sum_of: 0 rows, 1 column
theorem ok_sum_of (F : Fun K "sum_of" "sum_of" ssum_of f fd) (B : Blt mg) (T : Glb mg "HEAVIEST" (.int 80)) : FnOk P w K mg base CX0 1 f fd ["rows"] (spSumOf K) := by
  refine F.own scsum_of (fun vs H Q E h => ?_) (fun cdv A outer s H vs Q E hr h => ?_)
  · obtain ⟨L, rs, c, rfl, _⟩ := h
    rfl
  obtain ⟨L, rs, c, rfl, hL, hne, hl, hrs, hc, q⟩ := h
  have HEAVIEST := T
  refine ⟨_, (pss_one (ps_ret (pe_callTy call_tuple_of (by rfl) B.tuple (by decide +kernel) (pa_cons (pe_lc (own := [("column", 1)]) (g := (gName 1)) (tt := tYes) (te := (tCB _ (tCons _ (tCons (tCB _ (tCons (tCB (rSum K) (tCons (tCB (fun xs H Q => ∃ p ys, xs = [.ref p] ∧ (SqL K H p ys ∨ SqT K H p ys) ∧ ∀ l, H l = none → Q (.ref l) (upd H l (.lst ys))) (tCons _ tNil)) tNil)) tNil)) tNil)))) (by rfl) scsum_of.nd (pi_zips (by rfl) B.zip (pv 0)) (blkOk_by (own := [("column", 1)]) (N := nsum_of) (sc := (defScope ssum_of)) (by decide +kernel)) (fun _ _ _ _ _ => (pg_name (i := 1) scsum_of.nd rfl (by first | exact Or.inl rfl | exact Or.inr rfl))) (fun _ _ _ _ _ => pts_nil) (fun _ _ _ _ _ => (pe_callB (call_min2 rfl) (by rfl) B.min (by decide +kernel) (pa_cons (pe_op op_add (pe_gc rfl HEAVIEST) pe_int) (pa_cons (pe_callTy call_int1 (by rfl) B.int (by decide +kernel) (pa_cons (pe_callB (cr_sum rfl) (by rfl) B.sum (by decide +kernel) (pa_cons (pe_callTy call_list_of (by rfl) B.list (by decide +kernel) (pa_cons (pv 1) pa_nil)) pa_nil)) pa_nil)) pa_nil))))) pa_nil)))), ?_⟩
  obtain ⟨as, rfl, has⟩ := rows_addr hrs
  have hne' : as ≠ [] := fun e => hne (by rw [e]; rfl)
  rw [List.length_map] at hl
  refine ⟨_, rfl, L, as, rfl, hL, hne', by omega, fun a ha => let ⟨ns, h1, _⟩ := has a ha; ⟨_, h1⟩, fun D hD => ⟨fun i m H' => m = c + 1 - i ∧ i ≤ c + 1 ∧ ∃ acc : List Int, H' D = some (.lst (acc.map V.int)) ∧ acc.length = i ∧ (∀ x ∈ acc, 0 ≤ x ∧ x ≤ 5000) ∧ Stp D H H', ⟨_, rfl, Nat.zero_le _, [], upd_same, rfl, (fun x hx => nomatch hx), Stp.of (same_new hD _)⟩, ?_⟩⟩
  rintro i m H' ⟨rfl, hi, acc, hac, hn, hv, st⟩
  have s1 := Stp.same st hD
  by_cases hlt : i < c + 1
  · refine .inr ⟨?_, fun H2 => i + 1 ≤ c + 1 ∧ ∃ acc : List Int, H2 D = some (.lst (acc.map V.int)) ∧ acc.length = i + 1 ∧ (∀ x ∈ acc, 0 ≤ x ∧ x ≤ 5000) ∧ Stp D H H2, fun H2 h => ⟨_, ?_, rfl, h⟩, ?_⟩
    · -- the column is there
      obtain ⟨xs, h1, h2⟩ : ∃ xs : List V, xs.length = as.length ∧ ∀ (j : Nat) (a : Addr) (x : V), as[j]? = some a → xs[j]? = some x → ∃ ys, SqT K H' a ys ∧ ys[i]? = some x := by
        clear hne hL hrs hl hne' q
        induction as with
        | nil => exact ⟨[], rfl, fun j a x h => by simp at h⟩
        | cons a as ih =>
          obtain ⟨xs, h1, h2⟩ := ih fun b hb => has b (List.mem_cons_of_mem _ hb)
          obtain ⟨ns, h3, h4, h5⟩ := has a (List.mem_cons_self ..)
          refine ⟨.int (ns[i]'(by omega)) :: xs, by rw [List.length_cons, List.length_cons, h1], fun j b x hb hx => ?_⟩
          cases j with
          | zero =>
            cases Option.some.inj hb
            cases Option.some.inj hx
            exact ⟨_, Same.tup s1 h3, by rw [List.getElem?_map, List.getElem?_eq_getElem (by omega)]; rfl⟩
          | succ j => exact h2 j b x hb hx
      exact ⟨xs, h1, h2⟩
    · omega
    · rintro x H2 ⟨T', xs, rfl, hT, rfl, hxl, hcol⟩
      have sT := same_new hT (.tup xs)
      have hac2 := sT _ _ hac
      obtain ⟨ns, rfl, hns⟩ := ints_of (xs := xs) fun j x hx => by
        have hj : j < as.length := by rw [← hxl]; exact (List.getElem?_eq_some_iff.mp hx).1
        obtain ⟨ns, h1, h2, h3⟩ := has as[j] (List.getElem_mem hj)
        have e := hcol j as[j] _ (List.getElem?_eq_getElem hj) (Same.tup s1 h1)
        rw [hx, List.getElem?_map, List.getElem?_eq_getElem (by omega)] at e
        cases e
        exact ⟨_, rfl, (h3 _ (List.getElem_mem _)).1⟩
      refine ⟨rfl, _, _, rfl, rfl, _, rfl, T', _, rfl, .inr (SqT.of upd_same), fun l hl2 => ?_⟩
      have sl := same_new hl2 (.lst (ns.map V.int))
      refine ⟨l, ns, rfl, SqL.of upd_same, .inl ⟨_, rfl, _, _, rfl, _, sl _ _ hac2, sml1 (by rw [List.length_map]; omega), by omega, acc ++ [if ns.sum < 80 + 1 then ns.sum else 80 + 1], by rw [upd_same, List.map_append]; rfl, by rw [List.length_append, hn]; rfl, fun z hz => ?_, fun u o nb eb => by rw [upd_ne nb]; exact sl _ _ (sT _ _ (st u o nb eb))⟩⟩
      rcases List.mem_append.mp hz with hz | hz
      · exact hv z hz
      · rw [List.mem_singleton.mp hz]
        have := sum_nonneg hns
        split <;> omega
  · have e : i = c + 1 := by omega
    refine .inl ⟨?_, ?_⟩
    · cases as with
      | nil => exact absurd rfl hne'
      | cons a ar =>
        obtain ⟨ns, h1, h2, h3⟩ := has a (List.mem_cons_self ..)
        exact ⟨a, ar, _, rfl, Same.tup s1 h1, by rw [List.length_map]; omega⟩
    · refine ⟨D, _, rfl, .inl ⟨SqL.of hac, fun p4 hp4 => ?_⟩⟩
      exact q p4 _ (s1.trans (same_new hp4 _)) ⟨p4, acc, rfl, SqT.of upd_same, by omega, hv⟩
end
end GR
set_option Elab.async false
set_option linter.all false
set_option maxRecDepth 100000
set_option maxHeartbeats 4000000
namespace GR
open PySem PySem.Spec PyProof.Rows L2
section
variable {P : Program} {w : World} {K : PySem.W.Frag} {Wd : Str → Prop} {mg : Str → Option Value} {base : Heap} {CC CB aR aS : Addr} {T : Toks} {f : Addr} {fd : FuncData} {n : Nat}
/-- what weigh is handed beside the expression -/
structure WEnv (K : PySem.W.Frag) (H : Hp) (sc bd : Addr) (c : Nat) (nm : Str → Prop) (cl : Str → Nat → Prop) (ks bs : List (Key × V)) : Prop where
  sc : H sc = some (.dK ks)
  bd : H bd = some (.dK bs)
  nmv : ∀ z, nm z → ∃ v, valV ks (Sum.inr z : Key) = some v ∧ RowA K H c v
  clv : ∀ z i, cl z i → ∃ v, valV bs (Sum.inr z : Key) = some v ∧ RowA K H i v
theorem WEnv.same {H H' : Hp} {sc bd : Addr} {c : Nat} {nm : Str → Prop} {cl : Str → Nat → Prop} {ks bs : List (Key × V)} (h : WEnv K H sc bd c nm cl ks bs) (s : Same H H') : WEnv K H' sc bd c nm cl ks bs :=
  ⟨s _ _ h.sc, s _ _ h.bd, fun z hz => let ⟨v, a, b⟩ := h.nmv z hz; ⟨v, a, b.mono (GR.Same.tps s)⟩, fun z i hz => let ⟨v, a, b⟩ := h.clv z i hz; ⟨v, a, b.mono (GR.Same.tps s)⟩⟩
def spWeigh (K : PySem.W.Frag) (Wd : Str → Prop) (n : Nat) : Sp := fun vs H Q _ => ∃ (v : V) (sc bd : Addr) (c : Nat) (nm : Str → Prop) (cl : Str → Nat → Prop) (ks bs : List (Key × V)), vs = [v, .ref sc, .ref bd, .int (c : Int)] ∧ G K Wd 1000 cl H n nm v ∧ WEnv K H sc bd c nm cl ks bs ∧ ks.length + n ≤ 5000 ∧ c ≤ 1000 ∧
  ∀ v' H', Same H H' → RowA K H' c v' → Q v' H'
def PartS (K : PySem.W.Frag) (Wd : Str → Prop) (H : Hp) (R : V → Prop) (v : V) : Prop := ∃ (a b : Addr) (f : V) (rs : List V), v = .ref a ∧ SqT K H a [.str "part", f, .ref b] ∧ R f ∧ SqT K H b rs ∧ rs.length ≤ 1000 ∧ ∀ r ∈ rs, StepV K Wd H 1000 R r
def spWeighPart (K : PySem.W.Frag) (Wd : Str → Prop) (n : Nat) : Sp := fun vs H Q _ => ∃ (v : V) (sc bd : Addr) (c : Nat) (nm : Str → Prop) (cl : Str → Nat → Prop) (ks bs : List (Key × V)), vs = [v, .ref sc, .ref bd, .int (c : Int)] ∧ PartS K Wd H (G K Wd 1000 cl H n nm) v ∧ WEnv K H sc bd c nm cl ks bs ∧ ks.length + n ≤ 5000 ∧ c ≤ 1000 ∧
  ∀ v' H', Same H H' → RowA K H' c v' → Q v' H'
abbrev sweigh : Stmt := top 22
abbrev nweigh : List Str := ["expr", "scope", "bodies", "count", "kind", "one", "name", "value", "at", "rows", "body", "inner", "index", "row", "behind"]
theorem scweigh : FnScope nweigh ["expr", "scope", "bodies", "count"] (defScope sweigh) := ⟨rfl, rfl, rfl, by decide +kernel, rfl, by decide +kernel, by decide +kernel⟩
-- slots of weigh: 0 expr, 1 scope, 2 bodies, 3 count, 4 kind, 5 one, 6 name, 7 value, 8 at, 9 rows, 10 body, 11 inner, 12 index, 13 row, 14 behind
theorem ok_weigh (F : Fun K "weigh" "weigh" sweigh f fd) (B : Blt mg) (hn : n ≤ 1000) (c_plain_row : Cal P w K mg base CX0 1 "plain_row" ["weight", "count"] (spPlainRow K)) (c_sum_of : Cal P w K mg base CX0 1 "sum_of" ["rows"] (spSumOf K))
    (c_times : Cal P w K mg base CX0 1 "times" ["row", "factor"] (spTimes K)) (c_inner_exprs : ∀ cl nm, Cal P w K mg base CX0 1 "inner_exprs" ["expr"] (spInner K Wd 1000 fun H v => G K Wd 1000 cl H n nm v))
    (c_weigh : Cal P w K mg base CX0 (2 * n + 2) "weigh" ["expr", "scope", "bodies", "count"] (spWeigh K Wd n)) (c_weigh_part : Cal P w K mg base CX0 (2 * n + 3) "weigh_part" ["expr", "scope", "bodies", "count"] (spWeighPart K Wd n)) :
    FnOk P w K mg base CX0 (2 * n + 4) f fd ["expr", "scope", "bodies", "count"] (spWeigh K Wd (n + 1)) := by
  refine F.own (k := 2 * n + 3) scweigh (fun vs H Q E h => ?_) (fun cdv A outer s H vs Q E hr h => ?_)
  · obtain ⟨v, sc, bd, c, nm, cl, ks, bs, rfl, _⟩ := h
    rfl
  obtain ⟨v, sc, bd, c, nm, cl, ks, bs, rfl, hg, hw, hl, hc, q⟩ := h
  have c_inner_exprs := c_inner_exprs cl nm
  refine ⟨_, (pss_cons (ps_set (i := 4) scweigh.nd rfl (by first | exact Or.inl rfl | exact Or.inr rfl) (pe_ix ix_tup (pv 0) pe_int (fun _ _ => rfl))) (pss_cons (ps_set (i := 5) scweigh.nd rfl (by first | exact Or.inl rfl | exact Or.inr rfl) (pe_c0 c_plain_row hr (by omega) rfl (pa_cons pe_int (pa_cons (pv 3) pa_nil)))) (pss_cons (ps_if (pt_cmpR op_eq (pv 4) pe_str (nomark _))
    (pss_one (ps_ret (pv 5))) pss_nil) (pss_cons (ps_if (pt_cmpR op_eq (pv 4) pe_str (nomark _))
    (pss_one (ps_ret (pe_dget (hu_of hr) (pv 1) (pe_ix ix_tup (pv 0) pe_int (fun _ _ => rfl)) (fun _ _ => rfl)))) pss_nil) (pss_cons (ps_if (pt_cmpR op_eq (pv 4) pe_str (nomark _))
    (pss_one (ps_ret (pe_c0 c_sum_of hr (by omega) rfl (pa_cons (pe_op op_cat (pe_lst (pa_cons (pv 5) pa_nil)) (pe_lc (own := [("name", 6), ("value", 7), ("at", 8)]) (g := (gTup K 3 (gCons (gName 6) (gCons (gName 7) (gCons (gName 8) gNil))))) (tt := tYes) (by rfl) scweigh.nd (pi_tup (pe_ix ix_tup (pv 0) pe_int (fun _ _ => rfl))) (blkOk_by (own := [("name", 6), ("value", 7), ("at", 8)]) (N := nweigh) (sc := (defScope sweigh)) (by decide +kernel)) (fun _ _ _ _ _ => (pg_tup (by rfl) (pgs_cons (pg_name (i := 6) scweigh.nd rfl (by first | exact Or.inl rfl | exact Or.inr rfl)) (pgs_cons (pg_name (i := 7) scweigh.nd rfl (by first | exact Or.inl rfl | exact Or.inr rfl)) (pgs_cons (pg_name (i := 8) scweigh.nd rfl (by first | exact Or.inl rfl | exact Or.inr rfl)) pgs_nil))))) (fun _ _ _ _ _ => pts_nil) (fun _ _ _ _ _ => (pe_c0 c_weigh hr (by omega) rfl (pa_cons (pv 7) (pa_cons (pv 1) (pa_cons (pv 2) (pa_cons (pv 3) pa_nil)))))))) pa_nil)))) pss_nil) (pss_cons (ps_if (pt_cmpR op_eq (pv 4) pe_str (nomark _))
    (pss_cons (ps_setLc (i := 9) (own := [("value", 7)]) (g := (gName 7)) (tt := tYes) (by rfl) scweigh.nd rfl rfl (sw_true rfl rfl rfl (by decide +kernel)) (pi_tup (pe_ix ix_tup (pv 0) pe_int (fun _ _ => rfl))) (blkOk_by (own := [("value", 7)]) (N := nweigh) (sc := (defScope sweigh)) (by decide +kernel)) (fun _ _ _ _ _ => (pg_name (i := 7) scweigh.nd rfl (by first | exact Or.inl rfl | exact Or.inr rfl))) (fun _ _ _ _ _ => pts_nil) (fun _ _ _ _ _ => (pe_c0 c_weigh hr (by omega) rfl (pa_cons (pv 7) (pa_cons (pv 1) (pa_cons (pv 2) (pa_cons (pv 3) pa_nil))))))) (pss_cons (ps_set (i := 10) scweigh.nd rfl (by first | exact Or.inl rfl | exact Or.inr rfl) (pe_dget (hu_of hr) (pv 2) (pe_ix ix_tup (pv 0) pe_int (fun _ _ => rfl)) (fun _ _ => rfl))) (pss_cons (ps_setLc (i := 11) (own := [("index", 12), ("row", 13)]) (g := (gTup K 2 (gCons (gName 12) (gCons (gName 13) gNil)))) (tt := tYes) (te := (tC0 _ (tCons _ (tCons (tOp (rIxT K) _ _) tNil)))) (by rfl) scweigh.nd rfl rfl (sw_true rfl rfl rfl (by decide +kernel)) (pi_enum (by rfl) B.enumerate (pa_cons (pv 9) pa_nil)) (blkOk_by (own := [("index", 12), ("row", 13)]) (N := nweigh) (sc := (defScope sweigh)) (by decide +kernel)) (fun _ _ _ _ _ => (pg_tup (by rfl) (pgs_cons (pg_name (i := 12) scweigh.nd rfl (by first | exact Or.inl rfl | exact Or.inr rfl)) (pgs_cons (pg_name (i := 13) scweigh.nd rfl (by first | exact Or.inl rfl | exact Or.inr rfl)) pgs_nil)))) (fun _ _ _ _ _ => pts_nil) (fun _ _ _ _ _ => (pe_c0 c_times hr (by omega) rfl (pa_cons (pv 13) (pa_cons (pe_ix ix_tup (pv 10) (pe_op op_add (pv 12) pe_int) (fun _ _ => rfl)) pa_nil))))) (pss_one (ps_ret (pe_c0 c_sum_of hr (by omega) rfl (pa_cons (pe_op op_cat (pe_op op_cat (pe_lst (pa_cons (pv 5) (pa_cons (pe_c0 c_plain_row hr (by omega) rfl (pa_cons (pe_ix ix_tup (pv 10) pe_int (fun _ _ => rfl)) (pa_cons (pv 3) pa_nil))) pa_nil))) (pv 9)) (pv 11)) pa_nil))))))) pss_nil) (pss_cons (ps_if (pt_cmpR op_eq (pv 4) pe_str (nomark _))
    (pss_cons (ps_set (i := 7) scweigh.nd rfl (by first | exact Or.inl rfl | exact Or.inr rfl) (pe_c0 c_weigh hr (by omega) rfl (pa_cons (pe_ix ix_tup (pv 0) pe_int (fun _ _ => rfl)) (pa_cons (pv 1) (pa_cons (pv 2) (pa_cons (pv 3) pa_nil)))))) (pss_cons (ps_set (i := 14) scweigh.nd rfl (by first | exact Or.inl rfl | exact Or.inr rfl) (pe_callTy call_dictD (by rfl) B.dict (by decide +kernel) (pa_cons (pv 1) pa_nil))) (pss_cons (ps_dput (hu_of hr) (pv 14) (pe_ix ix_tup (pv 0) pe_int (fun _ _ => rfl)) (pv 7) rfl) (pss_one (ps_ret (pe_c0 c_sum_of hr (by omega) rfl (pa_cons (pe_lst (pa_cons (pv 5) (pa_cons (pv 7) (pa_cons (pe_c0 c_weigh hr (by omega) rfl (pa_cons (pe_ix ix_tup (pv 0) pe_int (fun _ _ => rfl)) (pa_cons (pv 14) (pa_cons (pv 2) (pa_cons (pv 3) pa_nil))))) pa_nil)))) pa_nil))))))) pss_nil) (pss_cons (ps_if (pt_cmpR op_eq (pv 4) pe_str (nomark _))
    (pss_one (ps_ret (pe_c0 c_weigh_part hr (by omega) rfl (pa_cons (pv 0) (pa_cons (pv 1) (pa_cons (pv 2) (pa_cons (pv 3) pa_nil))))))) pss_nil) (pss_cons (ps_setLc (i := 9) (own := [("inner", 11)]) (g := (gName 11)) (tt := tYes) (by rfl) scweigh.nd rfl rfl (sw_true rfl rfl rfl (by decide +kernel)) (pi_list (pe_c0 c_inner_exprs hr (by omega) rfl (pa_cons (pv 0) pa_nil))) (blkOk_by (own := [("inner", 11)]) (N := nweigh) (sc := (defScope sweigh)) (by decide +kernel)) (fun _ _ _ _ _ => (pg_name (i := 11) scweigh.nd rfl (by first | exact Or.inl rfl | exact Or.inr rfl))) (fun _ _ _ _ _ => pts_nil) (fun _ _ _ _ _ => (pe_c0 c_weigh hr (by omega) rfl (pa_cons (pv 11) (pa_cons (pv 1) (pa_cons (pv 2) (pa_cons (pv 3) pa_nil))))))) (pss_cons (ps_if (pt_cmpR op_eq (pv 4) pe_str (nomark _))
    (pss_one (ps_ret (pe_c0 c_sum_of hr (by omega) rfl (pa_cons (pe_op op_cat (pe_lst (pa_cons (pe_c0 c_plain_row hr (by omega) rfl (pa_cons (pe_op op_add pe_int (pe_callB call_len_seq (by rfl) B.len PySem.boot_len (pa_cons (pe_ix ix_tup (pv 0) pe_int (fun _ _ => rfl)) pa_nil))) (pa_cons (pv 3) pa_nil))) pa_nil)) (pv 9)) pa_nil)))) pss_nil) (pss_one (ps_ret (pe_c0 c_sum_of hr (by omega) rfl (pa_cons (pe_op op_cat (pe_lst (pa_cons (pe_c0 c_plain_row hr (by omega) rfl (pa_cons (pe_callB call_len_seq (by rfl) B.len PySem.boot_len (pa_cons (pe_ix ix_tup (pv 0) pe_int (fun _ _ => rfl)) pa_nil)) (pa_cons (pv 3) pa_nil))) pa_nil)) (pv 9)) pa_nil)))))))))))))), ?_⟩
  cases hg with
  | @number a p i ha =>
    refine ⟨_, rfl, a, _, _, _, rfl, rfl, ha, rfl, ?_⟩
    refine ⟨_, rfl, 1, c, rfl, by decide, by decide, hc, fun p1 H1 s1 r1 => ?_⟩
    refine ⟨_, rfl, rfl, _, rfl, if_t (eqT rfl) ?_⟩
    exact ⟨_, rfl, q _ _ s1 r1⟩
  | @name a p z ha hz =>
    refine ⟨_, rfl, a, _, _, _, rfl, rfl, ha, rfl, ?_⟩
    refine ⟨_, rfl, 1, c, rfl, by decide, by decide, hc, fun p1 H1 s1 r1 => ?_⟩
    refine ⟨_, rfl, rfl, _, rfl, if_f (eqF (by decide +kernel)) ?_⟩
    refine ⟨_, rfl, rfl, _, rfl, if_t (eqT rfl) ?_⟩
    obtain ⟨v, hv, hr1⟩ := hw.nmv z hz
    exact ⟨_, rfl, _, rfl, a, _, _, _, rfl, rfl, Same.tup s1 ha, rfl, sc, v, rfl, hv ▸ DGet.k (k := Sum.inr z) (s1 _ _ hw.sc), q v H1 s1 (hr1.mono (GR.Same.tps s1))⟩
  | @fields a b p rs ha hb hrl hrs =>
    refine ⟨_, rfl, a, _, _, _, rfl, rfl, ha, rfl, ?_⟩
    refine ⟨_, rfl, 1, c, rfl, by decide, by decide, hc, fun p1 H1 s1 r1 => ?_⟩
    refine ⟨_, rfl, rfl, _, rfl, if_f (eqF (by decide +kernel)) ?_⟩
    refine ⟨_, rfl, rfl, _, rfl, if_f (eqF (by decide +kernel)) ?_⟩
    refine ⟨_, rfl, rfl, _, rfl, if_t (eqT rfl) ?_⟩
    refine ⟨_, rfl, (by show 1 ≤ sizeLine; decide), fun p2 hp2 => ?_⟩
    have sa := s1.trans (same_new hp2 (.lst [.ref p1]))
    refine ⟨_, rfl, a, _, _, _, rfl, rfl, Same.tup sa ha, rfl, b, rfl, ⟨_, Same.tup sa hb⟩, fun D hD => lc_tup (xs := rs) (fun i H' => ∃ acc : List V, H' D = some (.lst acc) ∧ acc.length = i ∧ (∀ x ∈ acc, RowA K H' c x) ∧ Stp D (L2.upd H1 p2 (.lst [.ref p1])) H') ⟨[], upd_same, rfl, (fun x hx => nomatch hx), Stp.of (same_new hD _)⟩ ?_ ?_ ?_⟩
    · rintro i H' _ ⟨_, _, _, _, st⟩
      exact Same.tup (sa.trans (Stp.same st hD)) hb
    · rintro i x H' hx ⟨acc, hac, hn2, hv, st⟩
      have s0 := sa.trans (Stp.same st hD)
      obtain ⟨t, w0, e, q1, rfl, ht, he, _⟩ := hrs x (List.mem_of_getElem? hx)
      have hil : i < rs.length := (List.getElem?_eq_some_iff.mp hx).1
      refine ⟨t, _, rfl, Same.tup s0 ht, rfl, _, _, rfl, _, _, rfl, _, _, rfl, rfl, rfl, _, rfl, _, rfl, _, rfl, _, rfl, ?_⟩
      refine ⟨e, sc, bd, c, nm, cl, ks, bs, rfl, G.mono (GR.Same.tps s0) (Nat.le_refl _) (fun _ _ z => z) (Nat.le_refl _) (fun _ z => z) he, hw.same s0, by omega, hc, fun v' H2 s2 r2 => ⟨acc, s2 _ _ hac, sml1 (by omega), acc ++ [v'], upd_same, by rw [List.length_append, hn2]; rfl, fun y hy => ?_, fun u o nb eb => by rw [upd_ne nb]; exact s2 _ _ (st u o nb eb)⟩⟩
      have tp : Tps H2 (L2.upd H2 D (.lst (acc ++ [v']))) := tps_upd (rd_lst (s2 _ _ hac))
      rcases List.mem_append.mp hy with hy | hy
      · exact (hv y hy).mono ((GR.Same.tps s2).trans tp)
      · rw [List.mem_singleton.mp hy]
        exact r2.mono tp
    · rintro H2 ⟨acc, hac, hn2, hv, st⟩
      have s2 := Stp.same st hD
      refine ⟨p2, D, _, _, rfl, rfl, s2 _ _ upd_same, hac, sml (by show 1 + acc.length ≤ 10000; omega), fun p3 hp3 => ?_⟩
      have s3 := same_new hp3 (.lst ([.ref p1] ++ acc))
      refine ⟨p3, _, c, rfl, SqL.of upd_same, (fun z => nomatch z), by show acc.length + 1 ≤ 10000; omega, fun y hy => ?_, hc, fun p4 H4 s4 r4 => q _ _ ((sa.trans s2).trans (s3.trans s4)) r4⟩
      rcases List.mem_cons.mp hy with rfl | hy
      · exact r1.mono (GR.Same.tps (((same_new hp2 _).trans s2).trans s3))
      · exact (hv y hy).mono (GR.Same.tps s3)
  | @call a b p z es ha hb hel hcl hes =>
    refine ⟨_, rfl, a, _, _, _, rfl, rfl, ha, rfl, ?_⟩
    refine ⟨_, rfl, 1, c, rfl, by decide, by decide, hc, fun p1 H1 s1 r1 => ?_⟩
    refine ⟨_, rfl, rfl, _, rfl, if_f (eqF (by decide +kernel)) ?_⟩
    refine ⟨_, rfl, rfl, _, rfl, if_f (eqF (by decide +kernel)) ?_⟩
    refine ⟨_, rfl, rfl, _, rfl, if_f (eqF (by decide +kernel)) ?_⟩
    refine ⟨_, rfl, rfl, _, rfl, if_t (eqT rfl) ?_⟩
    refine ⟨_, rfl, a, _, _, _, rfl, rfl, Same.tup s1 ha, rfl, b, rfl, ⟨_, Same.tup s1 hb⟩, fun D hD => lc_tup (xs := es) (fun i H' => ∃ acc : List V, H' D = some (.lst acc) ∧ acc.length = i ∧ (∀ x ∈ acc, RowA K H' c x) ∧ Stp D H1 H') ⟨[], upd_same, rfl, (fun x hx => nomatch hx), Stp.of (same_new hD _)⟩ ?_ ?_ ?_⟩
    · rintro i H' _ ⟨_, _, _, _, st⟩
      exact Same.tup (s1.trans (Stp.same st hD)) hb
    · rintro i e H' hx ⟨acc, hac, hn2, hv, st⟩
      have s0 := s1.trans (Stp.same st hD)
      have he := hes e (List.mem_of_getElem? hx)
      have hil : i < es.length := (List.getElem?_eq_some_iff.mp hx).1
      refine ⟨rfl, _, rfl, _, rfl, _, rfl, _, rfl, ?_⟩
      refine ⟨e, sc, bd, c, nm, cl, ks, bs, rfl, G.mono (GR.Same.tps s0) (Nat.le_refl _) (fun _ _ z => z) (Nat.le_refl _) (fun _ z => z) he, hw.same s0, by omega, hc, fun v' H2 s2 r2 => ⟨acc, s2 _ _ hac, sml1 (by omega), acc ++ [v'], upd_same, by rw [List.length_append, hn2]; rfl, fun y hy => ?_, fun u o nb eb => by rw [upd_ne nb]; exact s2 _ _ (st u o nb eb)⟩⟩
      have tp : Tps H2 (L2.upd H2 D (.lst (acc ++ [v']))) := tps_upd (rd_lst (s2 _ _ hac))
      rcases List.mem_append.mp hy with hy | hy
      · exact (hv y hy).mono ((GR.Same.tps s2).trans tp)
      · rw [List.mem_singleton.mp hy]
        exact r2.mono tp
    · rintro H2 ⟨acc, hac, hn2, hv, st⟩
      have s2 := Stp.same st hD
      have s12 := s1.trans s2
      obtain ⟨bv, hbv, hrow⟩ := hw.clv z _ hcl
      obtain ⟨ra, ns, rfl, hra, hnl, hnb⟩ := hrow.mono (GR.Same.tps s12)
      refine ⟨_, rfl, _, rfl, a, _, _, _, rfl, rfl, Same.tup s12 ha, rfl, bd, _, rfl, hbv ▸ DGet.k (k := Sum.inr z) (s12 _ _ hw.bd), ?_⟩
      refine ⟨_, rfl, D, acc, rfl, SqL.of hac, fun D2 hD2 => ⟨fun i m H' => m = es.length - i ∧ i ≤ es.length ∧ ∃ acc2 : List V, H' D2 = some (.lst acc2) ∧ acc2.length = i ∧ (∀ x ∈ acc2, RowA K H' c x) ∧ Stp D2 H2 H', ⟨_, rfl, Nat.zero_le _, [], upd_same, rfl, (fun x hx => nomatch hx), Stp.of (same_new hD2 _)⟩, ?_⟩⟩
      rintro i m H' ⟨rfl, hi, acc2, hac2, hn3, hv3, st3⟩
      have s3 := Stp.same st3 hD2
      by_cases hlt : i < es.length
      · refine .inr ⟨⟨acc, acc[i]'(by omega), SqL.of (s3 _ _ hac), List.getElem?_eq_getElem _⟩, fun H3 => i + 1 ≤ es.length ∧ ∃ acc2 : List V, H3 D2 = some (.lst acc2) ∧ acc2.length = i + 1 ∧ (∀ x ∈ acc2, RowA K H3 c x) ∧ Stp D2 H2 H3, fun H3 h => ⟨_, ?_, rfl, h⟩, ?_⟩
        · omega
        · rintro x H3 ⟨T', y, rfl, hT, rfl, hy⟩
          have hy := hy acc (SqL.of (s3 _ _ hac))
          have sT := same_new hT (.tup [.int (i : Nat), y])
          have ry : RowA K (L2.upd H' T' (.tup [.int (i : Nat), y])) c y := (hv y (List.mem_of_getElem? hy)).mono (GR.Same.tps (s3.trans sT))
          have hk : i + 1 < ns.length := by omega
          have hkb := hnb ns[i + 1] (List.getElem_mem hk)
          refine ⟨T', _, rfl, SqT.of upd_same, rfl, _, _, rfl, _, _, rfl, rfl, rfl, _, rfl, _, rfl, _, rfl, _, _, rfl, rfl, ra, _, ((i + 1 : Nat) : Int), .int ns[i + 1], rfl, ?_, Same.tup (s3.trans sT) hra, atI_nat (by rw [List.getElem?_map, List.getElem?_eq_getElem hk]; rfl), y, ns[i + 1], c, rfl, ry, hkb.1, hkb.2, hc, fun p5 H5 s5 r5 => ?_⟩
          · rw [Int.natCast_succ]
          · have hac5 := s5 _ _ (sT _ _ hac2)
            refine ⟨acc2, hac5, sml1 (by omega), hlt, acc2 ++ [.ref p5], upd_same, by rw [List.length_append, hn3]; rfl, fun w hw' => ?_, fun u o nb eb => by rw [upd_ne nb]; exact s5 _ _ (sT _ _ (st3 u o nb eb))⟩
            have tp : Tps H5 (L2.upd H5 D2 (.lst (acc2 ++ [.ref p5]))) := tps_upd (rd_lst hac5)
            rcases List.mem_append.mp hw' with hw' | hw'
            · exact (hv3 w hw').mono ((GR.Same.tps (sT.trans s5)).trans tp)
            · rw [List.mem_singleton.mp hw']
              exact r5.mono tp
      · refine .inl ⟨⟨acc, SqL.of (s3 _ _ hac), by omega⟩, ?_⟩
        have hn0 : 0 < ns.length := by omega
        have h0b := hnb ns[0] (List.getElem_mem hn0)
        refine ⟨_, rfl, _, rfl, ra, _, _, .int ns[0], rfl, rfl, Same.tup s3 hra, atI_nat (j := 0) (by rw [List.getElem?_map, List.getElem?_eq_getElem hn0]; rfl), _, rfl, ns[0], c, rfl, h0b.1, h0b.2, hc, fun p6 H6 s6 r6 => ?_⟩
        have s36 := s3.trans s6
        refine ⟨(by show 2 ≤ sizeLine; decide), fun p7 hp7 => ?_⟩
        have s7 := same_new hp7 (.lst [.ref p1, .ref p6])
        refine ⟨_, rfl, p7, D, _, _, rfl, rfl, upd_same, s7 _ _ (s36 _ _ hac), sml (by show 2 + acc.length ≤ 10000; omega), fun p8 hp8 => ?_⟩
        have s8 := same_new hp8 (.lst ([.ref p1, .ref p6] ++ acc))
        refine ⟨_, rfl, p8, D2, _, _, rfl, rfl, upd_same, s8 _ _ (s7 _ _ (s6 _ _ hac2)), sml (by show (acc.length + 1 + 1) + acc2.length ≤ 10000; omega), fun p9 hp9 => ?_⟩
        have s9 := same_new hp9 (.lst (([.ref p1, .ref p6] ++ acc) ++ acc2))
        have s79 := (s7.trans s8).trans s9
        refine ⟨p9, _, c, rfl, SqL.of upd_same, (fun z => nomatch z), by show (acc ++ acc2).length + 1 + 1 ≤ 10000; rw [List.length_append]; omega, fun y hy => ?_, hc, fun p4 H4 s4 r4 => q _ _ ((s12.trans s36).trans (s79.trans s4)) r4⟩
        rcases List.mem_append.mp hy with hy | hy
        · rcases List.mem_cons.mp hy with rfl | hy
          · exact r1.mono (GR.Same.tps ((s2.trans s36).trans s79))
          rcases List.mem_cons.mp hy with rfl | hy
          · exact r6.mono (GR.Same.tps s79)
          · exact (hv y hy).mono (GR.Same.tps (s36.trans s79))
        · exact (hv3 y hy).mono (GR.Same.tps (s6.trans s79))
  | @lets a p z e1 e2 ha h1 h2 =>
    refine ⟨_, rfl, a, _, _, _, rfl, rfl, ha, rfl, ?_⟩
    refine ⟨_, rfl, 1, c, rfl, by decide, by decide, hc, fun p1 H1 s1 r1 => ?_⟩
    refine ⟨_, rfl, rfl, _, rfl, if_f (eqF (by decide +kernel)) ?_⟩
    refine ⟨_, rfl, rfl, _, rfl, if_f (eqF (by decide +kernel)) ?_⟩
    refine ⟨_, rfl, rfl, _, rfl, if_f (eqF (by decide +kernel)) ?_⟩
    refine ⟨_, rfl, rfl, _, rfl, if_f (eqF (by decide +kernel)) ?_⟩
    refine ⟨_, rfl, rfl, _, rfl, if_t (eqT rfl) ?_⟩
    refine ⟨_, rfl, a, _, _, _, rfl, rfl, Same.tup s1 ha, rfl, _, rfl, _, rfl, _, rfl, e1, sc, bd, c, nm, cl, ks, bs, rfl, G.mono (GR.Same.tps s1) (Nat.le_refl _) (fun _ _ z => z) (Nat.le_refl _) (fun _ z => z) h1, hw.same s1, by omega, hc, fun v1 H2 s2 r2 => ?_⟩
    have s12 := s1.trans s2
    have hw2 := hw.same s12
    refine ⟨_, rfl, sc, ks, rfl, .inl hw2.sc, fun p3 hp3 => ?_⟩
    have s3 := same_new hp3 (.dK ks)
    have s13 := s12.trans s3
    refine ⟨_, rfl, _, rfl, _, rfl, a, _, _, _, rfl, rfl, Same.tup s13 ha, rfl, p3, _, rfl, DPut.k (k := Sum.inr z) upd_same (sml1 (by omega)), ?_⟩
    rw [upd_upd]
    have s4 := same_new hp3 (.dK (putK ks (Sum.inr z) v1))
    have s14 := s12.trans s4
    have hw4 := hw.same s14
    have hlen : (putK ks (Sum.inr z : Key) v1).length ≤ ks.length + 1 := by
      unfold putK
      split
      · rw [List.length_map]; omega
      · rw [List.length_append]; exact Nat.le_refl _
    refine ⟨_, rfl, _, rfl, _, rfl, a, _, _, _, rfl, rfl, Same.tup s14 ha, rfl, _, rfl, _, rfl, _, rfl, e2, p3, bd, c, _, cl, putK ks (Sum.inr z) v1, bs, rfl, G.mono (GR.Same.tps s14) (Nat.le_refl _) (fun _ _ z => z) (Nat.le_refl _) (fun _ z => z) h2, ⟨upd_same, hw4.bd, fun y hy => ?_, hw4.clv⟩, by omega, hc, fun v5 H5 s5 r5 => ?_⟩
    · rw [valV_put]
      by_cases hyz : (Sum.inr y : Key) = Sum.inr z
      · rw [if_pos hyz]
        exact ⟨v1, rfl, r2.mono (GR.Same.tps s4)⟩
      · rw [if_neg hyz]
        rcases hy with hy | hy
        · exact hw4.nmv y hy
        · exact absurd (congrArg Sum.inr hy) hyz
    · refine ⟨(by show 3 ≤ sizeLine; decide), fun p6 hp6 => ?_⟩
      have s6 := same_new hp6 (.lst [.ref p1, v1, v5])
      refine ⟨p6, _, c, rfl, SqL.of upd_same, (fun z => nomatch z), by show 3 ≤ 10000; decide, fun y hy => ?_, hc, fun p7 H7 s7 r7 => q _ _ (s14.trans ((s5.trans s6).trans s7)) r7⟩
      rcases List.mem_cons.mp hy with rfl | hy
      · exact r1.mono (GR.Same.tps ((s2.trans s4).trans (s5.trans s6)))
      rcases List.mem_cons.mp hy with rfl | hy
      · exact r2.mono (GR.Same.tps (s4.trans (s5.trans s6)))
      · rw [List.mem_singleton.mp hy]
        exact r5.mono (GR.Same.tps s6)
  | @part a b g rs ha hg hb hrl hrs =>
    refine ⟨_, rfl, a, _, _, _, rfl, rfl, ha, rfl, ?_⟩
    refine ⟨_, rfl, 1, c, rfl, by decide, by decide, hc, fun p1 H1 s1 r1 => ?_⟩
    refine ⟨_, rfl, rfl, _, rfl, if_f (eqF (by decide +kernel)) ?_⟩
    refine ⟨_, rfl, rfl, _, rfl, if_f (eqF (by decide +kernel)) ?_⟩
    refine ⟨_, rfl, rfl, _, rfl, if_f (eqF (by decide +kernel)) ?_⟩
    refine ⟨_, rfl, rfl, _, rfl, if_f (eqF (by decide +kernel)) ?_⟩
    refine ⟨_, rfl, rfl, _, rfl, if_f (eqF (by decide +kernel)) ?_⟩
    refine ⟨_, rfl, rfl, _, rfl, if_t (eqT rfl) ?_⟩
    refine ⟨_, rfl, _, rfl, _, rfl, _, rfl, .ref a, sc, bd, c, nm, cl, ks, bs, rfl, ⟨a, b, g, rs, rfl, Same.tup s1 ha, G.mono (GR.Same.tps s1) (Nat.le_refl _) (fun _ _ z => z) (Nat.le_refl _) (fun _ z => z) hg, Same.tup s1 hb, hrl, fun r hr' => (hrs r hr').mono (GR.Same.tps s1) (Nat.le_refl _) fun v z => G.mono (GR.Same.tps s1) (Nat.le_refl _) (fun _ _ z => z) (Nat.le_refl _) (fun _ z => z) z⟩, hw.same s1, by omega, hc, fun v2 H2 s2 r2 => q _ _ (s1.trans s2) r2⟩
  | @ifs a b p rs e1 e2 ha hb hrl hrs h1 h2 =>
    refine ⟨_, rfl, a, _, _, _, rfl, rfl, ha, rfl, ?_⟩
    refine ⟨_, rfl, 1, c, rfl, by decide, by decide, hc, fun p1 H1 s1 r1 => ?_⟩
    refine ⟨_, rfl, rfl, _, rfl, if_f (eqF (by decide +kernel)) ?_⟩
    refine ⟨_, rfl, rfl, _, rfl, if_f (eqF (by decide +kernel)) ?_⟩
    refine ⟨_, rfl, rfl, _, rfl, if_f (eqF (by decide +kernel)) ?_⟩
    refine ⟨_, rfl, rfl, _, rfl, if_f (eqF (by decide +kernel)) ?_⟩
    refine ⟨_, rfl, rfl, _, rfl, if_f (eqF (by decide +kernel)) ?_⟩
    refine ⟨_, rfl, rfl, _, rfl, if_f (eqF (by decide +kernel)) ?_⟩
    have hin : InnS K Wd 1000 H (G K Wd 1000 cl H n nm) (.ref a) := ⟨a, b, rs, rfl, hb, hrl, .inl ⟨p, e1, e2, ha, hrs, h1, h2⟩⟩
    refine ⟨_, rfl, .ref a, rfl, hin.mono (GR.Same.tps s1) (fun _ w => G.mono (GR.Same.tps s1) (Nat.le_refl _) (fun _ _ z => z) (Nat.le_refl _) (fun _ z => z) w), by decide, fun p2 H2 es s2 hp2 hlen hes hcov => ?_⟩
    have s12 := s1.trans s2
    refine ⟨p2, rfl, ⟨_, SqL.of hp2⟩, fun D hD => lc_list (xs := es) (fun i H' => ∃ acc : List V, H' D = some (.lst acc) ∧ acc.length = i ∧ (∀ x ∈ acc, RowA K H' c x) ∧ Stp D H2 H') ⟨[], upd_same, rfl, (fun x hx => nomatch hx), Stp.of (same_new hD _)⟩ ?_ ?_ ?_⟩
    · rintro i H' _ ⟨_, _, _, _, st⟩
      exact SqL.of ((Stp.same st hD) _ _ hp2)
    · rintro i e H' hx ⟨acc, hac, hn2, hv, st⟩
      have s3 := Stp.same st hD
      have s0 := s12.trans s3
      have he := hes e (List.mem_of_getElem? hx)
      have hil : i < es.length := (List.getElem?_eq_some_iff.mp hx).1
      refine ⟨rfl, _, rfl, _, rfl, _, rfl, _, rfl, ?_⟩
      refine ⟨e, sc, bd, c, nm, cl, ks, bs, rfl, G.mono (GR.Same.tps s3) (Nat.le_refl _) (fun _ _ z => z) (Nat.le_refl _) (fun _ z => z) he, hw.same s0, by omega, hc, fun v' H2 s2 r2 => ⟨acc, s2 _ _ hac, sml1 (by omega), acc ++ [v'], upd_same, by rw [List.length_append, hn2]; rfl, fun y hy => ?_, fun u o nb eb => by rw [upd_ne nb]; exact s2 _ _ (st u o nb eb)⟩⟩
      have tp : Tps H2 (L2.upd H2 D (.lst (acc ++ [v']))) := tps_upd (rd_lst (s2 _ _ hac))
      rcases List.mem_append.mp hy with hy | hy
      · exact (hv y hy).mono ((GR.Same.tps s2).trans tp)
      · rw [List.mem_singleton.mp hy]
        exact r2.mono tp
    · rintro H3 ⟨acc, hac, hn2, hv, st⟩
      have s3 := Stp.same st hD
      have s13 := s12.trans s3
      refine ⟨_, rfl, rfl, _, rfl, if_t (eqT rfl) ?_⟩
      refine ⟨_, rfl, a, _, _, _, rfl, rfl, Same.tup s13 ha, rfl, b, _, rfl, .inr (Same.tup s13 hb), _, _, rfl, rfl, _, rfl, 1 + (rs.length : Int), c, rfl, by omega, by omega, hc, fun p5 H5 s5 r5 => ?_⟩
      refine ⟨(by show 1 ≤ sizeLine; decide), fun p6 hp6 => ?_⟩
      have s6 := same_new hp6 (.lst [.ref p5])
      refine ⟨_, rfl, p6, D, _, _, rfl, rfl, upd_same, s6 _ _ (s5 _ _ hac), sml (by show 1 + acc.length ≤ 10000; omega), fun p7 hp7 => ?_⟩
      have s7 := same_new hp7 (.lst ([.ref p5] ++ acc))
      refine ⟨p7, _, c, rfl, SqL.of upd_same, (fun z => nomatch z), by show acc.length + 1 ≤ 10000; omega, fun y hy => ?_, hc, fun p8 H8 s8 r8 => q _ _ (s13.trans ((s5.trans s6).trans (s7.trans s8))) r8⟩
      rcases List.mem_cons.mp hy with rfl | hy
      · exact r5.mono (GR.Same.tps (s6.trans s7))
      · exact (hv y hy).mono (GR.Same.tps ((s5.trans s6).trans s7))
  | @chain a b g rs ha hg hb hrl hrs =>
    refine ⟨_, rfl, a, _, _, _, rfl, rfl, ha, rfl, ?_⟩
    refine ⟨_, rfl, 1, c, rfl, by decide, by decide, hc, fun p1 H1 s1 r1 => ?_⟩
    refine ⟨_, rfl, rfl, _, rfl, if_f (eqF (by decide +kernel)) ?_⟩
    refine ⟨_, rfl, rfl, _, rfl, if_f (eqF (by decide +kernel)) ?_⟩
    refine ⟨_, rfl, rfl, _, rfl, if_f (eqF (by decide +kernel)) ?_⟩
    refine ⟨_, rfl, rfl, _, rfl, if_f (eqF (by decide +kernel)) ?_⟩
    refine ⟨_, rfl, rfl, _, rfl, if_f (eqF (by decide +kernel)) ?_⟩
    refine ⟨_, rfl, rfl, _, rfl, if_f (eqF (by decide +kernel)) ?_⟩
    have hin : InnS K Wd 1000 H (G K Wd 1000 cl H n nm) (.ref a) := ⟨a, b, rs, rfl, hb, hrl, .inr (.inl ⟨g, ha, hg, hrs⟩)⟩
    refine ⟨_, rfl, .ref a, rfl, hin.mono (GR.Same.tps s1) (fun _ w => G.mono (GR.Same.tps s1) (Nat.le_refl _) (fun _ _ z => z) (Nat.le_refl _) (fun _ z => z) w), by decide, fun p2 H2 es s2 hp2 hlen hes hcov => ?_⟩
    have s12 := s1.trans s2
    refine ⟨p2, rfl, ⟨_, SqL.of hp2⟩, fun D hD => lc_list (xs := es) (fun i H' => ∃ acc : List V, H' D = some (.lst acc) ∧ acc.length = i ∧ (∀ x ∈ acc, RowA K H' c x) ∧ Stp D H2 H') ⟨[], upd_same, rfl, (fun x hx => nomatch hx), Stp.of (same_new hD _)⟩ ?_ ?_ ?_⟩
    · rintro i H' _ ⟨_, _, _, _, st⟩
      exact SqL.of ((Stp.same st hD) _ _ hp2)
    · rintro i e H' hx ⟨acc, hac, hn2, hv, st⟩
      have s3 := Stp.same st hD
      have s0 := s12.trans s3
      have he := hes e (List.mem_of_getElem? hx)
      have hil : i < es.length := (List.getElem?_eq_some_iff.mp hx).1
      refine ⟨rfl, _, rfl, _, rfl, _, rfl, _, rfl, ?_⟩
      refine ⟨e, sc, bd, c, nm, cl, ks, bs, rfl, G.mono (GR.Same.tps s3) (Nat.le_refl _) (fun _ _ z => z) (Nat.le_refl _) (fun _ z => z) he, hw.same s0, by omega, hc, fun v' H2 s2 r2 => ⟨acc, s2 _ _ hac, sml1 (by omega), acc ++ [v'], upd_same, by rw [List.length_append, hn2]; rfl, fun y hy => ?_, fun u o nb eb => by rw [upd_ne nb]; exact s2 _ _ (st u o nb eb)⟩⟩
      have tp : Tps H2 (L2.upd H2 D (.lst (acc ++ [v']))) := tps_upd (rd_lst (s2 _ _ hac))
      rcases List.mem_append.mp hy with hy | hy
      · exact (hv y hy).mono ((GR.Same.tps s2).trans tp)
      · rw [List.mem_singleton.mp hy]
        exact r2.mono tp
    · rintro H3 ⟨acc, hac, hn2, hv, st⟩
      have s3 := Stp.same st hD
      have s13 := s12.trans s3
      refine ⟨_, rfl, rfl, _, rfl, if_f (eqF (by decide +kernel)) ?_⟩
      refine ⟨_, rfl, a, _, _, _, rfl, rfl, Same.tup s13 ha, rfl, b, _, rfl, .inr (Same.tup s13 hb), _, rfl, (rs.length : Int), c, rfl, by omega, by omega, hc, fun p5 H5 s5 r5 => ?_⟩
      refine ⟨(by show 1 ≤ sizeLine; decide), fun p6 hp6 => ?_⟩
      have s6 := same_new hp6 (.lst [.ref p5])
      refine ⟨_, rfl, p6, D, _, _, rfl, rfl, upd_same, s6 _ _ (s5 _ _ hac), sml (by show 1 + acc.length ≤ 10000; omega), fun p7 hp7 => ?_⟩
      have s7 := same_new hp7 (.lst ([.ref p5] ++ acc))
      refine ⟨p7, _, c, rfl, SqL.of upd_same, (fun z => nomatch z), by show acc.length + 1 ≤ 10000; omega, fun y hy => ?_, hc, fun p8 H8 s8 r8 => q _ _ (s13.trans ((s5.trans s6).trans (s7.trans s8))) r8⟩
      rcases List.mem_cons.mp hy with rfl | hy
      · exact r5.mono (GR.Same.tps (s6.trans s7))
      · exact (hv y hy).mono (GR.Same.tps ((s5.trans s6).trans s7))
end
end GR
set_option Elab.async false
set_option linter.all false
set_option maxRecDepth 100000
set_option maxHeartbeats 4000000
namespace GR
open PySem PySem.Spec PyProof.Rows L2
section
variable {P : Program} {w : World} {K : PySem.W.Frag} {Wd : Str → Prop} {mg : Str → Option Value} {base : Heap} {CC CB aR aS : Addr} {T : Toks} {f : Addr} {fd : FuncData} {n : Nat}
abbrev sweigh_part : Stmt := top 23
abbrev nweigh_part : List Str := ["expr", "scope", "bodies", "count", "row", "step"]
theorem scweigh_part : FnScope nweigh_part ["expr", "scope", "bodies", "count"] (defScope sweigh_part) := ⟨rfl, rfl, rfl, by decide +kernel, rfl, by decide +kernel, by decide +kernel⟩
-- slots of weigh_part: 0 expr, 1 scope, 2 bodies, 3 count, 4 row, 5 step
theorem ok_weigh_part (F : Fun K "weigh_part" "weigh_part" sweigh_part f fd) (B : Blt mg) (hn : n ≤ 1000) (c_plain_row : Cal P w K mg base CX0 1 "plain_row" ["weight", "count"] (spPlainRow K)) (c_sum_of : Cal P w K mg base CX0 1 "sum_of" ["rows"] (spSumOf K))
    (c_weigh : Cal P w K mg base CX0 (2 * n + 2) "weigh" ["expr", "scope", "bodies", "count"] (spWeigh K Wd n)) : FnOk P w K mg base CX0 (2 * n + 3) f fd ["expr", "scope", "bodies", "count"] (spWeighPart K Wd n) := by
  refine F.own (k := 2 * n + 2) scweigh_part (fun vs H Q E h => ?_) (fun cdv A outer s H vs Q E hr h => ?_)
  · obtain ⟨v, sc, bd, c, nm, cl, ks, bs, rfl, _⟩ := h
    rfl
  obtain ⟨v, sc, bd, c, nm, cl, ks, bs, rfl, ⟨a, b, g, rs, rfl, ha, hg, hb, hrl, hrs⟩, hw, hl, hc, q⟩ := h
  refine ⟨_, (pss_cons (ps_set (i := 4) scweigh_part.nd rfl (by first | exact Or.inl rfl | exact Or.inr rfl) (pe_c0 c_weigh hr (by omega) rfl (pa_cons (pe_ix ix_tup (pv 0) pe_int (fun _ _ => rfl)) (pa_cons (pv 1) (pa_cons (pv 2) (pa_cons (pv 3) pa_nil)))))) (pss_cons (ps_for (PassesOwn.never) rfl (pi_tup (pe_ix ix_tup (pv 0) pe_int (fun _ _ => rfl))) (pg_name (i := 5) scweigh_part.nd rfl (by first | exact Or.inl rfl | exact Or.inr rfl))
    (pss_one (ps_if (pt_cmpR op_eq (pe_ix ix_tup (pv 5) pe_int (fun _ _ => rfl)) pe_str (nomark _))
    (pss_one (ps_set (i := 4) scweigh_part.nd rfl (by first | exact Or.inl rfl | exact Or.inr rfl) (pe_c0 c_sum_of hr (by omega) rfl (pa_cons (pe_lst (pa_cons (pv 4) (pa_cons (pv 4) (pa_cons (pe_c0 c_plain_row hr (by omega) rfl (pa_cons pe_int (pa_cons (pv 3) pa_nil))) pa_nil)))) pa_nil)))) (pss_one (ps_if (pt_cmpR op_eq (pe_ix ix_tup (pv 5) pe_int (fun _ _ => rfl)) pe_str (nomark _))
    (pss_one (ps_set (i := 4) scweigh_part.nd rfl (by first | exact Or.inl rfl | exact Or.inr rfl) (pe_c0 c_sum_of hr (by omega) rfl (pa_cons (pe_lst (pa_cons (pv 4) (pa_cons (pe_c0 c_plain_row hr (by omega) rfl (pa_cons (pe_op op_add pe_int (pe_callB call_len_seq (by rfl) B.len PySem.boot_len (pa_cons (pe_ix ix_tup (pv 5) pe_int (fun _ _ => rfl)) pa_nil))) (pa_cons (pv 3) pa_nil))) pa_nil))) pa_nil)))) (pss_one (ps_if (PW.pt (pw_or (pt_cmpR op_eq (pe_ix ix_tup (pv 5) pe_int (fun _ _ => rfl)) pe_str (nomark _)) (pw_or1 (pt_cmpR op_eq (pe_ix ix_tup (pv 5) pe_int (fun _ _ => rfl)) pe_str (nomark _)))))
    (pss_one (ps_set (i := 4) scweigh_part.nd rfl (by first | exact Or.inl rfl | exact Or.inr rfl) (pe_c0 c_sum_of hr (by omega) rfl (pa_cons (pe_lst (pa_cons (pv 4) (pa_cons (pe_c0 c_plain_row hr (by omega) rfl (pa_cons pe_int (pa_cons (pv 3) pa_nil))) (pa_cons (pe_c0 c_weigh hr (by omega) rfl (pa_cons (pe_ix ix_tup (pv 5) pe_int (fun _ _ => rfl)) (pa_cons (pv 1) (pa_cons (pv 2) (pa_cons (pv 3) pa_nil))))) pa_nil)))) pa_nil)))) (pss_one (ps_set (i := 4) scweigh_part.nd rfl (by first | exact Or.inl rfl | exact Or.inr rfl) (pe_c0 c_sum_of hr (by omega) rfl (pa_cons (pe_lst (pa_cons (pv 4) (pa_cons (pe_c0 c_plain_row hr (by omega) rfl (pa_cons pe_int (pa_cons (pv 3) pa_nil))) pa_nil))) pa_nil))))))))))) (pss_one (ps_ret (pv 4))))), ?_⟩
  refine ⟨_, rfl, a, _, _, _, rfl, rfl, ha, rfl, _, rfl, _, rfl, _, rfl, g, sc, bd, c, nm, cl, ks, bs, rfl, hg, hw, hl, hc, fun v1 H1 s1 r1 => ?_⟩
  refine ⟨_, rfl, a, _, _, _, rfl, rfl, Same.tup s1 ha, rfl, b, rfl, ⟨_, Same.tup s1 hb⟩, for_tup (xs := rs) (fun i σ' H' => (∃ v x, σ' = [some (.ref a), some (.ref sc), some (.ref bd), some (.int (c : Int)), some v, x] ∧ RowA K H' c v) ∧ Same H H') ⟨⟨_, _, rfl, r1⟩, s1⟩ ?_ ?_ ?_⟩
  · rintro i σ' H' _ ⟨_, s0⟩
    exact Same.tup s0 hb
  · rintro i x σ' H' hx ⟨⟨v, y, rfl, rv⟩, s0⟩
    obtain ⟨t, rfl, hst⟩ := hrs x (List.mem_of_getElem? hx)
    have fin : ∀ {H2 : Hp} {xs : List V} {Q' : VK}, Same H' H2 → xs ≠ [] → xs.length ≤ 5 → (∀ z ∈ xs, RowA K H2 c z) → (∀ v2 H3, Same H' H3 → RowA K H3 c v2 → Q' v2 H3) → ∀ p, H2 p = none → spSumOf K [.ref p] (L2.upd H2 p (.lst xs)) Q' E0 := fun s2 hne hlen hz hq p hp =>
      ⟨p, _, c, rfl, SqL.of upd_same, hne, by omega, fun z hz' => (hz z hz').mono (tps_new hp), hc, fun p2 H3 s3 r3 => hq _ _ ((s2.trans (same_new hp _)).trans s3) r3⟩
    have nx : ∀ v2 H3, Same H' H3 → RowA K H3 c v2 → (∃ v x, [some (.ref a), some (.ref sc), some (.ref bd), some (.int (c : Int)), some v2, some (.ref t)] = [some (.ref a), some (.ref sc), some (.ref bd), some (.int (c : Int)), some v, x] ∧ RowA K H3 c v) ∧ Same H H3 := fun v2 H3 s3 r3 => ⟨⟨v2, _, rfl, r3⟩, s0.trans s3⟩
    cases hst with
    | @nm s2 w0 q1 ht hs _ =>
      have n1 : s2 ≠ "rename" := by rcases hs with rfl | rfl | rfl <;> decide +kernel
      have n2 : s2 ≠ "only" := by rcases hs with rfl | rfl | rfl <;> decide +kernel
      have n3 : s2 ≠ "put" := by rcases hs with rfl | rfl | rfl <;> decide +kernel
      have n4 : s2 ≠ "add" := by rcases hs with rfl | rfl | rfl <;> decide +kernel
      refine ⟨_, rfl, t, _, _, _, rfl, rfl, Same.tup s0 ht, rfl, rfl, _, rfl, if_f (eqF n1) ?_⟩
      refine ⟨_, rfl, t, _, _, _, rfl, rfl, Same.tup s0 ht, rfl, rfl, _, rfl, if_f (eqF n2) ?_⟩
      refine ⟨_, rfl, t, _, _, _, rfl, rfl, Same.tup s0 ht, rfl, rfl, _, rfl, if_f (eqF n3) ⟨_, rfl, t, _, _, _, rfl, rfl, Same.tup s0 ht, rfl, rfl, _, rfl, if_f (eqF n4) ?_⟩⟩
      refine ⟨_, rfl, _, rfl, 1, c, rfl, by decide, by decide, hc, fun p2 H2 s2 r2 => ⟨by show 2 ≤ sizeLine; decide, fun p3 hp3 => ?_⟩⟩
      refine ⟨p3, _, c, rfl, SqL.of upd_same, (fun z => nomatch z), by show 2 ≤ 10000; decide, fun z hz => ?_, hc, fun p4 H4 s4 r4 => nx _ _ ((s2.trans (same_new hp3 _)).trans s4) r4⟩
      rcases List.mem_cons.mp hz with rfl | hz
      · exact rv.mono (GR.Same.tps (s2.trans (same_new hp3 _)))
      · rw [List.mem_singleton.mp hz]
        exact r2.mono (tps_new hp3)
    | @only bb q1 ws ht hb2 hwl _ =>
      refine ⟨_, rfl, t, _, _, _, rfl, rfl, Same.tup s0 ht, rfl, rfl, _, rfl, if_f (eqF (by decide +kernel)) ?_⟩
      refine ⟨_, rfl, t, _, _, _, rfl, rfl, Same.tup s0 ht, rfl, rfl, _, rfl, if_t (eqT rfl) ?_⟩
      refine ⟨_, rfl, _, rfl, t, _, _, _, rfl, rfl, Same.tup s0 ht, rfl, bb, _, rfl, .inr (Same.tup s0 hb2), _, _, rfl, rfl, _, rfl, 1 + ((ws.map V.str).length : Int), c, rfl, by omega, by rw [List.length_map]; omega, hc, fun p2 H2 s2 r2 => ⟨by show 2 ≤ sizeLine; decide, fun p3 hp3 => ?_⟩⟩
      refine ⟨p3, _, c, rfl, SqL.of upd_same, (fun z => nomatch z), by show 2 ≤ 10000; decide, fun z hz => ?_, hc, fun p4 H4 s4 r4 => nx _ _ ((s2.trans (same_new hp3 _)).trans s4) r4⟩
      rcases List.mem_cons.mp hz with rfl | hz
      · exact rv.mono (GR.Same.tps (s2.trans (same_new hp3 _)))
      · rw [List.mem_singleton.mp hz]
        exact r2.mono (tps_new hp3)
    | @ren w0 u q1 ht _ _ =>
      refine ⟨_, rfl, t, _, _, _, rfl, rfl, Same.tup s0 ht, rfl, rfl, _, rfl, if_t (eqT rfl) ?_⟩
      refine ⟨_, rfl, _, rfl, _, rfl, 3, c, rfl, by decide, by decide, hc, fun p2 H2 s2 r2 => ⟨by show 3 ≤ sizeLine; decide, fun p3 hp3 => ?_⟩⟩
      refine ⟨p3, _, c, rfl, SqL.of upd_same, (fun z => nomatch z), by show 3 ≤ 10000; decide, fun z hz => ?_, hc, fun p4 H4 s4 r4 => nx _ _ ((s2.trans (same_new hp3 _)).trans s4) r4⟩
      rcases List.mem_cons.mp hz with rfl | hz
      · exact rv.mono (GR.Same.tps (s2.trans (same_new hp3 _)))
      rcases List.mem_cons.mp hz with rfl | hz
      · exact rv.mono (GR.Same.tps (s2.trans (same_new hp3 _)))
      · rw [List.mem_singleton.mp hz]
        exact r2.mono (tps_new hp3)
    | @put s2 w0 q1 e ht hs he _ =>
      have n1 : s2 ≠ "rename" := by rcases hs with rfl | rfl <;> decide +kernel
      have n2 : s2 ≠ "only" := by rcases hs with rfl | rfl <;> decide +kernel
      refine ⟨_, rfl, t, _, _, _, rfl, rfl, Same.tup s0 ht, rfl, rfl, _, rfl, if_f (eqF n1) ?_⟩
      refine ⟨_, rfl, t, _, _, _, rfl, rfl, Same.tup s0 ht, rfl, rfl, _, rfl, if_f (eqF n2) ?_⟩
      refine ⟨_, rfl, t, _, _, _, rfl, rfl, Same.tup s0 ht, rfl, rfl, _, rfl, ?_⟩
      have main : ∀ (D : Ends), (∀ v2 H3, Same H' H3 → RowA K H3 c v2 → D.nx [some (.ref a), some (.ref sc), some (.ref bd), some (.int (c : Int)), some v2, some (.ref t)] H3) → True := fun _ _ => trivial
      by_cases h3 : s2 = "put"
      · refine if_t (eqT h3) (iteT ?_)
        refine ⟨_, rfl, _, rfl, 1, c, rfl, by decide, by decide, hc, fun p2 H2 s2 r2 => ?_⟩
        refine ⟨_, rfl, t, _, _, _, rfl, rfl, Same.tup (s0.trans s2) ht, rfl, _, rfl, _, rfl, _, rfl, e, sc, bd, c, nm, cl, ks, bs, rfl, G.mono (GR.Same.tps (s0.trans s2)) (Nat.le_refl _) (fun _ _ z => z) (Nat.le_refl _) (fun _ z => z) he, hw.same (s0.trans s2), hl, hc, fun v5 H5 s5 r5 => ⟨by show 3 ≤ sizeLine; decide, fun p3 hp3 => ?_⟩⟩
        refine ⟨p3, _, c, rfl, SqL.of upd_same, (fun z => nomatch z), by show 3 ≤ 10000; decide, fun z hz => ?_, hc, fun p4 H4 s4 r4 => nx _ _ (((s2.trans s5).trans (same_new hp3 _)).trans s4) r4⟩
        rcases List.mem_cons.mp hz with rfl | hz
        · exact rv.mono (GR.Same.tps ((s2.trans s5).trans (same_new hp3 _)))
        rcases List.mem_cons.mp hz with rfl | hz
        · exact r2.mono (GR.Same.tps (s5.trans (same_new hp3 _)))
        · rw [List.mem_singleton.mp hz]
          exact r5.mono (tps_new hp3)
      · have h4 : s2 = "add" := hs.resolve_left h3
        refine if_f (eqF h3) ⟨_, rfl, t, _, _, _, rfl, rfl, Same.tup s0 ht, rfl, rfl, _, rfl, if_t (eqT h4) ?_⟩
        refine ⟨_, rfl, _, rfl, 1, c, rfl, by decide, by decide, hc, fun p2 H2 s2 r2 => ?_⟩
        refine ⟨_, rfl, t, _, _, _, rfl, rfl, Same.tup (s0.trans s2) ht, rfl, _, rfl, _, rfl, _, rfl, e, sc, bd, c, nm, cl, ks, bs, rfl, G.mono (GR.Same.tps (s0.trans s2)) (Nat.le_refl _) (fun _ _ z => z) (Nat.le_refl _) (fun _ z => z) he, hw.same (s0.trans s2), hl, hc, fun v5 H5 s5 r5 => ⟨by show 3 ≤ sizeLine; decide, fun p3 hp3 => ?_⟩⟩
        refine ⟨p3, _, c, rfl, SqL.of upd_same, (fun z => nomatch z), by show 3 ≤ 10000; decide, fun z hz => ?_, hc, fun p4 H4 s4 r4 => nx _ _ (((s2.trans s5).trans (same_new hp3 _)).trans s4) r4⟩
        rcases List.mem_cons.mp hz with rfl | hz
        · exact rv.mono (GR.Same.tps ((s2.trans s5).trans (same_new hp3 _)))
        rcases List.mem_cons.mp hz with rfl | hz
        · exact r2.mono (GR.Same.tps (s5.trans (same_new hp3 _)))
        · rw [List.mem_singleton.mp hz]
          exact r5.mono (tps_new hp3)
  · rintro σ' H' ⟨⟨v, x, rfl, rv⟩, s0⟩
    exact ⟨_, rfl, q _ _ s0 rv⟩
def spCheckW (K : PySem.W.Frag) (Wd : Str → Prop) (CL : Addr) (n : Nat) : Sp := fun vs H Q E => ∃ (a : Addr) (ds : List V) (info : Info), vs = [.ref a] ∧ SqT K H a ds ∧ ds.length ≤ 1000 ∧ info.length = ds.length ∧ WfD K Wd n H ds info ds.length ∧ (info.map (·.1)).Nodup ∧ n ≤ 1000 ∧
  (∀ H', Same H H' → Q .non H') ∧ ∀ (d : Addr) (z : Str) (H' : Hp), H' d = some (.xd [("name", .str z)]) → Same H H' → E (.ref CL) (some d) H'
abbrev scheck_weights : Stmt := top 18
abbrev ncheck_weights : List Str := ["definitions", "bodies", "name", "at", "parameters", "body", "count", "scope", "index", "parameter", "spot", "other", "row"]
theorem sccheck_weights : FnScope ncheck_weights ["definitions"] (defScope scheck_weights) := ⟨rfl, rfl, rfl, by decide +kernel, rfl, by decide +kernel, by decide +kernel⟩
-- slots of check_weights: 0 definitions, 1 bodies, 2 name, 3 at, 4 parameters, 5 body, 6 count, 7 scope, 8 index, 9 parameter, 10 spot, 11 other, 12 row
theorem ok_check_weights {CL : Addr} (F : Fun K "check_weights" "check_weights" scheck_weights f fd) (B : Blt mg) (HEAVIEST : Glb mg "HEAVIEST" (.int 80)) (xTooLarge : ExcR P w K mg "TooLarge" CL 1 mf1n)
    (c_weigh : Cal P w K mg base CX0 (2 * n + 2) "weigh" ["expr", "scope", "bodies", "count"] (spWeigh K Wd n)) : FnOk P w K mg base (L2.CX P w) (2 * n + 3) f fd ["definitions"] (spCheckW K Wd CL n) := by
  refine F.ownX (k := 2 * n + 2) sccheck_weights (fun vs H Q E h => ?_) (fun cdv A outer s H vs Q E hr h => ?_)
  · obtain ⟨a, ds, info, rfl, _⟩ := h
    rfl
  obtain ⟨a, ds, info, rfl, ha, hl, hil, hwf, hnd, hn, q, e⟩ := h
  refine ⟨_, (pss_cons (ps_set (i := 1) sccheck_weights.nd rfl (by first | exact Or.inl rfl | exact Or.inr rfl) pe_dnewK) (pss_one (ps_for (passes_of rfl) rfl (pi_tup (pv 0)) (pg_tup (by rfl) (pgs_cons (pg_name (i := 2) sccheck_weights.nd rfl (by first | exact Or.inl rfl | exact Or.inr rfl)) (pgs_cons (pg_name (i := 3) sccheck_weights.nd rfl (by first | exact Or.inl rfl | exact Or.inr rfl)) (pgs_cons (pg_name (i := 4) sccheck_weights.nd rfl (by first | exact Or.inl rfl | exact Or.inr rfl)) (pgs_cons (pg_name (i := 5) sccheck_weights.nd rfl (by first | exact Or.inl rfl | exact Or.inr rfl)) pgs_nil)))))
    (pss_cons (ps_set (i := 6) sccheck_weights.nd rfl (by first | exact Or.inl rfl | exact Or.inr rfl) (pe_callB call_len_seq (by rfl) B.len PySem.boot_len (pa_cons (pv 4) pa_nil))) (pss_cons (ps_set (i := 7) sccheck_weights.nd rfl (by first | exact Or.inl rfl | exact Or.inr rfl) pe_dnewK) (pss_cons (ps_for (passes_of rfl) rfl (pi_enumT (by rfl) B.enumerate (pa_cons (pv 4) pa_nil)) (pg_tup (by rfl) (pgs_cons (pg_name (i := 8) sccheck_weights.nd rfl (by first | exact Or.inl rfl | exact Or.inr rfl)) (pgs_cons (pg_tup (by rfl) (pgs_cons (pg_name (i := 9) sccheck_weights.nd rfl (by first | exact Or.inl rfl | exact Or.inr rfl)) (pgs_cons (pg_name (i := 10) sccheck_weights.nd rfl (by first | exact Or.inl rfl | exact Or.inr rfl)) pgs_nil))) pgs_nil)))
    (pss_one (ps_dput (hu_of hr) (pv 7) (pv 9) (pe_callTy call_tuple_of (by rfl) B.tuple (by decide +kernel) (pa_cons (pe_op op_cat (pe_lst (pa_cons pe_int pa_nil)) (pe_lc (own := [("other", 11)]) (g := (gName 11)) (tt := tYes) (by rfl) sccheck_weights.nd (pi_range1 (by rfl) B.range (pa_cons (pv 6) pa_nil)) (blkOk_by (own := [("other", 11)]) (N := ncheck_weights) (sc := (defScope scheck_weights)) (by decide +kernel)) (fun _ _ _ _ _ => (pg_name (i := 11) sccheck_weights.nd rfl (by first | exact Or.inl rfl | exact Or.inr rfl))) (fun _ _ _ _ _ => pts_nil) (fun _ _ _ _ _ => (pe_callTy call_int1 (by rfl) B.int (by decide +kernel) (pa_cons (pe_cmpR op_eq (pv 8) (pv 11) (nomark _)) pa_nil))))) pa_nil)) rfl))) (pss_cons (ps_set (i := 12) sccheck_weights.nd rfl (by first | exact Or.inl rfl | exact Or.inr rfl) (pe_c0 c_weigh hr (by omega) rfl (pa_cons (pv 5) (pa_cons (pv 7) (pa_cons (pv 1) (pa_cons (pv 6) pa_nil)))))) (pss_cons (ps_if (pt_cmpR op_gt (pe_callB (cr_sumT rfl) (by rfl) B.sum (by decide +kernel) (pa_cons (pv 12) pa_nil)) (pe_gc rfl HEAVIEST) (nomark _))
    (pss_one (ps_raise rfl (takes_of rfl rfl rfl rfl) (pmk_1n xTooLarge hr (pa_cons (pv 2) pa_nil) rfl))) pss_nil) (pss_one (ps_dput (hu_of hr) (pv 1) (pv 2) (pv 12) rfl)))))))))), ?_⟩
  intro bd hbd
  have name_once : ∀ {i j : Nat} {z : Str} {ws ws' : List Str}, info[i]? = some (z, ws) → info[j]? = some (z, ws') → i = j := fun {i j z ws ws'} h1 h2 => by
    have e1 : (info.map (·.1))[i]? = some z := by rw [List.getElem?_map, h1]; rfl
    have e2 : (info.map (·.1))[j]? = some z := by rw [List.getElem?_map, h2]; rfl
    obtain ⟨l1, g1⟩ := List.getElem?_eq_some_iff.mp e1
    obtain ⟨l2, g2⟩ := List.getElem?_eq_some_iff.mp e2
    exact (List.getElem_inj hnd).mp (g1.trans g2.symm)
  refine ⟨_, rfl, a, rfl, ⟨_, Same.tup (same_new hbd _) ha⟩, for_tup (xs := ds) (fun i σ' H' => (∃ x2 x3 x4 x5 x6 x7 x8 x9 x10 x11 x12, σ' = [some (.ref a), some (.ref bd), x2, x3, x4, x5, x6, x7, x8, x9, x10, x11, x12]) ∧ (∃ bs, H' bd = some (.dK bs) ∧ bs.length ≤ i ∧ ∀ j z ws, j < i → info[j]? = some (z, ws) → ∃ v, valV bs (Sum.inr z : Key) = some v ∧ RowA K H' ws.length v) ∧ Stp bd H H')
    ⟨⟨_, _, _, _, _, _, _, _, _, _, _, rfl⟩, ⟨[], upd_same, Nat.le_refl _, fun j z ws h => absurd h (Nat.not_lt_zero _)⟩, Stp.of (same_new hbd _)⟩ ?_ ?_ ?_⟩
  · rintro i σ' H' _ ⟨_, _, st⟩
    exact Same.tup (Stp.same st hbd) ha
  · rintro i d σ' H' hdi ⟨⟨x2, x3, x4, x5, x6, x7, x8, x9, x10, x11, x12, rfl⟩, ⟨bs, hbs, hbl, hrow⟩, st⟩
    have hi : i < ds.length := (List.getElem?_eq_some_iff.mp hdi).1
    have s0 := Stp.same st hbd
    obtain ⟨nm, ws, hin, hdw⟩ := hwf i d hi hdi
    obtain ⟨da, b, at_, ps, body, rfl, hda, hb, hpl, hwl, hps, hbody⟩ := hdw.mono (GR.Same.tps s0)
    refine ⟨da, _, rfl, hda, rfl, _, _, rfl, _, _, rfl, _, _, rfl, _, _, rfl, rfl, ?_⟩
    refine ⟨_, rfl, b, _, rfl, .inr hb, fun sc hsc => ?_⟩
    have ssc := same_new hsc (.dK [])
    refine ⟨_, rfl, b, ps, rfl, Same.tup ssc hb, fun j m σ'' H'' => m = ps.length - j ∧ j ≤ ps.length ∧ (∃ y8 y9 y10 y11 y12, σ'' = [some (.ref a), some (.ref bd), some (.str nm), some (.int at_), some (.ref b), some body, some (.int (ps.length : Int)), some (.ref sc), y8, y9, y10, y11, y12]) ∧ (∃ ks, H'' sc = some (.dK ks) ∧ ks.length ≤ j ∧ ∀ z ∈ ws.take j, ∃ v, valV ks (Sum.inr z : Key) = some v ∧ RowA K H'' ws.length v) ∧ Stp sc H' H'',
      ⟨_, rfl, Nat.zero_le _, ⟨_, _, _, _, _, rfl⟩, ⟨[], upd_same, Nat.le_refl _, fun z hz => by simp at hz⟩, Stp.of ssc⟩, ?_⟩
    rintro j m σ'' H'' ⟨rfl, hj, ⟨y8, y9, y10, y11, y12, rfl⟩, ⟨ks, hks, hkl, hkr⟩, st2⟩
    have s2 := Stp.same st2 hsc
    by_cases hlt : j < ps.length
    · obtain ⟨z, hz⟩ : ∃ z, ws[j]? = some z := ⟨_, List.getElem?_eq_getElem (by omega)⟩
      obtain ⟨t, sp, hp1, ht⟩ := hps j z hz
      refine .inr ⟨⟨ps, _, Same.tup s2 hb, hp1⟩, fun σ3 H3 => j + 1 ≤ ps.length ∧ (∃ y8 y9 y10 y11 y12, σ3 = [some (.ref a), some (.ref bd), some (.str nm), some (.int at_), some (.ref b), some body, some (.int (ps.length : Int)), some (.ref sc), y8, y9, y10, y11, y12]) ∧ (∃ ks, H3 sc = some (.dK ks) ∧ ks.length ≤ j + 1 ∧ ∀ z ∈ ws.take (j + 1), ∃ v, valV ks (Sum.inr z : Key) = some v ∧ RowA K H3 ws.length v) ∧ Stp sc H' H3, fun σ3 H3 h => ⟨_, ?_, rfl, h⟩, ?_⟩
      · omega
      rintro x H3 ⟨T', y, rfl, hT, rfl, hy⟩
      have hy := hy ps (Same.tup s2 hb)
      rw [hp1] at hy
      cases hy
      have sT := same_new hT (.tup [.int (j : Nat), .ref t])
      refine ⟨T', _, rfl, SqT.of upd_same, rfl, _, _, rfl, _, _, rfl, t, _, rfl, Same.tup (s2.trans sT) ht, rfl, _, _, rfl, _, _, rfl, rfl, rfl, ?_⟩
      refine ⟨(by show 1 ≤ sizeLine; decide), fun p2 hp2 => ?_⟩
      have sp2 := same_new hp2 (.lst [.int 0])
      refine ⟨_, rfl, (ps.length : Int), rfl, by omega, by omega, fun D hD => lc_range (lo := 0) (n := (ps.length : Int).toNat) (fun i H4 => ∃ acc : List Int, H4 D = some (.lst (acc.map V.int)) ∧ acc.length = i ∧ (∀ x ∈ acc, 0 ≤ x ∧ x ≤ 5000) ∧ Stp D (L2.upd (L2.upd H'' T' (.tup [.int (j : Nat), .ref t])) p2 (.lst [.int 0])) H4) ⟨[], upd_same, rfl, (fun x hx => nomatch hx), Stp.of (same_new hD _)⟩ ?_ ?_⟩
      · rintro k H4 hk ⟨acc, hac, hn2, hv, st4⟩
        refine ⟨rfl, _, rfl, _, rfl, rfl, .inr ⟨_, rfl, _, hac, sml1 (by rw [List.length_map]; omega), acc ++ [if decide (V.int (j : Int) = V.int (0 + (k : Int))) then 1 else 0], by rw [upd_same, List.map_append]; rfl, by rw [List.length_append, hn2]; rfl, fun x hx => ?_, fun u o nb eb => by rw [upd_ne nb]; exact st4 u o nb eb⟩⟩
        rcases List.mem_append.mp hx with hx | hx
        · exact hv x hx
        · rw [List.mem_singleton.mp hx]
          split <;> decide
      · rintro H4 ⟨acc, hac, hn2, hv, st4⟩
        have s4 := Stp.same st4 hD
        refine ⟨p2, D, _, _, rfl, rfl, s4 _ _ upd_same, hac, sml (by rw [List.length_map]; show 1 + acc.length ≤ 10000; omega), fun p3 hp3 => ?_⟩
        refine ⟨p3, _, rfl, .inl ⟨SqL.of upd_same, fun p4 hp4 => ?_⟩⟩
        have s34 := (((sT.trans sp2).trans s4).trans (same_new hp3 (.lst ([.int 0] ++ acc.map V.int)))).trans (same_new hp4 (.tup ([.int 0] ++ acc.map V.int)))
        have hks4 := s34 _ _ hks
        refine ⟨_, rfl, _, rfl, sc, _, rfl, DPut.k (k := Sum.inr z) hks4 (sml1 (by omega)), hlt, ⟨_, _, _, _, _, rfl⟩, ⟨_, upd_same, ?_, fun z' hz' => ?_⟩, fun u o nb eb => by rw [upd_ne nb]; exact s34 _ _ (st2 u o nb eb)⟩
        · unfold putK
          split
          · rw [List.length_map]; omega
          · rw [List.length_append, List.length_singleton]; omega
        · have tp := tps_upd (o := .dK (putK ks (Sum.inr z) (.ref p4))) (rd_dK hks4)
          rw [valV_put]
          by_cases hzz : (Sum.inr z' : Key) = Sum.inr z
          · rw [if_pos hzz]
            refine ⟨_, rfl, p4, 0 :: acc, rfl, tp.tup (SqT.of upd_same), by rw [List.length_cons]; omega, fun x hx => ?_⟩
            rcases List.mem_cons.mp hx with rfl | hx
            · exact ⟨by decide, by decide⟩
            · exact hv x hx
          · rw [if_neg hzz]
            rw [List.take_succ, hz] at hz'
            rcases List.mem_append.mp hz' with hz' | hz'
            · obtain ⟨v, g1, g2⟩ := hkr z' hz'
              exact ⟨v, g1, g2.mono ((GR.Same.tps s34).trans tp)⟩
            · exact absurd (congrArg Sum.inr (List.mem_singleton.mp hz')) hzz
    · refine .inl ⟨⟨ps, Same.tup s2 hb, by omega⟩, ?_⟩
      have hje : j = ws.length := by omega
      rw [hje, List.take_length] at hkr
      have hw : WEnv K H'' sc bd ps.length (fun z => z ∈ ws) (clI (info.take i)) ks bs := ⟨hks, s2 _ _ hbs, fun z hz => hpl ▸ hkr z hz, fun z k ⟨ws', h1, h2⟩ => by
        obtain ⟨l, hl', e'⟩ := List.mem_iff_getElem.mp h1
        have hli : l < i := by rw [List.length_take] at hl'; omega
        obtain ⟨v, g1, g2⟩ := hrow l z ws' hli (by
          have := List.getElem?_eq_getElem hl'
          rw [List.getElem?_take_of_lt hli, e'] at this
          exact this)
        exact ⟨v, g1, h2 ▸ g2.mono (GR.Same.tps s2)⟩⟩
      refine ⟨_, rfl, _, rfl, _, rfl, _, rfl, body, sc, bd, ps.length, _, _, ks, bs, rfl, G.mono (GR.Same.tps s2) (Nat.le_refl _) (fun _ _ z => z) (Nat.le_refl _) (fun _ z => z) hbody, hw, by omega, by omega, fun v3 H3 s3 r3 => ?_⟩
      obtain ⟨ra, ns, rfl, hra, hnl, hnb⟩ := id r3
      refine ⟨_, rfl, ra, ns, rfl, hra, _, _, rfl, rfl, _, rfl, ?_⟩
      refine ite2 (fun _ => ?_) fun _ => ?_
      · refine ⟨_, rfl, rfl, fun dd hdd => ?_⟩
        exact e dd nm _ upd_same (((s0.trans s2).trans s3).trans (same_new hdd _))
      · have hb3 := s3 _ _ (s2 _ _ hbs)
        refine ⟨_, rfl, _, rfl, _, rfl, bd, _, rfl, DPut.k (k := Sum.inr nm) hb3 (sml1 (by omega)), ⟨_, _, _, _, _, _, _, _, _, _, _, rfl⟩, ⟨_, upd_same, ?_, fun l z ws' hl' hzl => ?_⟩, fun u o nb eb => by rw [upd_ne nb]; exact s3 _ _ (s2 _ _ (st u o nb eb))⟩
        · unfold putK
          split
          · rw [List.length_map]; omega
          · rw [List.length_append, List.length_singleton]; omega
        · have tp := tps_upd (o := .dK (putK bs (Sum.inr nm) (.ref ra))) (rd_dK hb3)
          rw [valV_put]
          rcases Nat.lt_succ_iff_lt_or_eq.mp hl' with w | w
          · rw [if_neg (fun hzz : (Sum.inr z : Key) = Sum.inr nm => by
              cases hzz
              exact absurd (name_once hzl hin) (by omega))]
            obtain ⟨v, g1, g2⟩ := hrow l z ws' w hzl
            exact ⟨v, g1, g2.mono ((GR.Same.tps (s2.trans s3)).trans tp)⟩
          · subst w
            rw [hin] at hzl
            cases hzl
            rw [if_pos rfl]
            exact ⟨_, rfl, hpl ▸ r3.mono tp⟩
  · rintro σ' H' ⟨_, _, st⟩
    exact q H' (Stp.same st hbd)
end
end GR
set_option Elab.async false
set_option linter.all false
set_option maxRecDepth 100000
set_option maxHeartbeats 4000000
namespace GR
open PySem PySem.Spec PyProof.Rows L2
section
variable {P : Program} {w : World} {K : PySem.W.Frag} {Wd : Str → Prop} {mg : Str → Option Value} {base : Heap} {CC CB aR aS : Addr} {T : Toks} {f : Addr} {fd : FuncData} {n : Nat}
def spStepNames (K : PySem.W.Frag) (Wd : Str → Prop) : Sp := fun vs H Q _ => ∃ (t : Addr) (R : V → Prop), vs = [.ref t] ∧ StepS K Wd H 1000 R t ∧ ∀ (p : Addr) (ws : List Str) (H' : Hp), Same H H' → SqT K H' p (ws.map V.str) → ws.length ≤ 1000 → (∀ z ∈ ws, Wd z) → Q (.ref p) H'
abbrev sstep_names : Stmt := top 17
abbrev nstep_names : List Str := ["step"]
theorem scstep_names : FnScope nstep_names ["step"] (defScope sstep_names) := ⟨rfl, rfl, rfl, by decide +kernel, rfl, by decide +kernel, by decide +kernel⟩
-- slots of step_names: 0 step
theorem ok_step_names (F : Fun K "step_names" "step_names" sstep_names f fd) : FnOk P w K mg base CX0 1 f fd ["step"] (spStepNames K Wd) := by
  refine F.own scstep_names (fun vs H Q E h => ?_) (fun cdv A outer s H vs Q E hr h => ?_)
  · obtain ⟨t, R, rfl, _⟩ := h
    rfl
  obtain ⟨t, R, rfl, hst, q⟩ := h
  refine ⟨_, (pss_cons (ps_if (pt_cmpR op_eq (pe_ix ix_tup (pv 0) pe_int (fun _ _ => rfl)) pe_str (nomark _))
    (pss_one (ps_ret (pe_ix ix_tup (pv 0) pe_int (fun _ _ => rfl)))) pss_nil) (pss_cons (ps_if (pt_cmpR op_eq (pe_ix ix_tup (pv 0) pe_int (fun _ _ => rfl)) pe_str (nomark _))
    (pss_one (ps_ret (pe_tup (pa_cons (pe_ix ix_tup (pv 0) pe_int (fun _ _ => rfl)) (pa_cons (pe_ix ix_tup (pv 0) pe_int (fun _ _ => rfl)) pa_nil))))) pss_nil) (pss_one (ps_ret (pe_tup (pa_cons (pe_ix ix_tup (pv 0) pe_int (fun _ _ => rfl)) pa_nil)))))), ?_⟩
  cases hst with
  | @nm s2 w0 q1 ht hs hw =>
    have n1 : s2 ≠ "rename" := by rcases hs with rfl | rfl | rfl <;> decide +kernel
    have n2 : s2 ≠ "only" := by rcases hs with rfl | rfl | rfl <;> decide +kernel
    refine ⟨_, rfl, t, _, _, _, rfl, rfl, ht, rfl, rfl, _, rfl, if_f (eqF n2) ?_⟩
    refine ⟨_, rfl, t, _, _, _, rfl, rfl, ht, rfl, rfl, _, rfl, if_f (eqF n1) ?_⟩
    refine ⟨_, rfl, t, _, _, _, rfl, rfl, ht, rfl, (by show 1 ≤ sizeLine; decide), fun p hp => ?_⟩
    exact q p [w0] _ (same_new hp _) (SqT.of upd_same) (by show 1 ≤ 1000; decide) fun z hz => by rw [List.mem_singleton.mp hz]; exact hw
  | @only bb q1 ws ht hb2 hwl hw =>
    refine ⟨_, rfl, t, _, _, _, rfl, rfl, ht, rfl, rfl, _, rfl, if_t (eqT rfl) ?_⟩
    exact ⟨_, rfl, t, _, _, _, rfl, rfl, ht, rfl, q bb ws _ (Same.refl H) hb2 hwl hw⟩
  | @ren w0 u q1 ht hw hu =>
    refine ⟨_, rfl, t, _, _, _, rfl, rfl, ht, rfl, rfl, _, rfl, if_f (eqF (by decide +kernel)) ?_⟩
    refine ⟨_, rfl, t, _, _, _, rfl, rfl, ht, rfl, rfl, _, rfl, if_t (eqT rfl) ?_⟩
    refine ⟨_, rfl, t, _, _, _, rfl, rfl, ht, rfl, _, rfl, t, _, _, _, rfl, rfl, ht, rfl, (by show 2 ≤ sizeLine; decide), fun p hp => ?_⟩
    refine q p [w0, u] _ (same_new hp _) (SqT.of upd_same) (by show 2 ≤ 1000; decide) fun z hz => ?_
    rcases List.mem_cons.mp hz with rfl | hz
    · exact hw
    · rw [List.mem_singleton.mp hz]
      exact hu
  | @put s2 w0 q1 e ht hs he hw =>
    have n1 : s2 ≠ "rename" := by rcases hs with rfl | rfl <;> decide +kernel
    have n2 : s2 ≠ "only" := by rcases hs with rfl | rfl <;> decide +kernel
    refine ⟨_, rfl, t, _, _, _, rfl, rfl, ht, rfl, rfl, _, rfl, if_f (eqF n2) ?_⟩
    refine ⟨_, rfl, t, _, _, _, rfl, rfl, ht, rfl, rfl, _, rfl, if_f (eqF n1) ?_⟩
    refine ⟨_, rfl, t, _, _, _, rfl, rfl, ht, rfl, (by show 1 ≤ sizeLine; decide), fun p hp => ?_⟩
    exact q p [w0] _ (same_new hp _) (SqT.of upd_same) (by show 1 ≤ 1000; decide) fun z hz => by rw [List.mem_singleton.mp hz]; exact hw
/-- a dict at d whose keys are texts of S -/
def DS (S : List Str) (d : Addr) (H : Hp) : Prop := ∃ kvs : List (Key × V), H d = some (.dK kvs) ∧ (∀ k ∈ kvs.map (·.1), ∃ z, z ∈ S ∧ k = Sum.inr z) ∧ (kvs.map (·.1)).Nodup
theorem nodup_len {α : Type} [DecidableEq α] : ∀ {l s : List α}, l.Nodup → (∀ x ∈ l, x ∈ s) → l.length ≤ s.length
  | [], _, _, _ => Nat.zero_le _
  | a :: r, s, hn, h => by
    obtain ⟨h1, h2⟩ := List.nodup_cons.mp hn
    have ha := h a (List.mem_cons_self ..)
    have ih := nodup_len (l := r) (s := s.erase a) h2 fun x hx => by
      have hxa : x ≠ a := fun e => h1 (e ▸ hx)
      exact (List.mem_erase_of_ne hxa).mpr (h x (List.mem_cons_of_mem _ hx))
    rw [List.length_erase_of_mem ha] at ih
    have := List.length_pos_of_mem ha
    rw [List.length_cons]
    omega
theorem DS.len {S : List Str} {d : Addr} {H : Hp} (h : DS S d H) : ∃ kvs : List (Key × V), H d = some (.dK kvs) ∧ kvs.length ≤ S.length ∧ (∀ k ∈ kvs.map (·.1), ∃ z, z ∈ S ∧ k = Sum.inr z) ∧ (kvs.map (·.1)).Nodup := by
  obtain ⟨kvs, h1, h2, h3⟩ := h
  refine ⟨kvs, h1, ?_, h2, h3⟩
  have := nodup_len (s := S.map (Sum.inr (α := Int))) h3 fun k hk => by
    obtain ⟨z, hz, rfl⟩ := h2 k hk
    exact List.mem_map.mpr ⟨z, hz, rfl⟩
  rw [List.length_map, List.length_map] at this
  exact this
theorem DS.put {S : List Str} {d : Addr} {H : Hp} {z : Str} {v : V} (h : DS S d H) (hz : z ∈ S) (hS : S.length ≤ 1000) : ∃ kvs : List (Key × V), H d = some (.dK kvs) ∧ kvs.length < sizeLine ∧ DS S d (L2.upd H d (.dK (putK kvs (Sum.inr z) v))) := by
  obtain ⟨kvs, h1, h0, h2, h3⟩ := h.len
  refine ⟨kvs, h1, sml1 (by omega), _, upd_same, fun k hk => ?_, ?_⟩
  · cases e : valV kvs (Sum.inr z : Key) with
    | none =>
      rw [putK_new v e, List.map_append] at hk
      rcases List.mem_append.mp hk with hk | hk
      · exact h2 k hk
      · exact ⟨z, hz, List.mem_singleton.mp hk⟩
    | some y =>
      have hany : (kvs.any fun kv => decide (kv.1 = (Sum.inr z : Key))) = true := by rw [valV_any, e]; rfl
      unfold putK at hk
      rw [if_pos hany, List.map_map] at hk
      obtain ⟨kv, hkv, rfl⟩ := List.mem_map.mp hk
      refine h2 _ (List.mem_map.mpr ⟨kv, hkv, ?_⟩)
      show kv.1 = (if kv.1 = (Sum.inr z : Key) then (kv.1, v) else kv).1
      split <;> rfl
  · cases e : valV kvs (Sum.inr z : Key) with
    | none => exact nd_putK v h3 e
    | some y =>
      have hany : (kvs.any fun kv => decide (kv.1 = (Sum.inr z : Key))) = true := by rw [valV_any, e]; rfl
      unfold putK
      rw [if_pos hany, List.map_map]
      have : (kvs.map ((fun x => x.1) ∘ fun kv => if kv.1 = (Sum.inr z : Key) then (kv.1, v) else kv)) = kvs.map (·.1) := List.map_congr_left fun kv _ => by
        show (if kv.1 = (Sum.inr z : Key) then (kv.1, v) else kv).1 = kv.1
        split <;> rfl
      rw [this]
      exact h3
theorem DS.rd {S : List Str} {d : Addr} {H : Hp} (h : DS S d H) : ∀ xs, ¬ Rd H d (.tup xs) := by
  obtain ⟨kvs, h1, _⟩ := h
  exact rd_dK h1
theorem DS.same {S : List Str} {d : Addr} {H H' : Hp} (h : DS S d H) (s : Same H H') : DS S d H' := by
  obtain ⟨kvs, h1, h2⟩ := h
  exact ⟨kvs, s _ _ h1, h2⟩
def spGather (K : PySem.W.Frag) (Wd : Str → Prop) (S : List Str) (n : Nat) : Sp := fun vs H Q _ => ∃ (v : V) (d : Addr), vs = [v, .ref d] ∧ IsE K Wd n 1000 H v ∧ DS S d H ∧ ∀ H', Stp d H H' → DS S d H' → Q .non H'
abbrev sgather_names : Stmt := top 16
abbrev ngather_names : List Str := ["expr", "found", "kind", "value", "name", "at", "test", "step", "inner"]
theorem scgather_names : FnScope ngather_names ["expr", "found"] (defScope sgather_names) := ⟨rfl, rfl, rfl, by decide +kernel, rfl, by decide +kernel, by decide +kernel⟩
-- slots of gather_names: 0 expr, 1 found, 2 kind, 3 value, 4 name, 5 at, 6 test, 7 step, 8 inner
theorem ok_gather_names {S : List Str} (hW : ∀ z, Wd z → z ∈ S) (hS : S.length ≤ 1000) (F : Fun K "gather_names" "gather_names" sgather_names f fd) (c_step_names : Cal P w K mg base CX0 1 "step_names" ["step"] (spStepNames K Wd))
    (c_inner_exprs : Cal P w K mg base CX0 1 "inner_exprs" ["expr"] (spInner K Wd 1000 (IsE K Wd n 1000))) (c_gather_names : Cal P w K mg base CX0 (n + 2) "gather_names" ["expr", "found"] (spGather K Wd S n)) :
    FnOk P w K mg base CX0 (n + 3) f fd ["expr", "found"] (spGather K Wd S (n + 1)) := by
  refine F.own (k := n + 2) scgather_names (fun vs H Q E h => ?_) (fun cdv A outer s H vs Q E hr h => ?_)
  · obtain ⟨v, d, rfl, _⟩ := h
    rfl
  obtain ⟨v, d, rfl, hv, hd, q⟩ := h
  refine ⟨_, (pss_cons (ps_set (i := 2) scgather_names.nd rfl (by first | exact Or.inl rfl | exact Or.inr rfl) (pe_ix ix_tup (pv 0) pe_int (fun _ _ => rfl))) (pss_cons (ps_if (pt_cmpR op_eq (pv 2) pe_str (nomark _))
    (pss_one (ps_for (PassesOwn.never) rfl (pi_tup (pe_ix ix_tup (pv 0) pe_int (fun _ _ => rfl))) (pg_name (i := 3) scgather_names.nd rfl (by first | exact Or.inl rfl | exact Or.inr rfl))
    (pss_one (ps_expr (pe_c0 c_gather_names hr (by omega) rfl (pa_cons (pv 3) (pa_cons (pv 1) pa_nil))))))) pss_nil) (pss_cons (ps_if (pt_cmpR op_eq (pv 2) pe_str (nomark _))
    (pss_one (ps_for (PassesOwn.never) rfl (pi_tup (pe_ix ix_tup (pv 0) pe_int (fun _ _ => rfl))) (pg_tup (by rfl) (pgs_cons (pg_name (i := 4) scgather_names.nd rfl (by first | exact Or.inl rfl | exact Or.inr rfl)) (pgs_cons (pg_name (i := 3) scgather_names.nd rfl (by first | exact Or.inl rfl | exact Or.inr rfl)) (pgs_cons (pg_name (i := 5) scgather_names.nd rfl (by first | exact Or.inl rfl | exact Or.inr rfl)) pgs_nil))))
    (pss_cons (ps_dput (hu_of hr) (pv 1) (pv 4) pe_bl rfl) (pss_one (ps_expr (pe_c0 c_gather_names hr (by omega) rfl (pa_cons (pv 3) (pa_cons (pv 1) pa_nil)))))))) pss_nil) (pss_cons (ps_if (pt_cmpR op_eq (pv 2) pe_str (nomark _))
    (pss_cons (ps_expr (pe_c0 c_gather_names hr (by omega) rfl (pa_cons (pe_ix ix_tup (pv 0) pe_int (fun _ _ => rfl)) (pa_cons (pv 1) pa_nil)))) (pss_one (ps_expr (pe_c0 c_gather_names hr (by omega) rfl (pa_cons (pe_ix ix_tup (pv 0) pe_int (fun _ _ => rfl)) (pa_cons (pv 1) pa_nil)))))) pss_nil) (pss_cons (ps_if (pt_cmpR op_eq (pv 2) pe_str (nomark _))
    (pss_one (ps_for (PassesOwn.never) rfl (pi_tup (pe_ix ix_tup (pv 0) pe_int (fun _ _ => rfl))) (pg_name (i := 6) scgather_names.nd rfl (by first | exact Or.inl rfl | exact Or.inr rfl))
    (pss_one (ps_if (pt_cmpR op_notN (pe_ix ix_tup (pv 6) pe_int (fun _ _ => rfl)) pe_non (nomark _))
    (pss_one (ps_dput (hu_of hr) (pv 1) (pe_ix ix_tup (pv 6) pe_int (fun _ _ => rfl)) pe_bl rfl)) pss_nil)))) pss_nil) (pss_cons (ps_if (pt_cmpR op_eq (pv 2) pe_str (nomark _))
    (pss_one (ps_for (PassesOwn.never) rfl (pi_tup (pe_ix ix_tup (pv 0) pe_int (fun _ _ => rfl))) (pg_name (i := 7) scgather_names.nd rfl (by first | exact Or.inl rfl | exact Or.inr rfl))
    (pss_one (ps_for (PassesOwn.never) rfl (pi_tup (pe_c0 c_step_names hr (by omega) rfl (pa_cons (pv 7) pa_nil))) (pg_name (i := 4) scgather_names.nd rfl (by first | exact Or.inl rfl | exact Or.inr rfl))
    (pss_one (ps_dput (hu_of hr) (pv 1) (pv 4) pe_bl rfl)))))) pss_nil) (pss_one (ps_if (pt_cmpR op_in_seq (pv 2) (pe_tup (pa_strs _ (by rfl))) rfl)
    (pss_one (ps_for (PassesOwn.never) rfl (pi_list (pe_c0 c_inner_exprs hr (by omega) rfl (pa_cons (pv 0) pa_nil))) (pg_name (i := 8) scgather_names.nd rfl (by first | exact Or.inl rfl | exact Or.inr rfl))
    (pss_one (ps_expr (pe_c0 c_gather_names hr (by omega) rfl (pa_cons (pv 8) (pa_cons (pv 1) pa_nil))))))) pss_nil)))))))), ?_⟩
  have gm : ∀ {H1 : Hp} {x : V}, Stp d H H1 → IsE K Wd n 1000 H x → IsE K Wd n 1000 H1 x := fun st h => h.mono (st.tps hd.rd) (Nat.le_refl _) (Nat.le_refl _)
  cases hv with
  | @number a p i ha =>
    refine ⟨_, rfl, a, _, _, _, rfl, rfl, ha, rfl, ?_⟩
    refine ⟨_, rfl, rfl, _, rfl, if_f (eqF (by decide +kernel)) ?_⟩
    refine ⟨_, rfl, rfl, _, rfl, if_f (eqF (by decide +kernel)) ?_⟩
    refine ⟨_, rfl, rfl, _, rfl, if_f (eqF (by decide +kernel)) ?_⟩
    refine ⟨_, rfl, rfl, _, rfl, if_f (eqF (by decide +kernel)) ?_⟩
    refine ⟨_, rfl, rfl, _, rfl, if_f (eqF (by decide +kernel)) ?_⟩
    refine ⟨_, rfl, (by show 3 ≤ sizeLine; decide), fun p9 hp9 => ⟨p9, _, rfl, .inr (SqT.of upd_same), rfl, flatStr ["if", "chain", "part"], _, rfl, if_f (show inV (V.str "number") (List.map V.str (["if", "chain", "part"] : List Str)) = false by rw [inStr]; decide +kernel) ?_⟩⟩
    exact q _ (Stp.of (same_new hp9 _)) (hd.same (same_new hp9 _))
  | @name a p z ha _ =>
    refine ⟨_, rfl, a, _, _, _, rfl, rfl, ha, rfl, ?_⟩
    refine ⟨_, rfl, rfl, _, rfl, if_f (eqF (by decide +kernel)) ?_⟩
    refine ⟨_, rfl, rfl, _, rfl, if_f (eqF (by decide +kernel)) ?_⟩
    refine ⟨_, rfl, rfl, _, rfl, if_f (eqF (by decide +kernel)) ?_⟩
    refine ⟨_, rfl, rfl, _, rfl, if_f (eqF (by decide +kernel)) ?_⟩
    refine ⟨_, rfl, rfl, _, rfl, if_f (eqF (by decide +kernel)) ?_⟩
    refine ⟨_, rfl, (by show 3 ≤ sizeLine; decide), fun p9 hp9 => ⟨p9, _, rfl, .inr (SqT.of upd_same), rfl, flatStr ["if", "chain", "part"], _, rfl, if_f (show inV (V.str "name") (List.map V.str (["if", "chain", "part"] : List Str)) = false by rw [inStr]; decide +kernel) ?_⟩⟩
    exact q _ (Stp.of (same_new hp9 _)) (hd.same (same_new hp9 _))
  | @call a b p z es ha hb hel _ hes =>
    refine ⟨_, rfl, a, _, _, _, rfl, rfl, ha, rfl, ?_⟩
    refine ⟨_, rfl, rfl, _, rfl, if_t (eqT rfl) ?_⟩
    refine ⟨_, rfl, a, _, _, _, rfl, rfl, ha, rfl, b, rfl, ⟨_, hb⟩, for_tup (xs := es) (fun j σ' H' => (∃ x, σ' = [some (.ref a), some (.ref d), some (.str "call"), x, none, none, none, none, none]) ∧ Stp d H H' ∧ DS S d H') ⟨⟨none, rfl⟩, Stp.refl, hd⟩ ?_ ?_ ?_⟩
    · rintro j σ' H' _ ⟨_, st, _⟩
      exact (st.tps hd.rd).tup hb
    · rintro j y σ' H' hy ⟨⟨x, rfl⟩, st, hd1⟩
      refine ⟨_, rfl, _, rfl, y, d, rfl, gm st (hes y (List.mem_of_getElem? hy)), hd1, fun H2 s2 hd2 => ⟨⟨_, rfl⟩, st.trans s2, hd2⟩⟩
    · rintro σ' H1 ⟨⟨x, rfl⟩, st, hd1⟩
      refine ⟨_, rfl, rfl, _, rfl, if_f (eqF (by decide +kernel)) ?_⟩
      refine ⟨_, rfl, rfl, _, rfl, if_f (eqF (by decide +kernel)) ?_⟩
      refine ⟨_, rfl, rfl, _, rfl, if_f (eqF (by decide +kernel)) ?_⟩
      refine ⟨_, rfl, rfl, _, rfl, if_f (eqF (by decide +kernel)) ?_⟩
      refine ⟨_, rfl, (by show 3 ≤ sizeLine; decide), fun p9 hp9 => ⟨p9, _, rfl, .inr (SqT.of upd_same), rfl, flatStr ["if", "chain", "part"], _, rfl, if_f (show inV (V.str "call") (List.map V.str (["if", "chain", "part"] : List Str)) = false by rw [inStr]; decide +kernel) ?_⟩⟩
      exact q _ (st.trans (Stp.of (same_new hp9 _))) (hd1.same (same_new hp9 _))
  | @fields a b p rs ha hb hrl hrs =>
    refine ⟨_, rfl, a, _, _, _, rfl, rfl, ha, rfl, ?_⟩
    refine ⟨_, rfl, rfl, _, rfl, if_f (eqF (by decide +kernel)) ?_⟩
    refine ⟨_, rfl, rfl, _, rfl, if_t (eqT rfl) ?_⟩
    refine ⟨_, rfl, a, _, _, _, rfl, rfl, ha, rfl, b, rfl, ⟨_, hb⟩, for_tup (xs := rs) (fun j σ' H' => (∃ x y z, σ' = [some (.ref a), some (.ref d), some (.str "fields"), x, y, z, none, none, none]) ∧ Stp d H H' ∧ DS S d H') ⟨⟨none, none, none, rfl⟩, Stp.refl, hd⟩ ?_ ?_ ?_⟩
    · rintro j σ' H' _ ⟨_, st, _⟩
      exact (st.tps hd.rd).tup hb
    · rintro j y σ' H' hy ⟨⟨x1, x2, x3, rfl⟩, st, hd1⟩
      obtain ⟨t, w0, c, q1, rfl, ht, hc, hwd⟩ := hrs y (List.mem_of_getElem? hy)
      obtain ⟨kvs, hk, hkl, hd2⟩ := hd1.put (v := .bl true) (hW _ hwd) hS
      refine ⟨t, _, rfl, (st.tps hd.rd).tup ht, rfl, _, _, rfl, _, _, rfl, _, _, rfl, rfl, ?_⟩
      refine ⟨_, rfl, _, rfl, d, _, rfl, DPut.k (k := Sum.inr w0) hk hkl, ?_⟩
      have st2 : Stp d H (L2.upd H' d (.dK (putK kvs (Sum.inr w0) (.bl true)))) := fun u o nu eu => by rw [upd_ne nu]; exact st u o nu eu
      refine ⟨_, rfl, _, rfl, c, d, rfl, gm st2 hc, hd2, fun H2 s2 hd3 => ⟨⟨_, _, _, rfl⟩, st2.trans s2, hd3⟩⟩
    · rintro σ' H1 ⟨⟨x1, x2, x3, rfl⟩, st, hd1⟩
      refine ⟨_, rfl, rfl, _, rfl, if_f (eqF (by decide +kernel)) ?_⟩
      refine ⟨_, rfl, rfl, _, rfl, if_f (eqF (by decide +kernel)) ?_⟩
      refine ⟨_, rfl, rfl, _, rfl, if_f (eqF (by decide +kernel)) ?_⟩
      refine ⟨_, rfl, (by show 3 ≤ sizeLine; decide), fun p9 hp9 => ⟨p9, _, rfl, .inr (SqT.of upd_same), rfl, flatStr ["if", "chain", "part"], _, rfl, if_f (show inV (V.str "fields") (List.map V.str (["if", "chain", "part"] : List Str)) = false by rw [inStr]; decide +kernel) ?_⟩⟩
      exact q _ (st.trans (Stp.of (same_new hp9 _))) (hd1.same (same_new hp9 _))
  | @lets a p z e1 e2 ha h1 h2 =>
    refine ⟨_, rfl, a, _, _, _, rfl, rfl, ha, rfl, ?_⟩
    refine ⟨_, rfl, rfl, _, rfl, if_f (eqF (by decide +kernel)) ?_⟩
    refine ⟨_, rfl, rfl, _, rfl, if_f (eqF (by decide +kernel)) ?_⟩
    refine ⟨_, rfl, rfl, _, rfl, if_t (eqT rfl) ?_⟩
    refine ⟨_, rfl, a, _, _, _, rfl, rfl, ha, rfl, _, rfl, e1, d, rfl, h1, hd, fun H1 s1 hd1 => ?_⟩
    have h2' : IsE K Wd n 1000 H e2 := G.mono Tps.refl (Nat.le_refl _) (fun _ _ z => z) (Nat.le_refl _) (fun _ _ => True.intro) h2
    refine ⟨_, rfl, a, _, _, _, rfl, rfl, (s1.tps hd.rd).tup ha, rfl, _, rfl, e2, d, rfl, gm s1 h2', hd1, fun H2 s2 hd2 => ?_⟩
    refine ⟨_, rfl, rfl, _, rfl, if_f (eqF (by decide +kernel)) ?_⟩
    refine ⟨_, rfl, rfl, _, rfl, if_f (eqF (by decide +kernel)) ?_⟩
    refine ⟨_, rfl, (by show 3 ≤ sizeLine; decide), fun p9 hp9 => ⟨p9, _, rfl, .inr (SqT.of upd_same), rfl, flatStr ["if", "chain", "part"], _, rfl, if_f (show inV (V.str "let") (List.map V.str (["if", "chain", "part"] : List Str)) = false by rw [inStr]; decide +kernel) ?_⟩⟩
    exact q _ ((s1.trans s2).trans (Stp.of (same_new hp9 _))) (hd2.same (same_new hp9 _))
  | @chain a b g rs ha hg hb hrl hrs =>
    refine ⟨_, rfl, a, _, _, _, rfl, rfl, ha, rfl, ?_⟩
    refine ⟨_, rfl, rfl, _, rfl, if_f (eqF (by decide +kernel)) ?_⟩
    refine ⟨_, rfl, rfl, _, rfl, if_f (eqF (by decide +kernel)) ?_⟩
    refine ⟨_, rfl, rfl, _, rfl, if_f (eqF (by decide +kernel)) ?_⟩
    refine ⟨_, rfl, rfl, _, rfl, if_f (eqF (by decide +kernel)) ?_⟩
    refine ⟨_, rfl, rfl, _, rfl, if_f (eqF (by decide +kernel)) ?_⟩
    have hin : InnS K Wd 1000 H (IsE K Wd n 1000 H) (.ref a) := ⟨a, b, rs, rfl, hb, hrl, .inr (.inl ⟨g, ha, hg, hrs⟩)⟩
    have st : Stp d H H := Stp.refl
    have hd1 := hd
    refine ⟨_, rfl, (by show 3 ≤ sizeLine; decide), fun p9 hp9 => ⟨p9, _, rfl, .inr (SqT.of upd_same), rfl, flatStr ["if", "chain", "part"], _, rfl, if_t (show inV (V.str "chain") (List.map V.str (["if", "chain", "part"] : List Str)) = true by rw [inStr]; decide +kernel) ?_⟩⟩
    have s9 := same_new hp9 (.tup [.str "if", .str "chain", .str "part"])
    have st9 := st.trans (Stp.of s9)
    refine ⟨_, rfl, .ref a, rfl, hin.mono (st9.tps hd.rd) (fun _ w => gm st9 w), by decide, fun p2 H2 es s2 hp2 hlen hes hcov => ?_⟩
    have st2 := st9.trans (Stp.of s2)
    have hd2 := (hd1.same s9).same s2
    have ne2 : p2 ≠ d := fun z => by
      obtain ⟨kvs, h1, _⟩ := hd2
      rw [z, h1] at hp2
      cases hp2
    refine ⟨p2, rfl, ⟨_, SqL.of hp2⟩, for_list (xs := es) (fun j σ' H' => (∃ x1 x2 x3 x4 x5 x6, σ' = [some (.ref a), some (.ref d), some (.str "chain"), x1, x2, x3, x4, x5, x6]) ∧ Stp d H2 H' ∧ DS S d H') ⟨⟨_, _, _, _, _, _, rfl⟩, Stp.refl, hd2⟩ ?_ ?_ ?_⟩
    · rintro j σ' H' _ ⟨_, st3, _⟩
      exact SqL.of (st3 _ _ ne2 hp2)
    · rintro j y σ' H' hy ⟨⟨x1, x2, x3, x4, x5, x6, rfl⟩, st3, hd3⟩
      refine ⟨_, rfl, _, rfl, y, d, rfl, (hes y (List.mem_of_getElem? hy)).mono (st3.tps hd2.rd) (Nat.le_refl _) (Nat.le_refl _), hd3, fun H4 s4 hd4 => ⟨⟨_, _, _, _, _, _, rfl⟩, st3.trans s4, hd4⟩⟩
    · rintro σ' H' ⟨_, st3, hd3⟩
      exact q _ (st2.trans st3) hd3
  | @ifs a b p rs e1 e2 ha hb hrl hrs h1 h2 =>
    refine ⟨_, rfl, a, _, _, _, rfl, rfl, ha, rfl, ?_⟩
    have hin : InnS K Wd 1000 H (IsE K Wd n 1000 H) (.ref a) := ⟨a, b, rs, rfl, hb, hrl, .inl ⟨p, e1, e2, ha, hrs, h1, h2⟩⟩
    refine ⟨_, rfl, rfl, _, rfl, if_f (eqF (by decide +kernel)) ?_⟩
    refine ⟨_, rfl, rfl, _, rfl, if_f (eqF (by decide +kernel)) ?_⟩
    refine ⟨_, rfl, rfl, _, rfl, if_f (eqF (by decide +kernel)) ?_⟩
    refine ⟨_, rfl, rfl, _, rfl, if_t (eqT rfl) ?_⟩
    refine ⟨_, rfl, a, _, _, _, rfl, rfl, ha, rfl, b, rfl, ⟨_, hb⟩, for_tup (xs := rs) (fun j σ' H' => (∃ x, σ' = [some (.ref a), some (.ref d), some (.str "if"), none, none, none, x, none, none]) ∧ Stp d H H' ∧ DS S d H') ⟨⟨none, rfl⟩, Stp.refl, hd⟩ ?_ ?_ ?_⟩
    · rintro j σ' H' _ ⟨_, st, _⟩
      exact (st.tps hd.rd).tup hb
    · rintro j y σ' H' hy ⟨⟨x, rfl⟩, st, hd1⟩
      obtain ⟨t, g, c, q1, o, rfl, ht, ho, hc⟩ := hrs y (List.mem_of_getElem? hy)
      have ht1 := (st.tps hd.rd).tup ht
      refine ⟨_, rfl, t, _, _, _, rfl, rfl, ht1, rfl, rfl, _, rfl, ?_⟩
      rcases ho with rfl | ⟨w0, rfl, hwd⟩
      · exact if_f (by decide) ⟨⟨_, rfl⟩, st, hd1⟩
      · refine if_t (by simp) ?_
        obtain ⟨kvs, hk, hkl, hd2⟩ := hd1.put (v := .bl true) (hW _ hwd) hS
        exact ⟨_, rfl, _, rfl, t, _, _, _, rfl, rfl, ht1, rfl, d, _, rfl, DPut.k (k := Sum.inr w0) hk hkl, ⟨_, rfl⟩, fun u o nu eu => by rw [upd_ne nu]; exact st u o nu eu, hd2⟩
    rintro σ' H1 ⟨⟨x, rfl⟩, st, hd1⟩
    refine ⟨_, rfl, rfl, _, rfl, if_f (eqF (by decide +kernel)) ?_⟩
    refine ⟨_, rfl, (by show 3 ≤ sizeLine; decide), fun p9 hp9 => ⟨p9, _, rfl, .inr (SqT.of upd_same), rfl, flatStr ["if", "chain", "part"], _, rfl, if_t (show inV (V.str "if") (List.map V.str (["if", "chain", "part"] : List Str)) = true by rw [inStr]; decide +kernel) ?_⟩⟩
    have s9 := same_new hp9 (.tup [.str "if", .str "chain", .str "part"])
    have st9 := st.trans (Stp.of s9)
    refine ⟨_, rfl, .ref a, rfl, hin.mono (st9.tps hd.rd) (fun _ w => gm st9 w), by decide, fun p2 H2 es s2 hp2 hlen hes hcov => ?_⟩
    have st2 := st9.trans (Stp.of s2)
    have hd2 := (hd1.same s9).same s2
    have ne2 : p2 ≠ d := fun z => by
      obtain ⟨kvs, h1, _⟩ := hd2
      rw [z, h1] at hp2
      cases hp2
    refine ⟨p2, rfl, ⟨_, SqL.of hp2⟩, for_list (xs := es) (fun j σ' H' => (∃ x1 x2 x3 x4 x5 x6, σ' = [some (.ref a), some (.ref d), some (.str "if"), x1, x2, x3, x4, x5, x6]) ∧ Stp d H2 H' ∧ DS S d H') ⟨⟨_, _, _, _, _, _, rfl⟩, Stp.refl, hd2⟩ ?_ ?_ ?_⟩
    · rintro j σ' H' _ ⟨_, st3, _⟩
      exact SqL.of (st3 _ _ ne2 hp2)
    · rintro j y σ' H' hy ⟨⟨x1, x2, x3, x4, x5, x6, rfl⟩, st3, hd3⟩
      refine ⟨_, rfl, _, rfl, y, d, rfl, (hes y (List.mem_of_getElem? hy)).mono (st3.tps hd2.rd) (Nat.le_refl _) (Nat.le_refl _), hd3, fun H4 s4 hd4 => ⟨⟨_, _, _, _, _, _, rfl⟩, st3.trans s4, hd4⟩⟩
    · rintro σ' H' ⟨_, st3, hd3⟩
      exact q _ (st2.trans st3) hd3
  | @part a b g rs ha hg hb hrl hrs =>
    refine ⟨_, rfl, a, _, _, _, rfl, rfl, ha, rfl, ?_⟩
    have hin : InnS K Wd 1000 H (IsE K Wd n 1000 H) (.ref a) := ⟨a, b, rs, rfl, hb, hrl, .inr (.inr ⟨g, ha, hg, hrs⟩)⟩
    refine ⟨_, rfl, rfl, _, rfl, if_f (eqF (by decide +kernel)) ?_⟩
    refine ⟨_, rfl, rfl, _, rfl, if_f (eqF (by decide +kernel)) ?_⟩
    refine ⟨_, rfl, rfl, _, rfl, if_f (eqF (by decide +kernel)) ?_⟩
    refine ⟨_, rfl, rfl, _, rfl, if_f (eqF (by decide +kernel)) ?_⟩
    refine ⟨_, rfl, rfl, _, rfl, if_t (eqT rfl) ?_⟩
    refine ⟨_, rfl, a, _, _, _, rfl, rfl, ha, rfl, b, rfl, ⟨_, hb⟩, for_tup (xs := rs) (fun j σ' H' => (∃ x y, σ' = [some (.ref a), some (.ref d), some (.str "part"), none, y, none, none, x, none]) ∧ Stp d H H' ∧ DS S d H') ⟨⟨none, none, rfl⟩, Stp.refl, hd⟩ ?_ ?_ ?_⟩
    · rintro j σ' H' _ ⟨_, st, _⟩
      exact (st.tps hd.rd).tup hb
    · rintro j y σ' H' hy ⟨⟨x, x2, rfl⟩, st, hd1⟩
      obtain ⟨t, rfl, hst⟩ := hrs y (List.mem_of_getElem? hy)
      refine ⟨_, rfl, t, IsE K Wd n 1000 H', rfl, hst.mono (st.tps hd.rd) (Nat.le_refl _) (fun _ z => gm st z), fun p3 ws H3 s3 hp3 hwl hwd => ?_⟩
      refine ⟨p3, rfl, ⟨_, hp3⟩, for_tup (xs := ws.map V.str) (fun k σ'' H'' => (∃ y, σ'' = [some (.ref a), some (.ref d), some (.str "part"), none, y, none, none, some (.ref t), none]) ∧ Stp d H3 H'' ∧ DS S d H'') ⟨⟨_, rfl⟩, Stp.refl, hd1.same s3⟩ ?_ ?_ ?_⟩
      · rintro k σ'' H'' _ ⟨_, st4, _⟩
        exact (st4.tps (hd1.same s3).rd).tup hp3
      · rintro k y σ'' H'' hy2 ⟨⟨x4, rfl⟩, st4, hd4⟩
        rw [List.getElem?_map] at hy2
        obtain ⟨z, hz, rfl⟩ := Option.map_eq_some_iff.mp hy2
        obtain ⟨kvs, hk, hkl, hd5⟩ := hd4.put (v := .bl true) (hW _ (hwd z (List.mem_of_getElem? hz))) hS
        exact ⟨_, rfl, _, rfl, d, _, rfl, DPut.k (k := Sum.inr z) hk hkl, ⟨_, rfl⟩, fun u o nu eu => by rw [upd_ne nu]; exact st4 u o nu eu, hd5⟩
      · rintro σ'' H4 ⟨⟨x4, rfl⟩, st4, hd4⟩
        exact ⟨⟨_, _, rfl⟩, (st.trans (Stp.of s3)).trans st4, hd4⟩
    rintro σ' H1 ⟨⟨x, x2, rfl⟩, st, hd1⟩
    refine ⟨_, rfl, (by show 3 ≤ sizeLine; decide), fun p9 hp9 => ⟨p9, _, rfl, .inr (SqT.of upd_same), rfl, flatStr ["if", "chain", "part"], _, rfl, if_t (show inV (V.str "part") (List.map V.str (["if", "chain", "part"] : List Str)) = true by rw [inStr]; decide +kernel) ?_⟩⟩
    have s9 := same_new hp9 (.tup [.str "if", .str "chain", .str "part"])
    have st9 := st.trans (Stp.of s9)
    refine ⟨_, rfl, .ref a, rfl, hin.mono (st9.tps hd.rd) (fun _ w => gm st9 w), by decide, fun p2 H2 es s2 hp2 hlen hes hcov => ?_⟩
    have st2 := st9.trans (Stp.of s2)
    have hd2 := (hd1.same s9).same s2
    have ne2 : p2 ≠ d := fun z => by
      obtain ⟨kvs, h1, _⟩ := hd2
      rw [z, h1] at hp2
      cases hp2
    refine ⟨p2, rfl, ⟨_, SqL.of hp2⟩, for_list (xs := es) (fun j σ' H' => (∃ x1 x2 x3 x4 x5 x6, σ' = [some (.ref a), some (.ref d), some (.str "part"), x1, x2, x3, x4, x5, x6]) ∧ Stp d H2 H' ∧ DS S d H') ⟨⟨_, _, _, _, _, _, rfl⟩, Stp.refl, hd2⟩ ?_ ?_ ?_⟩
    · rintro j σ' H' _ ⟨_, st3, _⟩
      exact SqL.of (st3 _ _ ne2 hp2)
    · rintro j y σ' H' hy ⟨⟨x1, x2, x3, x4, x5, x6, rfl⟩, st3, hd3⟩
      refine ⟨_, rfl, _, rfl, y, d, rfl, (hes y (List.mem_of_getElem? hy)).mono (st3.tps hd2.rd) (Nat.le_refl _) (Nat.le_refl _), hd3, fun H4 s4 hd4 => ⟨⟨_, _, _, _, _, _, rfl⟩, st3.trans s4, hd4⟩⟩
    · rintro σ' H' ⟨_, st3, hd3⟩
      exact q _ (st2.trans st3) hd3
def spMent (K : PySem.W.Frag) (Wd : Str → Prop) (n : Nat) : Sp := fun vs H Q _ => ∃ (a : Addr) (ds : List V), vs = [.ref a] ∧ SqT K H a ds ∧ (∀ d ∈ ds, DefV K Wd n 1000 H d) ∧ ∀ p H', Same H H' → Q (.ref p) H'
abbrev smentioned_names : Stmt := top 15
abbrev nmentioned_names : List Str := ["definitions", "found", "name", "at", "parameters", "body"]
theorem scmentioned_names : FnScope nmentioned_names ["definitions"] (defScope smentioned_names) := ⟨rfl, rfl, rfl, by decide +kernel, rfl, by decide +kernel, by decide +kernel⟩
-- slots of mentioned_names: 0 definitions, 1 found, 2 name, 3 at, 4 parameters, 5 body
theorem ok_mentioned_names {S : List Str} (hS : S.length ≤ 1000) (F : Fun K "mentioned_names" "mentioned_names" smentioned_names f fd) (B : Blt mg) (c_gather_names : Cal P w K mg base CX0 (n + 2) "gather_names" ["expr", "found"] (spGather K Wd S n)) :
    FnOk P w K mg base CX0 (n + 3) f fd ["definitions"] (spMent K Wd n) := by
  refine F.own (k := n + 2) scmentioned_names (fun vs H Q E h => ?_) (fun cdv A outer s H vs Q E hr h => ?_)
  · obtain ⟨a, ds, rfl, _⟩ := h
    rfl
  obtain ⟨a, ds, rfl, ha, hds, q⟩ := h
  refine ⟨_, (pss_cons (ps_set (i := 1) scmentioned_names.nd rfl (by first | exact Or.inl rfl | exact Or.inr rfl) pe_dnewK) (pss_cons (ps_for (PassesOwn.never) rfl (pi_tup (pv 0)) (pg_tup (by rfl) (pgs_cons (pg_name (i := 2) scmentioned_names.nd rfl (by first | exact Or.inl rfl | exact Or.inr rfl)) (pgs_cons (pg_name (i := 3) scmentioned_names.nd rfl (by first | exact Or.inl rfl | exact Or.inr rfl)) (pgs_cons (pg_name (i := 4) scmentioned_names.nd rfl (by first | exact Or.inl rfl | exact Or.inr rfl)) (pgs_cons (pg_name (i := 5) scmentioned_names.nd rfl (by first | exact Or.inl rfl | exact Or.inr rfl)) pgs_nil)))))
    (pss_one (ps_expr (pe_c0 c_gather_names hr (by omega) rfl (pa_cons (pv 5) (pa_cons (pv 1) pa_nil)))))) (pss_one (ps_ret (pe_callTy call_tuple_of (by rfl) B.tuple (by decide +kernel) (pa_cons (pe_callB cr_sortedA (by rfl) B.sorted (by decide +kernel) (pa_cons (pe_lock (pe_lc (own := [("name", 2)]) (g := (gName 2)) (tt := tYes) (by rfl) scmentioned_names.nd (pi_keys (pv 1)) (blkOk_by (own := [("name", 2)]) (N := nmentioned_names) (sc := (defScope smentioned_names)) (by decide +kernel)) (fun _ _ _ _ _ => (pg_name (i := 2) scmentioned_names.nd rfl (by first | exact Or.inl rfl | exact Or.inr rfl))) (fun _ _ _ _ _ => pts_nil) (fun _ _ _ _ _ => (pe_callTy SkE.call_str_str (by rfl) B.str (by decide +kernel) (pa_cons (pv 2) pa_nil))))) pa_nil)) pa_nil)))))), ?_⟩
  intro d hd
  refine ⟨_, rfl, a, rfl, ⟨_, Same.tup (same_new hd _) ha⟩, for_tup (xs := ds) (fun j σ' H' => (∃ x1 x2 x3 x4, σ' = [some (.ref a), some (.ref d), x1, x2, x3, x4]) ∧ Stp d H H' ∧ DS S d H') ⟨⟨_, _, _, _, rfl⟩, Stp.of (same_new hd _), [], upd_same, (fun k hk => nomatch hk), List.nodup_nil⟩ ?_ ?_ ?_⟩
  · rintro j σ' H' _ ⟨_, st, _⟩
    exact Same.tup (Stp.same st hd) ha
  · rintro j y σ' H' hy ⟨⟨x1, x2, x3, x4, rfl⟩, st, hd1⟩
    have s1 := Stp.same st hd
    obtain ⟨da, b, nm, at_, ps, body, rfl, hda, hb, hpl, hps, hbody⟩ := (hds y (List.mem_of_getElem? hy)).mono (GR.Same.tps s1) (Nat.le_refl _) (Nat.le_refl _)
    refine ⟨da, _, rfl, hda, rfl, _, _, rfl, _, _, rfl, _, _, rfl, _, _, rfl, rfl, ?_⟩
    refine ⟨_, rfl, _, rfl, body, d, rfl, hbody, hd1, fun H2 s2 hd2 => ⟨⟨_, _, _, _, rfl⟩, st.trans s2, hd2⟩⟩
  · rintro σ' H1 ⟨⟨x1, x2, x3, x4, rfl⟩, st, hd1⟩
    have s1 := Stp.same st hd
    obtain ⟨kvs, hk, hkl, hks, hnd⟩ := hd1.len
    refine ⟨d, _, hk, trivial, fun od => ?_⟩
    refine ⟨_, rfl, d, od, rfl, .inl ⟨kvs, upd_same, fun D hD => lc_it (walk_keys (d := d) (o := od) (kvs := kvs)) (fun i H' => ∃ acc : List Str, H' D = some (.lst (acc.map V.str)) ∧ acc.length = i ∧ Stp D (L2.upd H1 d (.frz od (.dK kvs))) H') ⟨[], upd_same, rfl, Stp.of (same_new hD _)⟩ ?_ ?_ ?_⟩⟩
    · rintro i H' _ ⟨_, _, _, st4⟩
      exact (Stp.same st4 hD) _ _ upd_same
    · rintro i x H' H'' hi ⟨acc, hac, hn, st4⟩ ⟨rfl, k, v, hkv, rfl⟩
      obtain ⟨z, hz, rfl⟩ := hks k (List.mem_map.mpr ⟨_, List.mem_of_getElem? hkv, rfl⟩)
      refine ⟨rfl, _, rfl, z, rfl, _, hac, sml1 (by rw [List.length_map]; omega), acc ++ [z], by rw [upd_same, List.map_append]; rfl, by rw [List.length_append, hn]; rfl, fun u o nu eu => by rw [upd_ne nu]; exact st4 u o nu eu⟩
    · rintro H2 ⟨acc, hac, hn, st4⟩
      have s4 := Stp.same st4 hD
      have hne : D ≠ d := fun z => by rw [z, upd_same] at hD; cases hD
      refine ⟨s4 _ _ upd_same, D, acc, rfl, SqL.of (by rw [upd_ne hne]; exact hac), fun ys p hp hpn => ?_⟩
      refine ⟨p, _, rfl, .inl ⟨SqL.of upd_same, fun p4 hp4 => ?_⟩⟩
      refine q p4 _ fun u o eu => ?_
      have nud : u ≠ d := ne_of_none eu hd
      have e1 : H1 u = some o := s1 _ _ eu
      have e2 : H2 u = some o := s4 _ _ (by rw [upd_ne nud]; exact e1)
      exact same_new hp4 _ _ _ (same_new hpn _ _ _ (by rw [upd_ne nud]; exact e2))
end
end GR
set_option Elab.async false
set_option linter.all false
set_option maxRecDepth 100000
set_option maxHeartbeats 4000000
namespace GR
open PySem PySem.Spec PyProof.Rows L2
section
variable {P : Program} {w : World} {K : PySem.W.Frag} {Wd : Str → Prop} {mg : Str → Option Value} {base : Heap} {CC CB aR aS : Addr} {T : Toks} {f : Addr} {fd : FuncData} {n : Nat}
theorem putF_le (f : Str) (v : V) : ∀ fs : List (Str × V), (putF f v fs).length ≤ fs.length + 1
  | [] => Nat.le_refl _
  | (g, u) :: r => by
    have ih := putF_le f v r
    show (if g = f then (g, v) :: r else (g, u) :: putF f v r).length ≤ _
    split
    · rw [List.length_cons, List.length_cons]; omega
    · rw [List.length_cons, List.length_cons]; omega
structure ProgC (K : PySem.W.Frag) (CP : Addr) : Prop where
  cl : Cls K CP
  n1 : NoAttr K CP "definitions"
  n2 : NoAttr K CP "names"
  n3 : NoAttr K CP "mentioned"
  n4 : NoAttr K CP "table"
def spPInit (K : PySem.W.Frag) (Wd : Str → Prop) (CP : Addr) (n : Nat) : Sp := fun vs H Q _ => ∃ (x a dx : Addr) (ds : List V), vs = [.ref x, .ref a] ∧ H x = some (.ins CP dx []) ∧ SqT K H a ds ∧ ds.length ≤ 1000 ∧ (∀ d ∈ ds, DefV K Wd n 1000 H d) ∧ ∀ H', Stp x H H' → Q .non H'
abbrev sProgram_init : Stmt := mth 50 2
abbrev nProgram_init : List Str := ["self", "definitions", "name", "at", "parameters", "body", "parameter", "spot"]
theorem scProgram_init : FnScope nProgram_init ["self", "definitions"] (defScope sProgram_init) := ⟨rfl, rfl, rfl, by decide +kernel, rfl, by decide +kernel, by decide +kernel⟩
-- slots of Program_init: 0 self, 1 definitions, 2 name, 3 at, 4 parameters, 5 body, 6 parameter, 7 spot
theorem ok_Program_init {CP : Addr} (F : Fun K "__init__" "Program.__init__" sProgram_init f fd) (B : Blt mg) (C : ProgC K CP) (c_mentioned_names : Cal P w K mg base CX0 (n + 3) "mentioned_names" ["definitions"] (spMent K Wd n)) :
    FnOk P w K mg base CX0 (n + 4) f fd ["self", "definitions"] (spPInit K Wd CP n) := by
  refine F.own (k := n + 3) scProgram_init (fun vs H Q E h => ?_) (fun cdv A outer s H vs Q E hr h => ?_)
  · obtain ⟨x, a, dx, ds, rfl, _⟩ := h
    rfl
  obtain ⟨x, a, dx, ds, rfl, hx, ha, hl, hds, q⟩ := h
  refine ⟨_, (pss_cons (ps_fld (pv 0) (pv 1) rfl) (pss_cons (ps_fld (pv 0) (pe_callTy call_tuple_of (by rfl) B.tuple (by decide +kernel) (pa_cons (pe_lc (own := [("name", 2), ("at", 3), ("parameters", 4), ("body", 5)]) (g := (gTup K 4 (gCons (gName 2) (gCons (gName 3) (gCons (gName 4) (gCons (gName 5) gNil)))))) (tt := tYes) (by rfl) scProgram_init.nd (pi_tup (pv 1)) (blkOk_by (own := [("name", 2), ("at", 3), ("parameters", 4), ("body", 5)]) (N := nProgram_init) (sc := (defScope sProgram_init)) (by decide +kernel)) (fun _ _ _ _ _ => (pg_tup (by rfl) (pgs_cons (pg_name (i := 2) scProgram_init.nd rfl (by first | exact Or.inl rfl | exact Or.inr rfl)) (pgs_cons (pg_name (i := 3) scProgram_init.nd rfl (by first | exact Or.inl rfl | exact Or.inr rfl)) (pgs_cons (pg_name (i := 4) scProgram_init.nd rfl (by first | exact Or.inl rfl | exact Or.inr rfl)) (pgs_cons (pg_name (i := 5) scProgram_init.nd rfl (by first | exact Or.inl rfl | exact Or.inr rfl)) pgs_nil)))))) (fun _ _ _ _ _ => pts_nil) (fun _ _ _ _ _ => (pv 2))) pa_nil)) rfl) (pss_cons (ps_fld (pv 0) (pe_c0 c_mentioned_names hr (by omega) rfl (pa_cons (pv 1) pa_nil)) rfl) (pss_cons (ps_fld (pv 0) pe_dnewK rfl) (pss_one (ps_for (PassesOwn.never) rfl (pi_tup (pv 1)) (pg_tup (by rfl) (pgs_cons (pg_name (i := 2) scProgram_init.nd rfl (by first | exact Or.inl rfl | exact Or.inr rfl)) (pgs_cons (pg_name (i := 3) scProgram_init.nd rfl (by first | exact Or.inl rfl | exact Or.inr rfl)) (pgs_cons (pg_name (i := 4) scProgram_init.nd rfl (by first | exact Or.inl rfl | exact Or.inr rfl)) (pgs_cons (pg_name (i := 5) scProgram_init.nd rfl (by first | exact Or.inl rfl | exact Or.inr rfl)) pgs_nil)))))
    (pss_one (ps_dput (hu_of hr) (pe_fld (pv 0) rfl) (pv 2) (pe_tup (pa_cons (pe_callTy call_tuple_of (by rfl) B.tuple (by decide +kernel) (pa_cons (pe_lc (own := [("parameter", 6), ("spot", 7)]) (g := (gTup K 2 (gCons (gName 6) (gCons (gName 7) gNil)))) (tt := tYes) (by rfl) scProgram_init.nd (pi_tup (pv 4)) (blkOk_by (own := [("parameter", 6), ("spot", 7)]) (N := nProgram_init) (sc := (defScope sProgram_init)) (by decide +kernel)) (fun _ _ _ _ _ => (pg_tup (by rfl) (pgs_cons (pg_name (i := 6) scProgram_init.nd rfl (by first | exact Or.inl rfl | exact Or.inr rfl)) (pgs_cons (pg_name (i := 7) scProgram_init.nd rfl (by first | exact Or.inl rfl | exact Or.inr rfl)) pgs_nil)))) (fun _ _ _ _ _ => pts_nil) (fun _ _ _ _ _ => (pv 6))) pa_nil)) (pa_cons (pv 5) pa_nil))) rfl)))))))), ?_⟩
  have st : ∀ {H1 : Hp} {o : HO}, Stp x H H1 → Stp x H (L2.upd H1 x o) := fun s1 u o nu eu => by rw [upd_ne nu]; exact s1 u o nu eu
  have tx := rd_ins hx
  refine ⟨_, rfl, _, rfl, x, CP, dx, _, rfl, hx, C.cl, C.n1, (by show 0 < 1000; decide), ?_⟩
  have st1 := st (o := .ins CP dx (putF "definitions" (.ref a) [])) (Stp.refl (c := x) (H := H))
  generalize hf1 : putF ("definitions" : Str) (V.ref a) [] = f1 at st1 ⊢
  have l1 : f1.length ≤ 1 := by rw [← hf1]; exact putF_le _ _ _
  have e1 : (L2.upd H x (.ins CP dx f1)) x = some (.ins CP dx f1) := upd_same
  generalize L2.upd H x (.ins CP dx f1) = H1 at st1 e1 ⊢
  refine ⟨_, rfl, a, rfl, ⟨_, (st1.tps tx).tup ha⟩, fun D hD => lc_tup (xs := ds) (fun i H' => ∃ acc, H' D = some (.lst acc) ∧ acc.length = i ∧ Stp D H1 H') ⟨[], upd_same, rfl, Stp.of (same_new hD _)⟩ ?_ ?_ ?_⟩
  · rintro i H' _ ⟨_, _, _, s2⟩
    exact Same.tup (Stp.same s2 hD) ((st1.tps tx).tup ha)
  · rintro i y H' hy ⟨acc, hac, hn, s2⟩
    obtain ⟨da, b, nm, at_, ps, body, rfl, hda, hb, hpl, hps, hbody⟩ := (hds y (List.mem_of_getElem? hy)).mono ((st1.tps tx).trans (GR.Same.tps (Stp.same s2 hD))) (Nat.le_refl _) (Nat.le_refl _)
    have hi : i < ds.length := (List.getElem?_eq_some_iff.mp hy).1
    exact ⟨da, _, rfl, hda, rfl, _, _, rfl, _, _, rfl, _, _, rfl, _, _, rfl, rfl, rfl, _, rfl, acc, hac, sml1 (by omega), _, upd_same, by rw [List.length_append, hn]; rfl, fun u o nu eu => by rw [upd_ne nu]; exact s2 u o nu eu⟩
  rintro H2 ⟨acc, hac, hn, s2⟩
  have s2 := Stp.same s2 hD
  refine ⟨D, _, rfl, .inl ⟨SqL.of hac, fun p3 hp3 => ?_⟩⟩
  have s3 := s2.trans (same_new hp3 (.tup acc))
  refine ⟨_, rfl, x, CP, dx, f1, rfl, s3 _ _ e1, C.cl, C.n2, by omega, ?_⟩
  have st4 := st (o := .ins CP dx (putF "names" (.ref p3) f1)) (st1.trans (Stp.of s3))
  have l4 := putF_le "names" (.ref p3) f1
  generalize putF ("names" : Str) (V.ref p3) f1 = f4 at st4 l4 ⊢
  have e4 : (L2.upd (L2.upd H2 p3 (.tup acc)) x (.ins CP dx f4)) x = some (.ins CP dx f4) := upd_same
  generalize L2.upd (L2.upd H2 p3 (.tup acc)) x (.ins CP dx f4) = H4 at st4 e4 ⊢
  refine ⟨_, rfl, a, ds, rfl, (st4.tps tx).tup ha, fun d hd => (hds d hd).mono (st4.tps tx) (Nat.le_refl _) (Nat.le_refl _), fun p5 H5 s5 => ?_⟩
  refine ⟨_, rfl, x, CP, dx, f4, rfl, s5 _ _ e4, C.cl, C.n3, by omega, ?_⟩
  have st6 := st (o := .ins CP dx (putF "mentioned" (.ref p5) f4)) (st4.trans (Stp.of s5))
  have l6 := putF_le "mentioned" (.ref p5) f4
  generalize putF ("mentioned" : Str) (V.ref p5) f4 = f6 at st6 l6 ⊢
  have e6 : (L2.upd H5 x (.ins CP dx f6)) x = some (.ins CP dx f6) := upd_same
  generalize L2.upd H5 x (.ins CP dx f6) = H6 at st6 e6 ⊢
  intro t ht
  have s7 := same_new ht (.dK [])
  refine ⟨_, rfl, x, CP, dx, f6, rfl, s7 _ _ e6, C.cl, C.n4, by omega, ?_⟩
  have st8 := st (o := .ins CP dx (putF "table" (.ref t) f6)) (st6.trans (Stp.of s7))
  have hlk : (putF ("table" : Str) (V.ref t) f6).lookup ("table" : Str) = some (.ref t) := by rw [lookup_putF, if_pos rfl]
  have e8 : (L2.upd (L2.upd H6 t (.dK [])) x (.ins CP dx (putF "table" (.ref t) f6))) x = some (.ins CP dx (putF "table" (.ref t) f6)) := upd_same
  have ntx : t ≠ x := ne_of_none e6 ht |>.symm
  have e9 : (L2.upd (L2.upd H6 t (.dK [])) x (.ins CP dx (putF "table" (.ref t) f6))) t = some (.dK []) := by rw [upd_ne ntx]; exact upd_same
  have ht0 : H t = none := by
    cases e : H t with
    | none => rfl
    | some o =>
      have := st6 t o ntx e
      rw [this] at ht
      cases ht
  generalize putF ("table" : Str) (V.ref t) f6 = f8 at st8 hlk e8 e9 ⊢
  generalize L2.upd (L2.upd H6 t (.dK [])) x (.ins CP dx f8) = H8 at st8 e8 e9 ⊢
  have td : ∀ {H' : Hp}, (∀ u o, u ≠ t → H8 u = some o → H' u = some o) → Tps H H' := fun h => (st8.tps tx).trans (Stp.tps (c := t) h (rd_dK e9))
  refine ⟨_, rfl, a, rfl, ⟨_, (st8.tps tx).tup ha⟩, for_tup (xs := ds) (fun i σ' H' => (∃ x2 x3 x4 x5 x6 x7, σ' = [some (.ref x), some (.ref a), x2, x3, x4, x5, x6, x7]) ∧ (∃ kvs, H' t = some (.dK kvs) ∧ kvs.length ≤ i) ∧ Stp t H8 H') ⟨⟨_, _, _, _, _, _, rfl⟩, ⟨[], e9, Nat.le_refl _⟩, Stp.refl⟩ ?_ ?_ ?_⟩
  · rintro i σ' H' _ ⟨_, _, s9⟩
    exact (td s9).tup ha
  · rintro i y σ' H' hy ⟨⟨x2, x3, x4, x5, x6, x7, rfl⟩, ⟨kvs, hk, hkl⟩, s9⟩
    have hi : i < ds.length := (List.getElem?_eq_some_iff.mp hy).1
    obtain ⟨da, b, nm, at_, ps, body, rfl, hda, hb, hpl, hps, hbody⟩ := (hds y (List.mem_of_getElem? hy)).mono (td s9) (Nat.le_refl _) (Nat.le_refl _)
    refine ⟨da, _, rfl, hda, rfl, _, _, rfl, _, _, rfl, _, _, rfl, _, _, rfl, rfl, ?_⟩
    refine ⟨_, rfl, b, rfl, ⟨_, hb⟩, fun D hD => lc_tup (xs := ps) (fun i H2 => ∃ acc, H2 D = some (.lst acc) ∧ acc.length = i ∧ Stp D H' H2) ⟨[], upd_same, rfl, Stp.of (same_new hD _)⟩ ?_ ?_ ?_⟩
    · rintro i H2 _ ⟨_, _, _, s2⟩
      exact Same.tup (Stp.same s2 hD) hb
    · rintro i y H2 hy ⟨acc, hac, hn, s2⟩
      obtain ⟨pt, z, sp, rfl, hpt⟩ := hps y (List.mem_of_getElem? hy)
      have hi : i < ps.length := (List.getElem?_eq_some_iff.mp hy).1
      exact ⟨pt, _, rfl, Same.tup (Stp.same s2 hD) hpt, rfl, _, _, rfl, _, _, rfl, rfl, rfl, _, rfl, acc, hac, sml1 (by omega), _, upd_same, by rw [List.length_append, hn]; rfl, fun u o nu eu => by rw [upd_ne nu]; exact s2 u o nu eu⟩
    · rintro H2 ⟨acc, hac, hn, s2⟩
      have s2 := Stp.same s2 hD
      refine ⟨D, _, rfl, .inl ⟨SqL.of hac, fun p3 hp3 => ?_⟩⟩
      have s3 := s2.trans (same_new hp3 (.tup acc))
      refine ⟨_, rfl, (by show 2 ≤ sizeLine; decide), fun p4 hp4 => ?_⟩
      have s4 := s3.trans (same_new hp4 (.tup [.ref p3, body]))
      have nxt : x ≠ t := ntx.symm
      refine ⟨_, rfl, x, CP, dx, f8, _, rfl, s4 _ _ (s9 _ _ nxt e8), C.cl, C.n4, hlk, _, rfl, t, _, rfl, DPut.k (k := Sum.inr nm) (s4 _ _ hk) (sml1 (by omega)), ⟨_, _, _, _, _, _, rfl⟩, ⟨_, upd_same, ?_⟩, fun u o nu eu => by rw [upd_ne nu]; exact s4 _ _ (s9 u o nu eu)⟩
      unfold putK
      split
      · rw [List.length_map]; omega
      · rw [List.length_append, List.length_singleton]; omega
  · rintro σ' H' ⟨_, _, s9⟩
    exact q H' fun u o nu eu => s9 u o (ne_of_none eu ht0) (st8 u o nu eu)
end
end GR
set_option Elab.async false
set_option linter.all false
set_option maxRecDepth 100000
set_option maxHeartbeats 4000000
namespace GR
open PySem PySem.Spec PyProof.Rows L2
section
variable {P : Program} {w : World} {K : PySem.W.Frag} {Wd : Str → Prop} {mg : Str → Option Value} {base : Heap} {CC CB aR aS : Addr} {T : Toks} {f : Addr} {fd : FuncData} {n : Nat}
/-- what may be raised by Program.read of the tokens T -/
def RdX (T : Toks) (CB CD CU CW CL : Addr) (cls : Value) (d : Addr) (H : Hp) : Prop :=
  (∃ (j : Nat) (t : Int × Str), GR.Run (ks T) ["program"] 0 (some j) ∧ T[j]? = some t ∧ cls = .ref CB ∧ AtX d t.1 H) ∨ (GR.Run (ks T) ["program"] 0 none ∧ NmX CD CU CW cls d H) ∨
  (GR.Run (ks T) ["program"] 0 none ∧ cls = .ref CL ∧ ∃ z : Str, H d = some (.xd [("name", .str z)]))
def spRead (T : Toks) (CB CD CU CW CL : Addr) : Sp := fun vs H Q E => ∃ (z : Str), vs = [.str z] ∧ Lay 0 z.cps.toList T ∧ z.length ≤ 10000 ∧ TokOk T ∧ ops T 0 < 48 ∧
  (∀ x H', Same H H' → GR.Run (ks T) ["program"] 0 none → Q (.ref x) H') ∧ ∀ cls d H', Same H H' → RdX T CB CD CU CW CL cls d H' → E cls (some d) H'
abbrev sProgram_read : Stmt := mth 50 3
abbrev nProgram_read : List Str := ["text", "definitions"]
theorem scProgram_read : FnScope nProgram_read ["text"] (defScope sProgram_read) := ⟨rfl, rfl, rfl, by decide +kernel, rfl, by decide +kernel, by decide +kernel⟩
-- slots of Program_read: 0 text, 1 definitions
theorem ok_Program_read {CP CD CU CW CL fI : Addr} {fdI : FuncData} (F : Fun K "read" "Program.read" sProgram_read f fd) (MKP : Mk K CP fI) (FIP : FnOk P w K mg base CX0 148 fI fdI ["self", "definitions"] (spPInit K Wd CP 144)) (bIP : Binds K fdI ["self", "definitions"] []) (mgP : mg "Program" = some (.ref CP))
    (c_read_definitions : Cal P w K mg base (L2.CX P w) 294 "read_definitions" ["text"] (spDefs K Wd CB T 48)) (c_check_names : Cal P w K mg base (L2.CX P w) 147 "check_names" ["definitions"] (spCheckN K Wd CD CU CW 144))
    (c_check_weights : Cal P w K mg base (L2.CX P w) 291 "check_weights" ["definitions"] (spCheckW K Wd CL 144)) : FnOk P w K mg base (L2.CX P w) 295 f fd ["text"] (spRead T CB CD CU CW CL) := by
  refine F.ownX (k := 294) scProgram_read (fun vs H Q E h => ?_) (fun cdv A outer s H vs Q E hr h => ?_)
  · obtain ⟨z, rfl, _⟩ := h
    rfl
  obtain ⟨z, rfl, hL, hz, TK, ho, q, e⟩ := h
  refine ⟨_, (pss_cons (ps_set (i := 1) scProgram_read.nd rfl (by first | exact Or.inl rfl | exact Or.inr rfl) (pe_cX c_read_definitions (takes_of rfl rfl rfl rfl) hr (by omega) rfl (pa_cons (pv 0) pa_nil))) (pss_cons (ps_expr (pe_cX c_check_names (takes_of rfl rfl rfl rfl) hr (by omega) rfl (pa_cons (pv 1) pa_nil))) (pss_cons (ps_expr (pe_cX c_check_weights (takes_of rfl rfl rfl rfl) hr (by omega) rfl (pa_cons (pv 1) pa_nil))) (pss_one (ps_ret (pe_make MKP FIP (hr.mono (by omega)) (by rfl) mgP bIP .nil (pa_cons (pv 1) pa_nil))))))), ?_⟩
  refine ⟨_, rfl, z, rfl, hL, hz, TK, ho, by decide, fun b ds H1 s1 hrun hb hbl hds => ?_, fun j t d H' hrun ht s1 ha => e _ d H' s1 (.inl ⟨j, t, hrun, ht, rfl, ha⟩)⟩
  refine ⟨_, rfl, b, ds, rfl, hb, hbl, hds, by decide, fun H2 info s2 hil hwf hnd => ?_, fun cls d H' hx s2 => e cls d H' (s1.trans s2) (.inr (.inl ⟨hrun, hx⟩))⟩
  have s12 := s1.trans s2
  refine ⟨_, rfl, b, ds, info, rfl, Same.tup s2 hb, hbl, hil, hwf, hnd, by decide, fun H3 s3 => ?_, fun d y H' hd s3 => e _ d H' (s12.trans s3) (.inr (.inr ⟨hrun, rfl, y, hd⟩))⟩
  have s13 := s12.trans s3
  refine ⟨_, rfl, fun x dx hx hdx hne => ⟨x, b, dx, ds, rfl, upd_same, ?_, hbl, fun d hd => ?_, fun H4 s4 => ⟨rfl, ?_⟩⟩⟩
  · have tp : Tps H3 (L2.upd (L2.upd H3 dx (.own x)) x (.ins CP dx [])) := GR.Same.tps fun u o eu => by rw [upd_ne (ne_of_none eu hx), upd_ne (ne_of_none eu hdx)]; exact eu
    exact tp.tup (Same.tup (s2.trans s3) hb)
  · have tp : Tps H3 (L2.upd (L2.upd H3 dx (.own x)) x (.ins CP dx [])) := GR.Same.tps fun u o eu => by rw [upd_ne (ne_of_none eu hx), upd_ne (ne_of_none eu hdx)]; exact eu
    exact (hds d hd).mono ((GR.Same.tps (s2.trans s3)).trans tp) (Nat.le_refl _) (Nat.le_refl _)
  · refine q x H4 (fun u o eu => ?_) hrun
    have e3 := s13 _ _ eu
    exact s4 u o (ne_of_none e3 hx) (by rw [upd_ne (ne_of_none e3 hx), upd_ne (ne_of_none e3 hdx)]; exact e3)
end
section
variable {X : Cx} {CX : CXT} {k : Nat} {C p g : Addr} {gd : FuncData} {ps : List Str} {mc : Value} {sp : Sp} {E : L2.St → XK} {o e : Expr} {es : List Expr} {f m : Str} {pos apos : Pos} {ta : TE} {t : TA} {pl : Sem Bool}
def tSMethS (C : Addr) (sp : Sp) (E : L2.St → XK) (ta : TE) (t : TA) : TE := fun σ H Q => ta σ H fun x H1 => x = .ref C ∧ t σ H1 fun vs H2 => sp vs H2 Q (E σ)
theorem pe_smethS (he : PE X o ta) (r : ClX.CRead X.K C mc) (c : SMet X.K C mc m p g) (F : FnOk X.prog X.w X.K X.mg X.base CX k g gd ps sp) (hb : Binds X.K gd ps []) (hr : Room k X.A) (hx : ∀ σ, PassesAt CX X σ (E σ)) (ha : PA X (e :: es) t)
    (hst : starEach (e :: es) X.env = (false, eval e X.env) :: starEach es X.env := by rfl) (hpl : (backTo pos (starEach es X.env)).any (·.1) = false := by rfl)
    (ht : eval (.Call (.Attribute o m apos) (e :: es) [] pos) X.env = (do
      let ov ← eval o X.env
      standAt apos.atName
      let (f, first) ← holding [ov] (getMethod ov m pl)
      callWith pos f first (backTo pos (starEach (e :: es) X.env)) (backToKw pos (keywordEach [] X.env))) := by rfl) :
    PE X (.Call (.Attribute o m apos) (e :: es) [] pos) (tSMethS C sp E ta t) := by
  refine ⟨fun pins s σ H Q I h => ?_⟩
  refine PySem.W.methodCall_KW (pl := pl) (thn (he.run pins s σ H _ I h) fun u s1 ⟨x, H1, I1, rx, ex, q⟩ => ?_) ht
  subst ex
  obtain rfl : u = Value.ref C := rx
  obtain ⟨rest, hp⟩ := c.rc
  refine PySem.W.method_cls I1.kIn r.ga (PySem.W.cls_bind I1.kIn r.rd c.at_ ?_)
  refine wpAny_call (PySem.W.sm_get (s := { s1 with toks := s1.toks + 1 }) I1.kIn hp (PySem.W.handed_on rfl ?_))
  refine PySem.W.callWith_K (h₀ := X.base) I.ok.mod.kin c.kp (thn (ha.run pos pins _ σ _ _ (I1.tok _) q) fun us s2 ⟨vs, H2, I2, rv, q2⟩ => ⟨I2.kIn, ?_⟩) hst hpl
  exact runs0 F hr hb (hx σ) I2 rv q2
end
/-- the facts of the exceptions that _law_read asks -/
structure LrX (K : PySem.W.Frag) (mg : Str → Option Value) (CR CB CT CD CU CW CL : Addr) : Prop where
  mB : mg "BadText" = some (.ref CB)
  mT : mg "TooDeep" = some (.ref CT)
  mD : mg "DoubleName" = some (.ref CD)
  mU : mg "UnknownName" = some (.ref CU)
  mW : mg "WrongCount" = some (.ref CW)
  mL : mg "TooLarge" = some (.ref CL)
  mR : mg "RecordsError" = some (.ref CR)
  eBB : PySem.W.exmOne K (.ref CB) (.ref CB) = some true
  eDB : PySem.W.exmOne K (.ref CD) (.ref CB) = some false
  eDT : PySem.W.exmOne K (.ref CD) (.ref CT) = some false
  eDD : PySem.W.exmOne K (.ref CD) (.ref CD) = some true
  eUB : PySem.W.exmOne K (.ref CU) (.ref CB) = some false
  eUT : PySem.W.exmOne K (.ref CU) (.ref CT) = some false
  eUD : PySem.W.exmOne K (.ref CU) (.ref CD) = some false
  eUU : PySem.W.exmOne K (.ref CU) (.ref CU) = some true
  eWB : PySem.W.exmOne K (.ref CW) (.ref CB) = some false
  eWT : PySem.W.exmOne K (.ref CW) (.ref CT) = some false
  eWD : PySem.W.exmOne K (.ref CW) (.ref CD) = some false
  eWU : PySem.W.exmOne K (.ref CW) (.ref CU) = some false
  eWW : PySem.W.exmOne K (.ref CW) (.ref CW) = some true
  eLB : PySem.W.exmOne K (.ref CL) (.ref CB) = some false
  eLT : PySem.W.exmOne K (.ref CL) (.ref CT) = some false
  eLD : PySem.W.exmOne K (.ref CL) (.ref CD) = some false
  eLU : PySem.W.exmOne K (.ref CL) (.ref CU) = some false
  eLW : PySem.W.exmOne K (.ref CL) (.ref CW) = some false
  eLL : PySem.W.exmOne K (.ref CL) (.ref CL) = some true
  kB : PySem.W.kitOne K (.ref CB) (.ref CR) = some true
  kBT : PySem.W.kitOne K (.ref CB) (.ref CT) = some false
  kD : PySem.W.kitOne K (.ref CD) (.ref CR) = some true
  kU : PySem.W.kitOne K (.ref CU) (.ref CR) = some true
  kW : PySem.W.kitOne K (.ref CW) (.ref CR) = some true
  kL : PySem.W.kitOne K (.ref CL) (.ref CR) = some true
  xB : XfC K CB
  xT : XfC K CT
  xD : XfC K CD
  xU : XfC K CU
  xW : XfC K CW
  xL : XfC K CL
  aB : PySem.W.findIn K (.ref CB) "at" = some none
  aT : PySem.W.findIn K (.ref CT) "at" = some none
  aD : PySem.W.findIn K (.ref CD) "at" = some none
  aU : PySem.W.findIn K (.ref CU) "at" = some none
  aW : PySem.W.findIn K (.ref CW) "at" = some none
  nD : PySem.W.findIn K (.ref CD) "name" = some none
  nU : PySem.W.findIn K (.ref CU) "name" = some none
  nW : PySem.W.findIn K (.ref CW) "name" = some none
  nL : PySem.W.findIn K (.ref CL) "name" = some none
  cB : ExcC K CB
  cT : ExcC K CT
  cD : ExcC K CD
  cU : ExcC K CU
  cW : ExcC K CW
  cL : ExcC K CL
/-- the promise of _law_read -/
def spLRead (T : Toks) : Sp := fun vs H Q _ => ∃ (z : Str), vs = [.str z] ∧ Lay 0 z.cps.toList T ∧ z.length ≤ 10000 ∧ TokOk T ∧ ops T 0 < 48 ∧
  (∀ j t p H', GR.Run (ks T) ["program"] 0 (some j) → T[j]? = some t → Same H H' → H' p = some (.tup [.str "bad", .int t.1, .bl true]) → Q (.ref p) H') ∧
  (∀ p (z : Str) xs H', GR.Run (ks T) ["program"] 0 none → Same H H' → H' p = some (.tup (.str z :: xs)) → z ≠ "bad" → z ≠ "deep" → Q (.ref p) H')
section
variable {P : Program} {w : World} {K : PySem.W.Frag} {Wd : Str → Prop} {mg : Str → Option Value} {base : Heap} {CC CB aR aS : Addr} {T : Toks} {f : Addr} {fd : FuncData} {n : Nat}
theorem lk1 (v : V) : ([("at", v)] : List (Str × V)).lookup ("at" : Str) = some v := by rw [List.lookup_cons_self]
theorem lk2 (v u : V) : ([("at", v), ("name", u)] : List (Str × V)).lookup ("at" : Str) = some v := by rw [List.lookup_cons_self]
theorem lk3 (v u : V) : ([("at", v), ("name", u)] : List (Str × V)).lookup ("name" : Str) = some u := by
  rw [List.lookup_cons, show (("name" : Str) == ("at" : Str)) = false by decide +kernel]
  exact List.lookup_cons_self ..
theorem lk4 (v : V) : ([("name", v)] : List (Str × V)).lookup ("name" : Str) = some v := by rw [List.lookup_cons_self]
abbrev s_law_read : Stmt := top 61
abbrev n_law_read : List Str := ["_law_text", "e"]
theorem sc_law_read : FnScope n_law_read ["_law_text"] (defScope s_law_read) := ⟨rfl, rfl, rfl, by decide +kernel, rfl, by decide +kernel, by decide +kernel⟩
-- slots of _law_read: 0 _law_text, 1 e
theorem ok_law_read {CR CT CP CD CU CW CL ps pg : Addr} {mc : Value} {gd : FuncData} (F : Fun K "_law_read" "_law_read" s_law_read f fd) (B : Blt mg) (X : LrX K mg CR CB CT CD CU CW CL) (mgP : mg "Program" = some (.ref CP)) (cr : ClX.CRead K CP mc) (sm : SMet K CP mc "read" ps pg)
    (FR : FnOk P w K mg base (L2.CX P w) 295 pg gd ["text"] (spRead T CB CD CU CW CL)) (bR : Binds K gd ["text"] []) : FnOk P w K mg base CX0 296 f fd ["_law_text"] (spLRead T) := by
  refine F.own (k := 295) sc_law_read (fun vs H Q E h => ?_) (fun cdv A outer s H vs Q E hr h => ?_)
  · obtain ⟨z, rfl, _⟩ := h
    rfl
  obtain ⟨z, rfl, hL, hz, TK, ho, q1, q2⟩ := h
  have gR : Glb mg "RecordsError" (.ref CR) := ⟨_, X.mR, rfl⟩
  have gT : Glb mg "TooDeep" (.ref CT) := ⟨_, X.mT, rfl⟩
  have gP : Glb mg "Program" (.ref CP) := ⟨_, mgP, rfl⟩
  refine ⟨_, pss_one (ps_try_mas (i := 1) rfl rfl sc_law_read.nd rfl rfl takes0
    (fun W pn xe tk _ => pss_one (ps_ret (pe_tup (pa_cons pe_str (pa_cons (pe_smethS (pe_gc rfl gP) cr sm FR bR hr (fun σ => passAt tk σ) (pa_cons (pv 0) pa_nil)) pa_nil)))))
    (.cons ⟨rfl, by decide, .inl X.mB⟩ (fun a oe cls d pn hzc hf => pss_one (ps_ret (pe_tup (pa_cons pe_str (pa_cons (pe_xf X.xB X.aB hzc hf (pv 1)) (pa_cons (pe_and (pe_callB (call_isD X.cB hzc hf) (by rfl) B.isinstance (by decide +kernel) (pa_cons (pv 1) (pa_cons (pe_gc rfl gR) pa_nil))) (pe_one (pe_not (pe_callB (call_isD X.cB hzc hf) (by rfl) B.isinstance (by decide +kernel) (pa_cons (pv 1) (pa_cons (pe_gc rfl gT) pa_nil)))))) pa_nil))))))
    (.cons ⟨rfl, by decide, .inl X.mT⟩ (fun a oe cls d pn hzc hf => pss_one ps_never)
    (.cons ⟨rfl, by decide, .inl X.mD⟩ (fun a oe cls d pn hzc hf => pss_one (ps_ret (pe_tup (pa_cons pe_str (pa_cons (pe_xf X.xD X.nD hzc hf (pv 1)) (pa_cons (pe_xf X.xD X.aD hzc hf (pv 1)) (pa_cons (pe_callB (call_isD X.cD hzc hf) (by rfl) B.isinstance (by decide +kernel) (pa_cons (pv 1) (pa_cons (pe_gc rfl gR) pa_nil))) pa_nil)))))))
    (.cons ⟨rfl, by decide, .inl X.mU⟩ (fun a oe cls d pn hzc hf => pss_one (ps_ret (pe_tup (pa_cons pe_str (pa_cons (pe_xf X.xU X.nU hzc hf (pv 1)) (pa_cons (pe_xf X.xU X.aU hzc hf (pv 1)) (pa_cons (pe_callB (call_isD X.cU hzc hf) (by rfl) B.isinstance (by decide +kernel) (pa_cons (pv 1) (pa_cons (pe_gc rfl gR) pa_nil))) pa_nil)))))))
    (.cons ⟨rfl, by decide, .inl X.mW⟩ (fun a oe cls d pn hzc hf => pss_one (ps_ret (pe_tup (pa_cons pe_str (pa_cons (pe_xf X.xW X.nW hzc hf (pv 1)) (pa_cons (pe_xf X.xW X.aW hzc hf (pv 1)) (pa_cons (pe_callB (call_isD X.cW hzc hf) (by rfl) B.isinstance (by decide +kernel) (pa_cons (pv 1) (pa_cons (pe_gc rfl gR) pa_nil))) pa_nil)))))))
    (.cons ⟨rfl, by decide, .inl X.mL⟩ (fun a oe cls d pn hzc hf => pss_one (ps_ret (pe_tup (pa_cons pe_str (pa_cons (pe_xf X.xL X.nL hzc hf (pv 1)) (pa_cons (pe_callB (call_isD X.cL hzc hf) (by rfl) B.isinstance (by decide +kernel) (pa_cons (pv 1) (pa_cons (pe_gc rfl gR) pa_nil))) pa_nil))))))
    .nil))))))), ?_⟩
  refine ⟨rfl, _, rfl, z, rfl, hL, hz, TK, ho, fun x H1 s1 hrun => ⟨by show 2 ≤ sizeLine; decide, fun p hp => ?_⟩, fun cls d H1 s1 hx => ?_⟩
  · exact q2 p "program" [.ref x] _ hrun (s1.trans (same_new hp _)) upd_same (by decide +kernel) (by decide +kernel)
  rcases hx with ⟨j, t, hrun, ht, rfl, hx2⟩ | ⟨hrun, hcls, y, i, hx2⟩ | ⟨hrun, rfl, y, hx2⟩
  · refine ⟨true, X.eBB, fun _ a ha => ?_, (fun q => nomatch q)⟩
    refine ⟨_, rfl, rfl, rfl, d, _, _, rfl, hx2, lk1 _, _, rfl, rfl, ⟨d, _, rfl, hx2⟩, _, .ref CR, true, rfl, (fun u h => h), X.kB, true, rfl, iteT ⟨_, rfl, rfl, ⟨d, _, rfl, hx2⟩, _, .ref CT, false, rfl, (fun u h => h), X.kBT, false, rfl, by show 3 ≤ sizeLine; decide, fun p hp => ?_⟩⟩
    exact q1 j t p _ hrun ht (s1.trans (same_new hp _)) upd_same
  · rcases hcls with rfl | rfl | rfl
    · refine ⟨false, X.eDB, (fun q => nomatch q), fun _ => ⟨false, X.eDT, (fun q => nomatch q), fun _ => ⟨true, X.eDD, fun _ a ha => ?_, (fun q => nomatch q)⟩⟩⟩
      refine ⟨_, rfl, rfl, rfl, d, _, _, rfl, hx2, lk3 _ _, _, rfl, rfl, rfl, d, _, _, rfl, hx2, lk2 _ _, _, rfl, rfl, ⟨d, _, rfl, hx2⟩, _, .ref CR, true, rfl, (fun u h => h), X.kD, by show 4 ≤ sizeLine; decide, fun p hp => ?_⟩
      exact q2 p "double" _ _ hrun (s1.trans (same_new hp _)) upd_same (by decide +kernel) (by decide +kernel)
    · refine ⟨false, X.eUB, (fun q => nomatch q), fun _ => ⟨false, X.eUT, (fun q => nomatch q), fun _ => ⟨false, X.eUD, (fun q => nomatch q), fun _ => ⟨true, X.eUU, fun _ a ha => ?_, (fun q => nomatch q)⟩⟩⟩⟩
      refine ⟨_, rfl, rfl, rfl, d, _, _, rfl, hx2, lk3 _ _, _, rfl, rfl, rfl, d, _, _, rfl, hx2, lk2 _ _, _, rfl, rfl, ⟨d, _, rfl, hx2⟩, _, .ref CR, true, rfl, (fun u h => h), X.kU, by show 4 ≤ sizeLine; decide, fun p hp => ?_⟩
      exact q2 p "unknown" _ _ hrun (s1.trans (same_new hp _)) upd_same (by decide +kernel) (by decide +kernel)
    · refine ⟨false, X.eWB, (fun q => nomatch q), fun _ => ⟨false, X.eWT, (fun q => nomatch q), fun _ => ⟨false, X.eWD, (fun q => nomatch q), fun _ => ⟨false, X.eWU, (fun q => nomatch q), fun _ => ⟨true, X.eWW, fun _ a ha => ?_, (fun q => nomatch q)⟩⟩⟩⟩⟩
      refine ⟨_, rfl, rfl, rfl, d, _, _, rfl, hx2, lk3 _ _, _, rfl, rfl, rfl, d, _, _, rfl, hx2, lk2 _ _, _, rfl, rfl, ⟨d, _, rfl, hx2⟩, _, .ref CR, true, rfl, (fun u h => h), X.kW, by show 4 ≤ sizeLine; decide, fun p hp => ?_⟩
      exact q2 p "count" _ _ hrun (s1.trans (same_new hp _)) upd_same (by decide +kernel) (by decide +kernel)
  · refine ⟨false, X.eLB, (fun q => nomatch q), fun _ => ⟨false, X.eLT, (fun q => nomatch q), fun _ => ⟨false, X.eLD, (fun q => nomatch q), fun _ => ⟨false, X.eLU, (fun q => nomatch q), fun _ => ⟨false, X.eLW, (fun q => nomatch q), fun _ => ⟨true, X.eLL, fun _ a ha => ?_, (fun q => nomatch q)⟩⟩⟩⟩⟩⟩
    refine ⟨_, rfl, rfl, rfl, d, _, _, rfl, hx2, lk4 _, _, rfl, rfl, ⟨d, _, rfl, hx2⟩, _, .ref CR, true, rfl, (fun u h => h), X.kL, by show 3 ≤ sizeLine; decide, fun p hp => ?_⟩
    exact q2 p "large" _ _ hrun (s1.trans (same_new hp _)) upd_same (by decide +kernel) (by decide +kernel)
end
end GR
set_option Elab.async false
set_option linter.all false
set_option maxRecDepth 100000
set_option maxHeartbeats 4000000
namespace GR
open PySem PySem.Spec PyProof.Rows L2
section
variable {P : Program} {w : World} {K : PySem.W.Frag} {Wd : Str → Prop} {mg : Str → Option Value} {base : Heap} {CC CB aR aS : Addr} {T : Toks} {f : Addr} {fd : FuncData} {n : Nat}
theorem pmA : (0 : Int) < 2147483647 := by decide
theorem pmB : (0 : Int) < 2147483629 := by decide
theorem pmC : (0 : Int) < 720720 := by decide
theorem pmD : (0 : Int) < 26 := by decide
theorem seq0 (n : Nat) : seqIndex? 0 (n + 1) = some 0 := by unfold seqIndex?; simp
def TapeAt (H : Hp) (t : Addr) : Prop := ∃ ns : List Int, H t = some (.lst (ns.map V.int))
theorem TapeAt.rd {H : Hp} {t : Addr} (h : TapeAt H t) : ∀ xs, ¬ Rd H t (.tup xs) := let ⟨_, h⟩ := h; rd_lst h
theorem TapeAt.same {H H' : Hp} {t : Addr} (h : TapeAt H t) (s : Same H H') : TapeAt H' t := let ⟨ns, h⟩ := h; ⟨ns, s _ _ h⟩
theorem TapeAt.ne {H : Hp} {t p : Addr} (h : TapeAt H t) (hp : H p = none) : p ≠ t := fun z => by
  obtain ⟨ns, h⟩ := h
  rw [z, h] at hp
  cases hp
def spCell (K : PySem.W.Frag) : Sp := fun vs H Q _ => ∃ (a : Addr) (ns : List Int) (k : Nat), vs = [.ref a, .int (k : Int)] ∧ SqL K H a (ns.map V.int) ∧ ∀ z : Int, Q (.int z) H
abbrev s_law_cell : Stmt := top 52
abbrev n_law_cell : List Str := ["_law_script", "_law_k"]
theorem sc_law_cell : FnScope n_law_cell ["_law_script", "_law_k"] (defScope s_law_cell) := ⟨rfl, rfl, rfl, by decide +kernel, rfl, by decide +kernel, by decide +kernel⟩
-- slots of _law_cell: 0 _law_script, 1 _law_k
theorem ok_law_cell (F : Fun K "_law_cell" "_law_cell" s_law_cell f fd) (B : Blt mg) : FnOk P w K mg base CX0 1 f fd ["_law_script", "_law_k"] (spCell K) := by
  refine F.own sc_law_cell (fun vs H Q E h => ?_) (fun cdv A outer s H vs Q E hr h => ?_)
  · obtain ⟨a, ns, k, rfl, _⟩ := h
    rfl
  obtain ⟨a, ns, k, rfl, ha, q⟩ := h
  refine ⟨_, (pss_cons (ps_if (pt_cmpR op_lt (pv 1) (pe_callB call_len_seq (by rfl) B.len PySem.boot_len (pa_cons (pv 0) pa_nil)) (nomark _))
    (pss_one (ps_ret (pe_ix ix_list (pv 0) (pv 1) (fun _ _ => rfl)))) pss_nil) (pss_one (ps_ret pe_int))), ?_⟩
  refine ⟨_, rfl, _, rfl, a, _, rfl, .inl ha, _, _, rfl, rfl, _, rfl, ?_⟩
  refine ite2 (fun c => ?_) fun c => q 0
  have c' := of_decide_eq_true c
  rw [List.length_map] at c'
  have hk : k < ns.length := by omega
  exact ⟨_, rfl, _, rfl, a, _, _, .int ns[k], rfl, rfl, ha, atI_nat (by rw [List.getElem?_map, List.getElem?_eq_getElem hk]; rfl), q _⟩
def spMixed : Sp := fun vs H Q _ => ∃ (c k : Int), vs = [.int c, .int k] ∧ ∀ z : Int, 0 ≤ z → z < 720720 → Q (.int z) H
abbrev s_law_mixed : Stmt := top 53
abbrev n_law_mixed : List Str := ["_law_cell_here", "_law_k", "_law_first", "_law_second"]
theorem sc_law_mixed : FnScope n_law_mixed ["_law_cell_here", "_law_k"] (defScope s_law_mixed) := ⟨rfl, rfl, rfl, by decide +kernel, rfl, by decide +kernel, by decide +kernel⟩
-- slots of _law_mixed: 0 _law_cell_here, 1 _law_k, 2 _law_first, 3 _law_second
theorem ok_law_mixed (F : Fun K "_law_mixed" "_law_mixed" s_law_mixed f fd) (B : Blt mg) : FnOk P w K mg base CX0 1 f fd ["_law_cell_here", "_law_k"] spMixed := by
  refine F.own sc_law_mixed (fun vs H Q E h => ?_) (fun cdv A outer s H vs Q E hr h => ?_)
  · obtain ⟨c, k, rfl, _⟩ := h
    rfl
  obtain ⟨c, k, rfl, q⟩ := h
  refine ⟨_, (pss_cons (ps_set (i := 2) sc_law_mixed.nd rfl (by first | exact Or.inl rfl | exact Or.inr rfl) (pe_op op_mod (pe_callTy call_int1 (by rfl) B.int (by decide +kernel) (pa_cons (pe_op op_add (pe_op op_add (pe_op op_mul (pv 0) pe_int) (pe_op op_mul (pv 1) pe_int)) pe_int) pa_nil)) pe_int)) (pss_cons (ps_set (i := 3) sc_law_mixed.nd rfl (by first | exact Or.inl rfl | exact Or.inr rfl) (pe_op op_mod (pe_callTy call_int1 (by rfl) B.int (by decide +kernel) (pa_cons (pe_op op_add (pe_op op_add (pe_op op_mul (pv 2) (pv 2)) (pe_op op_mul pe_int (pv 2))) (pe_op op_mul (pv 1) pe_int)) pa_nil)) pe_int)) (pss_one (ps_ret (pe_op op_mod (pe_callTy call_int1 (by rfl) B.int (by decide +kernel) (pa_cons (pv 3) pa_nil)) pe_int))))), ?_⟩
  refine ⟨_, rfl, _, _, rfl, rfl, .inr ⟨by decide, by decide⟩, _, rfl, _, _, rfl, rfl, .inr ⟨by decide, by decide⟩, _, _, rfl, rfl, _, _, rfl, rfl, .inl ⟨_, rfl, _, _, rfl, rfl, pmA, ?_⟩⟩
  have hb1 := Int.emod_nonneg (c * 48271 + k * 69621 + 7) (show (2147483647 : Int) ≠ 0 by decide)
  have hb2 := Int.emod_lt_of_pos (c * 48271 + k * 69621 + 7) (show (0 : Int) < 2147483647 by decide)
  generalize (c * 48271 + k * 69621 + 7) % 2147483647 = x at hb1 hb2 ⊢
  refine ⟨_, rfl, _, rfl, _, _, rfl, rfl, .inl ⟨by omega, by omega⟩, _, rfl, _, _, rfl, rfl, .inl ⟨by decide, by decide⟩, _, _, rfl, rfl, _, rfl, _, _, rfl, rfl, .inr ⟨by decide, by decide⟩, _, _, rfl, rfl, .inl ⟨_, rfl, _, _, rfl, rfl, pmB, ?_⟩⟩
  refine ⟨_, rfl, .inl ⟨_, rfl, _, _, rfl, rfl, pmC, q _ (Int.emod_nonneg _ (by decide)) (Int.emod_lt_of_pos _ (by decide))⟩⟩
def spTape (K : PySem.W.Frag) : Sp := fun vs H Q _ => ∃ (g l : Int) (c : Nat), vs = [.int g, .int l, .int (c : Int)] ∧ c ≤ 1000 ∧ ∀ t H', Same H H' → H t = none → TapeAt H' t → Q (.ref t) H'
abbrev s_law_tape : Stmt := top 54
abbrev n_law_tape : List Str := ["_law_great", "_law_lesser", "_law_count", "_law_tape_here", "_law_rest", "_law_k", "_law_drawn"]
theorem sc_law_tape : FnScope n_law_tape ["_law_great", "_law_lesser", "_law_count"] (defScope s_law_tape) := ⟨rfl, rfl, rfl, by decide +kernel, rfl, by decide +kernel, by decide +kernel⟩
-- slots of _law_tape: 0 _law_great, 1 _law_lesser, 2 _law_count, 3 _law_tape_here, 4 _law_rest, 5 _law_k, 6 _law_drawn
theorem ok_law_tape (F : Fun K "_law_tape" "_law_tape" s_law_tape f fd) (B : Blt mg) (c__law_mixed : Cal P w K mg base CX0 1 "_law_mixed" ["_law_cell_here", "_law_k"] spMixed) : FnOk P w K mg base CX0 2 f fd ["_law_great", "_law_lesser", "_law_count"] (spTape K) := by
  refine F.own sc_law_tape (fun vs H Q E h => ?_) (fun cdv A outer s H vs Q E hr h => ?_)
  · obtain ⟨g, l, c, rfl, _⟩ := h
    rfl
  obtain ⟨g, l, c, rfl, hc, q⟩ := h
  refine ⟨_, (pss_cons (ps_set (i := 3) sc_law_tape.nd rfl (by first | exact Or.inl rfl | exact Or.inr rfl) (pe_lst pa_nil)) (pss_cons (ps_set (i := 4) sc_law_tape.nd rfl (by first | exact Or.inl rfl | exact Or.inr rfl) (pv 0)) (pss_cons (ps_for (PassesOwn.never) rfl (pi_range1 (by rfl) B.range (pa_cons (pv 2) pa_nil)) (pg_name (i := 5) sc_law_tape.nd rfl (by first | exact Or.inl rfl | exact Or.inr rfl))
    (pss_cons (ps_set (i := 6) sc_law_tape.nd rfl (by first | exact Or.inl rfl | exact Or.inr rfl) (pe_c0 c__law_mixed hr (by omega) rfl (pa_cons (pv 1) (pa_cons (pv 5) pa_nil)))) (pss_cons (ps_if (pt_cmpR op_ge (pv 0) (pe_op op_pow pe_int pe_int) (nomark _))
    (pss_cons (ps_set (i := 6) sc_law_tape.nd rfl (by first | exact Or.inl rfl | exact Or.inr rfl) (pe_op op_add (pv 6) (pe_op op_mod (pe_callTy call_int1 (by rfl) B.int (by decide +kernel) (pa_cons (pv 4) pa_nil)) pe_int))) (pss_one (ps_set (i := 4) sc_law_tape.nd rfl (by first | exact Or.inl rfl | exact Or.inr rfl) (pe_op op_fdiv (pv 4) pe_int)))) (pss_one (ps_set (i := 6) sc_law_tape.nd rfl (by first | exact Or.inl rfl | exact Or.inr rfl) (pe_op op_add (pv 6) (pe_c0 c__law_mixed hr (by omega) rfl (pa_cons (pv 0) (pa_cons (pe_op op_add (pv 5) pe_int) pa_nil))))))) (pss_one (ps_expr (pe_bm PySem.F.plainAttrs_list PySem.F.slot_list_append PySem.F.type_list_append mt_append (pv 3) (pa_cons (pe_op op_mod (pe_callTy call_int1 (by rfl) B.int (by decide +kernel) (pa_cons (pv 6) pa_nil)) pe_int) pa_nil))))))) (pss_one (ps_ret (pv 3)))))), ?_⟩
  refine ⟨(by show 0 ≤ sizeLine; decide), fun t ht => ?_⟩
  refine ⟨_, rfl, _, rfl, (c : Int), rfl, by omega, by omega, for_range (lo := 0) (n := (c : Int).toNat) (fun i σ' H' => (∃ (r : Int) (x y : Option V), σ' = [some (.int g), some (.int l), some (.int (c : Int)), some (.ref t), some (.int r), x, y]) ∧ (∃ ns : List Int, H' t = some (.lst (ns.map V.int)) ∧ ns.length = i) ∧ Stp t H H') ⟨⟨_, _, _, rfl⟩, ⟨[], upd_same, rfl⟩, Stp.of (same_new ht _)⟩ ?_ ?_⟩
  · rintro i σ' H' hi ⟨⟨r, x, y, rfl⟩, ⟨ns, hns, hnl⟩, st⟩
    have app : ∀ (D : Ends) (σ2 : L2.St) (d : Int), True := fun _ _ _ => trivial
    refine ⟨_, rfl, _, rfl, l, _, rfl, fun z hz0 hz1 => ?_⟩
    refine ⟨_, rfl, _, _, rfl, rfl, ⟨by decide, by decide, by decide⟩, _, _, rfl, rfl, _, rfl, ?_⟩
    refine ite2 (fun _ => ?_) fun _ => ?_
    · refine ⟨_, rfl, _, rfl, .inl ⟨_, rfl, _, _, rfl, rfl, pmC, _, _, rfl, rfl, ?_⟩⟩
      refine ⟨_, rfl, _, _, rfl, rfl, ⟨by decide, by decide⟩, ?_⟩
      exact ⟨_, rfl, .inl ⟨rfl, _, SqL.of hns⟩, _, rfl, .inl ⟨_, rfl, _, _, rfl, rfl, pmC, t, _, _, rfl, rfl, hns, sml1 (by rw [List.length_map]; omega), ⟨_, _, _, rfl⟩, ⟨ns ++ [_], by rw [upd_same, List.map_append]; rfl, by rw [List.length_append, hnl]; rfl⟩, fun u o nu eu => by rw [upd_ne nu]; exact st u o nu eu⟩⟩
    · refine ⟨_, rfl, _, rfl, _, rfl, _, _, rfl, rfl, g, _, rfl, fun z2 _ _ => ⟨_, _, rfl, rfl, ?_⟩⟩
      exact ⟨_, rfl, .inl ⟨rfl, _, SqL.of hns⟩, _, rfl, .inl ⟨_, rfl, _, _, rfl, rfl, pmC, t, _, _, rfl, rfl, hns, sml1 (by rw [List.length_map]; omega), ⟨_, _, _, rfl⟩, ⟨ns ++ [_], by rw [upd_same, List.map_append]; rfl, by rw [List.length_append, hnl]; rfl⟩, fun u o nu eu => by rw [upd_ne nu]; exact st u o nu eu⟩⟩
  · rintro σ' H' ⟨⟨r, x, y, rfl⟩, ⟨ns, hns, _⟩, st⟩
    exact ⟨_, rfl, q t H' (Stp.same st ht) ht ⟨ns, hns⟩⟩
def spTakeT : Sp := fun vs H Q _ => ∃ (t : Addr) (m : Int), vs = [.ref t, .int m] ∧ TapeAt H t ∧ 0 < m ∧ ∀ (z : Int) H', 0 ≤ z → z < m → Stp t H H' → TapeAt H' t → Q (.int z) H'
abbrev s_law_take : Stmt := top 55
abbrev n_law_take : List Str := ["_law_tape_here", "_law_many"]
theorem sc_law_take : FnScope n_law_take ["_law_tape_here", "_law_many"] (defScope s_law_take) := ⟨rfl, rfl, rfl, by decide +kernel, rfl, by decide +kernel, by decide +kernel⟩
-- slots of _law_take: 0 _law_tape_here, 1 _law_many
theorem ok_law_take (F : Fun K "_law_take" "_law_take" s_law_take f fd) (B : Blt mg) : FnOk P w K mg base CX0 1 f fd ["_law_tape_here", "_law_many"] spTakeT := by
  refine F.own sc_law_take (fun vs H Q E h => ?_) (fun cdv A outer s H vs Q E hr h => ?_)
  · obtain ⟨t, m, rfl, _⟩ := h
    rfl
  obtain ⟨t, m, rfl, ⟨ns, ht⟩, hm, q⟩ := h
  refine ⟨_, (pss_cons (ps_if (pt_not (pt_truth (pv 0) (by intro _; rfl)))
    (pss_one (ps_ret pe_int)) pss_nil) (pss_one (ps_ret (pe_op op_mod (pe_callTy call_int1 (by rfl) B.int (by decide +kernel) (pa_cons (pe_bm PySem.F.plainAttrs_list PySem.F.slot_list_pop PySem.F.type_list_pop mt_popAt (pv 0) (pa_cons pe_int pa_nil)) pa_nil)) (pv 1))))), ?_⟩
  refine ⟨_, rfl, !(ns.map V.int).isEmpty, .inl ⟨_, SqL.of ht, rfl⟩, ?_⟩
  cases ns with
  | nil => exact iteT (q 0 H (Int.le_refl 0) hm Stp.refl ⟨[], ht⟩)
  | cons x r =>
    refine if_f rfl ?_
    refine ⟨_, rfl, .inl ⟨rfl, _, SqL.of ht⟩, t, _, _, 0, .int x, rfl, rfl, ht, by decide, by decide, seq0 _, rfl, ?_⟩
    refine .inl ⟨_, rfl, _, rfl, _, _, rfl, rfl, hm, q _ _ (Int.emod_nonneg _ (by omega)) (Int.emod_lt_of_pos _ hm) (fun u o nu eu => by rw [upd_ne nu]; exact eu) ⟨r, ?_⟩⟩
    rw [upd_same]
    rfl
def spNumber' : Sp := fun vs H Q _ => ∃ (t : Addr), vs = [.ref t] ∧ TapeAt H t ∧ ∀ (n : Nat) H', n < 10 ^ 30 → Stp t H H' → TapeAt H' t → Q (.int (n : Int)) H'
abbrev s_law_number : Stmt := top 56
abbrev n_law_number : List Str := ["_law_tape_here", "_law_number_here", "_law_k"]
theorem sc_law_number : FnScope n_law_number ["_law_tape_here"] (defScope s_law_number) := ⟨rfl, rfl, rfl, by decide +kernel, rfl, by decide +kernel, by decide +kernel⟩
-- slots of _law_number: 0 _law_tape_here, 1 _law_number_here, 2 _law_k
theorem ok_law_number (F : Fun K "_law_number" "_law_number" s_law_number f fd) (B : Blt mg) (c__law_take : Cal P w K mg base CX0 1 "_law_take" ["_law_tape_here", "_law_many"] spTakeT) : FnOk P w K mg base CX0 2 f fd ["_law_tape_here"] spNumber' := by
  refine F.own sc_law_number (fun vs H Q E h => ?_) (fun cdv A outer s H vs Q E hr h => ?_)
  · obtain ⟨t, rfl, _⟩ := h
    rfl
  obtain ⟨t, rfl, ht, q⟩ := h
  refine ⟨_, (pss_cons (ps_if (pt_cmpR op_lt (pe_c0 c__law_take hr (by omega) rfl (pa_cons (pv 0) (pa_cons pe_int pa_nil))) pe_int (nomark _))
    (pss_one (ps_ret (pe_c0 c__law_take hr (by omega) rfl (pa_cons (pv 0) (pa_cons pe_int pa_nil))))) pss_nil) (pss_cons (ps_set (i := 1) sc_law_number.nd rfl (by first | exact Or.inl rfl | exact Or.inr rfl) pe_int) (pss_cons (ps_for (PassesOwn.never) rfl (pi_range1 (by rfl) B.range (pa_cons pe_int pa_nil)) (pg_name (i := 2) sc_law_number.nd rfl (by first | exact Or.inl rfl | exact Or.inr rfl))
    (pss_one (ps_set (i := 1) sc_law_number.nd rfl (by first | exact Or.inl rfl | exact Or.inr rfl) (pe_op op_add (pe_op op_mul (pv 1) pe_int) (pe_c0 c__law_take hr (by omega) rfl (pa_cons (pv 0) (pa_cons pe_int pa_nil))))))) (pss_one (ps_ret (pv 1)))))), ?_⟩
  refine ⟨_, rfl, t, 4, rfl, ht, by decide, fun z H1 hz0 hz1 s1 t1 => ⟨_, _, rfl, rfl, _, rfl, ?_⟩⟩
  refine ite2 (fun _ => ?_) fun _ => ?_
  · refine ⟨_, rfl, t, 10, rfl, t1, by decide, fun z2 H2 h0 h1 s2 t2 => ?_⟩
    have e : z2 = ((z2.toNat : Nat) : Int) := by omega
    rw [e]
    exact q _ _ (by have : z2.toNat < 10 := by omega
                    exact Nat.lt_of_lt_of_le this (by decide)) (s1.trans s2) t2
  · refine ⟨(5 : Int), rfl, by decide, by decide, for_range (lo := 0) (n := (5 : Int).toNat) (fun i σ' H' => (∃ (n : Nat) (x : Option V), σ' = [some (.ref t), some (.int (n : Int)), x] ∧ n < 720720 ^ i) ∧ Stp t H H' ∧ TapeAt H' t) ⟨⟨0, _, rfl, by decide⟩, s1, t1⟩ ?_ ?_⟩
    · rintro i σ' H' hi ⟨⟨n, x, rfl, hn⟩, s2, t2⟩
      refine ⟨_, rfl, _, _, rfl, rfl, .inr ⟨by decide, by decide⟩, _, rfl, t, 720720, rfl, t2, by decide, fun z3 H3 h0 h1 s3 t3 => ⟨_, _, rfl, rfl, ⟨n * 720720 + z3.toNat, some (.int (0 + (i : Int))), ?_, ?_⟩, s2.trans s3, t3⟩⟩
      · have e : (n : Int) * 720720 + z3 = ((n * 720720 + z3.toNat : Nat) : Int) := by omega
        show [some (V.ref t), some (V.int ((n : Int) * 720720 + z3)), some (V.int (0 + (i : Int)))] = _
        rw [e]
      · have : n + 1 ≤ 720720 ^ i := hn
        have h2 : (n + 1) * 720720 ≤ 720720 ^ i * 720720 := Nat.mul_le_mul_right _ this
        rw [Nat.pow_succ]
        omega
    · rintro σ' H' ⟨⟨n, x, rfl, hn⟩, s2, t2⟩
      exact ⟨_, rfl, q n H' (Nat.lt_of_lt_of_le hn (by decide)) s2 t2⟩
def spWord : Sp := fun vs H Q _ => ∃ (t : Addr), vs = [.ref t, .int 8] ∧ TapeAt H t ∧ ∀ (l : List Nat) H', l ≠ [] → l.length ≤ 8 → (∀ c ∈ l, c ∈ letters) → Stp t H H' → TapeAt H' t → Q (.str (SX.S l)) H'
theorem letters_len : letters.length = 26 := by decide +kernel
theorem len_S (l : List Nat) : (SX.S l).length = l.length := SX.S_len l
abbrev s_law_word : Stmt := top 57
abbrev n_law_word : List Str := ["_law_tape_here", "_law_longest", "_law_letters", "_law_size", "_law_word_here", "_law_drawn", "_law_k"]
theorem sc_law_word : FnScope n_law_word ["_law_tape_here", "_law_longest"] (defScope s_law_word) := ⟨rfl, rfl, rfl, by decide +kernel, rfl, by decide +kernel, by decide +kernel⟩
-- slots of _law_word: 0 _law_tape_here, 1 _law_longest, 2 _law_letters, 3 _law_size, 4 _law_word_here, 5 _law_drawn, 6 _law_k
theorem ok_law_word (F : Fun K "_law_word" "_law_word" s_law_word f fd) (B : Blt mg) (c__law_take : Cal P w K mg base CX0 1 "_law_take" ["_law_tape_here", "_law_many"] spTakeT) : FnOk P w K mg base CX0 2 f fd ["_law_tape_here", "_law_longest"] spWord := by
  refine F.own sc_law_word (fun vs H Q E h => ?_) (fun cdv A outer s H vs Q E hr h => ?_)
  · obtain ⟨t, rfl, _⟩ := h
    rfl
  obtain ⟨t, rfl, ht, q⟩ := h
  refine ⟨_, (pss_cons (ps_set (i := 2) sc_law_word.nd rfl (by first | exact Or.inl rfl | exact Or.inr rfl) pe_str) (pss_cons (ps_set (i := 3) sc_law_word.nd rfl (by first | exact Or.inl rfl | exact Or.inr rfl) (pe_op op_add pe_int (pe_c0 c__law_take hr (by omega) rfl (pa_cons (pv 0) (pa_cons (pv 1) pa_nil))))) (pss_cons (ps_set (i := 4) sc_law_word.nd rfl (by first | exact Or.inl rfl | exact Or.inr rfl) pe_str) (pss_cons (ps_while (PassesOwn.never) (pt_cmpR op_lt (pe_callB call_len_str (by rfl) B.len PySem.boot_len (pa_cons (pv 4) pa_nil)) (pv 3) (nomark _))
    (pss_cons (ps_set (i := 5) sc_law_word.nd rfl (by first | exact Or.inl rfl | exact Or.inr rfl) (pe_c0 c__law_take hr (by omega) rfl (pa_cons (pv 0) (pa_cons pe_int pa_nil)))) (pss_one (ps_for (PassesOwn.never) rfl (pi_range1 (by rfl) B.range (pa_cons pe_int pa_nil)) (pg_name (i := 6) sc_law_word.nd rfl (by first | exact Or.inl rfl | exact Or.inr rfl))
    (pss_cons (ps_set (i := 4) sc_law_word.nd rfl (by first | exact Or.inl rfl | exact Or.inr rfl) (pe_op op_add_str (pv 4) (pe_ix ix_str (pv 2) (pe_op op_mod (pe_callTy call_int1 (by rfl) B.int (by decide +kernel) (pa_cons (pv 5) pa_nil)) pe_int) (fun _ _ => rfl)))) (pss_one (ps_set (i := 5) sc_law_word.nd rfl (by first | exact Or.inl rfl | exact Or.inr rfl) (pe_op op_fdiv (pv 5) pe_int)))))))) (pss_one (ps_ret (pe_slice C8.sl_txt (pv 4) po_none (po_some (pv 3))))))))), ?_⟩
  refine ⟨_, rfl, _, rfl, t, 8, rfl, ht, by decide, fun z H1 hz0 hz1 s1 t1 => ⟨_, _, rfl, rfl, ?_⟩⟩
  refine ⟨fun m σ' H' => (∃ (l : List Nat) (x y : Option V), σ' = [some (.ref t), some (.int 8), some (.str lettersS), some (.int (1 + z)), some (.str (SX.S l)), x, y] ∧ (∀ c ∈ l, c ∈ letters) ∧ l.length ≤ 11 ∧ m = 20 - l.length) ∧ Stp t H H' ∧ TapeAt H' t, ⟨_, ⟨[], _, _, rfl, (fun c hc => nomatch hc), by decide, rfl⟩, s1, t1⟩, ?_⟩
  rintro m σ' H2 ⟨⟨l, x, y, rfl, hl, hll, rfl⟩, s2, t2⟩
  refine ⟨_, rfl, _, rfl, sml (by rw [len_S]; omega), _, rfl, _, _, rfl, rfl, _, rfl, ?_⟩
  rw [len_S]
  by_cases hlt : (l.length : Int) < 1 + z
  · refine if_t (decide_eq_true hlt) ⟨_, fun _ _ z => z, ?_⟩
    refine ⟨_, rfl, t, 720720, rfl, t2, by decide, fun z3 H3 h0 h1 s3 t3 => ?_⟩
    refine ⟨(4 : Int), rfl, by decide, by decide, for_range (lo := 0) (n := (4 : Int).toNat) (fun i σ' H' => (∃ (l2 : List Nat) (d : Int) (x : Option V), σ' = [some (.ref t), some (.int 8), some (.str lettersS), some (.int (1 + z)), some (.str (SX.S l2)), some (.int d), x] ∧ (∀ c ∈ l2, c ∈ letters) ∧ l2.length = l.length + i) ∧ H' = H3) ⟨⟨l, _, _, rfl, hl, rfl⟩, rfl⟩ ?_ ?_⟩
    · rintro i σ' H' hi ⟨⟨l2, d, x, rfl, hl2, hln⟩, rfl⟩
      have d0 := Int.emod_nonneg d (show (26 : Int) ≠ 0 by decide)
      have d1 := Int.emod_lt_of_pos d (show (0 : Int) < 26 by decide)
      have hk : (d % 26).toNat < letters.length := by rw [letters_len]; omega
      have hat : atI letters (d % 26) = some letters[(d % 26).toNat] := by
        have h := atI_nat (List.getElem?_eq_getElem hk)
        rwa [show (((d % 26).toNat : Nat) : Int) = d % 26 by omega] at h
      have hi4 : i < 4 := hi
      refine ⟨_, rfl, _, rfl, _, rfl, .inl ⟨_, rfl, _, _, rfl, rfl, pmD, lettersS, _, _, rfl, rfl, by decide, hat, _, _, rfl, rfl, sml (by rw [len_S]; show l2.length + 1 ≤ 10000; omega), ?_⟩⟩
      rw [show (SX.S l2 ++ (⟨#[letters[(d % 26).toNat]]⟩ : Str)) = SX.S (l2 ++ [letters[(d % 26).toNat]]) from SX.S_cat l2 [letters[(d % 26).toNat]]]
      refine ⟨_, rfl, _, _, rfl, rfl, ⟨by decide, by decide⟩, ⟨l2 ++ [letters[(d % 26).toNat]], _, _, rfl, fun c hc => ?_, by rw [List.length_append, hln]; rfl⟩, rfl⟩
      rcases List.mem_append.mp hc with hc | hc
      · exact hl2 c hc
      · rw [List.mem_singleton.mp hc]
        exact List.getElem_mem hk
    · rintro σ' H' ⟨⟨l2, d, x, rfl, hl2, hln⟩, rfl⟩
      have hln4 : l2.length = l.length + 4 := hln
      exact ⟨20 - l2.length, by omega, ⟨l2, _, _, rfl, hl2, by omega, rfl⟩, s2.trans s3, t3⟩
  · refine if_f (decide_eq_false hlt) ⟨_, rfl, _, rfl, _, rfl, SX.S l, rfl, sml (by rw [len_S]; omega), ?_⟩
    rw [SX.slice_to (by omega)]
    refine q _ _ (fun e => ?_) (by rw [List.length_take]; omega) (fun c hc => hl c (List.mem_of_mem_take hc)) s2 t2
    have := congrArg List.length e
    rw [List.length_take, List.length_nil] at this
    omega
end
end GR
set_option Elab.async false
set_option linter.all false
set_option maxRecDepth 100000
set_option maxHeartbeats 4000000
namespace GR
open PySem PySem.Spec PyProof.Rows L2
section
variable {P : Program} {w : World} {K : PySem.W.Frag} {Wd : Str → Prop} {mg : Str → Option Value} {base : Heap} {CC CB aR aS : Addr} {T : Toks} {f : Addr} {fd : FuncData} {n : Nat}
/-- a word that is a name -/
def NameOk (z : Str) : Prop := ∃ l : List Nat, z = SX.S l ∧ l ≠ [] ∧ l.length ≤ 8 ∧ (∀ c ∈ l, c ∈ letters) ∧ z ∉ kept
theorem no_q : ∀ x ∈ kept, (113 : Nat) ∉ x.cps.toList := by decide +kernel
theorem q_in : (113 : Nat) ∈ letters := by decide +kernel
theorem letters_nd : letters.Nodup := by decide +kernel
/-- a name with the end c -/
def cand (l : List Nat) (c : Nat) : Str := SX.S (l.take 6 ++ [113] ++ [c])
theorem cand_inj {l : List Nat} {c d : Nat} (h : cand l c = cand l d) : c = d := by
  have := SX.S_inj h
  have e := List.append_cancel_left this
  exact List.head_eq_of_cons_eq e
theorem cand_ok {l : List Nat} {c : Nat} (h : ∀ x ∈ l, x ∈ letters) (hc : c ∈ letters) : NameOk (cand l c) := by
  refine ⟨_, rfl, by simp, ?_, fun x hx => ?_, fun hk => ?_⟩
  · rw [List.length_append, List.length_append, List.length_take, List.length_singleton, List.length_singleton]
    omega
  · rcases List.mem_append.mp hx with hx | hx
    · rcases List.mem_append.mp hx with hx | hx
      · exact h x (List.mem_of_mem_take hx)
      · rw [List.mem_singleton.mp hx]; exact q_in
    · rw [List.mem_singleton.mp hx]; exact hc
  · refine no_q _ hk ?_
    show 113 ∈ (l.take 6 ++ [113] ++ [c]).toArray.toList
    simp
/-- one of the ends is free -/
theorem ends_ne {l : List Nat} {ws : List Str} (h : ws.length ≤ 7) : letters.filter (fun c => !decide (cand l c ∈ ws)) ≠ [] := by
  intro e
  have all : ∀ c ∈ letters, cand l c ∈ ws := fun c hc => by
    cases hd : decide (cand l c ∈ ws) with
    | true => exact of_decide_eq_true hd
    | false =>
      have : c ∈ letters.filter (fun c => !decide (cand l c ∈ ws)) := List.mem_filter.mpr ⟨hc, by rw [hd]; rfl⟩
      rw [e] at this
      cases this
  have nd : (letters.map (cand l)).Nodup := by
    rw [List.nodup_iff_pairwise_ne]
    refine List.Pairwise.map _ (fun (a b : Nat) (hab : a ≠ b) => ?_) (List.nodup_iff_pairwise_ne.mp letters_nd)
    exact fun z => hab (cand_inj z)
  have := nodup_len nd fun x hx => by
    obtain ⟨c, hc, rfl⟩ := List.mem_map.mp hx
    exact all c hc
  rw [List.length_map, letters_len] at this
  omega
def chr1 (c : Nat) : V := .str ⟨#[c]⟩
def spWords (K : PySem.W.Frag) : Sp := fun vs H Q _ => ∃ (t e : Addr), vs = [.ref t, .int 8, .ref e] ∧ TapeAt H t ∧ H e = some (.lst []) ∧ t ≠ e ∧ ∀ (p : Addr) (ws : List Str) H', Stp t H H' → TapeAt H' t → H p = none → H' p = some (.lst (ws.map V.str)) → ws.length = 8 → (∀ z ∈ ws, NameOk z) → Q (.ref p) H'
abbrev s_law_words : Stmt := top 58
abbrev n_law_words : List Str := ["_law_tape_here", "_law_many", "_law_taken", "_law_reserved", "_law_words_here", "_law_k", "_law_word_here", "_law_barred", "_law_ends", "_law_letter"]
theorem sc_law_words : FnScope n_law_words ["_law_tape_here", "_law_many", "_law_taken"] (defScope s_law_words) := ⟨rfl, rfl, rfl, by decide +kernel, rfl, by decide +kernel, by decide +kernel⟩
-- slots of _law_words: 0 _law_tape_here, 1 _law_many, 2 _law_taken, 3 _law_reserved, 4 _law_words_here, 5 _law_k, 6 _law_word_here, 7 _law_barred, 8 _law_ends, 9 _law_letter
theorem ok_law_words (F : Fun K "_law_words" "_law_words" s_law_words f fd) (B : Blt mg) (c__law_word : Cal P w K mg base CX0 2 "_law_word" ["_law_tape_here", "_law_longest"] spWord) : FnOk P w K mg base CX0 3 f fd ["_law_tape_here", "_law_many", "_law_taken"] (spWords K) := by
  refine F.own sc_law_words (fun vs H Q E h => ?_) (fun cdv A outer s H vs Q E hr h => ?_)
  · obtain ⟨t, e, rfl, _⟩ := h
    rfl
  obtain ⟨t, e, rfl, ht, he, hte, q⟩ := h
  refine ⟨_, (pss_cons (ps_set (i := 3) sc_law_words.nd rfl (by first | exact Or.inl rfl | exact Or.inr rfl) (pe_lst (pa_strs _ (by rfl)))) (pss_cons (ps_set (i := 3) sc_law_words.nd rfl (by first | exact Or.inl rfl | exact Or.inr rfl) (pe_op op_cat (pv 3) (pe_lst (pa_strs _ (by rfl))))) (pss_cons (ps_set (i := 4) sc_law_words.nd rfl (by first | exact Or.inl rfl | exact Or.inr rfl) (pe_lst pa_nil)) (pss_cons (ps_for (PassesOwn.never) rfl (pi_range1 (by rfl) B.range (pa_cons (pv 1) pa_nil)) (pg_name (i := 5) sc_law_words.nd rfl (by first | exact Or.inl rfl | exact Or.inr rfl))
    (pss_cons (ps_set (i := 6) sc_law_words.nd rfl (by first | exact Or.inl rfl | exact Or.inr rfl) (pe_c0 c__law_word hr (by omega) rfl (pa_cons (pv 0) (pa_cons pe_int pa_nil)))) (pss_cons (ps_if (PW.pt (pw_or (pt_cmpR op_in_seq (pv 6) (pv 3) rfl) (pw_or (pt_cmpR op_in_seq (pv 6) (pv 4) rfl) (pw_or1 (pt_cmpR op_in_seq (pv 6) (pv 2) rfl)))))
    (pss_cons (ps_set (i := 7) sc_law_words.nd rfl (by first | exact Or.inl rfl | exact Or.inr rfl) (pe_op op_cat (pv 4) (pv 2))) (pss_cons (ps_setLc (i := 8) (own := [("_law_letter", 9)]) (g := (gName 9)) (tt := (tTest (tOp (rIn K true) _ _))) (by rfl) sc_law_words.nd rfl rfl (sw_true rfl rfl rfl (by decide +kernel)) (pi_str pe_str) (blkOk_by (own := [("_law_letter", 9)]) (N := n_law_words) (sc := (defScope s_law_words)) (by decide +kernel)) (fun _ _ _ _ _ => (pg_name (i := 9) sc_law_words.nd rfl (by first | exact Or.inl rfl | exact Or.inr rfl))) (fun _ _ _ _ _ => (pts_one (pt_cmpR op_notIn_seq (pe_op op_add_str (pe_op op_add_str (pe_slice C8.sl_txt (pv 6) po_none (po_some pe_int)) pe_str) (pv 9)) (pv 7) rfl))) (fun _ _ _ _ _ => (pv 9))) (pss_one (ps_set (i := 6) sc_law_words.nd rfl (by first | exact Or.inl rfl | exact Or.inr rfl) (pe_op op_add_str (pe_op op_add_str (pe_slice C8.sl_txt (pv 6) po_none (po_some pe_int)) pe_str) (pe_ix ix_list (pv 8) pe_int (fun _ _ => rfl))))))) pss_nil) (pss_one (ps_expr (pe_bm PySem.F.plainAttrs_list PySem.F.slot_list_append PySem.F.type_list_append mt_append (pv 4) (pa_cons (pv 6) pa_nil))))))) (pss_one (ps_ret (pv 4))))))), ?_⟩
  have ex1 : ∀ l : List Nat, Txt.slice (SX.S l) none (some 6) = SX.S (l.take 6) := fun l => SX.slice_to (by decide)
  have ex2 : ∀ l : List Nat, (Txt.slice (SX.S l) none (some 6) ++ ("q" : Str)) = SX.S (l.take 6 ++ [113]) := fun l => by rw [ex1, show ("q" : Str) = SX.S [113] by decide +kernel, SX.S_cat]
  have ex3 : ∀ (l : List Nat) (c : Nat), (Txt.slice (SX.S l) none (some 6) ++ ("q" : Str) ++ (⟨#[c]⟩ : Str)) = cand l c := fun l c => by rw [ex2, show (⟨#[c]⟩ : Str) = SX.S [c] from rfl, SX.S_cat]; rfl
  refine ⟨(by show 14 ≤ sizeLine; decide), fun p1 hp1 => ?_⟩
  refine ⟨_, rfl, (by show 4 ≤ sizeLine; decide), fun p2 hp2 => ⟨p1, p2, _, _, rfl, rfl, same_new hp2 _ _ _ upd_same, upd_same, (by show 18 ≤ sizeLine; decide), fun p3 hp3 => ?_⟩⟩
  refine ⟨(by show 0 ≤ sizeLine; decide), fun p4 hp4 => ?_⟩
  have s1 := same_new hp1 (.lst ((["add", "and", "cut", "def", "drop", "else", "has", "if", "in", "is", "let", "not", "only", "put"] : List Str).map V.str))
  have s2 := s1.trans (same_new hp2 (.lst ((["record", "rename", "then", "to"] : List Str).map V.str)))
  have s3 := s2.trans (same_new hp3 (.lst (kept.map V.str)))
  have s04 := s3.trans (same_new hp4 (.lst []))
  have hn4 : H p4 = none := s3.free hp4
  have hn3 : H p3 = none := s2.free hp3
  have n4t : p4 ≠ t := ht.ne hn4
  have n3t : p3 ≠ t := ht.ne hn3
  have n34 : p3 ≠ p4 := ne_of_none upd_same hp4
  have ne4 : e ≠ p4 := ne_of_none he hn4
  refine ⟨_, rfl, (8 : Int), rfl, by decide, by decide, for_range (lo := 0) (n := (8 : Int).toNat) (fun i σ' H' => (∃ x5 x6 x7 x8 x9, σ' = [some (.ref t), some (.int 8), some (.ref e), some (.ref p3), some (.ref p4), x5, x6, x7, x8, x9]) ∧ (∃ ws : List Str, H' p4 = some (.lst (ws.map V.str)) ∧ ws.length = i ∧ ∀ z ∈ ws, NameOk z) ∧ Stp t H H' ∧ TapeAt H' t ∧ H' p3 = some (.lst (kept.map V.str)) ∧ H' e = some (.lst [])) ?_ ?_ ?_⟩
  · refine ⟨⟨_, _, _, _, _, rfl⟩, ⟨[], upd_same, rfl, (fun z hz => nomatch hz)⟩, Stp.of s04, ht.same s04, ?_, s04 _ _ he⟩
    exact same_new hp4 _ _ _ upd_same
  · rintro i σ' H' hi ⟨⟨x5, x6, x7, x8, x9, rfl⟩, ⟨ws, h4, hwl, hws⟩, st, tt, h3, he2⟩
    have hi8 : i < 8 := hi
    refine ⟨_, rfl, t, rfl, tt, fun l H1 hlne hl8 hl s1 t1 => ?_⟩
    have h4' := s1 _ _ n4t h4
    have h3' := s1 _ _ n3t h3
    have he1 := s1 _ _ (Ne.symm hte) he2
    refine ⟨_, rfl, _, rfl, p3, _, rfl, .inl (SqL.of h3'), rfl, flatStr kept, _, rfl, ?_⟩
    by_cases c1 : SX.S l ∈ kept
    · refine if_t (show inV (V.str (SX.S l)) (kept.map V.str) = true by rw [inStr]; exact decide_eq_true c1) (iteT ?_)
      refine ⟨_, rfl, _, rfl, p4, e, _, _, rfl, rfl, h4', he1, sml (by rw [List.length_map]; show ws.length + 0 ≤ 10000; omega), fun p5 hp5 => ?_⟩
      have s5 := same_new hp5 (.lst (ws.map V.str ++ []))
      have hp5' : SqL K (L2.upd H1 p5 (.lst (ws.map V.str ++ []))) p5 (ws.map V.str) := by
        refine SqL.of ?_
        rw [upd_same, List.append_nil]
      generalize L2.upd H1 p5 (.lst (ws.map V.str ++ [])) = H5 at s5 hp5' ⊢
      refine ⟨lettersS, rfl, fun D hD => lc_it (walk_str (z := lettersS)) (fun j H2 => ∃ acc : List Nat, H2 D = some (.lst (acc.map chr1)) ∧ acc = (letters.take j).filter (fun c => !decide (cand l c ∈ ws)) ∧ Stp D H5 H2) ⟨[], upd_same, rfl, Stp.of (same_new hD _)⟩ (fun _ _ _ _ => trivial) ?_ ?_⟩
      · rintro j x H2 H3 hj ⟨acc, hac, hae, st2⟩ ⟨rfl, c, hc, rfl⟩
        have s2 := Stp.same st2 hD
        have hcl : letters[j]? = some c := by
          have : lettersS.cps.toList[j]? = some c := by rw [Array.getElem?_toList]; exact hc
          exact this
        have hal : acc.length ≤ 26 := by
          rw [hae]
          have h1 := List.length_filter_le (fun c => !decide (cand l c ∈ ws)) (letters.take j)
          rw [List.length_take, letters_len] at h1
          omega
        have htk : letters.take (j + 1) = letters.take j ++ [c] := by rw [List.take_succ, hcl]; rfl
        refine ⟨rfl, _, rfl, _, rfl, SX.S l, rfl, sml (by rw [len_S]; omega), _, _, rfl, rfl, ?_, _, rfl, _, _, rfl, rfl, ?_, _, rfl, p5, _, rfl, .inl (s2.seq hp5'), rfl, flatStr ws, _, rfl, ?_⟩
        · rw [ex1 l]
          exact sml (by rw [len_S, List.length_take]; show min 6 l.length + 1 ≤ 10000; omega)
        · rw [ex2 l]
          exact sml (by rw [len_S, List.length_append, List.length_take]; show min 6 l.length + 1 + 1 ≤ 10000; omega)
        rw [ex3 l c]
        by_cases hb : cand l c ∈ ws
        · refine if_f (show (!inV (V.str (cand l c)) (ws.map V.str)) = false by rw [inStr, decide_eq_true hb]; rfl) ⟨acc, hac, ?_, st2⟩
          rw [htk, List.filter_append, ← hae, List.filter_cons, if_neg (by rw [decide_eq_true hb]; decide)]
          exact (List.append_nil _).symm
        · refine if_t (show (!inV (V.str (cand l c)) (ws.map V.str)) = true by rw [inStr, decide_eq_false hb]; rfl) ⟨_, rfl, _, hac, sml1 (by rw [List.length_map]; omega), acc ++ [c], by rw [upd_same, List.map_append]; rfl, ?_, fun u o nu eu => by rw [upd_ne nu]; exact st2 u o nu eu⟩
          rw [htk, List.filter_append, ← hae, List.filter_cons, if_pos (by rw [decide_eq_false hb]; decide)]
          rfl
      · rintro H2 ⟨acc, hac, hae, st2⟩
        have s2 := Stp.same st2 hD
        have hne2 : acc ≠ [] := by
          rw [hae, show letters.take lettersS.cps.size = letters from List.take_of_length_le (by rw [letters_len]; decide)]
          exact ends_ne (by omega)
        have hcl : ∀ c ∈ acc, c ∈ letters := fun c hc => by
          rw [hae] at hc
          exact List.mem_of_mem_take (List.mem_filter.mp hc).1
        obtain ⟨c0, r0, rfl⟩ : ∃ c r, acc = c :: r := by
          cases acc with
          | nil => exact absurd rfl hne2
          | cons c r => exact ⟨c, r, rfl⟩
        refine ⟨_, rfl, _, rfl, SX.S l, rfl, sml (by rw [len_S]; omega), _, _, rfl, rfl, ?_, _, rfl, D, _, _, chr1 c0, rfl, rfl, SqL.of hac, atI_nat (j := 0) rfl, _, _, rfl, rfl, ?_, ?_⟩
        · rw [ex1 l]
          exact sml (by rw [len_S, List.length_take]; show min 6 l.length + 1 ≤ 10000; omega)
        · rw [ex2 l]
          exact sml (by rw [len_S, List.length_append, List.length_take]; show min 6 l.length + 1 + 1 ≤ 10000; omega)
        rw [ex3 l c0]
        have s52 := s5.trans s2
        have h4'' := s52 _ _ h4'
        refine ⟨_, rfl, .inl ⟨rfl, _, SqL.of h4''⟩, _, rfl, p4, _, _, rfl, rfl, h4'', sml1 (by rw [List.length_map]; omega), ⟨_, _, _, _, _, rfl⟩, ⟨ws ++ [cand l c0], by rw [upd_same, List.map_append]; rfl, by rw [List.length_append, hwl]; rfl, fun z hz => ?_⟩, fun u o nu eu => ?_, ?_, ?_, ?_⟩
        · rcases List.mem_append.mp hz with hz | hz
          · exact hws z hz
          · rw [List.mem_singleton.mp hz]
            exact cand_ok hl (hcl c0 (List.mem_cons_self ..))
        · rw [upd_ne (ne_of_none eu hn4)]
          exact s52 _ _ (s1 _ _ nu (st u o nu eu))
        · obtain ⟨ns, hns⟩ := t1
          exact ⟨ns, by rw [upd_ne n4t.symm]; exact s52 _ _ hns⟩
        · rw [upd_ne n34]
          exact s52 _ _ (s1 _ _ n3t h3)
        · rw [upd_ne ne4]
          exact s52 _ _ he1
    refine if_f (show inV (V.str (SX.S l)) (kept.map V.str) = false by rw [inStr]; exact decide_eq_false c1) ?_
    refine ⟨_, rfl, _, rfl, p4, _, rfl, .inl (SqL.of h4'), rfl, flatStr ws, _, rfl, ?_⟩
    by_cases c2 : SX.S l ∈ ws
    · refine if_t (show inV (V.str (SX.S l)) (ws.map V.str) = true by rw [inStr]; exact decide_eq_true c2) (iteT ?_)
      refine ⟨_, rfl, _, rfl, p4, e, _, _, rfl, rfl, h4', he1, sml (by rw [List.length_map]; show ws.length + 0 ≤ 10000; omega), fun p5 hp5 => ?_⟩
      have s5 := same_new hp5 (.lst (ws.map V.str ++ []))
      have hp5' : SqL K (L2.upd H1 p5 (.lst (ws.map V.str ++ []))) p5 (ws.map V.str) := by
        refine SqL.of ?_
        rw [upd_same, List.append_nil]
      generalize L2.upd H1 p5 (.lst (ws.map V.str ++ [])) = H5 at s5 hp5' ⊢
      refine ⟨lettersS, rfl, fun D hD => lc_it (walk_str (z := lettersS)) (fun j H2 => ∃ acc : List Nat, H2 D = some (.lst (acc.map chr1)) ∧ acc = (letters.take j).filter (fun c => !decide (cand l c ∈ ws)) ∧ Stp D H5 H2) ⟨[], upd_same, rfl, Stp.of (same_new hD _)⟩ (fun _ _ _ _ => trivial) ?_ ?_⟩
      · rintro j x H2 H3 hj ⟨acc, hac, hae, st2⟩ ⟨rfl, c, hc, rfl⟩
        have s2 := Stp.same st2 hD
        have hcl : letters[j]? = some c := by
          have : lettersS.cps.toList[j]? = some c := by rw [Array.getElem?_toList]; exact hc
          exact this
        have hal : acc.length ≤ 26 := by
          rw [hae]
          have h1 := List.length_filter_le (fun c => !decide (cand l c ∈ ws)) (letters.take j)
          rw [List.length_take, letters_len] at h1
          omega
        have htk : letters.take (j + 1) = letters.take j ++ [c] := by rw [List.take_succ, hcl]; rfl
        refine ⟨rfl, _, rfl, _, rfl, SX.S l, rfl, sml (by rw [len_S]; omega), _, _, rfl, rfl, ?_, _, rfl, _, _, rfl, rfl, ?_, _, rfl, p5, _, rfl, .inl (s2.seq hp5'), rfl, flatStr ws, _, rfl, ?_⟩
        · rw [ex1 l]
          exact sml (by rw [len_S, List.length_take]; show min 6 l.length + 1 ≤ 10000; omega)
        · rw [ex2 l]
          exact sml (by rw [len_S, List.length_append, List.length_take]; show min 6 l.length + 1 + 1 ≤ 10000; omega)
        rw [ex3 l c]
        by_cases hb : cand l c ∈ ws
        · refine if_f (show (!inV (V.str (cand l c)) (ws.map V.str)) = false by rw [inStr, decide_eq_true hb]; rfl) ⟨acc, hac, ?_, st2⟩
          rw [htk, List.filter_append, ← hae, List.filter_cons, if_neg (by rw [decide_eq_true hb]; decide)]
          exact (List.append_nil _).symm
        · refine if_t (show (!inV (V.str (cand l c)) (ws.map V.str)) = true by rw [inStr, decide_eq_false hb]; rfl) ⟨_, rfl, _, hac, sml1 (by rw [List.length_map]; omega), acc ++ [c], by rw [upd_same, List.map_append]; rfl, ?_, fun u o nu eu => by rw [upd_ne nu]; exact st2 u o nu eu⟩
          rw [htk, List.filter_append, ← hae, List.filter_cons, if_pos (by rw [decide_eq_false hb]; decide)]
          rfl
      · rintro H2 ⟨acc, hac, hae, st2⟩
        have s2 := Stp.same st2 hD
        have hne2 : acc ≠ [] := by
          rw [hae, show letters.take lettersS.cps.size = letters from List.take_of_length_le (by rw [letters_len]; decide)]
          exact ends_ne (by omega)
        have hcl : ∀ c ∈ acc, c ∈ letters := fun c hc => by
          rw [hae] at hc
          exact List.mem_of_mem_take (List.mem_filter.mp hc).1
        obtain ⟨c0, r0, rfl⟩ : ∃ c r, acc = c :: r := by
          cases acc with
          | nil => exact absurd rfl hne2
          | cons c r => exact ⟨c, r, rfl⟩
        refine ⟨_, rfl, _, rfl, SX.S l, rfl, sml (by rw [len_S]; omega), _, _, rfl, rfl, ?_, _, rfl, D, _, _, chr1 c0, rfl, rfl, SqL.of hac, atI_nat (j := 0) rfl, _, _, rfl, rfl, ?_, ?_⟩
        · rw [ex1 l]
          exact sml (by rw [len_S, List.length_take]; show min 6 l.length + 1 ≤ 10000; omega)
        · rw [ex2 l]
          exact sml (by rw [len_S, List.length_append, List.length_take]; show min 6 l.length + 1 + 1 ≤ 10000; omega)
        rw [ex3 l c0]
        have s52 := s5.trans s2
        have h4'' := s52 _ _ h4'
        refine ⟨_, rfl, .inl ⟨rfl, _, SqL.of h4''⟩, _, rfl, p4, _, _, rfl, rfl, h4'', sml1 (by rw [List.length_map]; omega), ⟨_, _, _, _, _, rfl⟩, ⟨ws ++ [cand l c0], by rw [upd_same, List.map_append]; rfl, by rw [List.length_append, hwl]; rfl, fun z hz => ?_⟩, fun u o nu eu => ?_, ?_, ?_, ?_⟩
        · rcases List.mem_append.mp hz with hz | hz
          · exact hws z hz
          · rw [List.mem_singleton.mp hz]
            exact cand_ok hl (hcl c0 (List.mem_cons_self ..))
        · rw [upd_ne (ne_of_none eu hn4)]
          exact s52 _ _ (s1 _ _ nu (st u o nu eu))
        · obtain ⟨ns, hns⟩ := t1
          exact ⟨ns, by rw [upd_ne n4t.symm]; exact s52 _ _ hns⟩
        · rw [upd_ne n34]
          exact s52 _ _ (s1 _ _ n3t h3)
        · rw [upd_ne ne4]
          exact s52 _ _ he1
    refine if_f (show inV (V.str (SX.S l)) (ws.map V.str) = false by rw [inStr]; exact decide_eq_false c2) ?_
    refine ⟨_, rfl, _, rfl, e, [], rfl, .inl (SqL.of he1), rfl, rfl, _, rfl, if_f rfl ?_⟩
    refine ⟨_, rfl, .inl ⟨rfl, _, SqL.of h4'⟩, _, rfl, p4, _, _, rfl, rfl, h4', sml1 (by rw [List.length_map]; omega), ⟨_, _, _, _, _, rfl⟩, ⟨ws ++ [SX.S l], by rw [upd_same, List.map_append]; rfl, by rw [List.length_append, hwl]; rfl, fun z hz => ?_⟩, fun u o nu eu => ?_, ?_, ?_, ?_⟩
    · rcases List.mem_append.mp hz with hz | hz
      · exact hws z hz
      · rw [List.mem_singleton.mp hz]
        exact ⟨l, rfl, hlne, hl8, hl, c1⟩
    · rw [upd_ne (ne_of_none eu hn4)]
      exact (Same.refl H1) _ _ (s1 _ _ nu (st u o nu eu))
    · obtain ⟨ns, hns⟩ := t1
      exact ⟨ns, by rw [upd_ne n4t.symm]; exact (Same.refl H1) _ _ hns⟩
    · rw [upd_ne n34]
      exact (Same.refl H1) _ _ (s1 _ _ n3t h3)
    · rw [upd_ne ne4]
      exact (Same.refl H1) _ _ he1
  · rintro σ' H' ⟨⟨x5, x6, x7, x8, x9, rfl⟩, ⟨ws, h4, hwl, hws⟩, st, tt, h3, he2⟩
    exact ⟨_, rfl, q p4 ws H' st tt hn4 h4 hwl hws⟩
def spPick (K : PySem.W.Frag) : Sp := fun vs H Q _ => ∃ (t l : Addr) (items : List V), vs = [.ref t, .ref l] ∧ TapeAt H t ∧ SqL K H l items ∧ l ≠ t ∧ items ≠ [] ∧ ∀ (i : Nat) (v : V) H', items[i]? = some v → Stp t H H' → TapeAt H' t → Q v H'
theorem Stp.lst {c a : Addr} {H H' : Hp} {xs : List V} (e : Stp c H H') (hc : a ≠ c) (h : SqL K H a xs) : SqL K H' a xs := by
  rcases h with (h | ⟨o, h⟩) | h
  · exact .inl (.inl (e _ _ hc h))
  · exact .inl (.inr ⟨o, e _ _ hc h⟩)
  · exact .inr h
abbrev s_law_pick : Stmt := top 59
abbrev n_law_pick : List Str := ["_law_tape_here", "_law_names"]
theorem sc_law_pick : FnScope n_law_pick ["_law_tape_here", "_law_names"] (defScope s_law_pick) := ⟨rfl, rfl, rfl, by decide +kernel, rfl, by decide +kernel, by decide +kernel⟩
-- slots of _law_pick: 0 _law_tape_here, 1 _law_names
theorem ok_law_pick (F : Fun K "_law_pick" "_law_pick" s_law_pick f fd) (B : Blt mg) (c__law_take : Cal P w K mg base CX0 1 "_law_take" ["_law_tape_here", "_law_many"] spTakeT) : FnOk P w K mg base CX0 2 f fd ["_law_tape_here", "_law_names"] (spPick K) := by
  refine F.own sc_law_pick (fun vs H Q E h => ?_) (fun cdv A outer s H vs Q E hr h => ?_)
  · obtain ⟨t, l, items, rfl, _⟩ := h
    rfl
  obtain ⟨t, l, items, rfl, ht, hl, hlt, hne, q⟩ := h
  refine ⟨_, (pss_one (ps_ret (pe_ix ix_list (pv 1) (pe_op op_mod (pe_callTy call_int1 (by rfl) B.int (by decide +kernel) (pa_cons (pe_c0 c__law_take hr (by omega) rfl (pa_cons (pv 0) (pa_cons pe_int pa_nil))) pa_nil)) (pe_callB call_len_seq (by rfl) B.len PySem.boot_len (pa_cons (pv 1) pa_nil))) (fun _ _ => rfl)))), ?_⟩
  have hlen : 0 < items.length := List.length_pos_iff.mpr hne
  refine ⟨_, rfl, _, rfl, t, 720720, rfl, ht, by decide, fun z H1 h0 h1 s1 t1 => ?_⟩
  have hl1 := s1.lst hlt hl
  have m0 := Int.emod_nonneg z (show (items.length : Int) ≠ 0 by omega)
  have m1 := Int.emod_lt_of_pos z (show (0 : Int) < (items.length : Int) by omega)
  have hk : (z % (items.length : Int)).toNat < items.length := by omega
  have hat : atI items (z % (items.length : Int)) = some items[(z % (items.length : Int)).toNat] := by
    have h := atI_nat (List.getElem?_eq_getElem hk)
    rwa [show (((z % (items.length : Int)).toNat : Nat) : Int) = z % (items.length : Int) by omega] at h
  exact .inl ⟨_, rfl, _, rfl, l, _, rfl, .inl hl1, _, _, rfl, rfl, (show (0 : Int) < (items.length : Int) by omega), l, _, _, _, rfl, rfl, hl1, hat, q _ _ _ (List.getElem?_eq_getElem hk) s1 t1⟩
def spKept : Sp := fun vs H Q _ => vs = [] ∧ ∀ p H', Same H H' → H p = none → H' p = some (.lst (kept.map V.str)) → Q (.ref p) H'
theorem kept_split : Txt.split ("add and cut def drop else has if in is let not only put record rename then to" : Str) (" " : Str) = kept := by decide +kernel
abbrev s_law_kept : Stmt := top 63
abbrev n_law_kept : List Str := []
theorem sc_law_kept : FnScope n_law_kept [] (defScope s_law_kept) := ⟨rfl, rfl, rfl, by decide +kernel, rfl, by decide +kernel, by decide +kernel⟩
-- slots of _law_kept: 
theorem ok_law_kept (F : Fun K "_law_kept" "_law_kept" s_law_kept f fd) : FnOk P w K mg base CX0 1 f fd [] spKept := by
  refine F.own sc_law_kept (fun vs H Q E h => ?_) (fun cdv A outer s H vs Q E hr h => ?_)
  · obtain ⟨rfl, _⟩ := h
    rfl
  obtain ⟨rfl, q⟩ := h
  refine ⟨_, (pss_one (ps_ret (pe_split pe_str pe_str))), ?_⟩
  exact ⟨⟨_, rfl⟩, _, _, rfl, rfl, rfl, by decide, fun p hp => q p _ (same_new hp _) hp (by rw [upd_same, kept_split])⟩
end
end GR
set_option Elab.async false
set_option linter.all false
set_option maxRecDepth 100000
set_option maxHeartbeats 4000000
namespace GR
open PySem PySem.Spec PyProof.Rows L2
section
variable {P : Program} {w : World} {K : PySem.W.Frag} {Wd : Str → Prop} {mg : Str → Option Value} {base : Heap} {CC CB aR aS : Addr} {T : Toks} {f : Addr} {fd : FuncData} {n : Nat}
/-! ### rows of three written texts -/
def rowE : Expr → Option Row3
  | .Tuple [.Constant (.str a) _ _, .Constant (.str b) _ _, .Constant (.str c) _ _] _ _ => some (a, b, c)
  | _ => none
def rowsE (es : List Expr) : List Row3 := es.filterMap rowE
def RowT (H : Hp) (r : Row3) (a : Addr) : Prop := H a = some (.tup [.str r.1, .str r.2.1, .str r.2.2])
def tRows (rs : List Row3) : TA := fun _ H Q => ∀ (as : List Addr) H', Same H H' → as.length = rs.length → (∀ (i : Nat) (r : Row3), rs[i]? = some r → ∃ a, as[i]? = some a ∧ RowT H' r a) → Q (as.map V.ref) H'
theorem pa_rows {X : Cx} : ∀ (es : List Expr), (es.all fun e => (rowE e).isSome) = true → PA X es (tRows (rowsE es))
  | [], _ => ⟨fun pos pins s σ H Q I q => pa_nil.run pos pins s σ H Q I (q [] H (Same.refl H) rfl fun i r h => by simp [rowsE] at h)⟩
  | e :: r, h => by
    obtain ⟨h1, h2⟩ := Bool.and_eq_true_iff.mp (show ((rowE e).isSome && r.all fun e => (rowE e).isSome) = true from h)
    obtain ⟨x, hx⟩ := Option.isSome_iff_exists.mp h1
    obtain ⟨a, b, c, k1, k2, k3, k, p1, p2, p3, p, rfl, ex⟩ : ∃ a b c k1 k2 k3 k p1 p2 p3 p, e = .Tuple [.Constant (.str a) k1 p1, .Constant (.str b) k2 p2, .Constant (.str c) k3 p3] k p ∧ x = (a, b, c) := by
      unfold rowE at hx
      split at hx
      · cases hx
        exact ⟨_, _, _, _, _, _, _, _, _, _, _, rfl, rfl⟩
      · cases hx
    subst ex
    have ih := pa_rows (X := X) r h2
    refine ⟨fun pos' pins s σ H Q I q => ?_⟩
    have q' : tCons (tTup (tCons (tC (.str a)) (tCons (tC (.str b)) (tCons (tC (.str c)) tNil)))) (tRows (rowsE r)) σ H Q := by
      refine ⟨(by show 3 ≤ sizeLine; decide), fun t ht => fun as H' s' hl hr => ?_⟩
      have e2 : rowsE (.Tuple [.Constant (.str a) k1 p1, .Constant (.str b) k2 p2, .Constant (.str c) k3 p3] k p :: r) = (a, b, c) :: rowsE r := by
        unfold rowsE
        rw [List.filterMap_cons]
        rfl
      have q2 := q (t :: as) H' ((same_new ht _).trans s') (by rw [e2, List.length_cons, List.length_cons, hl]) fun i r' h => by
        rw [e2] at h
        cases i with
        | zero =>
          cases Option.some.inj h
          exact ⟨t, rfl, s' _ _ upd_same⟩
        | succ i => exact hr i r' h
      exact q2
    exact (pa_cons (pe_tup (pa_cons pe_str (pa_cons pe_str (pa_cons pe_str pa_nil)))) ih).run pos' pins s σ H Q I q'
/-- the rows rs stand at as -/
def RowsC (H : Hp) (as : List Addr) (rs : List Row3) : Prop := as.length = rs.length ∧ ∀ (i : Nat) (r : Row3), rs[i]? = some r → ∃ a, as[i]? = some a ∧ RowT H r a
theorem RowsC.same {H H' : Hp} {as : List Addr} {rs : List Row3} (h : RowsC H as rs) (s : Same H H') : RowsC H' as rs := ⟨h.1, fun i r e => let ⟨a, h1, h2⟩ := h.2 i r e; ⟨a, h1, s _ _ h2⟩⟩
def spChart : Sp := fun vs H Q _ => vs = [] ∧ ∀ p as H', Same H H' → H p = none → H' p = some (.lst (as.map V.ref)) → RowsC H' as chart → Q (.ref p) H'
abbrev s_law_chart : Stmt := top 62
abbrev n_law_chart : List Str := []
theorem sc_law_chart : FnScope n_law_chart [] (defScope s_law_chart) := ⟨rfl, rfl, rfl, by decide +kernel, rfl, by decide +kernel, by decide +kernel⟩
-- slots of _law_chart: 
theorem ok_law_chart (F : Fun K "_law_chart" "_law_chart" s_law_chart f fd) : FnOk P w K mg base CX0 1 f fd [] spChart := by
  refine F.own sc_law_chart (fun vs H Q E h => ?_) (fun cdv A outer s H vs Q E hr h => ?_)
  · obtain ⟨rfl, _⟩ := h
    rfl
  obtain ⟨rfl, q⟩ := h
  refine ⟨_, (pss_one (ps_ret (pe_lst (pa_rows _ (by rfl))))), ?_⟩
  intro as H1 s1 hl hr'
  refine ⟨?_, fun p hp => q p as _ (s1.trans (same_new hp _)) (s1.free hp) upd_same ⟨hl, fun i r e => ?_⟩⟩
  · rw [List.length_map, hl]
    show 49 ≤ sizeLine
    decide
  · obtain ⟨a, h1, h2⟩ := hr' i r e
    exact ⟨a, h1, same_new hp _ _ _ h2⟩
def spKind : Sp := fun vs H Q _ => ∃ z : Str, vs = [.str z] ∧ z ≠ "" ∧ z.length ≤ 1000 ∧ ∀ H', Same H H' → Q (.str (kindOf z)) H'
abbrev s_law_kind : Stmt := top 64
abbrev n_law_kind : List Str := ["_law_word_here", "_law_letters"]
theorem sc_law_kind : FnScope n_law_kind ["_law_word_here"] (defScope s_law_kind) := ⟨rfl, rfl, rfl, by decide +kernel, rfl, by decide +kernel, by decide +kernel⟩
-- slots of _law_kind: 0 _law_word_here, 1 _law_letters
theorem ok_law_kind (F : Fun K "_law_kind" "_law_kind" s_law_kind f fd) (B : Blt mg) (c__law_kept : Cal P w K mg base CX0 1 "_law_kept" [] spKept) : FnOk P w K mg base CX0 2 f fd ["_law_word_here"] spKind := by
  refine F.own sc_law_kind (fun vs H Q E h => ?_) (fun cdv A outer s H vs Q E hr h => ?_)
  · obtain ⟨z, rfl, _⟩ := h
    rfl
  obtain ⟨z, rfl, hz, hzl, q⟩ := h
  refine ⟨_, (pss_cons (ps_set (i := 1) sc_law_kind.nd rfl (by first | exact Or.inl rfl | exact Or.inr rfl) pe_str) (pss_cons (ps_if (PW.pt (pw_or (pt_cmpR op_in_seq (pv 0) (pe_c00 c__law_kept hr (by omega) rfl) rfl) (pw_or1 (pt_cmpR op_in_seq (pv 0) (pe_lst (pa_strs _ (by rfl))) rfl))))
    (pss_one (ps_ret (pv 0))) pss_nil) (pss_cons (ps_if (pt_cmpR op_in_seq (pv 0) (pe_lst (pa_strs _ (by rfl))) rfl)
    (pss_one (ps_ret pe_str)) pss_nil) (pss_cons (ps_if (PW.pt (pw_and (pt_cmpR op_in_sign (pe_ix ix_str (pv 0) pe_int (fun _ _ => rfl)) (pv 1) rfl) (pw_and1 (pt_cmpR op_le (pe_callB call_len_str (by rfl) B.len PySem.boot_len (pa_cons (pv 0) pa_nil)) pe_int (nomark _)))))
    (pss_one (ps_ret pe_str)) pss_nil) (pss_cons (ps_if (PW.pt (pw_and (pt_cmpR op_in_sign (pe_ix ix_str (pv 0) pe_int (fun _ _ => rfl)) pe_str rfl) (pw_and (pt_cmpR op_le (pe_callB call_len_str (by rfl) B.len PySem.boot_len (pa_cons (pv 0) pa_nil)) pe_int (nomark _)) (pw_and1 (PW.pt (pw_or (pt_cmpR op_eq (pv 0) pe_str (nomark _)) (pw_or1 (pt_cmpR op_ne (pe_ix ix_str (pv 0) pe_int (fun _ _ => rfl)) pe_str (nomark _)))))))))
    (pss_one (ps_ret pe_str)) pss_nil) (pss_one (ps_ret pe_str))))))), ?_⟩
  unfold kindOf at q
  refine ⟨_, rfl, rfl, fun p H1 s1 hp hk => ⟨p, _, rfl, .inl (SqL.of hk), rfl, flatStr kept, _, rfl, ?_⟩⟩
  by_cases h1 : z ∈ kept
  · refine if_t (show inV (V.str z) (kept.map V.str) = true by rw [inStr]; exact decide_eq_true h1) (iteT ⟨_, rfl, ?_⟩)
    rw [if_pos (.inl h1)] at q
    exact q _ s1
  refine if_f (show inV (V.str z) (kept.map V.str) = false by rw [inStr]; exact decide_eq_false h1) ?_
  refine ⟨_, rfl, (by show 10 ≤ sizeLine; decide), fun p2 hp2 => ⟨p2, _, rfl, .inl (SqL.of upd_same), rfl, flatStr punct, _, rfl, ?_⟩⟩
  have s2 := s1.trans (same_new hp2 (.lst (punct.map V.str)))
  by_cases h2 : z ∈ punct
  · refine if_t (show inV (V.str z) (punct.map V.str) = true by rw [inStr]; exact decide_eq_true h2) ⟨_, rfl, ?_⟩
    rw [if_pos (.inr h2)] at q
    exact q _ s2
  refine if_f (show inV (V.str z) (punct.map V.str) = false by rw [inStr]; exact decide_eq_false h2) ?_
  rw [if_neg (fun x => x.elim h1 h2)] at q
  refine ⟨_, rfl, (by show 4 ≤ sizeLine; decide), fun p3 hp3 => ⟨p3, _, rfl, .inl (SqL.of upd_same), rfl, flatStr signs, _, rfl, ?_⟩⟩
  have s3 := s2.trans (same_new hp3 (.lst (signs.map V.str)))
  by_cases h3 : z ∈ signs
  · refine if_t (show inV (V.str z) (signs.map V.str) = true by rw [inStr]; exact decide_eq_true h3) ?_
    rw [if_pos h3] at q
    exact q _ s3
  refine if_f (show inV (V.str z) (signs.map V.str) = false by rw [inStr]; exact decide_eq_false h3) ?_
  rw [if_neg h3] at q
  obtain ⟨c, r, e⟩ := cps_ne hz
  have hh : hd z = c := by unfold hd; rw [e]; rfl
  rw [hh] at q
  refine ⟨_, rfl, z, _, c, rfl, rfl, small hzl, (by rw [e]; exact atI_nat (j := 0) rfl), _, rfl, c, lettersS, rfl, rfl, _, rfl, ?_⟩
  by_cases h4 : c ∈ letters
  · refine if_t (decide_eq_true h4) ⟨_, rfl, _, rfl, small hzl, _, _, rfl, rfl, _, rfl, ?_⟩
    by_cases h5 : z.length ≤ 8
    · refine if_t (decide_eq_true (by omega)) ?_
      rw [if_pos ⟨h4, h5⟩] at q
      exact q _ s3
    · refine if_f (decide_eq_false (by omega)) ?_
      rw [if_neg (fun x => h5 x.2)] at q
      refine ⟨_, rfl, z, _, c, rfl, rfl, small hzl, (by rw [e]; exact atI_nat (j := 0) rfl), c, digitsS, rfl, rfl, _, rfl, ?_⟩
      by_cases h6 : c ∈ digits
      · refine if_t (decide_eq_true h6) ⟨_, rfl, _, rfl, small hzl, _, _, rfl, rfl, _, rfl, ?_⟩
        by_cases h7 : z.length ≤ 30
        · refine if_t (decide_eq_true (by omega)) ⟨_, rfl, rfl, _, rfl, ?_⟩
          by_cases h8 : z = "0"
          · refine if_t (eqT h8) (iteT ?_)
            rw [if_pos ⟨h6, h7, .inl h8⟩] at q
            exact q _ s3
          · refine if_f (eqF h8) ⟨_, rfl, z, _, c, rfl, rfl, small hzl, (by rw [e]; exact atI_nat (j := 0) rfl), rfl, _, rfl, ?_⟩
            have e0 : ((⟨#[c]⟩ : Str) = "0") ↔ c = 48 := by
              rw [show ("0" : Str) = ⟨#[48]⟩ by decide +kernel]
              simp
            by_cases h9 : c = 48
            · refine if_f (neF (e0.mpr h9)) ?_
              rw [if_neg (fun x => x.2.2.elim h8 (fun y => y h9))] at q
              exact q _ s3
            · refine if_t (neT (fun y => h9 (e0.mp y))) ?_
              rw [if_pos ⟨h6, h7, .inr h9⟩] at q
              exact q _ s3
        · refine if_f (decide_eq_false (by omega)) (iteF ?_)
          rw [if_neg (fun x => h7 x.2.1)] at q
          exact q _ s3
      · refine if_f (decide_eq_false h6) (iteF ?_)
        rw [if_neg (fun x => h6 x.1)] at q
        exact q _ s3
  · refine if_f (decide_eq_false h4) (iteF ?_)
    rw [if_neg (fun x => h4 x.1)] at q
    refine ⟨_, rfl, z, _, c, rfl, rfl, small hzl, (by rw [e]; exact atI_nat (j := 0) rfl), c, digitsS, rfl, rfl, _, rfl, ?_⟩
    by_cases h6 : c ∈ digits
    · refine if_t (decide_eq_true h6) ⟨_, rfl, _, rfl, small hzl, _, _, rfl, rfl, _, rfl, ?_⟩
      by_cases h7 : z.length ≤ 30
      · refine if_t (decide_eq_true (by omega)) ⟨_, rfl, rfl, _, rfl, ?_⟩
        by_cases h8 : z = "0"
        · refine if_t (eqT h8) (iteT ?_)
          rw [if_pos ⟨h6, h7, .inl h8⟩] at q
          exact q _ s3
        · refine if_f (eqF h8) ⟨_, rfl, z, _, c, rfl, rfl, small hzl, (by rw [e]; exact atI_nat (j := 0) rfl), rfl, _, rfl, ?_⟩
          have e0 : ((⟨#[c]⟩ : Str) = "0") ↔ c = 48 := by
            rw [show ("0" : Str) = ⟨#[48]⟩ by decide +kernel]
            simp
          by_cases h9 : c = 48
          · refine if_f (neF (e0.mpr h9)) ?_
            rw [if_neg (fun x => x.2.2.elim h8 (fun y => y h9))] at q
            exact q _ s3
          · refine if_t (neT (fun y => h9 (e0.mp y))) ?_
            rw [if_pos ⟨h6, h7, .inr h9⟩] at q
            exact q _ s3
      · refine if_f (decide_eq_false (by omega)) (iteF ?_)
        rw [if_neg (fun x => h7 x.2.1)] at q
        exact q _ s3
    · refine if_f (decide_eq_false h6) (iteF ?_)
      rw [if_neg (fun x => h6 x.1)] at q
      exact q _ s3
def spNext (K : PySem.W.Frag) : Sp := fun vs H Q _ => ∃ (l : Addr) (as : List Addr) (rs : List Row3) (k : Str), vs = [.ref l, .str k] ∧ SqL K H l (as.map V.ref) ∧ RowsC H as rs ∧ rs.length ≤ 100 ∧ (∀ r ∈ rs, r.2.2.length ≤ 1000) ∧
  (∀ b p H', pick rs k = some b → Same H H' → H p = none → H' p = some (.lst (b.map V.str)) → Q (.ref p) H') ∧ (pick rs k = none → Q .non H)
abbrev s_law_next : Stmt := top 65
abbrev n_law_next : List Str := ["_law_rules", "_law_kind_here", "_law_row"]
theorem sc_law_next : FnScope n_law_next ["_law_rules", "_law_kind_here"] (defScope s_law_next) := ⟨rfl, rfl, rfl, by decide +kernel, rfl, by decide +kernel, by decide +kernel⟩
-- slots of _law_next: 0 _law_rules, 1 _law_kind_here, 2 _law_row
theorem ok_law_next (F : Fun K "_law_next" "_law_next" s_law_next f fd) : FnOk P w K mg base CX0 1 f fd ["_law_rules", "_law_kind_here"] (spNext K) := by
  refine F.own sc_law_next (fun vs H Q E h => ?_) (fun cdv A outer s H vs Q E hr h => ?_)
  · obtain ⟨l, as, rs, k, rfl, _⟩ := h
    rfl
  obtain ⟨l, as, rs, k, rfl, hl, hC, hn, hz, q1, q2⟩ := h
  refine ⟨_, (pss_cons (ps_for (PassesOwn.never) rfl (pi_list (pv 0)) (pg_name (i := 2) sc_law_next.nd rfl (by first | exact Or.inl rfl | exact Or.inr rfl))
    (pss_one (ps_if (pt_cmpR op_eq (pe_ix ix_tup (pv 2) pe_int (fun _ _ => rfl)) (pv 1) (nomark _))
    (pss_one (ps_ret (pe_words (pe_ix ix_tup (pv 2) pe_int (fun _ _ => rfl))))) pss_nil))) (pss_cons (ps_for (PassesOwn.never) rfl (pi_list (pv 0)) (pg_name (i := 2) sc_law_next.nd rfl (by first | exact Or.inl rfl | exact Or.inr rfl))
    (pss_one (ps_if (pt_cmpR op_eq (pe_ix ix_tup (pv 2) pe_int (fun _ _ => rfl)) pe_str (nomark _))
    (pss_one (ps_ret (pe_words (pe_ix ix_tup (pv 2) pe_int (fun _ _ => rfl))))) pss_nil))) (pss_one (ps_ret pe_non)))), ?_⟩
  have rdv : ∀ {i : Nat} {x : V}, (as.map V.ref)[i]? = some x → ∃ a r, x = .ref a ∧ as[i]? = some a ∧ rs[i]? = some r ∧ RowT H r a := fun {i x} h => by
    rw [List.getElem?_map] at h
    obtain ⟨a, ha, rfl⟩ := Option.map_eq_some_iff.mp h
    have hi : i < rs.length := by rw [← hC.1]; exact (List.getElem?_eq_some_iff.mp ha).1
    obtain ⟨a', h1, h2⟩ := hC.2 i rs[i] (List.getElem?_eq_getElem hi)
    rw [ha] at h1
    cases h1
    exact ⟨a, _, rfl, ha, List.getElem?_eq_getElem hi, h2⟩
  have find_at : ∀ {p : Row3 → Bool} {i : Nat} {r : Row3}, rs[i]? = some r → p r = true → (∀ j r', j < i → rs[j]? = some r' → p r' = false) → rs.find? p = some r := fun {p i r} hi hp hlt => by
    rw [List.find?_eq_some_iff_getElem]
    obtain ⟨hl', e⟩ := List.getElem?_eq_some_iff.mp hi
    refine ⟨hp, i, hl', e, fun j hj => ?_⟩
    have := hlt j rs[j] hj (List.getElem?_eq_getElem _)
    rw [this]
    rfl
  have find_no : ∀ {p : Row3 → Bool}, (∀ j r', j < rs.length → rs[j]? = some r' → p r' = false) → rs.find? p = none := fun {p} h => by
    rw [List.find?_eq_none]
    intro r hr
    obtain ⟨j, hj, e⟩ := List.mem_iff_getElem.mp hr
    rw [h j r hj (by rw [List.getElem?_eq_getElem hj, e])]
    exact Bool.false_ne_true
  refine ⟨_, rfl, l, rfl, ⟨_, hl⟩, for_list (xs := as.map V.ref) (fun i σ' H' => (∃ x, σ' = [some (.ref l), some (.str k), x]) ∧ H' = H ∧ ∀ j r', j < i → rs[j]? = some r' → decide (r'.2.1 = k) = false) ⟨⟨_, rfl⟩, rfl, fun j r' h => absurd h (Nat.not_lt_zero _)⟩ ?_ ?_ ?_⟩
  · rintro i σ' H' _ ⟨_, rfl, _⟩
    exact hl
  · rintro i x σ' H' hx ⟨⟨y, rfl⟩, rfl, hlt⟩
    obtain ⟨a, r, rfl, ha, hr', hT⟩ := rdv hx
    refine ⟨_, rfl, a, _, _, _, rfl, rfl, SqT.of hT, rfl, _, rfl, rfl, _, rfl, ?_⟩
    by_cases hk : r.2.1 = k
    · refine if_t (eqT hk) ?_
      have hf := find_at (p := fun r => decide (r.2.1 = k)) hr' (decide_eq_true hk) hlt
      refine ⟨_, rfl, a, _, _, _, rfl, rfl, SqT.of hT, rfl, ⟨_, rfl⟩, _, rfl, rfl, ?_, fun p hp => ?_⟩
      · have h1 := hz r (List.mem_of_getElem? hr')
        have : (10000 : Nat) ≤ sizeLine := by decide
        omega
      · refine q1 (bodyOf r) p _ ?_ (same_new hp _) hp upd_same
        unfold pick
        rw [hf]
    · refine if_f (eqF hk) ⟨⟨_, rfl⟩, rfl, fun j r' hj hjr => ?_⟩
      rcases Nat.lt_succ_iff_lt_or_eq.mp hj with w | w
      · exact hlt j r' w hjr
      · subst w
        rw [hr'] at hjr
        cases hjr
        exact decide_eq_false hk
  · rintro σ' H' ⟨⟨y, rfl⟩, rfl, hlt⟩
    rw [List.length_map, hC.1] at hlt
    have hf1 := find_no (p := fun r => decide (r.2.1 = k)) hlt
    refine ⟨_, rfl, l, rfl, ⟨_, hl⟩, for_list (xs := as.map V.ref) (fun i σ' H'' => (∃ x, σ' = [some (.ref l), some (.str k), x]) ∧ H'' = H' ∧ ∀ j r', j < i → rs[j]? = some r' → decide (r'.2.1 = ("*" : Str)) = false) ⟨⟨_, rfl⟩, rfl, fun j r' h => absurd h (Nat.not_lt_zero _)⟩ ?_ ?_ ?_⟩
    · rintro i σ'' H'' _ ⟨_, rfl, _⟩
      exact hl
    · rintro i x σ'' H'' hx ⟨⟨y2, rfl⟩, rfl, hlt2⟩
      obtain ⟨a, r, rfl, ha, hr', hT⟩ := rdv hx
      refine ⟨_, rfl, a, _, _, _, rfl, rfl, SqT.of hT, rfl, rfl, _, rfl, ?_⟩
      by_cases hk : r.2.1 = "*"
      · refine if_t (eqT hk) ?_
        have hf := find_at (p := fun r => decide (r.2.1 = ("*" : Str))) hr' (decide_eq_true hk) hlt2
        refine ⟨_, rfl, a, _, _, _, rfl, rfl, SqT.of hT, rfl, ⟨_, rfl⟩, _, rfl, rfl, ?_, fun p hp => ?_⟩
        · have h1 := hz r (List.mem_of_getElem? hr')
          have : (10000 : Nat) ≤ sizeLine := by decide
          omega
        · refine q1 (bodyOf r) p _ ?_ (same_new hp _) hp upd_same
          unfold pick
          rw [hf1]
          show Option.map bodyOf (rs.find? _) = _
          rw [hf]
          rfl
      · refine if_f (eqF hk) ⟨⟨_, rfl⟩, rfl, fun j r' hj hjr => ?_⟩
        rcases Nat.lt_succ_iff_lt_or_eq.mp hj with w | w
        · exact hlt2 j r' w hjr
        · subst w
          rw [hr'] at hjr
          cases hjr
          exact decide_eq_false hk
    · rintro σ'' H'' ⟨⟨y2, rfl⟩, rfl, hlt2⟩
      rw [List.length_map, hC.1] at hlt2
      have hf2 := find_no (p := fun r => decide (r.2.1 = ("*" : Str))) hlt2
      refine q2 ?_
      unfold pick
      rw [hf1]
      show Option.map bodyOf (rs.find? _) = _
      rw [hf2]
      rfl
end
end GR
set_option Elab.async false
set_option linter.all false
set_option maxRecDepth 100000
set_option maxHeartbeats 4000000
namespace GR
open PySem PySem.Spec PyProof.Rows L2
section
variable {P : Program} {w : World} {K : PySem.W.Frag} {Wd : Str → Prop} {mg : Str → Option Value} {base : Heap} {CC CB aR aS : Addr} {T : Toks} {f : Addr} {fd : FuncData} {n : Nat}
/-- the rows of the stack's top -/
def flt (S : List Str) (r : Row3) : Bool := match S with | [] => false | X :: _ => decide (r.1 = X)
theorem flt_cons (X : Str) (S : List Str) : chart.filter (flt (X :: S)) = rulesOf X := rfl
theorem flt_nil : chart.filter (flt []) = [] := by unfold flt; simp
theorem RowsC.snoc {H : Hp} {as : List Addr} {rs : List Row3} {a : Addr} {r : Row3} (h : RowsC H as rs) (hr : RowT H r a) : RowsC H (as ++ [a]) (rs ++ [r]) := by
  refine ⟨by rw [List.length_append, List.length_append, h.1]; rfl, fun i r' e => ?_⟩
  rcases Nat.lt_or_ge i rs.length with w | w
  · rw [List.getElem?_append_left w] at e
    obtain ⟨a', h1, h2⟩ := h.2 i r' e
    exact ⟨a', by rw [List.getElem?_append_left (by rw [h.1]; exact w)]; exact h1, h2⟩
  · rw [List.getElem?_append_right w] at e
    rw [List.getElem?_append_right (by rw [h.1]; exact w), h.1]
    rcases Nat.eq_zero_or_pos (i - rs.length) with z | z
    · rw [z] at e ⊢
      cases Option.some.inj e
      exact ⟨a, rfl, hr⟩
    · rw [List.getElem?_eq_none (show ([r] : List Row3).length ≤ _ from z)] at e
      cases e
theorem same_upd {H0 H : Hp} {a : Addr} {o : HO} (s : Same H0 H) (h : H0 a = none) : Same H0 (upd H a o) := fun x y e => by
  rw [upd_ne (fun z => by rw [z, h] at e; cases e)]
  exact s x y e
theorem rule_len : ∀ r ∈ chart, r.2.2.length ≤ 1000 := by decide +kernel
theorem cut_last (xs : List V) (v : V) : cutV (xs ++ [v]) none (some (-1)) = xs := by
  have e : HT.sIx (xs ++ [v]).length (xs ++ [v]).length (some (-1)) = xs.length := by
    show (if (-1 : Int) < 0 then ((-1 : Int) + ((xs ++ [v]).length : Int)).toNat else min (-1 : Int).toNat (xs ++ [v]).length) = _
    rw [if_pos (by decide), List.length_append, List.length_singleton]
    omega
  show ((xs ++ [v]).drop 0).take (HT.sIx (xs ++ [v]).length (xs ++ [v]).length (some (-1)) - 0) = xs
  rw [e, List.drop_zero, Nat.sub_zero, List.take_left]
theorem stk_cons (X : Str) (S : List Str) : ((X :: S).reverse.map V.str : List V) = S.reverse.map V.str ++ [.str X] := by
  rw [List.reverse_cons, List.map_append]
  rfl
theorem stk_last (xs : List V) (v : V) : (xs ++ [v])[(xs ++ [v]).length - 1]? = some v := by
  rw [List.length_append, List.length_singleton, Nat.add_sub_cancel, List.getElem?_append_right (Nat.le_refl _), Nat.sub_self]
  rfl
def tFlt (K : PySem.W.Frag) : TT := tAnd (fun σ H Q => tVar 2 σ H fun x H' => ∃ k, TruV K x H' k ∧ Q k H') (tTest (tOp rEq (tOp (rIxT K) (tVar 6) (tC (V.int 0))) (tOp (rIxL K) (tVar 2) (tUn (rU fun i => V.int (-i)) (tC (V.int 1))))))
theorem filt {H3 : Hp} {c st D : Addr} {as : List Addr} {S : List Str} {x0 x3 x4 x5 x6 x7 : Option V} {Qd : Hp → Prop} (hc : H3 c = some (.lst (as.map V.ref))) (hR : RowsC H3 as chart) (hst : H3 st = some (.lst (S.reverse.map V.str))) (hD : H3 D = none)
    (q : ∀ fs, RowsC H3 fs (chart.filter (flt S)) → Qd (upd H3 D (.lst (fs.map V.ref)))) :
    ∃ W : Nat → Nat → Hp → Prop, (∃ m, W 0 m (upd H3 D (.lst []))) ∧ ∀ i m H, W i m H →
      ((Itl K c).stop i H ∧ Qd H) ∨ ((Itl K c).go i H ∧ ∃ Nx : Hp → Prop, (∀ H', Nx H' → ∃ m', m' < m ∧ W (i + 1) m' H') ∧ ∀ x H', (Itl K c).yld i H x H' → gName 6 x (wipe [x0, some (.ref c), some (.ref st), x3, x4, x5, x6, x7] [6]) H' fun σ2 H2 => wipe σ2 [6] = wipe [x0, some (.ref c), some (.ref st), x3, x4, x5, x6, x7] [6] ∧ tFlt K σ2 H2 fun b H3 =>
        if b = true then tVar 6 σ2 H3 fun y H4 => ∃ acc, H4 D = some (.lst acc) ∧ acc.length < sizeLine ∧ Nx (upd H4 D (.lst (acc ++ [y]))) else Nx H3) := by
  refine lc_list (xs := as.map V.ref) (fun i H' => ∃ fs, H' = upd H3 D (.lst (fs.map V.ref)) ∧ RowsC H3 fs ((chart.take i).filter (flt S))) ⟨[], rfl, rfl, fun i r e => by simp at e⟩ ?_ ?_ ?_
  · rintro i H' _ ⟨fs, rfl, _⟩
    exact SqL.of (same_new hD _ _ _ hc)
  · rintro i x H' hx ⟨fs, rfl, hF⟩
    rw [List.getElem?_map] at hx
    obtain ⟨a, ha, rfl⟩ := Option.map_eq_some_iff.mp hx
    have hi : i < chart.length := by rw [← hR.1]; exact (List.getElem?_eq_some_iff.mp ha).1
    obtain ⟨a', h1, h2⟩ := hR.2 i chart[i] (List.getElem?_eq_getElem hi)
    rw [ha] at h1
    cases h1
    generalize hrw : chart[i] = r at h2
    have htk : chart.take (i + 1) = chart.take i ++ [r] := by rw [List.take_add_one, List.getElem?_eq_getElem hi, hrw]; rfl
    have kst : (upd H3 D (.lst (fs.map V.ref))) st = some (.lst (S.reverse.map V.str)) := same_new hD _ _ _ hst
    have ka : (upd H3 D (.lst (fs.map V.ref))) a = some (.tup [.str r.1, .str r.2.1, .str r.2.2]) := same_new hD _ _ _ h2
    have hfl : fs.length ≤ 49 := by
      rw [hF.1]
      exact Nat.le_trans (List.length_filter_le _ _) (by rw [List.length_take]; exact Nat.le_trans (Nat.min_le_right _ _) (by decide))
    refine ⟨rfl, _, rfl, _, .inl ⟨_, SqL.of kst, rfl⟩, ?_⟩
    have no : flt S r = false → ∃ fs', upd H3 D (.lst (fs.map V.ref)) = upd H3 D (.lst (fs'.map V.ref)) ∧ RowsC H3 fs' ((chart.take (i + 1)).filter (flt S)) := fun h => by
      refine ⟨fs, rfl, ?_⟩
      rw [htk, List.filter_append, List.filter_cons, if_neg (by rw [h]; exact Bool.false_ne_true), List.filter_nil, List.append_nil]
      exact hF
    cases S with
    | nil => exact if_f rfl (if_f rfl (no rfl))
    | cons X S =>
      refine if_t (by rw [List.reverse_cons, List.map_append]; simp) ?_
      refine ⟨_, rfl, a, _, _, _, rfl, rfl, SqT.of ka, rfl, _, rfl, _, rfl, st, _, _, _, rfl, rfl, SqL.of kst, (by rw [List.reverse_cons, List.map_append]; exact atI_last _ _), rfl, _, rfl, ?_⟩
      by_cases hX : r.1 = X
      · refine if_t (eqT hX) ⟨_, rfl, _, upd_same, ?_, fs ++ [a], ?_, ?_⟩
        · rw [List.length_map]
          have : (1000 : Nat) ≤ sizeLine := by decide
          omega
        · rw [upd_upd, List.map_append]
          rfl
        · rw [htk, List.filter_append, List.filter_cons, if_pos (show flt (X :: S) r = true from decide_eq_true hX), List.filter_nil]
          exact hF.snoc h2
      · exact if_f (eqF hX) (no (decide_eq_false hX))
  · rintro H' ⟨fs, rfl, hF⟩
    rw [List.length_map, hR.1, List.take_length] at hF
    exact q fs hF
def spBad : Sp := fun vs H Q _ => ∃ (l : Addr) (ws : List Str) (r : Option Nat) (n : Nat), vs = [.ref l] ∧ H l = some (.lst (ws.map V.str)) ∧ (∀ z ∈ ws, z ≠ "" ∧ z.length ≤ 1000) ∧ ws.length ≤ 1000 ∧ n ≤ 310000 ∧ RunN (ws.map kindOf ++ (["end"] : List Str)) n ["program"] 0 r ∧
  (∀ H', Same H H' → Q (.int (match r with | none => -1 | some j => (j : Int))) H')
abbrev s_law_first_bad : Stmt := top 66
abbrev n_law_first_bad : List Str := ["_law_words_here", "_law_chart_here", "_law_stack", "_law_k", "_law_kind_here", "_law_rules", "_law_row", "_law_behind"]
theorem sc_law_first_bad : FnScope n_law_first_bad ["_law_words_here"] (defScope s_law_first_bad) := ⟨rfl, rfl, rfl, by decide +kernel, rfl, by decide +kernel, by decide +kernel⟩
-- slots of _law_first_bad: 0 _law_words_here, 1 _law_chart_here, 2 _law_stack, 3 _law_k, 4 _law_kind_here, 5 _law_rules, 6 _law_row, 7 _law_behind
theorem ok_law_first_bad (F : Fun K "_law_first_bad" "_law_first_bad" s_law_first_bad f fd) (B : Blt mg) (c__law_chart : Cal P w K mg base CX0 1 "_law_chart" [] spChart) (c__law_kind : Cal P w K mg base CX0 2 "_law_kind" ["_law_word_here"] spKind) (c__law_next : Cal P w K mg base CX0 1 "_law_next" ["_law_rules", "_law_kind_here"] (spNext K)) : FnOk P w K mg base CX0 3 f fd ["_law_words_here"] spBad := by
  refine F.own sc_law_first_bad (fun vs H Q E h => ?_) (fun cdv A outer s H vs Q E hr h => ?_)
  · obtain ⟨l, ws, r, n, rfl, _⟩ := h
    rfl
  obtain ⟨l, ws, r, n, rfl, hl, hw, hn, hnn, hrun, q⟩ := h
  refine ⟨_, (pss_cons (ps_set (i := 1) sc_law_first_bad.nd rfl (by first | exact Or.inl rfl | exact Or.inr rfl) (pe_c00 c__law_chart hr (by omega) rfl)) (pss_cons (ps_set (i := 2) sc_law_first_bad.nd rfl (by first | exact Or.inl rfl | exact Or.inr rfl) (pe_lst (pa_cons pe_str pa_nil))) (pss_cons (ps_for (PassesOwn.never) rfl (pi_range1 (by rfl) B.range (pa_cons (pe_op op_add (pe_callB call_len_seq (by rfl) B.len PySem.boot_len (pa_cons (pv 0) pa_nil)) pe_int) pa_nil)) (pg_name (i := 3) sc_law_first_bad.nd rfl (by first | exact Or.inl rfl | exact Or.inr rfl))
    (pss_cons (ps_set (i := 4) sc_law_first_bad.nd rfl (by first | exact Or.inl rfl | exact Or.inr rfl) (pe_ifExp (pt_cmpR op_lt (pv 3) (pe_callB call_len_seq (by rfl) B.len PySem.boot_len (pa_cons (pv 0) pa_nil)) (nomark _)) (pe_c0 c__law_kind hr (by omega) rfl (pa_cons (pe_ix ix_list (pv 0) (pv 3) (fun _ _ => rfl)) pa_nil)) pe_str)) (pss_cons (ps_setLc (i := 5) (own := [("_law_row", 6)]) (g := (gName 6)) (tt := (tAnd (fun σ H Q => (tVar 2) σ H fun x H' => ∃ k, TruV K x H' k ∧ Q k H') (tTest (tOp _ (tOp (rIxT K) _ _) (tOp (rIxL K) _ _))))) (by rfl) sc_law_first_bad.nd rfl rfl (sw_true rfl rfl rfl (by decide +kernel)) (pi_list (pv 1)) (blkOk_by (own := [("_law_row", 6)]) (N := n_law_first_bad) (sc := (defScope s_law_first_bad)) (by decide +kernel)) (fun _ _ _ _ _ => (pg_name (i := 6) sc_law_first_bad.nd rfl (by first | exact Or.inl rfl | exact Or.inr rfl))) (fun _ _ _ _ _ => (pts_one (PW.pt (pw_and (pt_truth (pv 2) (by intro _; rfl)) (pw_and1 (pt_cmpR op_eq (pe_ix ix_tup (pv 6) pe_int (fun _ _ => rfl)) (pe_ix ix_list (pv 2) (pe_un un_neg pe_int) (fun _ _ => rfl)) (nomark _))))))) (fun _ _ _ _ _ => (pv 6))) (pss_cons (ps_while (PassesOwn.never) (pt_truth (pv 5) (by intro _; rfl))
    (pss_cons (ps_set (i := 7) sc_law_first_bad.nd rfl (by first | exact Or.inl rfl | exact Or.inr rfl) (pe_c0 c__law_next hr (by omega) rfl (pa_cons (pv 5) (pa_cons (pv 4) pa_nil)))) (pss_cons (ps_if (pt_cmpR op_isN (pv 7) pe_non (nomark _))
    (pss_one (ps_ret (pv 3))) pss_nil) (pss_cons (ps_set (i := 2) sc_law_first_bad.nd rfl (by first | exact Or.inl rfl | exact Or.inr rfl) (pe_op op_cat (pe_slice sl_list (pv 2) po_none (po_some (pe_un un_neg pe_int))) (pe_revL (pv 7)))) (pss_one (ps_setLc (i := 5) (own := [("_law_row", 6)]) (g := (gName 6)) (tt := (tAnd (fun σ H Q => (tVar 2) σ H fun x H' => ∃ k, TruV K x H' k ∧ Q k H') (tTest (tOp _ (tOp (rIxT K) _ _) (tOp (rIxL K) _ _))))) (by rfl) sc_law_first_bad.nd rfl rfl (sw_true rfl rfl rfl (by decide +kernel)) (pi_list (pv 1)) (blkOk_by (own := [("_law_row", 6)]) (N := n_law_first_bad) (sc := (defScope s_law_first_bad)) (by decide +kernel)) (fun _ _ _ _ _ => (pg_name (i := 6) sc_law_first_bad.nd rfl (by first | exact Or.inl rfl | exact Or.inr rfl))) (fun _ _ _ _ _ => (pts_one (PW.pt (pw_and (pt_truth (pv 2) (by intro _; rfl)) (pw_and1 (pt_cmpR op_eq (pe_ix ix_tup (pv 6) pe_int (fun _ _ => rfl)) (pe_ix ix_list (pv 2) (pe_un un_neg pe_int) (fun _ _ => rfl)) (nomark _))))))) (fun _ _ _ _ _ => (pv 6)))))))) (pss_cons (ps_if (pt_not (pt_truth (pv 2) (by intro _; rfl)))
    (pss_one (ps_ret (pe_ifExp (pt_cmpR op_eq (pv 4) pe_str (nomark _)) (pe_un un_neg pe_int) (pv 3)))) pss_nil) (pss_one (ps_if (pt_cmpR op_ne (pe_bm0 PySem.F.plainAttrs_list PySem.F.slot_list_pop PySem.F.type_list_pop mt_pop (pv 2)) (pv 4) (nomark _))
    (pss_one (ps_ret (pv 3))) pss_nil))))))) (pss_one (ps_ret (pe_un un_neg pe_int)))))), ?_⟩
  refine ⟨rfl, fun c as H2 s2 hcn hc hR => ?_⟩
  have hl2 := s2 _ _ hl
  refine ⟨(by show 1 ≤ sizeLine; decide), fun st0 hst0 => ?_⟩
  generalize hks : ws.map kindOf ++ (["end"] : List Str) = ks at hrun
  have hksl : ks.length = ws.length + 1 := by rw [← hks, List.length_append, List.length_map]; rfl
  refine ⟨_, rfl, l, _, rfl, .inl (SqL.of (same_new hst0 _ _ _ hl2)), _, _, rfl, rfl, (((ws.map V.str).length : Int) + 1), rfl, (by rw [List.length_map]; omega), (by rw [List.length_map]; omega),
    for_range (lo := 0) (n := (((ws.map V.str).length : Int) + 1).toNat) (fun k σ' H' => ∃ (m : Nat) (S : List Str) (st : Addr), (∃ x3 x4 x5 x6 x7, σ' = [some (.ref l), some (.ref c), some (.ref st), x3, x4, x5, x6, x7]) ∧ Same H2 H' ∧ H2 st = none ∧ H' st = some (.lst (S.reverse.map V.str)) ∧ RunN ks m S k r ∧ S.length + 7 * m ≤ 2200000)
      ⟨n, (["program"] : List Str), st0, ⟨_, _, _, _, _, rfl⟩, same_new hst0 _, hst0, upd_same, hrun, (by show 1 + 7 * n ≤ 2200000; omega)⟩ ?_ ?_⟩
  · rintro k σ' H' hk ⟨m, S, st, ⟨x3, x4, x5, x6, x7, rfl⟩, s3, hst, hst', run, hbd⟩
    rw [Int.zero_add]
    have hk' : k < ks.length := by rw [hksl]; rw [List.length_map] at hk; omega
    refine ⟨_, rfl, _, rfl, l, _, rfl, .inl (SqL.of (s3 _ _ hl2)), _, _, rfl, rfl, _, rfl, ?_⟩
    by_cases hkw : k < ws.length
    · refine if_t (decide_eq_true (by rw [List.length_map]; omega)) ?_
      have hwk : ws[k]? = some ws[k] := List.getElem?_eq_getElem hkw
      have hz := hw ws[k] (List.getElem_mem hkw)
      have hkk : ks[k]? = some (kindOf ws[k]) := by rw [← hks, List.getElem?_append_left (by rw [List.length_map]; exact hkw), List.getElem?_map, hwk]; rfl
      refine ⟨_, rfl, _, rfl, l, _, _, .str ws[k], rfl, rfl, SqL.of (s3 _ _ hl2), atI_nat (by rw [List.getElem?_map, hwk]; rfl), ws[k], rfl, hz.1, hz.2, fun H4 s4 => ?_⟩
      generalize kindOf ws[k] = kk at hkk
      have s24 := s3.trans s4
      have hst4 := s4 _ _ hst'
      refine ⟨_, rfl, c, rfl, ⟨_, SqL.of (s24 _ _ hc)⟩, fun p5 hp5 => filt (s24 _ _ hc) (hR.same s24) hst4 hp5 fun fs hF => ?_⟩
      have n5 := same_new hp5 (.lst (fs.map V.ref))
      have hkst := fun (b : Bool) => True
      refine ⟨fun m σ' H' => ∃ S st rl fs x6 x7, σ' = [some (.ref l), some (.ref c), some (.ref st), some (.int (k : Int)), some (.str kk), some (.ref rl), x6, x7] ∧ Same H2 H' ∧ H2 st = none ∧ H' st = some (.lst (S.reverse.map V.str)) ∧ RunN ks m S k r ∧ S.length + 7 * m ≤ 2200000 ∧ H' rl = some (.lst (fs.map V.ref)) ∧ RowsC H' fs (chart.filter (flt S)),
        ⟨m, S, st, p5, fs, _, _, rfl, s24.trans n5, hst, n5 _ _ hst4, run, hbd, upd_same, hF.same n5⟩, ?_⟩
      rintro m σ' H' ⟨S, st, rl, fs, x6, x7, rfl, s3, hst, hst', run, hbd, hrl, hF⟩
      refine ⟨_, rfl, _, .inl ⟨_, SqL.of hrl, rfl⟩, ?_⟩
      cases fs with
      | nil =>
        refine if_f rfl ?_
        have hnil : chart.filter (flt S) = [] := List.length_eq_zero_iff.mp hF.1.symm
        refine ⟨_, rfl, _, .inl ⟨_, SqL.of hst', rfl⟩, ?_⟩
        cases S with
        | nil =>
          refine if_t rfl ⟨_, rfl, rfl, _, rfl, ?_⟩
          by_cases he : kk = "end"
          · refine if_t (eqT he) ⟨_, rfl, ?_⟩
            have e : r = none := RunN.det run (.fin (by rw [← he]; exact hkk))
            subst e
            exact q _ (s2.trans s3)
          · refine if_f (eqF he) ⟨_, rfl, ?_⟩
            have e : r = some k := RunN.det run (.late hkk he)
            subst e
            exact q _ (s2.trans s3)
        | cons X S =>
          have hX : rulesOf X = [] := hnil
          rw [stk_cons] at hst'
          refine if_f (by rw [stk_cons]; simp) ⟨_, rfl, .inl ⟨rfl, _, SqL.of hst'⟩, st, _, _, rfl, rfl, hst', stk_last _ _, ?_⟩
          refine ⟨_, rfl, rfl, _, rfl, ?_⟩
          by_cases hXk : X = kk
          · refine if_f (neF hXk) ?_
            cases run with
            | exp _ h2 _ _ => exact absurd hX h2
            | stuck _ h2 _ => exact absurd hX h2
            | miss h1 _ h3 => rw [hkk] at h1; cases h1; exact absurd hXk h3
            | out h1 => rw [hkk] at h1; cases h1
            | hit h1 hxx h3 =>
              rename_i m'
              refine ⟨m', S, st, ⟨_, _, _, _, _, rfl⟩, same_upd s3 hst, hst, ?_, h3, ?_⟩
              · rw [upd_same, List.dropLast_concat]
              · rw [List.length_cons] at hbd
                omega
          · refine if_t (neT hXk) ⟨_, rfl, ?_⟩
            have e : r = some k := RunN.det run (.miss hkk hX hXk)
            subst e
            exact q _ (s2.trans (same_upd s3 hst))
      | cons a fs =>
        refine if_t rfl ⟨_, fun σ' H' z => z, ?_⟩
        cases S with
        | nil => rw [flt_nil] at hF; exact absurd hF.1 (by simp)
        | cons X S =>
          rw [flt_cons] at hF
          have hX : rulesOf X ≠ [] := fun z => by rw [z] at hF; exact absurd hF.1 (by simp)
          have hlen : (rulesOf X).length ≤ 100 := Nat.le_trans (List.length_filter_le _ _) (by decide)
          refine ⟨_, rfl, _, rfl, rl, a :: fs, rulesOf X, kk, rfl, SqL.of hrl, hF, hlen, (fun r hr => rule_len r (List.mem_filter.mp hr).1), fun b p H5 hb s5 hp hp5 => ?_, fun hno => ?_⟩
          · have hb' : next X kk = some b := hb
            refine ⟨_, rfl, rfl, _, rfl, if_f rfl ?_⟩
            have hst5 := s5 _ _ hst'
            rw [stk_cons] at hst5
            refine ⟨_, rfl, _, rfl, _, rfl, st, _, rfl, SqL.of hst5, fun p6 hp6 => ?_⟩
            have n6 := same_new hp6 (.lst (cutV (S.reverse.map V.str ++ [.str X]) none (some (-1))))
            rw [cut_last] at n6 ⊢
            refine ⟨_, rfl, p, _, rfl, SqL.of (n6 _ _ hp5), fun p7 hp7 => ?_⟩
            have n7 := same_new hp7 (.lst (b.map V.str).reverse)
            refine ⟨p6, p7, _, _, rfl, rfl, n7 _ _ upd_same, upd_same, ?_, fun p8 hp8 => ?_⟩
            · have := next_len hb'
              rw [List.length_map, List.length_reverse, List.length_reverse, List.length_map]
              rw [List.length_cons] at hbd
              have : (16777216 : Nat) ≤ sizeLine := by decide
              omega
            have n8 := same_new hp8 (.lst (S.reverse.map V.str ++ (b.map V.str).reverse))
            have s8 := s3.trans (s5.trans (n6.trans (n7.trans n8)))
            have e8 : (S.reverse.map V.str ++ (b.map V.str).reverse : List V) = ((b ++ S).reverse.map V.str : List V) := by
              rw [List.reverse_append, List.map_append, List.map_reverse (l := b)]
            have hp8n : H2 p8 = none := (s3.trans (s5.trans (n6.trans n7))).free hp8
            rw [e8] at s8 ⊢
            refine ⟨_, rfl, c, rfl, ⟨_, SqL.of (s8 _ _ hc)⟩, fun p9 hp9 => filt (s8 _ _ hc) (hR.same s8) upd_same hp9 fun fs9 hF9 => ?_⟩
            have n9 := same_new hp9 (.lst (fs9.map V.ref))
            cases run with
            | stuck h1 _ h3 => rw [hkk] at h1; cases h1; rw [hb'] at h3; cases h3
            | hit _ h2 _ => exact absurd h2 hX
            | miss _ h2 _ => exact absurd h2 hX
            | out h1 => rw [hkk] at h1; cases h1
            | exp h1 _ h3 h4 =>
              rw [hkk] at h1
              cases h1
              rw [hb'] at h3
              cases h3
              refine ⟨_, Nat.lt_succ_self _, b ++ S, p8, p9, fs9, _, _, rfl, s8.trans n9, hp8n, n9 _ _ upd_same, h4, ?_, upd_same, hF9.same n9⟩
              have := next_len hb'
              rw [List.length_cons] at hbd
              rw [List.length_append]
              omega
          · have e : r = some k := RunN.det run (.stuck hkk hX hno)
            subst e
            exact ⟨_, rfl, rfl, _, rfl, if_t rfl ⟨_, rfl, q _ (s2.trans s3)⟩⟩
    · refine if_f (decide_eq_false (by rw [List.length_map]; omega)) ?_
      have hkk : ks[k]? = some ("end" : Str) := by rw [← hks, List.getElem?_append_right (by rw [List.length_map]; omega), List.length_map, show k - ws.length = 0 by omega]; rfl
      have s4 := Same.refl H'
      have hkk2 := hkk
      have s4' := s4
      have s24 := s3.trans (Same.refl H')
      have hst4 := hst'
      refine ⟨_, rfl, c, rfl, ⟨_, SqL.of (s24 _ _ hc)⟩, fun p5 hp5 => filt (s24 _ _ hc) (hR.same s24) hst4 hp5 fun fs hF => ?_⟩
      have n5 := same_new hp5 (.lst (fs.map V.ref))
      have hkst := fun (b : Bool) => True
      refine ⟨fun m σ' H' => ∃ S st rl fs x6 x7, σ' = [some (.ref l), some (.ref c), some (.ref st), some (.int (k : Int)), some (.str ("end" : Str)), some (.ref rl), x6, x7] ∧ Same H2 H' ∧ H2 st = none ∧ H' st = some (.lst (S.reverse.map V.str)) ∧ RunN ks m S k r ∧ S.length + 7 * m ≤ 2200000 ∧ H' rl = some (.lst (fs.map V.ref)) ∧ RowsC H' fs (chart.filter (flt S)),
        ⟨m, S, st, p5, fs, _, _, rfl, s24.trans n5, hst, n5 _ _ hst4, run, hbd, upd_same, hF.same n5⟩, ?_⟩
      rintro m σ' H' ⟨S, st, rl, fs, x6, x7, rfl, s3, hst, hst', run, hbd, hrl, hF⟩
      refine ⟨_, rfl, _, .inl ⟨_, SqL.of hrl, rfl⟩, ?_⟩
      cases fs with
      | nil =>
        refine if_f rfl ?_
        have hnil : chart.filter (flt S) = [] := List.length_eq_zero_iff.mp hF.1.symm
        refine ⟨_, rfl, _, .inl ⟨_, SqL.of hst', rfl⟩, ?_⟩
        cases S with
        | nil =>
          refine if_t rfl ⟨_, rfl, rfl, _, rfl, ?_⟩
          by_cases he : ("end" : Str) = "end"
          · refine if_t (eqT he) ⟨_, rfl, ?_⟩
            have e : r = none := RunN.det run (.fin (by rw [← he]; exact hkk))
            subst e
            exact q _ (s2.trans s3)
          · refine if_f (eqF he) ⟨_, rfl, ?_⟩
            have e : r = some k := RunN.det run (.late hkk he)
            subst e
            exact q _ (s2.trans s3)
        | cons X S =>
          have hX : rulesOf X = [] := hnil
          rw [stk_cons] at hst'
          refine if_f (by rw [stk_cons]; simp) ⟨_, rfl, .inl ⟨rfl, _, SqL.of hst'⟩, st, _, _, rfl, rfl, hst', stk_last _ _, ?_⟩
          refine ⟨_, rfl, rfl, _, rfl, ?_⟩
          by_cases hXk : X = ("end" : Str)
          · refine if_f (neF hXk) ?_
            cases run with
            | exp _ h2 _ _ => exact absurd hX h2
            | stuck _ h2 _ => exact absurd hX h2
            | miss h1 _ h3 => rw [hkk] at h1; cases h1; exact absurd hXk h3
            | out h1 => rw [hkk] at h1; cases h1
            | hit h1 hxx h3 =>
              rename_i m'
              refine ⟨m', S, st, ⟨_, _, _, _, _, rfl⟩, same_upd s3 hst, hst, ?_, h3, ?_⟩
              · rw [upd_same, List.dropLast_concat]
              · rw [List.length_cons] at hbd
                omega
          · refine if_t (neT hXk) ⟨_, rfl, ?_⟩
            have e : r = some k := RunN.det run (.miss hkk hX hXk)
            subst e
            exact q _ (s2.trans (same_upd s3 hst))
      | cons a fs =>
        refine if_t rfl ⟨_, fun σ' H' z => z, ?_⟩
        cases S with
        | nil => rw [flt_nil] at hF; exact absurd hF.1 (by simp)
        | cons X S =>
          rw [flt_cons] at hF
          have hX : rulesOf X ≠ [] := fun z => by rw [z] at hF; exact absurd hF.1 (by simp)
          have hlen : (rulesOf X).length ≤ 100 := Nat.le_trans (List.length_filter_le _ _) (by decide)
          refine ⟨_, rfl, _, rfl, rl, a :: fs, rulesOf X, ("end" : Str), rfl, SqL.of hrl, hF, hlen, (fun r hr => rule_len r (List.mem_filter.mp hr).1), fun b p H5 hb s5 hp hp5 => ?_, fun hno => ?_⟩
          · have hb' : next X ("end" : Str) = some b := hb
            refine ⟨_, rfl, rfl, _, rfl, if_f rfl ?_⟩
            have hst5 := s5 _ _ hst'
            rw [stk_cons] at hst5
            refine ⟨_, rfl, _, rfl, _, rfl, st, _, rfl, SqL.of hst5, fun p6 hp6 => ?_⟩
            have n6 := same_new hp6 (.lst (cutV (S.reverse.map V.str ++ [.str X]) none (some (-1))))
            rw [cut_last] at n6 ⊢
            refine ⟨_, rfl, p, _, rfl, SqL.of (n6 _ _ hp5), fun p7 hp7 => ?_⟩
            have n7 := same_new hp7 (.lst (b.map V.str).reverse)
            refine ⟨p6, p7, _, _, rfl, rfl, n7 _ _ upd_same, upd_same, ?_, fun p8 hp8 => ?_⟩
            · have := next_len hb'
              rw [List.length_map, List.length_reverse, List.length_reverse, List.length_map]
              rw [List.length_cons] at hbd
              have : (16777216 : Nat) ≤ sizeLine := by decide
              omega
            have n8 := same_new hp8 (.lst (S.reverse.map V.str ++ (b.map V.str).reverse))
            have s8 := s3.trans (s5.trans (n6.trans (n7.trans n8)))
            have e8 : (S.reverse.map V.str ++ (b.map V.str).reverse : List V) = ((b ++ S).reverse.map V.str : List V) := by
              rw [List.reverse_append, List.map_append, List.map_reverse (l := b)]
            have hp8n : H2 p8 = none := (s3.trans (s5.trans (n6.trans n7))).free hp8
            rw [e8] at s8 ⊢
            refine ⟨_, rfl, c, rfl, ⟨_, SqL.of (s8 _ _ hc)⟩, fun p9 hp9 => filt (s8 _ _ hc) (hR.same s8) upd_same hp9 fun fs9 hF9 => ?_⟩
            have n9 := same_new hp9 (.lst (fs9.map V.ref))
            cases run with
            | stuck h1 _ h3 => rw [hkk] at h1; cases h1; rw [hb'] at h3; cases h3
            | hit _ h2 _ => exact absurd h2 hX
            | miss _ h2 _ => exact absurd h2 hX
            | out h1 => rw [hkk] at h1; cases h1
            | exp h1 _ h3 h4 =>
              rw [hkk] at h1
              cases h1
              rw [hb'] at h3
              cases h3
              refine ⟨_, Nat.lt_succ_self _, b ++ S, p8, p9, fs9, _, _, rfl, s8.trans n9, hp8n, n9 _ _ upd_same, h4, ?_, upd_same, hF9.same n9⟩
              have := next_len hb'
              rw [List.length_cons] at hbd
              rw [List.length_append]
              omega
          · have e : r = some k := RunN.det run (.stuck hkk hX hno)
            subst e
            exact ⟨_, rfl, rfl, _, rfl, if_t rfl ⟨_, rfl, q _ (s2.trans s3)⟩⟩
  · rintro σ' H' ⟨m, S, st, ⟨x3, x4, x5, x6, x7, rfl⟩, s3, hst, hst', run, hbd⟩
    have e : r = none := RunN.det run (.out (List.getElem?_eq_none (by rw [hksl, List.length_map]; omega)))
    subst e
    exact ⟨_, rfl, q _ (s2.trans s3)⟩
end
end GR
set_option Elab.async false
set_option linter.all false
set_option maxRecDepth 100000
set_option maxHeartbeats 4000000
namespace GR
open PySem PySem.Spec PyProof.Rows L2
section
variable {P : Program} {w : World} {K : PySem.W.Frag} {Wd : Str → Prop} {mg : Str → Option Value} {base : Heap} {CC CB aR aS : Addr} {T : Toks} {f : Addr} {fd : FuncData} {n : Nat}
/-! ### the words of a sentence -/
def Wk (z : Str) : Prop := WordOk z.cps.toList ∧ z.length ≤ 40
def wkB (z : Str) : Bool := decide (z.length ≤ 40) && ((!z.cps.toList.isEmpty && z.cps.toList.all fun c => decide (c ∈ letters)) || ((!z.cps.toList.isEmpty && z.cps.toList.all fun c => decide (c ∈ digits)) || match z.cps.toList with | [c] => !decide (c ∈ letters) && (!decide (c ∈ digits) && (decide (c ≠ 32) && decide (c ≠ 10))) | _ => false))
theorem Wk.of {z : Str} (h : wkB z = true) : Wk z := by
  unfold wkB at h
  obtain ⟨h1, h⟩ := Bool.and_eq_true_iff.mp h
  refine ⟨?_, of_decide_eq_true h1⟩
  rcases Bool.or_eq_true_iff.mp h with h | h
  · obtain ⟨a, b⟩ := Bool.and_eq_true_iff.mp h
    exact .inl ⟨by simpa using a, fun c hc => of_decide_eq_true (List.all_eq_true.mp b c hc)⟩
  rcases Bool.or_eq_true_iff.mp h with h | h
  · obtain ⟨a, b⟩ := Bool.and_eq_true_iff.mp h
    exact .inr (.inl ⟨by simpa using a, fun c hc => of_decide_eq_true (List.all_eq_true.mp b c hc)⟩)
  · split at h
    · rename_i c e
      simp only [Bool.and_eq_true, Bool.not_eq_true', decide_eq_true_eq, decide_eq_false_iff_not] at h
      exact .inr (.inr ⟨c, e, h.1, h.2.1, h.2.2.1, h.2.2.2⟩)
    · cases h
theorem S_back (l : List Nat) : (SX.S l).cps.toList = l := by unfold SX.S; simp
theorem Wk.letters {l : List Nat} (h0 : l ≠ []) (h : ∀ c ∈ l, c ∈ letters) (hn : l.length ≤ 40) : Wk (SX.S l) := ⟨.inl (by rw [S_back]; exact ⟨h0, h⟩), by rw [len_S]; exact hn⟩
theorem Wk.digits {l : List Nat} (h0 : l ≠ []) (h : ∀ c ∈ l, c ∈ digits) (hn : l.length ≤ 40) : Wk (SX.S l) := ⟨.inr (.inl (by rw [S_back]; exact ⟨h0, h⟩)), by rw [len_S]; exact hn⟩
theorem Wk.ne {z : Str} (h : Wk z) : z ≠ "" := by
  intro e
  subst e
  rcases h.1 with h | h | ⟨c, h, _⟩
  · exact h.1 rfl
  · exact h.1 rfl
  · have e : ("" : Str).cps.toList = [] := by decide +kernel
    rw [e] at h
    cases h
theorem op_not_dig : ∀ z ∈ openers, ∃ c ∈ z.cps.toList, c ∉ GR.digits := by decide +kernel
theorem dig_not_op {l : List Nat} (h : ∀ c ∈ l, c ∈ GR.digits) : SX.S l ∉ openers := fun hz => by
  obtain ⟨c, h1, h2⟩ := op_not_dig _ hz
  rw [S_back] at h1
  exact h2 (h c h1)
theorem op_kept : ∀ z ∈ openers, z ∈ kept ∨ ∃ c ∈ z.cps.toList, c ∉ GR.letters := by decide +kernel
theorem NameOk.wk {z : Str} (h : NameOk z) : Wk z ∧ z ∉ openers := by
  obtain ⟨l, rfl, h0, h8, hl, hk⟩ := h
  refine ⟨Wk.letters h0 hl (by omega), fun hz => ?_⟩
  rcases op_kept _ hz with h | ⟨c, h1, h2⟩
  · exact hk h
  · rw [S_back] at h1
    exact h2 (hl c h1)
theorem dig_mem {c : Nat} (h : 48 ≤ c ∧ c ≤ 57) : c ∈ GR.digits := by
  have e : GR.digits = [48, 49, 50, 51, 52, 53, 54, 55, 56, 57] := by decide +kernel
  rw [e]
  simp only [List.mem_cons, List.not_mem_nil, or_false]
  omega
theorem num_dig (n : Nat) : ∀ c ∈ TL.numL n, c ∈ GR.digits := fun c hc => dig_mem (TL.numL_digits n c hc)
theorem num_wk {n : Nat} (h : n < 10 ^ 30) : Wk (Str.ofString (toString ((n : Nat) : Int))) ∧ Str.ofString (toString ((n : Nat) : Int)) ∉ openers := by
  rw [SX.num_S]
  exact ⟨Wk.digits (TL.numL_ne n) (num_dig n) (Nat.le_trans (TL.numL_len (by decide) h) (by decide)), dig_not_op (num_dig n)⟩
/-- what stands in a row and has no rows -/
def tms : List Str := (chart.flatMap bodyOf).filter fun t => (rulesOf t).isEmpty
def tokB (k : Str) : Bool := decide (k = "NAME") || (decide (k = "NUMBER") || (decide (k = "sign") || wkB k))
theorem tms_ok : ∀ k ∈ tms, tokB k = true := by decide +kernel
def opn (ws : List Str) : Nat := (ws.filter fun z => decide (z ∈ openers)).length
theorem opn_app (a b : List Str) : opn (a ++ b) = opn a + opn b := by unfold opn; rw [List.filter_append, List.length_append]
theorem opn_one {z : Str} : opn [z] = if z ∈ openers then 1 else 0 := by
  unfold opn
  by_cases h : z ∈ openers
  · rw [if_pos h, List.filter_cons, if_pos (decide_eq_true h)]; rfl
  · rw [if_neg h, List.filter_cons, if_neg (by rw [decide_eq_false h]; exact Bool.false_ne_true)]; rfl
theorem opn_le (a : List Str) : opn a ≤ a.length := List.length_filter_le _ _
theorem signs_wk : ∀ z ∈ signs, wkB z = true ∧ z ∉ openers := by decide +kernel
theorem log_small {n : Nat} (h : n < 10 ^ 30) : ((n : Int)).natAbs.log2 < 1920 := by
  rw [Int.natAbs_natCast]
  by_cases h0 : n = 0
  · subst h0; decide
  · exact Nat.lt_trans ((Nat.log2_lt h0).mpr (Nat.lt_trans h (show (10 : Nat) ^ 30 < 2 ^ 100 by decide +kernel))) (by decide)
def spToken (K : PySem.W.Frag) : Sp := fun vs H Q _ => ∃ (t l : Addr) (k : Str) (ns : List Str), vs = [.ref t, .str k, .ref l] ∧ TapeAt H t ∧ SqL K H l (ns.map V.str) ∧ l ≠ t ∧ ns ≠ [] ∧ (∀ z ∈ ns, NameOk z) ∧ tokB k = true ∧
  ∀ (z : Str) H', Wk z → (z ∈ openers → k ∈ openers) → Stp t H H' → TapeAt H' t → Q (.str z) H'
abbrev s_law_token : Stmt := top 67
abbrev n_law_token : List Str := ["_law_tape_here", "_law_kind_here", "_law_names"]
theorem sc_law_token : FnScope n_law_token ["_law_tape_here", "_law_kind_here", "_law_names"] (defScope s_law_token) := ⟨rfl, rfl, rfl, by decide +kernel, rfl, by decide +kernel, by decide +kernel⟩
-- slots of _law_token: 0 _law_tape_here, 1 _law_kind_here, 2 _law_names
theorem ok_law_token (F : Fun K "_law_token" "_law_token" s_law_token f fd) (B : Blt mg) (c__law_take : Cal P w K mg base CX0 1 "_law_take" ["_law_tape_here", "_law_many"] spTakeT) (c__law_number : Cal P w K mg base CX0 2 "_law_number" ["_law_tape_here"] spNumber') (c__law_pick : Cal P w K mg base CX0 2 "_law_pick" ["_law_tape_here", "_law_names"] (spPick K)) : FnOk P w K mg base CX0 3 f fd ["_law_tape_here", "_law_kind_here", "_law_names"] (spToken K) := by
  refine F.own sc_law_token (fun vs H Q E h => ?_) (fun cdv A outer s H vs Q E hr h => ?_)
  · obtain ⟨t, l, k, ns, rfl, _⟩ := h
    rfl
  obtain ⟨t, l, k, ns, rfl, ht, hl, hlt, hne, hns, htk, q⟩ := h
  refine ⟨_, (pss_cons (ps_if (pt_cmpR op_eq (pv 1) pe_str (nomark _))
    (pss_one (ps_ret (pe_c0 c__law_pick hr (by omega) rfl (pa_cons (pv 0) (pa_cons (pv 2) pa_nil))))) pss_nil) (pss_cons (ps_if (pt_cmpR op_eq (pv 1) pe_str (nomark _))
    (pss_one (ps_ret (pe_callTy call_str_int (by rfl) B.str (by decide +kernel) (pa_cons (pe_c0 c__law_number hr (by omega) rfl (pa_cons (pv 0) pa_nil)) pa_nil)))) pss_nil) (pss_cons (ps_if (pt_cmpR op_eq (pv 1) pe_str (nomark _))
    (pss_one (ps_ret (pe_ix ix_list (pe_lst (pa_strs _ (by rfl))) (pe_c0 c__law_take hr (by omega) rfl (pa_cons (pv 0) (pa_cons pe_int pa_nil))) (fun _ _ => rfl)))) pss_nil) (pss_one (ps_ret (pv 1)))))), ?_⟩
  refine ⟨_, rfl, rfl, _, rfl, ?_⟩
  by_cases h1 : k = "NAME"
  · refine if_t (eqT h1) ⟨_, rfl, _, rfl, t, l, _, rfl, ht, hl, hlt, (by intro e; exact hne (List.map_eq_nil_iff.mp e)), fun i v H' hv s1 t1 => ?_⟩
    rw [List.getElem?_map] at hv
    obtain ⟨z, hz, rfl⟩ := Option.map_eq_some_iff.mp hv
    have hw := (hns z (List.mem_of_getElem? hz)).wk
    exact q z H' hw.1 (fun x => absurd x hw.2) s1 t1
  refine if_f (eqF h1) ⟨_, rfl, rfl, _, rfl, ?_⟩
  by_cases h2 : k = "NUMBER"
  · refine if_t (eqT h2) ⟨_, rfl, t, rfl, ht, fun n H' hn s1 t1 => ⟨_, rfl, log_small hn, ?_⟩⟩
    have hw := num_wk hn
    exact q _ H' hw.1 (fun x => absurd x hw.2) s1 t1
  refine if_f (eqF h2) ⟨_, rfl, rfl, _, rfl, ?_⟩
  by_cases h3 : k = "sign"
  · refine if_t (eqT h3) ⟨(by show 4 ≤ sizeLine; decide), fun p hp => ?_⟩
    have n1 := same_new hp (.lst (signs.map V.str))
    refine ⟨_, rfl, t, 4, rfl, ht.same n1, by decide, fun z H' z0 z1 s1 t1 => ?_⟩
    have hp' := s1 _ _ (ht.ne hp) upd_same
    obtain ⟨i, rfl⟩ : ∃ i : Nat, z = (i : Int) := ⟨z.toNat, by omega⟩
    have hi : i < signs.length := by show i < 4; omega
    refine ⟨p, _, _, .str signs[i], rfl, rfl, SqL.of hp', atI_nat (show (signs.map V.str)[i]? = some (V.str signs[i]) by rw [List.getElem?_map, List.getElem?_eq_getElem hi]; rfl), ?_⟩
    have hw := signs_wk signs[i] (List.getElem_mem hi)
    exact q _ H' (Wk.of hw.1) (fun x => absurd x hw.2) ((Stp.of n1).trans s1) t1
  refine if_f (eqF h3) ⟨_, rfl, q k H ?_ id Stp.refl ht⟩
  unfold tokB at htk
  rw [decide_eq_false h1, decide_eq_false h2, decide_eq_false h3] at htk
  exact Wk.of htk
theorem reps_size (c : Array Nat) : ∀ (k : Nat) (acc : Array Nat), ((List.replicate k c).foldl (· ++ ·) acc).size = acc.size + k * c.size
  | 0, acc => by simp
  | k + 1, acc => by
    rw [List.replicate_succ, List.foldl_cons, reps_size c k, Array.size_append, Nat.add_mul]
    omega
theorem mul_len {z : Str} (hz : 0 < z.length) : (Txt.mul z 10).length = 10 * z.length := by
  unfold Txt.mul
  rw [if_neg (by decide), if_neg]
  · show ((List.replicate (10 : Int).toNat z.cps).foldl (· ++ ·) #[]).size = 10 * z.cps.size
    rw [reps_size]
    simp
  · rw [Bool.or_eq_true]
    rintro (h | h)
    · exact absurd h (by decide)
    · have := eq_of_beq h
      omega
theorem zero_S : ("0" : Str) = SX.S [48] := by decide +kernel
def marks : Str := "!\"#$'*/;<>?@ABCDEFGHIJKLMNOPQRSTUVWXYZ\\^_`~"
theorem marks_ok : ∀ c ∈ marks.cps.toList, wkB ⟨#[c]⟩ = true := by decide +kernel
theorem big_ok : ∀ k ∈ ([0, 1, 2, 3, 4] : List Nat), wkB (("1" : Str) ++ Txt.slice (Str.ofString (toString ((10 : Int) ^ (27 : Int).toNat))) (some 1) none ++ Txt.slice (Str.ofString (toString ((10 : Int) ^ (4 : Int).toNat))) (some (k : Int)) none) = true := by decide +kernel
theorem big_len : ∀ k ∈ ([0, 1, 2, 3, 4] : List Nat), (("1" : Str) ++ Txt.slice (Str.ofString (toString ((10 : Int) ^ (27 : Int).toNat))) (some 1) none).length + (Txt.slice (Str.ofString (toString ((10 : Int) ^ (4 : Int).toNat))) (some (k : Int)) none).length ≤ 40 := by decide +kernel
def spOdd (K : PySem.W.Frag) : Sp := fun vs H Q _ => ∃ (t l : Addr) (ns : List Str), vs = [.ref t, .ref l] ∧ TapeAt H t ∧ SqL K H l (ns.map V.str) ∧ l ≠ t ∧ ns ≠ [] ∧ (∀ z ∈ ns, NameOk z) ∧ ∀ (z : Str) H', Wk z → Stp t H H' → TapeAt H' t → Q (.str z) H'
abbrev s_law_odd : Stmt := top 69
abbrev n_law_odd : List Str := ["_law_tape_here", "_law_names", "_law_choice", "_law_marks"]
theorem sc_law_odd : FnScope n_law_odd ["_law_tape_here", "_law_names"] (defScope s_law_odd) := ⟨rfl, rfl, rfl, by decide +kernel, rfl, by decide +kernel, by decide +kernel⟩
-- slots of _law_odd: 0 _law_tape_here, 1 _law_names, 2 _law_choice, 3 _law_marks
theorem ok_law_odd (F : Fun K "_law_odd" "_law_odd" s_law_odd f fd) (B : Blt mg) (c__law_take : Cal P w K mg base CX0 1 "_law_take" ["_law_tape_here", "_law_many"] spTakeT) (c__law_number : Cal P w K mg base CX0 2 "_law_number" ["_law_tape_here"] spNumber') (c__law_kept : Cal P w K mg base CX0 1 "_law_kept" [] spKept) (c__law_pick : Cal P w K mg base CX0 2 "_law_pick" ["_law_tape_here", "_law_names"] (spPick K)) : FnOk P w K mg base CX0 3 f fd ["_law_tape_here", "_law_names"] (spOdd K) := by
  refine F.own sc_law_odd (fun vs H Q E h => ?_) (fun cdv A outer s H vs Q E hr h => ?_)
  · obtain ⟨t, l, ns, rfl, _⟩ := h
    rfl
  obtain ⟨t, l, ns, rfl, ht, hl, hlt, hne, hns, q⟩ := h
  refine ⟨_, (pss_cons (ps_set (i := 2) sc_law_odd.nd rfl (by first | exact Or.inl rfl | exact Or.inr rfl) (pe_c0 c__law_take hr (by omega) rfl (pa_cons (pv 0) (pa_cons pe_int pa_nil)))) (pss_cons (ps_set (i := 3) sc_law_odd.nd rfl (by first | exact Or.inl rfl | exact Or.inr rfl) pe_str) (pss_cons (ps_if (pt_cmpR op_eq (pv 2) pe_int (nomark _))
    (pss_one (ps_ret (pe_c0 c__law_pick hr (by omega) rfl (pa_cons (pv 0) (pa_cons (pe_c00 c__law_kept hr (by omega) rfl) pa_nil))))) pss_nil) (pss_cons (ps_if (pt_cmpR op_eq (pv 2) pe_int (nomark _))
    (pss_one (ps_ret (pe_c0 c__law_pick hr (by omega) rfl (pa_cons (pv 0) (pa_cons (pe_lst (pa_strs _ (by rfl))) pa_nil))))) pss_nil) (pss_cons (ps_if (pt_cmpR op_eq (pv 2) pe_int (nomark _))
    (pss_one (ps_ret (pe_slice C8.sl_txt (pe_op op_mulS (pe_c0 c__law_pick hr (by omega) rfl (pa_cons (pv 0) (pa_cons (pv 1) pa_nil))) pe_int) po_none (po_some (pe_op op_add pe_int (pe_c0 c__law_take hr (by omega) rfl (pa_cons (pv 0) (pa_cons pe_int pa_nil)))))))) pss_nil) (pss_cons (ps_if (pt_cmpR op_eq (pv 2) pe_int (nomark _))
    (pss_one (ps_ret (pe_op op_add_str pe_str (pe_callTy call_str_int (by rfl) B.str (by decide +kernel) (pa_cons (pe_c0 c__law_number hr (by omega) rfl (pa_cons (pv 0) pa_nil)) pa_nil))))) pss_nil) (pss_cons (ps_if (pt_cmpR op_eq (pv 2) pe_int (nomark _))
    (pss_one (ps_ret (pe_op op_add_str (pe_op op_add_str pe_str (pe_slice C8.sl_txt (pe_callTy call_str_int (by rfl) B.str (by decide +kernel) (pa_cons (pe_op op_pow pe_int pe_int) pa_nil)) (po_some pe_int) po_none)) (pe_slice C8.sl_txt (pe_callTy call_str_int (by rfl) B.str (by decide +kernel) (pa_cons (pe_op op_pow pe_int pe_int) pa_nil)) (po_some (pe_c0 c__law_take hr (by omega) rfl (pa_cons (pv 0) (pa_cons pe_int pa_nil)))) po_none)))) pss_nil) (pss_cons (ps_if (pt_cmpR op_eq (pv 2) pe_int (nomark _))
    (pss_one (ps_ret (pe_ix ix_str (pv 3) (pe_op op_mod (pe_c0 c__law_take hr (by omega) rfl (pa_cons (pv 0) (pa_cons pe_int pa_nil))) (pe_callB call_len_str (by rfl) B.len PySem.boot_len (pa_cons (pv 3) pa_nil))) (fun _ _ => rfl)))) pss_nil) (pss_one (ps_ret (pe_ifExp (pt_cmpR op_eq (pv 2) pe_int (nomark _)) (pe_c0 c__law_pick hr (by omega) rfl (pa_cons (pv 0) (pa_cons (pv 1) pa_nil))) (pe_callTy call_str_int (by rfl) B.str (by decide +kernel) (pa_cons (pe_c0 c__law_number hr (by omega) rfl (pa_cons (pv 0) pa_nil)) pa_nil))))))))))))), ?_⟩
  refine ⟨_, rfl, t, 8, rfl, ht, by decide, fun z H1 z0 z1 s1 t1 => ?_⟩
  have hl1 := s1.lst hlt hl
  have hne1 : ns.map V.str ≠ [] := fun e => hne (List.map_eq_nil_iff.mp e)
  refine ⟨_, rfl, rfl, _, rfl, ?_⟩
  have pickNs : ∀ {Q' : VK} {H0 : Hp}, Stp t H H0 → TapeAt H0 t → (∀ (z : Str) H', NameOk z → Stp t H H' → TapeAt H' t → Q' (.str z) H') → spPick K [.ref t, .ref l] H0 Q' E := fun {Q' H0} s0 t0 q' => by
    refine ⟨t, l, _, rfl, t0, s0.lst hlt hl, hlt, hne1, fun i v H' hv s2 t2 => ?_⟩
    rw [List.getElem?_map] at hv
    obtain ⟨z, hz, rfl⟩ := Option.map_eq_some_iff.mp hv
    exact q' z H' (hns z (List.mem_of_getElem? hz)) (s0.trans s2) t2
  have pickL : ∀ {Q' : VK} {H0 : Hp} {p : Addr} {zs : List Str}, zs ≠ [] → (zs.all wkB) = true → Stp t H H0 → TapeAt H0 t → H0 p = some (.lst (zs.map V.str)) → p ≠ t → (∀ (z : Str) H', Wk z → Stp t H H' → TapeAt H' t → Q' (.str z) H') → spPick K [.ref t, .ref p] H0 Q' E := fun {Q' H0 p zs} hne2 hz s0 t0 hp hpt q' => by
    refine ⟨t, p, _, rfl, t0, SqL.of hp, hpt, (by intro e; exact hne2 (List.map_eq_nil_iff.mp e)), fun i v H' hv s2 t2 => ?_⟩
    rw [List.getElem?_map] at hv
    obtain ⟨z, hz', rfl⟩ := Option.map_eq_some_iff.mp hv
    exact q' z H' (Wk.of (List.all_eq_true.mp hz z (List.mem_of_getElem? hz'))) (s0.trans s2) t2
  by_cases h0 : z = 0
  · refine if_t (decide_eq_true (congrArg V.int h0)) ?_
    refine ⟨_, rfl, rfl, fun p H2 s2 hp hp2 => ?_⟩
    exact pickL (zs := kept) (by decide) (by decide +kernel) (s1.trans (Stp.of s2)) (t1.same s2) hp2 (t1.ne hp) q
  refine if_f (decide_eq_false (fun e => h0 (V.int.inj e))) ⟨_, rfl, rfl, _, rfl, ?_⟩
  by_cases h1 : z = 1
  · refine if_t (decide_eq_true (congrArg V.int h1)) ⟨_, rfl, by show 14 ≤ sizeLine; decide, fun p hp => ?_⟩
    exact pickL (zs := ["(", ")", "{", "}", "[", "]", ",", ":", "=", ".", "|", "+", "-", "&"]) (by decide) (by decide +kernel) (s1.new hp _) (t1.same (same_new hp _)) upd_same (t1.ne hp) q
  refine if_f (decide_eq_false (fun e => h1 (V.int.inj e))) ⟨_, rfl, rfl, _, rfl, ?_⟩
  by_cases h2 : z = 2
  · refine if_t (decide_eq_true (congrArg V.int h2)) ⟨_, rfl, _, rfl, pickNs s1 t1 fun z2 H2 hz2 s2 t2 => ?_⟩
    obtain ⟨a, rfl, a0, a8, al, ak⟩ := hz2
    have hpos : 0 < (SX.S a).length := by rw [len_S]; exact List.length_pos_iff.mpr a0
    refine ⟨_, _, rfl, rfl, (by rw [len_S]; omega), by decide, by decide, _, rfl, t, 2, rfl, t2, by decide, fun k H3 k0 k1 s3 t3 => ⟨_, _, rfl, rfl, _, rfl, _, rfl, ?_, ?_⟩⟩
    · rw [mul_len hpos, len_S]
      have : (10000 : Nat) ≤ sizeLine := by decide
      omega
    · rw [← SX.S_tl (Txt.mul (SX.S a) 10), SX.slice_to (by omega)]
      have hml : (Txt.mul (SX.S a) 10).cps.toList.length = 10 * a.length := by
        have := mul_len hpos
        rw [len_S a] at this
        have e2 : (Txt.mul (SX.S a) 10).cps.toList.length = (Txt.mul (SX.S a) 10).length := by unfold Str.length; simp
        rw [e2, this]
      have ha : 0 < a.length := List.length_pos_iff.mpr a0
      refine q _ H3 (Wk.letters ?_ (fun c hc => mul_mem (P := fun c => c ∈ GR.letters) (by rw [S_back]; exact al) c (List.mem_of_mem_take hc)) ?_) (s2.trans s3) t3
      · intro e
        have := congrArg List.length e
        rw [List.length_take, hml, List.length_nil] at this
        omega
      · rw [List.length_take]
        omega
  refine if_f (decide_eq_false (fun e => h2 (V.int.inj e))) ⟨_, rfl, rfl, _, rfl, ?_⟩
  by_cases h3 : z = 3
  · refine if_t (decide_eq_true (congrArg V.int h3)) ⟨_, rfl, t, rfl, t1, fun n H2 hn s2 t2 => ⟨_, rfl, log_small hn, _, _, rfl, rfl, ?_, ?_⟩⟩
    · rw [SX.num_S, len_S (TL.numL n)]
      have h30 : (TL.numL n).length ≤ 30 := TL.numL_len (by decide) hn
      have : (10000 : Nat) ≤ sizeLine := by decide
      have e1 : ("0" : Str).length = 1 := by decide +kernel
      omega
    · have h30 : (TL.numL n).length ≤ 30 := TL.numL_len (by decide) hn
      rw [SX.num_S, zero_S, SX.S_cat]
      refine q _ H2 (Wk.digits (by simp) (fun c hc => ?_) (by rw [List.length_append]; show 1 + _ ≤ 40; omega)) (s1.trans s2) t2
      rcases List.mem_append.mp hc with hc | hc
      · rw [List.mem_singleton.mp hc]
        exact dig_mem (by decide)
      · exact num_dig n c hc
  refine if_f (decide_eq_false (fun e => h3 (V.int.inj e))) ⟨_, rfl, rfl, _, rfl, ?_⟩
  by_cases h4 : z = 4
  · refine if_t (decide_eq_true (congrArg V.int h4)) ?_
    refine ⟨_, _, rfl, rfl, ⟨by decide, by decide, by decide⟩, _, rfl, by decide +kernel, _, rfl, _, rfl, by decide +kernel, _, _, rfl, rfl, by decide +kernel, ?_⟩
    refine ⟨_, _, rfl, rfl, ⟨by decide, by decide, by decide⟩, _, rfl, by decide +kernel, _, rfl, t, 5, rfl, t1, by decide, fun k H2 k0 k1 s2 t2 => ⟨_, rfl, _, rfl, by decide +kernel, ?_⟩⟩
    obtain ⟨i, rfl⟩ : ∃ i : Nat, k = (i : Int) := ⟨k.toNat, by omega⟩
    have hi5 : i ∈ ([0, 1, 2, 3, 4] : List Nat) := by
      simp only [List.mem_cons, List.not_mem_nil, or_false]
      omega
    exact ⟨_, _, rfl, rfl, Nat.le_trans (big_len i hi5) (by decide), q _ H2 (Wk.of (big_ok i hi5)) (s1.trans s2) t2⟩
  refine if_f (decide_eq_false (fun e => h4 (V.int.inj e))) ⟨_, rfl, rfl, _, rfl, ?_⟩
  by_cases h5 : z = 5
  · refine if_t (decide_eq_true (congrArg V.int h5)) ?_
    refine ⟨_, rfl, _, rfl, t, 720720, rfl, t1, by decide, fun k H2 k0 k1 s2 t2 => ⟨_, rfl, marks, rfl, by decide +kernel, _, _, rfl, rfl, (show (0 : Int) < (marks.length : Int) by decide +kernel), ?_⟩⟩
    have hml : (0 : Int) < (marks.length : Int) := by decide +kernel
    have m0 := Int.emod_nonneg k (show (marks.length : Int) ≠ 0 by omega)
    have m1 := Int.emod_lt_of_pos k hml
    have hmm : marks.cps.toList.length = marks.length := by unfold Str.length; simp
    obtain ⟨i, hi⟩ : ∃ i : Nat, k % (marks.length : Int) = (i : Int) := ⟨(k % (marks.length : Int)).toNat, by omega⟩
    have hil : i < marks.cps.toList.length := by omega
    refine ⟨marks, _, marks.cps.toList[i], rfl, rfl, by decide +kernel, by rw [hi]; exact atI_nat (List.getElem?_eq_getElem hil), ?_⟩
    exact q _ H2 (Wk.of (marks_ok _ (List.getElem_mem hil))) (s1.trans s2) t2
  refine if_f (decide_eq_false (fun e => h5 (V.int.inj e))) ⟨_, rfl, rfl, _, rfl, ?_⟩
  by_cases h6 : z = 6
  · refine if_t (decide_eq_true (congrArg V.int h6)) ⟨_, rfl, _, rfl, pickNs s1 t1 fun z2 H2 hz2 s2 t2 => ?_⟩
    exact q z2 H2 hz2.wk.1 s2 t2
  · refine if_f (decide_eq_false (fun e => h6 (V.int.inj e))) ⟨_, rfl, t, rfl, t1, fun n H2 hn s2 t2 => ⟨_, rfl, log_small hn, ?_⟩⟩
    exact q _ H2 (num_wk hn).1 (s1.trans s2) t2
end
end GR
set_option Elab.async false
set_option linter.all false
set_option maxRecDepth 100000
set_option maxHeartbeats 4000000
namespace GR
open PySem PySem.Spec PyProof.Rows L2
section
variable {P : Program} {w : World} {K : PySem.W.Frag} {Wd : Str → Prop} {mg : Str → Option Value} {base : Heap} {CC CB aR aS : Addr} {T : Toks} {f : Addr} {fd : FuncData} {n : Nat}
def cutW (xs : List Str) (lo hi : Option Int) : List Str := (xs.drop (HT.sIx xs.length 0 lo)).take (HT.sIx xs.length xs.length hi - HT.sIx xs.length 0 lo)
theorem cut_map (xs : List Str) (lo hi : Option Int) : cutV (xs.map V.str) lo hi = (cutW xs lo hi).map V.str := by
  unfold cutV cutW
  rw [List.length_map, List.map_take, List.map_drop]
theorem cut_to (xs : List Str) (a : Nat) : cutW xs none (some (a : Int)) = xs.take a := by
  unfold cutW
  rw [HT.sIx_none, HT.sIx_nat, List.drop_zero, Nat.sub_zero]
  rcases Nat.le_total a xs.length with h | h
  · rw [Nat.min_eq_left h]
  · rw [Nat.min_eq_right h, List.take_length, List.take_of_length_le h]
theorem cut_from (xs : List Str) (a : Nat) : cutW xs (some (a : Int)) none = xs.drop a := by
  unfold cutW
  rw [HT.sIx_none, HT.sIx_nat]
  rcases Nat.le_total a xs.length with h | h
  · rw [Nat.min_eq_left h, List.take_of_length_le (by rw [List.length_drop]; exact Nat.le_refl _)]
  · rw [Nat.min_eq_right h, List.drop_length, List.drop_of_length_le h, List.take_nil]
theorem cut_one (xs : List Str) (a : Nat) : cutW xs (some (a : Int)) (some ((a + 1 : Nat) : Int)) = (xs.drop a).take 1 := by
  unfold cutW
  rw [HT.sIx_nat, HT.sIx_nat]
  rcases Nat.lt_or_ge a xs.length with h | h
  · rw [Nat.min_eq_left (by omega), Nat.min_eq_left (by omega), Nat.add_sub_cancel_left]
  · rw [Nat.min_eq_right h, List.drop_length, List.drop_of_length_le h, List.take_nil, List.take_nil]
theorem np {σ : L2.St} {H : Hp} {Q : Option Int → Hp → Prop} (h : Q none H) : tNoPart σ H Q := h
def WksC (H : Hp) (l : Addr) (ws : List Str) : Prop := H l = some (.lst (ws.map V.str)) ∧ ∀ z ∈ ws, Wk z
def spChanged (K : PySem.W.Frag) : Sp := fun vs H Q _ => ∃ (t l e : Addr) (ns ws : List Str), vs = [.ref t, .ref l, .ref e] ∧ TapeAt H t ∧ SqL K H e (ns.map V.str) ∧ e ≠ t ∧ l ≠ t ∧ ns ≠ [] ∧ (∀ z ∈ ns, NameOk z) ∧ WksC H l ws ∧ ws.length ≤ 1000 ∧ ∀ (p : Addr) (ws' : List Str) H', Stp t H H' → TapeAt H' t → H p = none → WksC H' p ws' → opn ws' ≤ opn ws + 1 → ws'.length ≤ ws.length + 1 → Q (.ref p) H'
abbrev s_law_changed : Stmt := top 70
abbrev n_law_changed : List Str := ["_law_tape_here", "_law_words_here", "_law_names", "_law_at", "_law_choice", "_law_pair"]
theorem sc_law_changed : FnScope n_law_changed ["_law_tape_here", "_law_words_here", "_law_names"] (defScope s_law_changed) := ⟨rfl, rfl, rfl, by decide +kernel, rfl, by decide +kernel, by decide +kernel⟩
-- slots of _law_changed: 0 _law_tape_here, 1 _law_words_here, 2 _law_names, 3 _law_at, 4 _law_choice, 5 _law_pair
theorem ok_law_changed (F : Fun K "_law_changed" "_law_changed" s_law_changed f fd) (B : Blt mg) (c__law_take : Cal P w K mg base CX0 1 "_law_take" ["_law_tape_here", "_law_many"] spTakeT) (c__law_odd : Cal P w K mg base CX0 3 "_law_odd" ["_law_tape_here", "_law_names"] (spOdd K)) : FnOk P w K mg base CX0 4 f fd ["_law_tape_here", "_law_words_here", "_law_names"] (spChanged K) := by
  refine F.own sc_law_changed (fun vs H Q E h => ?_) (fun cdv A outer s H vs Q E hr h => ?_)
  · obtain ⟨t, l, e, ns, ws, rfl, _⟩ := h
    rfl
  obtain ⟨t, l, e, ns, ws, rfl, ht, he, het, hlt, hne, hns, hw, hwl, q⟩ := h
  refine ⟨_, (pss_cons (ps_set (i := 3) sc_law_changed.nd rfl (by first | exact Or.inl rfl | exact Or.inr rfl) (pe_op op_mod (pe_c0 c__law_take hr (by omega) rfl (pa_cons (pv 0) (pa_cons pe_int pa_nil))) (pe_op op_add (pe_callB call_len_seq (by rfl) B.len PySem.boot_len (pa_cons (pv 1) pa_nil)) pe_int))) (pss_cons (ps_set (i := 4) sc_law_changed.nd rfl (by first | exact Or.inl rfl | exact Or.inr rfl) (pe_c0 c__law_take hr (by omega) rfl (pa_cons (pv 0) (pa_cons pe_int pa_nil)))) (pss_cons (ps_if (pt_cmpR op_eq (pv 4) pe_int (nomark _))
    (pss_one (ps_ret (pe_op op_cat (pe_op op_cat (pe_slice sl_list (pv 1) po_none (po_some (pv 3))) (pe_lst (pa_cons (pe_c0 c__law_odd hr (by omega) rfl (pa_cons (pv 0) (pa_cons (pv 2) pa_nil))) pa_nil))) (pe_slice sl_list (pv 1) (po_some (pv 3)) po_none)))) pss_nil) (pss_cons (ps_if (pt_cmpR op_eq (pv 4) pe_int (nomark _))
    (pss_one (ps_ret (pe_op op_cat (pe_slice sl_list (pv 1) po_none (po_some (pv 3))) (pe_slice sl_list (pv 1) (po_some (pe_op op_add (pv 3) pe_int)) po_none)))) pss_nil) (pss_cons (ps_if (pt_cmpR op_eq (pv 4) pe_int (nomark _))
    (pss_one (ps_ret (pe_op op_cat (pe_op op_cat (pe_slice sl_list (pv 1) po_none (po_some (pv 3))) (pe_slice sl_list (pv 1) (po_some (pv 3)) (po_some (pe_op op_add (pv 3) pe_int)))) (pe_slice sl_list (pv 1) (po_some (pv 3)) po_none)))) pss_nil) (pss_cons (ps_if (pt_cmpR op_eq (pv 4) pe_int (nomark _))
    (pss_cons (ps_set (i := 5) sc_law_changed.nd rfl (by first | exact Or.inl rfl | exact Or.inr rfl) (pe_op op_cat (pe_slice sl_list (pv 1) (po_some (pe_op op_add (pv 3) pe_int)) (po_some (pe_op op_add (pv 3) pe_int))) (pe_slice sl_list (pv 1) (po_some (pv 3)) (po_some (pe_op op_add (pv 3) pe_int))))) (pss_one (ps_ret (pe_op op_cat (pe_op op_cat (pe_slice sl_list (pv 1) po_none (po_some (pv 3))) (pv 5)) (pe_slice sl_list (pv 1) (po_some (pe_op op_add (pv 3) pe_int)) po_none))))) pss_nil) (pss_cons (ps_if (pt_cmpR op_eq (pv 4) pe_int (nomark _))
    (pss_one (ps_ret (pe_op op_cat (pe_op op_cat (pe_slice sl_list (pv 1) po_none (po_some (pv 3))) (pe_lst (pa_cons (pe_c0 c__law_odd hr (by omega) rfl (pa_cons (pv 0) (pa_cons (pv 2) pa_nil))) pa_nil))) (pe_slice sl_list (pv 1) (po_some (pe_op op_add (pv 3) pe_int)) po_none)))) pss_nil) (pss_one (ps_ret (pe_slice sl_list (pv 1) po_none (po_some (pv 3)))))))))))), ?_⟩
  obtain ⟨hl, hwk⟩ := hw
  refine ⟨_, rfl, t, 720720, rfl, ht, by decide, fun z H1 z0 z1 s1 t1 => ?_⟩
  have hl1 := s1 _ _ hlt hl
  refine ⟨_, rfl, l, _, rfl, .inl (SqL.of hl1), _, _, rfl, rfl, _, _, rfl, rfl, (by show (0 : Int) < ((ws.map V.str).length : Int) + 1; omega), ?_⟩
  show gName 3 (V.int (z % (((ws.map V.str).length : Int) + 1))) _ _ _
  rw [List.length_map]
  have m0 := Int.emod_nonneg z (show ((ws.length : Int) + 1) ≠ 0 by omega)
  obtain ⟨a, ha⟩ : ∃ a : Nat, z % ((ws.length : Int) + 1) = (a : Int) := ⟨(z % ((ws.length : Int) + 1)).toNat, by omega⟩
  rw [ha]
  have hws : ws = ws.take a ++ ((ws.drop a).take 1 ++ ((ws.drop (a + 1)).take 1 ++ ws.drop (a + 2))) := by
    conv => lhs; rw [← List.take_append_drop a ws]
    congr 1
    conv => lhs; rw [← List.take_append_drop 1 (ws.drop a)]
    congr 1
    rw [List.drop_drop, ← List.drop_drop (i := 1) (j := a + 1)]
    exact (List.take_append_drop 1 _).symm
  have c0 := cut_to ws a
  have c1 := cut_from ws a
  have c2 := cut_from ws (a + 1)
  have c3 := cut_one ws a
  have c4 := cut_one ws (a + 1)
  have c5 := cut_from ws (a + 2)
  have c1' : ws.drop a = (ws.drop a).take 1 ++ ((ws.drop (a + 1)).take 1 ++ ws.drop (a + 2)) := by
    conv => lhs; rw [← List.take_append_drop 1 (ws.drop a)]
    congr 1
    rw [List.drop_drop, ← List.drop_drop (i := 1) (j := a + 1)]
    exact (List.take_append_drop 1 _).symm
  have c2' : ws.drop (a + 1) = (ws.drop (a + 1)).take 1 ++ ws.drop (a + 2) := by
    rw [← List.drop_drop (i := 1) (j := a + 1)]
    exact (List.take_append_drop 1 _).symm
  rw [c1'] at c1
  rw [c2'] at c2
  have l1 : ((ws.drop a).take 1).length ≤ 1 := by rw [List.length_take]; omega
  have l2 : ((ws.drop (a + 1)).take 1).length ≤ 1 := by rw [List.length_take]; omega
  generalize ws.take a = A at hws c0
  generalize (ws.drop a).take 1 = e1 at hws c1 c3 l1
  generalize (ws.drop (a + 1)).take 1 = e2 at hws c1 c2 c4 l2
  generalize ws.drop (a + 2) = R at hws c1 c2 c5
  have memA : ∀ z, z ∈ A ∨ z ∈ e1 ∨ z ∈ e2 ∨ z ∈ R → Wk z := fun z hz => hwk z (by rw [hws]; simp only [List.mem_append]; exact hz)
  have hlen : ws.length = A.length + (e1.length + (e2.length + R.length)) := by rw [hws]; simp only [List.length_append]
  have hopn : opn ws = opn A + (opn e1 + (opn e2 + opn R)) := by rw [hws]; simp only [opn_app]
  have o1 := opn_le e1
  have o2 := opn_le e2
  have new : ∀ {H' : Hp} {p : Addr}, Stp t H H' → TapeAt H' t → H' p = none → H p = none := fun {H' p} st tt hp => by
    cases h : H p with
    | none => rfl
    | some o => rw [st p o (tt.ne hp) h] at hp; cases hp
  have sl : ∀ {H' : Hp} {lo hi : Option Int} {Y : List Str} {Q' : VK}, Stp t H H' → TapeAt H' t → cutW ws lo hi = Y → (∀ p H'', Same H' H'' → Stp t H H'' → TapeAt H'' t → H p = none → p ≠ t → H'' p = some (.lst (Y.map V.str)) → Q' (.ref p) H'') → rSlL K (.ref l) lo hi H' Q' := fun {H' lo hi Y Q'} st tt hc k => by
    refine ⟨l, _, rfl, SqL.of (st _ _ hlt hl), fun p hp => ?_⟩
    rw [cut_map, hc]
    exact k p _ (same_new hp _) (st.new hp _) (tt.same (same_new hp _)) (new st tt hp) (tt.ne hp) upd_same
  have ct : ∀ {H' : Hp} {p1 p2 : Addr} {X Y : List Str} {Q' : VK}, Stp t H H' → TapeAt H' t → H' p1 = some (.lst (X.map V.str)) → H' p2 = some (.lst (Y.map V.str)) → X.length + Y.length ≤ 10000 → (∀ p H'', Same H' H'' → Stp t H H'' → TapeAt H'' t → H p = none → p ≠ t → H'' p = some (.lst ((X ++ Y).map V.str)) → Q' (.ref p) H'') → rCat (.ref p1) (.ref p2) H' Q' := fun {H' p1 p2 X Y Q'} st tt h1 h2 hn k => by
    refine ⟨p1, p2, _, _, rfl, rfl, h1, h2, sml (by rw [List.length_map, List.length_map]; exact hn), fun p hp => ?_⟩
    rw [← List.map_append]
    exact k p _ (same_new hp _) (st.new hp _) (tt.same (same_new hp _)) (new st tt hp) (tt.ne hp) upd_same
  refine ⟨_, rfl, t, 6, rfl, t1, by decide, fun c H2 c0' c1' s2 t2 => ?_⟩
  have s12 := s1.trans s2
  refine ⟨_, rfl, rfl, _, rfl, ?_⟩
  by_cases h0 : c = 0
  · refine if_t (decide_eq_true (congrArg V.int h0)) ?_
    refine ⟨_, rfl, _, rfl, _, rfl, sl s12 t2 c0 fun p3 H3 e3 s3 t3 f3 n3 h3 => ?_⟩
    refine ⟨_, rfl, _, rfl, t, e, ns, rfl, t3, s3.lst het he, het, hne, hns, fun y H4 hy s4 t4 => ⟨by show 1 ≤ sizeLine; decide, fun p5 hp5 => ?_⟩⟩
    have s5 := (s3.trans s4).new hp5 (.lst [.str y])
    have t5 := t4.same (same_new hp5 (.lst [.str y]))
    have h35 := (same_new hp5 (.lst [.str y])) _ _ (s4 _ _ n3 h3)
    refine ct s5 t5 h35 (Y := [y]) upd_same (by simp only [List.length_singleton]; omega) fun p6 H6 e6 s6 t6 f6 n6 h6 => ?_
    refine ⟨_, rfl, _, rfl, _, rfl, np (sl s6 t6 (Y := e1 ++ (e2 ++ R)) c1 fun p7 H7 e7 s7 t7 f7 n7 h7 => ?_)⟩
    refine ct s7 t7 (e7 _ _ h6) h7 (by simp only [List.length_append, List.length_singleton]; omega) fun p8 H8 e8 s8 t8 f8 n8 h8 => ?_
    have oy : opn [y] ≤ 1 := opn_le [y]
    refine q p8 _ H8 s8 t8 f8 ⟨h8, fun z hz => ?_⟩ (by simp only [opn_app]; omega) (by simp only [List.length_append, List.length_singleton]; omega)
    simp only [List.mem_append, List.mem_singleton] at hz
    rcases hz with (hz | rfl) | hz
    · exact memA z (.inl hz)
    · exact hy
    · exact memA z (.inr hz)
  refine if_f (decide_eq_false (fun e => h0 (V.int.inj e))) ⟨_, rfl, rfl, _, rfl, ?_⟩
  by_cases h1 : c = 1
  · refine if_t (decide_eq_true (congrArg V.int h1)) ?_
    refine ⟨_, rfl, _, rfl, _, rfl, sl s12 t2 c0 fun p3 H3 e3 s3 t3 f3 n3 h3 => ?_⟩
    refine ⟨_, rfl, _, rfl, _, _, rfl, rfl, _, rfl, np (sl s3 t3 (Y := e2 ++ R) c2 fun p7 H7 e7 s7 t7 f7 n7 h7 => ?_)⟩
    refine ct s7 t7 (e7 _ _ h3) h7 (by simp only [List.length_append]; omega) fun p8 H8 e8 s8 t8 f8 n8 h8 => ?_
    refine q p8 _ H8 s8 t8 f8 ⟨h8, fun z hz => ?_⟩ (by simp only [opn_app]; omega) (by simp only [List.length_append]; omega)
    simp only [List.mem_append] at hz
    rcases hz with hz | hz
    · exact memA z (.inl hz)
    · exact memA z (.inr (.inr hz))
  refine if_f (decide_eq_false (fun e => h1 (V.int.inj e))) ⟨_, rfl, rfl, _, rfl, ?_⟩
  by_cases h2 : c = 2
  · refine if_t (decide_eq_true (congrArg V.int h2)) ?_
    refine ⟨_, rfl, _, rfl, _, rfl, sl s12 t2 c0 fun p3 H3 e3 s3 t3 f3 n3 h3 => ?_⟩
    refine ⟨_, rfl, _, rfl, _, rfl, _, rfl, _, _, rfl, rfl, _, rfl, sl s3 t3 c3 fun p4 H4 e4 s4 t4 f4 n4 h4 => ?_⟩
    refine ct s4 t4 (e4 _ _ h3) h4 (by omega) fun p6 H6 e6 s6 t6 f6 n6 h6 => ?_
    refine ⟨_, rfl, _, rfl, _, rfl, np (sl s6 t6 (Y := e1 ++ (e2 ++ R)) c1 fun p7 H7 e7 s7 t7 f7 n7 h7 => ?_)⟩
    refine ct s7 t7 (e7 _ _ h6) h7 (by simp only [List.length_append]; omega) fun p8 H8 e8 s8 t8 f8 n8 h8 => ?_
    refine q p8 _ H8 s8 t8 f8 ⟨h8, fun z hz => ?_⟩ (by simp only [opn_app]; omega) (by simp only [List.length_append]; omega)
    simp only [List.mem_append] at hz
    rcases hz with (hz | hz) | (hz | hz)
    · exact memA z (.inl hz)
    · exact memA z (.inr (.inl hz))
    · exact memA z (.inr (.inl hz))
    · exact memA z (.inr (.inr hz))
  refine if_f (decide_eq_false (fun e => h2 (V.int.inj e))) ⟨_, rfl, rfl, _, rfl, ?_⟩
  by_cases h3' : c = 3
  · refine if_t (decide_eq_true (congrArg V.int h3')) ?_
    refine ⟨_, rfl, _, rfl, _, _, rfl, rfl, _, rfl, _, rfl, _, _, rfl, rfl, _, rfl, sl s12 t2 c4 fun p3 H3 e3 s3 t3 f3 n3 h3 => ?_⟩
    refine ⟨_, rfl, _, rfl, _, rfl, _, rfl, _, _, rfl, rfl, _, rfl, sl s3 t3 c3 fun p4 H4 e4 s4 t4 f4 n4 h4 => ?_⟩
    refine ct s4 t4 (e4 _ _ h3) h4 (by omega) fun p5 H5 e5 s5 t5 f5 n5 h5 => ?_
    refine ⟨_, rfl, _, rfl, _, rfl, sl s5 t5 c0 fun p6 H6 e6 s6 t6 f6 n6 h6 => ?_⟩
    refine ⟨_, rfl, ct s6 t6 h6 (e6 _ _ h5) (by simp only [List.length_append]; omega) fun p7 H7 e7 s7 t7 f7 n7 h7 => ?_⟩
    refine ⟨_, rfl, _, rfl, _, _, rfl, rfl, _, rfl, np (sl s7 t7 c5 fun p9 H9 e9 s9 t9 f9 n9 h9 => ?_)⟩
    refine ct s9 t9 (e9 _ _ h7) h9 (by simp only [List.length_append]; omega) fun p8 H8 e8 s8 t8 f8 n8 h8 => ?_
    refine q p8 _ H8 s8 t8 f8 ⟨h8, fun z hz => ?_⟩ (by simp only [opn_app]; omega) (by simp only [List.length_append]; omega)
    simp only [List.mem_append] at hz
    rcases hz with (hz | (hz | hz)) | hz
    · exact memA z (.inl hz)
    · exact memA z (.inr (.inr (.inl hz)))
    · exact memA z (.inr (.inl hz))
    · exact memA z (.inr (.inr (.inr hz)))
  refine if_f (decide_eq_false (fun e => h3' (V.int.inj e))) ⟨_, rfl, rfl, _, rfl, ?_⟩
  by_cases h4' : c = 4
  · refine if_t (decide_eq_true (congrArg V.int h4')) ?_
    refine ⟨_, rfl, _, rfl, _, rfl, sl s12 t2 c0 fun p3 H3 e3 s3 t3 f3 n3 h3 => ?_⟩
    refine ⟨_, rfl, _, rfl, t, e, ns, rfl, t3, s3.lst het he, het, hne, hns, fun y H4 hy s4 t4 => ⟨by show 1 ≤ sizeLine; decide, fun p5 hp5 => ?_⟩⟩
    have s5 := (s3.trans s4).new hp5 (.lst [.str y])
    have t5 := t4.same (same_new hp5 (.lst [.str y]))
    have h35 := (same_new hp5 (.lst [.str y])) _ _ (s4 _ _ n3 h3)
    refine ct s5 t5 h35 (Y := [y]) upd_same (by simp only [List.length_singleton]; omega) fun p6 H6 e6 s6 t6 f6 n6 h6 => ?_
    refine ⟨_, rfl, _, rfl, _, _, rfl, rfl, _, rfl, np (sl s6 t6 (Y := e2 ++ R) c2 fun p7 H7 e7 s7 t7 f7 n7 h7 => ?_)⟩
    refine ct s7 t7 (e7 _ _ h6) h7 (by simp only [List.length_append, List.length_singleton]; omega) fun p8 H8 e8 s8 t8 f8 n8 h8 => ?_
    have oy : opn [y] ≤ 1 := opn_le [y]
    refine q p8 _ H8 s8 t8 f8 ⟨h8, fun z hz => ?_⟩ (by simp only [opn_app]; omega) (by simp only [List.length_append, List.length_singleton]; omega)
    simp only [List.mem_append, List.mem_singleton] at hz
    rcases hz with (hz | rfl) | hz
    · exact memA z (.inl hz)
    · exact hy
    · exact memA z (.inr (.inr hz))
  refine if_f (decide_eq_false (fun e => h4' (V.int.inj e))) ⟨_, rfl, _, rfl, _, rfl, sl s12 t2 c0 fun p3 H3 e3 s3 t3 f3 n3 h3 => ?_⟩
  exact q p3 _ H3 s3 t3 f3 ⟨h3, fun z hz => memA z (.inl hz)⟩ (by omega) (by omega)
end
end GR
set_option Elab.async false
set_option linter.all false
set_option maxRecDepth 100000
set_option maxHeartbeats 4000000
namespace GR
open PySem PySem.Spec PyProof.Rows L2
section
variable {P : Program} {w : World} {K : PySem.W.Frag} {Wd : Str → Prop} {mg : Str → Option Value} {base : Heap} {CC CB aR aS : Addr} {T : Toks} {f : Addr} {fd : FuncData} {n : Nat}
/-! ### the sentence: plain part -/
/-- what the top of the stack is worth -/
def topv (S : List Str) : Nat := match S with | [] => 100 | X :: _ => if (rulesOf X).isEmpty then 0 else if X = "definition" then 50 else 100
def rowD (r : Row3) : Bool := match bodyOf r with
  | [] => decide (1 ≤ wt r.1) && decide (r.1 ≠ "definition")
  | t :: rest => decide (wts (t :: rest) + topv [t] < wt r.1 + topv [r.1])
theorem rows_down : ∀ r ∈ chart, rowD r = true := by decide +kernel
def msr (m : Nat) (S : List Str) : Nat := 200 * (150 - m) + wts S + topv S
theorem topv_le (S : List Str) : topv S ≤ 100 := by
  unfold topv
  split
  · omega
  · split
    · omega
    · split <;> omega
theorem topv_cons (X : Str) (S : List Str) : topv (X :: S) = topv [X] := rfl
theorem wt_term : ∀ k ∈ tms, wt k = 0 := by decide +kernel
theorem msr_rule {r : Row3} {S : List Str} {m : Nat} (h : r ∈ chart) : msr m (bodyOf r ++ S) < msr m (r.1 :: S) := by
  have d := rows_down r h
  unfold rowD at d
  unfold msr
  have hr : (rulesOf r.1).isEmpty = false := by
    have : r ∈ rulesOf r.1 := List.mem_filter.mpr ⟨h, decide_eq_true rfl⟩
    cases e : rulesOf r.1 with
    | nil => rw [e] at this; cases this
    | cons _ _ => rfl
  rw [wts_app, wts_cons, topv_cons r.1]
  cases hb : bodyOf r with
  | nil =>
    rw [hb] at d
    obtain ⟨d1, d2⟩ := Bool.and_eq_true_iff.mp d
    have d1 := of_decide_eq_true d1
    have d2 := of_decide_eq_true d2
    have e1 : topv [r.1] = 100 := by
      show (if (rulesOf r.1).isEmpty then 0 else if r.1 = "definition" then 50 else 100) = 100
      rw [hr, if_neg Bool.false_ne_true, if_neg d2]
    have := topv_le S
    rw [e1, List.nil_append]
    show _ + (0 + wts S) + topv S < _
    omega
  | cons t rest =>
    rw [hb] at d
    have d := of_decide_eq_true d
    rw [List.cons_append, topv_cons t]
    omega
theorem msr_word {X : Str} {S : List Str} {m : Nat} (hm : m < 150) (h : rulesOf X = []) : msr (m + 1) S < msr m (X :: S) := by
  unfold msr
  have := topv_le S
  rw [wts_cons]
  omega
/-- openers, and what leads to one without a choice -/
def opw (X : Str) : Nat := if X ∈ openers ∨ X = "definition" ∨ X = "program" then 1 else 0
def opws (S : List Str) : Nat := (S.map opw).sum
theorem opws_app (a b : List Str) : opws (a ++ b) = opws a + opws b := by unfold opws; rw [List.map_append, List.sum_append]
theorem opws_cons (a : Str) (b : List Str) : opws (a :: b) = opw a + opws b := by unfold opws; rw [List.map_cons, List.sum_cons]
/-- the stack: something that opens stands above what opens nothing -/
def StkOk (S : List Str) : Prop := ∃ τ rest, S = τ ++ rest ∧ opws rest = 0 ∧ (τ = [] ∨ (∃ x, τ = [x]) ∨ τ = (["NAME", "("] : List Str) ∨ τ = (["def", "NAME", "("] : List Str)) ∧ opws τ ≤ 1
def bodB (b : List Str) : Bool := match b with
  | [] => true
  | t :: r => decide (opw t ≤ 1) && (decide (opws r = 0) || (decide (t = "def" ∧ r.take 2 = (["NAME", "("] : List Str)) && decide (opws (r.drop 2) = 0)))
theorem bods_ok : ∀ r ∈ chart, bodB (bodyOf r) = true := by decide +kernel
theorem bods_tms : ∀ r ∈ chart, ∀ X ∈ bodyOf r, rulesOf X = [] → X ∈ tms := by decide +kernel
theorem tau_def : opws (["def", "NAME", "("] : List Str) = 1 := by decide +kernel
theorem tau_name : opws (["NAME", "("] : List Str) = 1 := by decide +kernel
theorem opw_par : opw "(" = 1 := by decide +kernel
theorem StkOk.le {S : List Str} (h : StkOk S) : opws S ≤ 1 := by
  obtain ⟨τ, rest, rfl, h1, _, h2⟩ := h
  rw [opws_app]
  omega
theorem StkOk.pop {X : Str} {S : List Str} (h : StkOk (X :: S)) : StkOk S := by
  obtain ⟨τ, rest, e, h1, h2, h3⟩ := h
  rcases h2 with rfl | ⟨x, rfl⟩ | rfl | rfl
  · rw [List.nil_append] at e
    rw [← e, opws_cons] at h1
    exact ⟨[], S, rfl, by omega, .inl rfl, Nat.zero_le _⟩
  · rw [List.singleton_append] at e
    cases e
    exact ⟨[], S, rfl, h1, .inl rfl, Nat.zero_le _⟩
  · cases e
    exact ⟨["("], rest, rfl, h1, .inr (.inl ⟨_, rfl⟩), by rw [opws_cons, opw_par]; exact Nat.le_refl _⟩
  · cases e
    exact ⟨["NAME", "("], rest, rfl, h1, .inr (.inr (.inl rfl)), by rw [tau_name]; exact Nat.le_refl _⟩
theorem rules_name : rulesOf "NAME" = [] := by decide +kernel
theorem rules_def : rulesOf "def" = [] := by decide +kernel
theorem StkOk.rest {X : Str} {S : List Str} (h : StkOk (X :: S)) (hX : rulesOf X ≠ []) : opws S = 0 := by
  obtain ⟨τ, rest, e, h1, h2, h3⟩ := h
  rcases h2 with rfl | ⟨x, rfl⟩ | rfl | rfl
  · rw [List.nil_append] at e
    rw [← e, opws_cons] at h1
    omega
  · rw [List.singleton_append] at e
    cases e
    exact h1
  · cases e
    exact absurd rules_name hX
  · cases e
    exact absurd rules_def hX
theorem StkOk.push {r : Row3} {S : List Str} (h : StkOk (r.1 :: S)) (hr : r ∈ chart) (hX : rulesOf r.1 ≠ []) : StkOk (bodyOf r ++ S) := by
  have h0 := h.rest hX
  have hb := bods_ok r hr
  unfold bodB at hb
  cases e : bodyOf r with
  | nil => exact ⟨[], S, rfl, h0, .inl rfl, Nat.zero_le _⟩
  | cons t b =>
    rw [e] at hb
    obtain ⟨b1, hb⟩ := Bool.and_eq_true_iff.mp hb
    have b1 := of_decide_eq_true b1
    rcases Bool.or_eq_true_iff.mp hb with b2 | hb
    · have b2 := of_decide_eq_true b2
      exact ⟨[t], b ++ S, rfl, by rw [opws_app]; omega, .inr (.inl ⟨_, rfl⟩), by rw [opws_cons]; exact b1⟩
    · obtain ⟨b2, b3⟩ := Bool.and_eq_true_iff.mp hb
      obtain ⟨rfl, b4⟩ := of_decide_eq_true b2
      have b3 := of_decide_eq_true b3
      refine ⟨["def", "NAME", "("], b.drop 2 ++ S, ?_, by rw [opws_app]; omega, .inr (.inr (.inr rfl)), by rw [tau_def]; exact Nat.le_refl _⟩
      have : b = (["NAME", "("] : List Str) ++ b.drop 2 := by rw [← b4]; exact (List.take_append_drop 2 b).symm
      conv => lhs; rw [this]
      rfl
/-- the last row of each symbol opens nothing new -/
def lastB (X : Str) : Bool := match (rulesOf X).getLast? with | none => true | some r => decide (opws (bodyOf r) ≤ opw X)
theorem last_ok : ∀ r ∈ chart, lastB r.1 = true := by decide +kernel
theorem last_le {X : Str} {r : Row3} (h : (rulesOf X).getLast? = some r) : opws (bodyOf r) ≤ opw X := by
  have hr : r ∈ rulesOf X := List.mem_of_getLast? h
  obtain ⟨h1, h2⟩ := List.mem_filter.mp hr
  have h2 := of_decide_eq_true h2
  have := last_ok r h1
  unfold lastB at this
  rw [h2, h] at this
  exact of_decide_eq_true this
theorem stk_start : StkOk (["program"] : List Str) := ⟨["program"], [], rfl, rfl, .inr (.inl ⟨_, rfl⟩), by decide +kernel⟩
def tFlt2 (K : PySem.W.Frag) : TT := tTest (tOp rEq (tOp (rIxT K) (tVar 7) (tC (V.int 0))) (tVar 5))
theorem filt2 {H3 : Hp} {c D : Addr} {as : List Addr} {X : Str} {x0 x1 x3 x4 x6 x7 : Option V} {Qd : Hp → Prop} (hc : H3 c = some (.lst (as.map V.ref))) (hR : RowsC H3 as chart) (hD : H3 D = none)
    (q : ∀ fs, RowsC H3 fs (rulesOf X) → Qd (upd H3 D (.lst (fs.map V.ref)))) :
    ∃ W : Nat → Nat → Hp → Prop, (∃ m, W 0 m (upd H3 D (.lst []))) ∧ ∀ i m H, W i m H →
      ((Itl K c).stop i H ∧ Qd H) ∨ ((Itl K c).go i H ∧ ∃ Nx : Hp → Prop, (∀ H', Nx H' → ∃ m', m' < m ∧ W (i + 1) m' H') ∧ ∀ x H', (Itl K c).yld i H x H' → gName 7 x (wipe [x0, x1, some (.ref c), x3, x4, some (.str X), x6, x7] [7]) H' fun σ2 H2 => wipe σ2 [7] = wipe [x0, x1, some (.ref c), x3, x4, some (.str X), x6, x7] [7] ∧ tFlt2 K σ2 H2 fun b H3 =>
        if b = true then tVar 7 σ2 H3 fun y H4 => ∃ acc, H4 D = some (.lst acc) ∧ acc.length < sizeLine ∧ Nx (upd H4 D (.lst (acc ++ [y]))) else Nx H3) := by
  refine lc_list (xs := as.map V.ref) (fun i H' => ∃ fs, H' = upd H3 D (.lst (fs.map V.ref)) ∧ RowsC H3 fs ((chart.take i).filter fun r => decide (r.1 = X))) ⟨[], rfl, rfl, fun i r e => by simp at e⟩ ?_ ?_ ?_
  · rintro i H' _ ⟨fs, rfl, _⟩
    exact SqL.of (same_new hD _ _ _ hc)
  · rintro i x H' hx ⟨fs, rfl, hF⟩
    rw [List.getElem?_map] at hx
    obtain ⟨a, ha, rfl⟩ := Option.map_eq_some_iff.mp hx
    have hi : i < chart.length := by rw [← hR.1]; exact (List.getElem?_eq_some_iff.mp ha).1
    obtain ⟨a', h1, h2⟩ := hR.2 i chart[i] (List.getElem?_eq_getElem hi)
    rw [ha] at h1
    cases h1
    generalize hrw : chart[i] = r at h2
    have htk : chart.take (i + 1) = chart.take i ++ [r] := by rw [List.take_add_one, List.getElem?_eq_getElem hi, hrw]; rfl
    have ka : (upd H3 D (.lst (fs.map V.ref))) a = some (.tup [.str r.1, .str r.2.1, .str r.2.2]) := same_new hD _ _ _ h2
    have hfl : fs.length ≤ 49 := by
      rw [hF.1]
      exact Nat.le_trans (List.length_filter_le _ _) (by rw [List.length_take]; exact Nat.le_trans (Nat.min_le_right _ _) (by decide))
    refine ⟨rfl, _, rfl, a, _, _, _, rfl, rfl, SqT.of ka, rfl, _, rfl, rfl, _, rfl, ?_⟩
    by_cases hX : r.1 = X
    · refine if_t (eqT hX) ⟨_, rfl, _, upd_same, ?_, fs ++ [a], ?_, ?_⟩
      · rw [List.length_map]
        have : (1000 : Nat) ≤ sizeLine := by decide
        omega
      · rw [upd_upd, List.map_append]
        rfl
      · rw [htk, List.filter_append, List.filter_cons, if_pos (decide_eq_true hX), List.filter_nil]
        exact hF.snoc h2
    · refine if_f (eqF hX) ⟨fs, rfl, ?_⟩
      rw [htk, List.filter_append, List.filter_cons, if_neg (by rw [decide_eq_false hX]; exact Bool.false_ne_true), List.filter_nil, List.append_nil]
      exact hF
  · rintro H' ⟨fs, rfl, hF⟩
    rw [List.length_map, hR.1, List.take_length] at hF
    exact q fs hF
theorem TapeAt.ne_lst {H : Hp} {t c : Addr} {as : List Addr} (h : TapeAt H t) (hc : H c = some (.lst (as.map V.ref))) (hne : as ≠ []) : c ≠ t := fun z => by
  subst z
  obtain ⟨ns, h⟩ := h
  rw [h] at hc
  cases as with
  | nil => exact hne rfl
  | cons a as =>
    cases ns with
    | nil => cases hc
    | cons n ns => cases hc
theorem Stp.free' {t p : Addr} {H H' : Hp} (s : Stp t H H') (h : TapeAt H t) (h' : TapeAt H' t) (hp : H' p = none) : H p = none := by
  cases e : H p with
  | none => rfl
  | some o => rw [s p o (h'.ne hp) e] at hp; cases hp
theorem stp_upd {t a : Addr} {H0 H : Hp} {o : HO} (s : Stp t H0 H) (h : H0 a = none) : Stp t H0 (upd H a o) := fun x y n e => by
  rw [upd_ne (fun z => by rw [z, h] at e; cases e)]
  exact s x y n e
theorem RowsC.stp {t : Addr} {H H' : Hp} {as : List Addr} {rs : List Row3} (h : RowsC H as rs) (s : Stp t H H') (ht : TapeAt H t) : RowsC H' as rs := ⟨h.1, fun i r e => let ⟨a, h1, h2⟩ := h.2 i r e; ⟨a, h1, s _ _ (fun z => by subst z; obtain ⟨ns, h3⟩ := ht; unfold RowT at h2; rw [h3] at h2; cases h2) h2⟩⟩
theorem rule_len2 (r : Row3) (h : r ∈ chart) : r.2.2.length + 2 ≤ sizeLine := by
  have h1 := rule_len r h
  have h2 : (10000 : Nat) ≤ sizeLine := by decide
  omega
def spSentence (K : PySem.W.Frag) : Sp := fun vs H Q _ => ∃ (t e : Addr) (ns : List Str), vs = [.ref t, .ref e] ∧ TapeAt H t ∧ SqL K H e (ns.map V.str) ∧ e ≠ t ∧ ns ≠ [] ∧ (∀ z ∈ ns, NameOk z) ∧ ∀ (p : Addr) (ws : List Str) H', Stp t H H' → TapeAt H' t → H p = none → WksC H' p ws → opn ws ≤ 41 → ws.length ≤ 150 → Q (.ref p) H'
abbrev s_law_sentence : Stmt := top 68
abbrev n_law_sentence : List Str := ["_law_tape_here", "_law_names", "_law_chart_here", "_law_stack", "_law_words_here", "_law_symbol", "_law_rules", "_law_row"]
theorem sc_law_sentence : FnScope n_law_sentence ["_law_tape_here", "_law_names"] (defScope s_law_sentence) := ⟨rfl, rfl, rfl, by decide +kernel, rfl, by decide +kernel, by decide +kernel⟩
-- slots of _law_sentence: 0 _law_tape_here, 1 _law_names, 2 _law_chart_here, 3 _law_stack, 4 _law_words_here, 5 _law_symbol, 6 _law_rules, 7 _law_row
theorem ok_law_sentence (F : Fun K "_law_sentence" "_law_sentence" s_law_sentence f fd) (B : Blt mg) (c__law_chart : Cal P w K mg base CX0 1 "_law_chart" [] spChart) (c__law_pick : Cal P w K mg base CX0 2 "_law_pick" ["_law_tape_here", "_law_names"] (spPick K)) (c__law_token : Cal P w K mg base CX0 3 "_law_token" ["_law_tape_here", "_law_kind_here", "_law_names"] (spToken K)) : FnOk P w K mg base CX0 4 f fd ["_law_tape_here", "_law_names"] (spSentence K) := by
  refine F.own sc_law_sentence (fun vs H Q E h => ?_) (fun cdv A outer s H vs Q E hr h => ?_)
  · obtain ⟨t, e, ns, rfl, _⟩ := h
    rfl
  obtain ⟨t, e, ns, rfl, ht, he, het, hne, hns, q⟩ := h
  refine ⟨_, (pss_cons (ps_set (i := 2) sc_law_sentence.nd rfl (by first | exact Or.inl rfl | exact Or.inr rfl) (pe_c00 c__law_chart hr (by omega) rfl)) (pss_cons (ps_set (i := 3) sc_law_sentence.nd rfl (by first | exact Or.inl rfl | exact Or.inr rfl) (pe_lst (pa_cons pe_str pa_nil))) (pss_cons (ps_set (i := 4) sc_law_sentence.nd rfl (by first | exact Or.inl rfl | exact Or.inr rfl) (pe_lst pa_nil)) (pss_cons (ps_while (PassesOwn.never) (PW.pt (pw_and (pt_truth (pv 3) (by intro _; rfl)) (pw_and1 (pt_cmpR op_lt (pe_callB call_len_seq (by rfl) B.len PySem.boot_len (pa_cons (pv 4) pa_nil)) pe_int (nomark _)))))
    (pss_cons (ps_set (i := 5) sc_law_sentence.nd rfl (by first | exact Or.inl rfl | exact Or.inr rfl) (pe_bm0 PySem.F.plainAttrs_list PySem.F.slot_list_pop PySem.F.type_list_pop mt_pop (pv 3))) (pss_cons (ps_setLc (i := 6) (own := [("_law_row", 7)]) (g := (gName 7)) (tt := (tTest (tOp _ (tOp (rIxT K) _ _) _))) (by rfl) sc_law_sentence.nd rfl rfl (sw_true rfl rfl rfl (by decide +kernel)) (pi_list (pv 2)) (blkOk_by (own := [("_law_row", 7)]) (N := n_law_sentence) (sc := (defScope s_law_sentence)) (by decide +kernel)) (fun _ _ _ _ _ => (pg_name (i := 7) sc_law_sentence.nd rfl (by first | exact Or.inl rfl | exact Or.inr rfl))) (fun _ _ _ _ _ => (pts_one (pt_cmpR op_eq (pe_ix ix_tup (pv 7) pe_int (fun _ _ => rfl)) (pv 5) (nomark _)))) (fun _ _ _ _ _ => (pv 7))) (pss_one (ps_if (pt_not (pt_truth (pv 6) (by intro _; rfl)))
    (pss_one (ps_expr (pe_bm PySem.F.plainAttrs_list PySem.F.slot_list_append PySem.F.type_list_append mt_append (pv 4) (pa_cons (pe_c0 c__law_token hr (by omega) rfl (pa_cons (pv 0) (pa_cons (pv 5) (pa_cons (pv 1) pa_nil)))) pa_nil)))) (pss_one (ps_if (pt_cmpR op_gt (pe_callB call_len_seq (by rfl) B.len PySem.boot_len (pa_cons (pv 4) pa_nil)) pe_int (nomark _))
    (pss_one (ps_set (i := 3) sc_law_sentence.nd rfl (by first | exact Or.inl rfl | exact Or.inr rfl) (pe_op op_cat (pv 3) (pe_revL (pe_words (pe_ix ix_tup (pe_ix ix_list (pv 6) (pe_un un_neg pe_int) (fun _ _ => rfl)) pe_int (fun _ _ => rfl))))))) (pss_one (ps_set (i := 3) sc_law_sentence.nd rfl (by first | exact Or.inl rfl | exact Or.inr rfl) (pe_op op_cat (pv 3) (pe_revL (pe_words (pe_ix ix_tup (pe_c0 c__law_pick hr (by omega) rfl (pa_cons (pv 0) (pa_cons (pv 6) pa_nil))) pe_int (fun _ _ => rfl)))))))))))))) (pss_one (ps_ret (pv 4))))))), ?_⟩
  refine ⟨rfl, fun c as H2 s2 hcn hc hR => ?_⟩
  have t2 := ht.same s2
  refine ⟨(by show 1 ≤ sizeLine; decide), fun st0 hst0 => ?_⟩
  refine ⟨(by show 0 ≤ sizeLine; decide), fun w hw0 => ?_⟩
  have n1 := same_new hst0 (.lst [.str "program"])
  have n2 := same_new hw0 (.lst [])
  have hw2 : H2 w = none := n1.free hw0
  have wt' : w ≠ t := t2.ne hw2
  have hct : c ≠ t := t2.ne_lst hc (fun z => by rw [z] at hR; exact absurd hR.1 (by decide))
  have hes : SqL K H2 e (ns.map V.str) := Same.seq s2 he
  refine ⟨fun m σ' H' => ∃ S ws st x5 x6 x7, σ' = [some (.ref t), some (.ref e), some (.ref c), some (.ref st), some (.ref w), x5, x6, x7] ∧ m = msr ws.length S ∧ Stp t H2 H' ∧ TapeAt H' t ∧ H2 st = none ∧ st ≠ w ∧ H' st = some (.lst (S.reverse.map V.str)) ∧ WksC H' w ws ∧ StkOk S ∧ opn ws + opws S ≤ 41 ∧ ws.length ≤ 150 ∧ S.length + 7 * m ≤ 300000 ∧ (∀ X ∈ S, rulesOf X = [] → X ∈ tms),
    ⟨_, ["program"], [], st0, _, _, _, rfl, rfl, Stp.of (n1.trans n2), t2.same (n1.trans n2), hst0, ne_of_none upd_same hw0, n2 _ _ upd_same, ⟨upd_same, fun z hz => nomatch hz⟩, stk_start, by decide +kernel, Nat.zero_le _, by decide +kernel, by decide +kernel⟩, ?_⟩
  rintro m σ' H' ⟨S, ws, st, x5, x6, x7, rfl, rfl, s3, t3, hst, hsw, hst', ⟨hw, hwk⟩, ok, hop, hwl, hbd, htm⟩
  have fin : Q (.ref w) H' := q w ws H' ((Stp.of s2).trans s3) t3 (s2.free hw2) ⟨hw, hwk⟩ (by omega) hwl
  refine ⟨_, rfl, _, .inl ⟨_, SqL.of hst', rfl⟩, ?_⟩
  cases S with
  | nil => exact if_f rfl (if_f rfl ⟨_, rfl, fin⟩)
  | cons X S =>
    refine if_t (by rw [stk_cons]; simp) ?_
    refine ⟨_, rfl, w, _, rfl, .inl (SqL.of hw), _, _, rfl, rfl, _, rfl, ?_⟩
    rw [List.length_map]
    by_cases h150 : ws.length < 150
    · refine if_t (decide_eq_true (by omega)) ⟨_, fun _ _ z => z, ?_⟩
      rw [stk_cons] at hst'
      refine ⟨_, rfl, .inl ⟨rfl, _, SqL.of hst'⟩, st, _, _, rfl, rfl, hst', stk_last _ _, ?_⟩
      rw [List.dropLast_concat]
      have s4 := stp_upd (o := .lst (S.reverse.map V.str)) s3 hst
      have t4 : TapeAt (L2.upd H' st (.lst (S.reverse.map V.str))) t := by
        obtain ⟨l, hl⟩ := t3
        exact ⟨l, by rw [upd_ne (t2.ne hst).symm]; exact hl⟩
      have hw4 : (L2.upd H' st (.lst (S.reverse.map V.str))) w = some (.lst (ws.map V.str)) := by rw [upd_ne hsw.symm]; exact hw
      have hst4 : (L2.upd H' st (.lst (S.reverse.map V.str))) st = some (.lst (S.reverse.map V.str)) := upd_same
      generalize L2.upd H' st (.lst (S.reverse.map V.str)) = H4 at s4 t4 hw4 hst4
      refine ⟨_, rfl, c, rfl, ⟨_, SqL.of (s4 _ _ hct hc)⟩, fun p5 hp5 => filt2 (s4 _ _ hct hc) (hR.stp s4 t2) hp5 fun fs hF => ?_⟩
      have n5 := same_new hp5 (.lst (fs.map V.ref))
      have s5 := s4.trans (Stp.of n5)
      have t5 := t4.same n5
      have hF5 := hF.same n5
      have hp5' : (L2.upd H4 p5 (.lst (fs.map V.ref))) p5 = some (.lst (fs.map V.ref)) := upd_same
      have hw5 := n5 _ _ hw4
      have hst5 := n5 _ _ hst4
      have hp52 : H2 p5 = none := s4.free' t2 t4 hp5
      generalize L2.upd H4 p5 (.lst (fs.map V.ref)) = H5 at s5 t5 hF5 hp5' hw5 hst5
      have hst2 : st ≠ t := t2.ne hst
      refine ⟨_, rfl, _, .inl ⟨_, SqL.of hp5', rfl⟩, ?_⟩
      cases fs with
      | nil =>
        have hX : rulesOf X = [] := List.length_eq_zero_iff.mp hF.1.symm
        refine if_t rfl ?_
        refine ⟨_, rfl, .inl ⟨rfl, _, SqL.of hw5⟩, _, rfl, _, rfl, _, rfl, t, e, X, ns, rfl, t5, s5.lst het hes, het, hne, hns, tms_ok X (htm X (List.mem_cons_self ..) hX), fun z H6 hz hzo s6 t6 => ⟨w, _, _, rfl, rfl, s6 _ _ wt' hw5, sml1 (by rw [List.length_map]; omega), ?_⟩⟩
        refine ⟨msr (ws.length + 1) S, msr_word h150 hX, S, ws ++ [z], st, _, _, _, rfl, by rw [List.length_append]; rfl, stp_upd (s5.trans s6) hw2, ?_, hst, hsw, ?_, ⟨?_, ?_⟩, ok.pop, ?_, ?_, ?_, fun Y hY => htm Y (List.mem_cons_of_mem _ hY)⟩
        · obtain ⟨l, hl⟩ := t6
          exact ⟨l, by rw [upd_ne wt'.symm]; exact hl⟩
        · rw [upd_ne hsw]
          exact s6 _ _ hst2 hst5
        · rw [upd_same, List.map_append]
          rfl
        · intro y hy
          rcases List.mem_append.mp hy with hy | hy
          · exact hwk y hy
          · rw [List.mem_singleton.mp hy]
            exact hz
        · rw [opn_app, opn_one]
          rw [opws_cons] at hop
          by_cases hzz : z ∈ openers
          · have : opw X = 1 := by unfold opw; rw [if_pos (.inl (hzo hzz))]
            rw [if_pos hzz]
            omega
          · rw [if_neg hzz]
            omega
        · rw [List.length_append]
          exact h150
        · have := msr_word (S := S) h150 hX
          rw [List.length_cons] at hbd
          omega
      | cons a fs =>
        refine if_f rfl ?_
        have hX : rulesOf X ≠ [] := fun z => by rw [z] at hF; exact absurd hF.1 (by simp)
        have done : ∀ (r : Row3) (H8 : Hp) (p8 : Addr) (y5 y6 y7 : Option V), r ∈ rulesOf X → (40 < ws.length → opws (bodyOf r) ≤ opw X) → Stp t H2 H8 → TapeAt H8 t → H2 p8 = none → p8 ≠ w → H8 p8 = some (.lst ((bodyOf r ++ S).reverse.map V.str)) → H8 w = some (.lst (ws.map V.str)) →
            ∃ m', m' < msr ws.length (X :: S) ∧ ∃ (S' : List Str) (ws' : List Str) (st' : Addr) (x5 x6 x7 : Option V), [some (V.ref t), some (.ref e), some (.ref c), some (.ref p8), some (.ref w), y5, y6, y7] = [some (.ref t), some (.ref e), some (.ref c), some (.ref st'), some (.ref w), x5, x6, x7] ∧ m' = msr ws'.length S' ∧ Stp t H2 H8 ∧ TapeAt H8 t ∧ H2 st' = none ∧ st' ≠ w ∧ H8 st' = some (.lst (S'.reverse.map V.str)) ∧ WksC H8 w ws' ∧ StkOk S' ∧ opn ws' + opws S' ≤ 41 ∧ ws'.length ≤ 150 ∧ S'.length + 7 * m' ≤ 300000 ∧ (∀ X ∈ S', rulesOf X = [] → X ∈ tms) := by
          intro r H8 p8 y5 y6 y7 hr hl s8 t8 hp8 hpw h8 hw8
          obtain ⟨hrc, hrX⟩ := List.mem_filter.mp hr
          have hrX := of_decide_eq_true hrX
          subst hrX
          have hm := msr_rule (r := r) (S := S) (m := ws.length) hrc
          have hok := ok.push hrc hX
          refine ⟨_, hm, bodyOf r ++ S, ws, p8, _, _, _, rfl, rfl, s8, t8, hp8, hpw, h8, ⟨hw8, hwk⟩, hok, ?_, hwl, ?_, ?_⟩
          · by_cases h40 : 40 < ws.length
            · have := hl h40
              rw [opws_cons] at hop
              rw [opws_app]
              omega
            · have := opn_le ws
              have := hok.le
              omega
          · have := bodies_len r hrc
            rw [List.length_cons] at hbd
            rw [List.length_append]
            omega
          · intro Y hY hYr
            rcases List.mem_append.mp hY with hY | hY
            · exact bods_tms r hrc Y hY hYr
            · exact htm Y (List.mem_cons_of_mem _ hY) hYr
        refine ⟨_, rfl, w, _, rfl, .inl (SqL.of hw5), _, _, rfl, rfl, _, rfl, ?_⟩
        rw [List.length_map]
        by_cases h40 : 40 < ws.length
        · refine if_t (decide_eq_true (by omega)) ?_
          obtain ⟨ini, al, hal⟩ : ∃ ini al, a :: fs = ini ++ [al] := ⟨_, _, (List.dropLast_concat_getLast (List.cons_ne_nil a fs)).symm⟩
          obtain ⟨rini, r, hrl⟩ : ∃ rini r, rulesOf X = rini ++ [r] := ⟨_, _, (List.dropLast_concat_getLast hX).symm⟩
          have hrm : r ∈ rulesOf X := by rw [hrl]; simp
          have hlast : (rulesOf X).getLast? = some r := by rw [hrl]; simp
          have hT : RowT H5 r al := by
            obtain ⟨a', h1, h2⟩ := hF5.2 rini.length r (by rw [hrl, List.getElem?_append_right (Nat.le_refl _), Nat.sub_self]; rfl)
            have hll := hF5.1
            rw [hal, hrl, List.length_append, List.length_append] at hll
            have hll : ini.length = rini.length := by simpa using hll
            rw [hal, ← hll, List.getElem?_append_right (Nat.le_refl _), Nat.sub_self] at h1
            cases Option.some.inj h1
            exact h2
          rw [hal] at hp5'
          refine ⟨_, rfl, _, rfl, _, rfl, p5, _, _, _, rfl, rfl, SqL.of hp5', (by rw [List.map_append]; exact atI_last _ _), al, _, _, _, rfl, rfl, SqT.of hT, rfl, ⟨_, rfl⟩, r.2.2, rfl, rfl, rule_len2 r (List.mem_filter.mp hrm).1, fun p6 hp6 => ⟨p6, _, rfl, SqL.of upd_same, fun p7 hp7 => ?_⟩⟩
          have n6 := same_new hp6 (.lst ((Txt.words r.2.2).map V.str))
          have n7 := same_new hp7 (.lst ((Txt.words r.2.2).map V.str).reverse)
          refine ⟨st, p7, _, _, rfl, rfl, n7 _ _ (n6 _ _ hst5), upd_same, ?_, fun p8 hp8 => ?_⟩
          · have hb7 := bodies_len r (List.mem_filter.mp hrm).1
            unfold bodyOf at hb7
            rw [List.length_map, List.length_reverse, List.length_reverse, List.length_map]
            rw [List.length_cons] at hbd
            have : (16777216 : Nat) ≤ sizeLine := by decide
            omega
          have n8 := same_new hp8 (.lst (S.reverse.map V.str ++ ((Txt.words r.2.2).map V.str).reverse))
          have e8 : (S.reverse.map V.str ++ ((Txt.words r.2.2).map V.str).reverse : List V) = ((bodyOf r ++ S).reverse.map V.str : List V) := by
            unfold bodyOf
            rw [List.reverse_append, List.map_append, List.map_reverse (l := Txt.words r.2.2)]
          rw [e8] at n8 ⊢
          have n678 := n6.trans (n7.trans n8)
          have n67 := n6.trans n7
          exact done r _ p8 _ _ _ hrm (fun _ => last_le hlast) (s5.trans (Stp.of n678)) (t5.same n678) (s5.free' t2 t5 (n67.free hp8)) (fun z => by rw [z, n67 _ _ hw5] at hp8; cases hp8) upd_same (n678 _ _ hw5)
        · refine if_f (decide_eq_false (by omega)) ?_
          refine ⟨_, rfl, _, rfl, _, rfl, t, p5, _, rfl, t5, SqL.of hp5', t2.ne hp52, by simp, fun i v H6 hv s6 t6 => ?_⟩
          rw [List.getElem?_map] at hv
          obtain ⟨a', ha', rfl⟩ := Option.map_eq_some_iff.mp hv
          have hi : i < (rulesOf X).length := by rw [← hF5.1]; exact (List.getElem?_eq_some_iff.mp ha').1
          obtain ⟨r, hr'⟩ : ∃ r, (rulesOf X)[i]? = some r := ⟨_, List.getElem?_eq_getElem hi⟩
          have hrm : r ∈ rulesOf X := List.mem_of_getElem? hr'
          obtain ⟨a2, h1, hT⟩ := (hF5.stp s6 t5).2 i r hr'
          rw [ha'] at h1
          cases h1
          have hw6 := s6 _ _ wt' hw5
          have hst6 := s6 _ _ hst2 hst5
          have s56 := s5.trans s6
          refine ⟨a', _, _, _, rfl, rfl, SqT.of hT, rfl, ⟨_, rfl⟩, r.2.2, rfl, rfl, rule_len2 r (List.mem_filter.mp hrm).1, fun p6 hp6 => ⟨p6, _, rfl, SqL.of upd_same, fun p7 hp7 => ?_⟩⟩
          have n6 := same_new hp6 (.lst ((Txt.words r.2.2).map V.str))
          have n7 := same_new hp7 (.lst ((Txt.words r.2.2).map V.str).reverse)
          refine ⟨st, p7, _, _, rfl, rfl, n7 _ _ (n6 _ _ hst6), upd_same, ?_, fun p8 hp8 => ?_⟩
          · have hb7 := bodies_len r (List.mem_filter.mp hrm).1
            unfold bodyOf at hb7
            rw [List.length_map, List.length_reverse, List.length_reverse, List.length_map]
            rw [List.length_cons] at hbd
            have : (16777216 : Nat) ≤ sizeLine := by decide
            omega
          have n8 := same_new hp8 (.lst (S.reverse.map V.str ++ ((Txt.words r.2.2).map V.str).reverse))
          have e8 : (S.reverse.map V.str ++ ((Txt.words r.2.2).map V.str).reverse : List V) = ((bodyOf r ++ S).reverse.map V.str : List V) := by
            unfold bodyOf
            rw [List.reverse_append, List.map_append, List.map_reverse (l := Txt.words r.2.2)]
          rw [e8] at n8 ⊢
          have n678 := n6.trans (n7.trans n8)
          have n67 := n6.trans n7
          exact done r _ p8 _ _ _ hrm (fun z => absurd z h40) (s56.trans (Stp.of n678)) (t6.same n678) (s56.free' t2 t6 (n67.free hp8)) (fun z => by rw [z, n67 _ _ hw6] at hp8; cases hp8) upd_same (n678 _ _ hw6)
    · exact if_f (decide_eq_false (by omega)) ⟨_, rfl, fin⟩
end
end GR
set_option Elab.async false
set_option linter.all false
set_option maxRecDepth 100000
set_option maxHeartbeats 4000000
namespace GR
open PySem PySem.Spec PyProof.Rows L2
section
variable {P : Program} {w : World} {K : PySem.W.Frag} {Wd : Str → Prop} {mg : Str → Option Value} {base : Heap} {CC CB aR aS : Addr} {T : Toks} {f : Addr} {fd : FuncData} {n : Nat}
def spTooMany : Sp := fun vs H Q _ => ∃ (l : Addr) (ws : List Str), vs = [.ref l] ∧ H l = some (.lst (ws.map V.str)) ∧ ws.length ≤ 1000 ∧ ∀ (b : Bool) H', Same H H' → Q (.bl b) H'
abbrev s_law_too_many : Stmt := top 71
abbrev n_law_too_many : List Str := ["_law_words_here", "_law_many", "_law_k", "_law_commas", "_law_word_here"]
theorem sc_law_too_many : FnScope n_law_too_many ["_law_words_here"] (defScope s_law_too_many) := ⟨rfl, rfl, rfl, by decide +kernel, rfl, by decide +kernel, by decide +kernel⟩
-- slots of _law_too_many: 0 _law_words_here, 1 _law_many, 2 _law_k, 3 _law_commas, 4 _law_word_here
theorem ok_law_too_many (F : Fun K "_law_too_many" "_law_too_many" s_law_too_many f fd) (B : Blt mg) : FnOk P w K mg base CX0 1 f fd ["_law_words_here"] spTooMany := by
  refine F.own sc_law_too_many (fun vs H Q E h => ?_) (fun cdv A outer s H vs Q E hr h => ?_)
  · obtain ⟨l, ws, rfl, _⟩ := h
    rfl
  obtain ⟨l, ws, rfl, hl, hn, q⟩ := h
  refine ⟨_, (pss_cons (ps_set (i := 1) sc_law_too_many.nd rfl (by first | exact Or.inl rfl | exact Or.inr rfl) pe_int) (pss_cons (ps_for (PassesOwn.never) rfl (pi_range1 (by rfl) B.range (pa_cons (pe_callB call_len_seq (by rfl) B.len PySem.boot_len (pa_cons (pv 0) pa_nil)) pa_nil)) (pg_name (i := 2) sc_law_too_many.nd rfl (by first | exact Or.inl rfl | exact Or.inr rfl))
    (pss_one (ps_if (pt_cmpR op_eq (pe_ix ix_list (pv 0) (pv 2) (fun _ _ => rfl)) pe_str (nomark _))
    (pss_cons (ps_set (i := 1) sc_law_too_many.nd rfl (by first | exact Or.inl rfl | exact Or.inr rfl) (pe_op op_add (pv 1) pe_int)) (pss_cons (ps_set (i := 3) sc_law_too_many.nd rfl (by first | exact Or.inl rfl | exact Or.inr rfl) pe_int) (pss_cons (ps_for (PassesOwn.never) rfl (pi_list (pe_slice sl_list (pv 0) (po_some (pv 2)) po_none)) (pg_name (i := 4) sc_law_too_many.nd rfl (by first | exact Or.inl rfl | exact Or.inr rfl))
    (pss_cons (ps_if (pt_cmpR op_eq (pv 4) pe_str (nomark _))
    (pss_one ps_break) pss_nil) (pss_one (ps_set (i := 3) sc_law_too_many.nd rfl (by first | exact Or.inl rfl | exact Or.inr rfl) (pe_op op_add (pv 3) (pe_callTy call_int1 (by rfl) B.int (by decide +kernel) (pa_cons (pe_cmpR op_eq (pv 4) pe_str (nomark _)) pa_nil))))))) (pss_one (ps_if (pt_cmpR op_gt (pv 3) pe_int (nomark _))
    (pss_one (ps_ret pe_bl)) pss_nil))))) pss_nil))) (pss_one (ps_ret (pe_cmpR op_gt (pv 1) pe_int (nomark _)))))), ?_⟩
  refine ⟨_, rfl, l, _, rfl, .inl (SqL.of hl), ((ws.map V.str).length : Int), rfl, (by rw [List.length_map]; omega), (by rw [List.length_map]; omega),
    for_range (lo := 0) (n := ((ws.map V.str).length : Int).toNat) (fun k σ' H' => (∃ (m : Int) (x2 x3 x4 : Option V), σ' = [some (.ref l), some (.int m), x2, x3, x4]) ∧ Same H H') ⟨⟨0, _, _, _, rfl⟩, Same.refl H⟩ ?_ ?_⟩
  · rintro k σ' H' hk ⟨⟨m, x2, x3, x4, rfl⟩, s1⟩
    rw [Int.zero_add]
    have hkw : k < ws.length := by rw [List.length_map] at hk; omega
    refine ⟨_, rfl, _, rfl, l, _, _, .str ws[k], rfl, rfl, SqL.of (s1 _ _ hl), atI_nat (by rw [List.getElem?_map, List.getElem?_eq_getElem hkw]; rfl), rfl, _, rfl, ?_⟩
    by_cases hd : ws[k] = "def"
    · refine if_t (eqT hd) ⟨_, rfl, _, _, rfl, rfl, ?_⟩
      refine ⟨_, rfl, _, rfl, _, rfl, l, _, rfl, SqL.of (s1 _ _ hl), fun p hp => ?_⟩
      rw [cut_map]
      generalize cutW ws (some (k : Int)) none = ys
      have s2 := s1.trans (same_new hp (.lst (ys.map V.str)))
      have hp2 : (L2.upd H' p (.lst (ys.map V.str))) p = some (.lst (ys.map V.str)) := upd_same
      generalize L2.upd H' p (.lst (ys.map V.str)) = H2 at s2 hp2
      have last : ∀ (σ' : L2.St) (b : Bool), True := fun _ _ => trivial
      refine ⟨p, rfl, ⟨_, SqL.of hp2⟩, for_list (xs := ys.map V.str) (fun i σ' H'' => (∃ (m cc : Int) (x2 x4 : Option V), σ' = [some (.ref l), some (.int m), x2, some (.int cc), x4]) ∧ H'' = H2) ⟨⟨_, _, _, _, rfl⟩, rfl⟩ ?_ ?_ ?_⟩
      · rintro i σ' H'' _ ⟨_, rfl⟩
        exact SqL.of hp2
      · rintro i x σ' H'' hx ⟨⟨m, cc, x2, x4, rfl⟩, rfl⟩
        rw [List.getElem?_map] at hx
        obtain ⟨y, hy, rfl⟩ := Option.map_eq_some_iff.mp hx
        refine ⟨_, rfl, rfl, _, rfl, ?_⟩
        by_cases hb : y = ")"
        · refine if_t (eqT hb) ?_
          refine ⟨_, rfl, _, _, rfl, rfl, _, rfl, ?_⟩
          by_cases h3 : (3 : Int) < cc
          · exact if_t (decide_eq_true h3) (q _ _ s2)
          · exact if_f (decide_eq_false h3) ⟨⟨_, _, _, _, rfl⟩, s2⟩
        · refine if_f (eqF hb) ?_
          refine ⟨_, rfl, _, rfl, rfl, ?_⟩
          exact .inr ⟨_, rfl, _, _, rfl, rfl, ⟨_, _, _, _, rfl⟩, rfl⟩
      · rintro σ' H'' ⟨⟨m, cc, x2, x4, rfl⟩, rfl⟩
        refine ⟨_, rfl, _, _, rfl, rfl, _, rfl, ?_⟩
        by_cases h3 : (3 : Int) < cc
        · exact if_t (decide_eq_true h3) (q _ _ s2)
        · exact if_f (decide_eq_false h3) ⟨⟨_, _, _, _, rfl⟩, s2⟩
    · exact if_f (eqF hd) ⟨⟨_, _, _, _, rfl⟩, s1⟩
  · rintro σ' H' ⟨⟨m, x2, x3, x4, rfl⟩, s1⟩
    exact ⟨_, rfl, _, _, rfl, rfl, q _ H' s1⟩
end
end GR
set_option Elab.async false
set_option linter.all false
set_option maxRecDepth 100000
set_option maxHeartbeats 4000000
namespace GR
open PySem PySem.Spec PyProof.Rows L2
section
variable {P : Program} {w : World} {K : PySem.W.Frag} {Wd : Str → Prop} {mg : Str → Option Value} {base : Heap} {CC CB aR aS : Addr} {T : Toks} {f : Addr} {fd : FuncData} {n : Nat}
def Blk (g : List Nat) : Prop := ∀ c ∈ g, c = 32 ∨ c = 10
theorem lay_blanks {cs : List Nat} {T : Toks} : ∀ {g : List Nat} {p : Nat}, Blk g → Lay (p + g.length) cs T → Lay p (g ++ cs) T
  | [], p, _, h => h
  | c :: g, p, hg, h => by
    refine .blank (hg c (List.mem_cons_self ..)) (lay_blanks (fun x hx => hg x (List.mem_cons_of_mem _ hx)) ?_)
    rw [List.length_cons] at h
    rw [Nat.add_assoc, Nat.add_comm 1]
    exact h
def lastw (ws : List Str) (i : Nat) : List Nat := match i with | 0 => [] | i + 1 => match ws[i]? with | some z => z.cps.toList | none => []
theorem lastw_some {ws : List Str} {i : Nat} {y : Str} (h : ws[i]? = some y) : lastw ws (i + 1) = y.cps.toList := by
  show (match ws[i]? with | some z => z.cps.toList | none => []) = _
  rw [h]
theorem lastw_none {ws : List Str} {i : Nat} (h : ws[i]? = none) : lastw ws (i + 1) = [] := by
  show (match ws[i]? with | some z => z.cps.toList | none => []) = _
  rw [h]
def Spr (ws : List Str) (i : Nat) (x : List Nat) (T : Toks) : Prop := ∀ cs T', Lay x.length cs T' → EndOk (lastw ws i) cs → Lay 0 (x ++ cs) (T ++ T')
theorem blk_let : ∀ c, c = 32 ∨ c = 10 → c ∉ letters ∧ c ∉ digits := fun c h => by
  rcases h with rfl | rfl <;> decide +kernel
theorem endOk_blk {w g : List Nat} (hg : Blk g) (hne : g ≠ []) {cs : List Nat} : EndOk w (g ++ cs) := fun c d r h e => by
  cases g with
  | nil => exact absurd rfl hne
  | cons b g =>
    have e1 := (List.cons.inj e).1
    have := blk_let b (hg b (List.mem_cons_self ..))
    rw [← e1]
    exact ⟨fun _ => this.1, fun _ => this.2⟩
theorem endOk_nil {w : List Nat} : EndOk w [] := fun c d r h e => nomatch e
/-- the words do not run into each other -/
def Apart (ws : List Str) (i : Nat) (z : Str) : Prop := 0 < i → ∀ c d, (lastw ws i).getLast? = some c → z.cps.toList.head? = some d → ¬ (d ∈ letters ∧ c ∈ letters) ∧ ¬ (d ∈ digits ∧ c ∈ digits)
theorem endOk_apart {ws : List Str} {i : Nat} {z : Str} {cs : List Nat} (hw : ∀ z ∈ ws, Wk z) (hz : Wk z) (h : Apart ws i z) : EndOk (lastw ws i) (z.cps.toList ++ cs) := fun c d r h1 h2 => by
  have hi : 0 < i := by
    cases i with
    | zero => cases h1
    | succ i => exact Nat.succ_pos _
  have hzd : z.cps.toList.head? = some d := by
    cases e : z.cps.toList with
    | nil =>
      exfalso
      rcases hz.1 with hz | hz | ⟨_, hz, _⟩
      · exact hz.1 e
      · exact hz.1 e
      · rw [e] at hz; cases hz
    | cons a b =>
      rw [e] at h2
      cases h2
      rfl
  have hl : WordOk (lastw ws i) := by
    cases i with
    | zero => cases h1
    | succ i =>
      cases e : ws[i]? with
      | none => rw [lastw_none e] at h1; cases h1
      | some y => rw [lastw_some e]; exact (hw y (List.mem_of_getElem? e)).1
  obtain ⟨c', hc'⟩ : ∃ c', (lastw ws i).getLast? = some c' := by
    cases e : lastw ws i with
    | nil => rw [e] at h1; cases h1
    | cons a b => exact ⟨_, List.getLast?_eq_some_getLast (List.cons_ne_nil a b)⟩
  have hcm := List.mem_of_mem_head? h1
  have hcm' := List.mem_of_getLast? hc'
  obtain ⟨k1, k2⟩ := h hi c' d hc' hzd
  rcases hl with ⟨_, hl⟩ | ⟨_, hl⟩ | ⟨y, hl, y1, y2, _⟩
  · exact ⟨fun _ hd => k1 ⟨hd, hl c' hcm'⟩, fun hc => absurd hc (let_not_dig _ (hl c hcm))⟩
  · exact ⟨fun hc => absurd (hl c hcm) (let_not_dig _ hc), fun _ hd => k2 ⟨hd, hl c' hcm'⟩⟩
  · rw [hl] at h1
    cases h1
    exact ⟨fun hc => absurd hc y1, fun hc => absurd hc y2⟩
theorem Spr.step {ws : List Str} {i : Nat} {x g : List Nat} {T : Toks} {z : Str} (h : Spr ws i x T) (hw : ∀ z ∈ ws, Wk z) (hz : ws[i]? = some z) (hg : Blk g) (ha : g = [] → Apart ws i z) : Spr ws (i + 1) (x ++ g ++ z.cps.toList) (T ++ [(((x ++ g).length : Int), z)]) := fun cs T' hL hE => by
  have hzw := hw z (List.mem_of_getElem? hz)
  have e : lastw ws (i + 1) = z.cps.toList := lastw_some hz
  rw [e] at hE
  have k := Lay.word hzw.1 hE (p := x.length + g.length) (T := T') (by rw [List.length_append, List.length_append] at hL; exact hL)
  rw [SX.S_tl] at k
  have k2 := lay_blanks hg k
  have k3 := h _ _ k2 (by
    cases g with
    | nil => exact endOk_apart hw hzw (ha rfl)
    | cons b g => exact endOk_blk hg (List.cons_ne_nil b g))
  rw [List.length_append, List.append_assoc, List.append_assoc, List.append_assoc]
  exact k3
theorem Spr.fin {ws : List Str} {i : Nat} {x g : List Nat} {T : Toks} (h : Spr ws i x T) (hg : Blk g) : Lay 0 (x ++ g) (T ++ [(((x ++ g).length : Int), ("" : Str))]) := by
  have k := lay_blanks (cs := []) (p := x.length) (T := [(((x.length + g.length : Nat) : Int), "")]) hg .done
  rw [List.append_nil] at k
  have k2 := h _ _ k (by
    cases g with
    | nil => exact endOk_nil
    | cons b g =>
      have := endOk_blk (w := lastw ws i) hg (List.cons_ne_nil b g) (cs := [])
      rw [List.append_nil] at this
      exact this)
  rw [List.length_append]
  exact k2
def gaps : List Str := ["", "", " ", "\n", "  ", " \n "]
def ends : List Str := ["", " ", "\n"]
def blkB (z : Str) : Bool := (z.cps.toList.all fun c => decide (c = 32 ∨ c = 10)) && decide (z.length ≤ 3)
theorem gaps_ok : ∀ z ∈ gaps, blkB z = true := by decide +kernel
theorem ends_ok : ∀ z ∈ ends, blkB z = true := by decide +kernel
theorem blkB_of {z : Str} (h : blkB z = true) : ∃ g, z = SX.S g ∧ Blk g ∧ g.length ≤ 3 := by
  obtain ⟨h1, h2⟩ := Bool.and_eq_true_iff.mp h
  refine ⟨z.cps.toList, (SX.S_tl z).symm, fun c hc => of_decide_eq_true (List.all_eq_true.mp h1 c hc), ?_⟩
  have := of_decide_eq_true h2
  unfold Str.length at this
  simpa using this
theorem Wk.cons {z : Str} (h : Wk z) : ∃ d r, z.cps.toList = d :: r := by
  cases e : z.cps.toList with
  | nil =>
    exfalso
    rcases h.1 with h | h | ⟨_, h, _⟩
    · exact h.1 e
    · exact h.1 e
    · rw [e] at h; cases h
  | cons a b => exact ⟨a, b, rfl⟩
theorem S_catz (a : List Nat) (z : Str) : SX.S a ++ z = SX.S (a ++ z.cps.toList) := by
  have h := SX.S_cat a z.cps.toList
  rw [SX.S_tl] at h
  exact h
theorem sl10 {n : Nat} (h : n ≤ 10000) : n ≤ sizeLine := Nat.le_trans h (by decide)
def spSpread (K : PySem.W.Frag) : Sp := fun vs H Q _ => ∃ (t l : Addr) (ws : List Str), vs = [.ref t, .ref l] ∧ TapeAt H t ∧ WksC H l ws ∧ l ≠ t ∧ ws.length ≤ 200 ∧
  ∀ (p q : Addr) (z : Str) (T : Toks) H', Stp t H H' → TapeAt H' t → H p = none → H q = none → H' p = some (.tup [.str z, .ref q]) → H' q = some (.lst (T.map fun u => V.int u.1)) → T.map (fun u => u.2) = ws → z.length ≤ 10000 → Lay 0 z.cps.toList (T ++ [((z.length : Int), ("" : Str))]) → Q (.ref p) H'
abbrev s_law_spread : Stmt := top 60
abbrev n_law_spread : List Str := ["_law_tape_here", "_law_out", "_law_letters", "_law_digits", "_law_text", "_law_places", "_law_k", "_law_gap", "_law_signs"]
theorem sc_law_spread : FnScope n_law_spread ["_law_tape_here", "_law_out"] (defScope s_law_spread) := ⟨rfl, rfl, rfl, by decide +kernel, rfl, by decide +kernel, by decide +kernel⟩
-- slots of _law_spread: 0 _law_tape_here, 1 _law_out, 2 _law_letters, 3 _law_digits, 4 _law_text, 5 _law_places, 6 _law_k, 7 _law_gap, 8 _law_signs
theorem ok_law_spread (F : Fun K "_law_spread" "_law_spread" s_law_spread f fd) (B : Blt mg) (c__law_take : Cal P w K mg base CX0 1 "_law_take" ["_law_tape_here", "_law_many"] spTakeT) : FnOk P w K mg base CX0 2 f fd ["_law_tape_here", "_law_out"] (spSpread K) := by
  refine F.own sc_law_spread (fun vs H Q E h => ?_) (fun cdv A outer s H vs Q E hr h => ?_)
  · obtain ⟨t, l, ws, rfl, _⟩ := h
    rfl
  obtain ⟨t, l, ws, rfl, ht, ⟨hl, hwk⟩, hlt, hn, q⟩ := h
  refine ⟨_, (pss_cons (ps_set (i := 2) sc_law_spread.nd rfl (by first | exact Or.inl rfl | exact Or.inr rfl) pe_str) (pss_cons (ps_set (i := 3) sc_law_spread.nd rfl (by first | exact Or.inl rfl | exact Or.inr rfl) pe_str) (pss_cons (ps_set (i := 4) sc_law_spread.nd rfl (by first | exact Or.inl rfl | exact Or.inr rfl) pe_str) (pss_cons (ps_set (i := 5) sc_law_spread.nd rfl (by first | exact Or.inl rfl | exact Or.inr rfl) (pe_lst pa_nil)) (pss_cons (ps_for (PassesOwn.never) rfl (pi_range1 (by rfl) B.range (pa_cons (pe_callB call_len_seq (by rfl) B.len PySem.boot_len (pa_cons (pv 1) pa_nil)) pa_nil)) (pg_name (i := 6) sc_law_spread.nd rfl (by first | exact Or.inl rfl | exact Or.inr rfl))
    (pss_cons (ps_set (i := 7) sc_law_spread.nd rfl (by first | exact Or.inl rfl | exact Or.inr rfl) (pe_ix ix_list (pe_lst (pa_strs _ (by rfl))) (pe_c0 c__law_take hr (by omega) rfl (pa_cons (pv 0) (pa_cons pe_int pa_nil))) (fun _ _ => rfl))) (pss_cons (ps_for (PassesOwn.never) rfl (pi_list (pe_lst (pa_cons (pv 2) (pa_cons (pv 3) pa_nil)))) (pg_name (i := 8) sc_law_spread.nd rfl (by first | exact Or.inl rfl | exact Or.inr rfl))
    (pss_one (ps_if (PW.pt (pw_and (pt_cmpR op_eq (pv 7) pe_str (nomark _)) (pw_and (pt_cmpR op_gt (pv 6) pe_int (nomark _)) (pw_and (pt_cmpR op_in_sign (pe_ix ix_str (pe_ix ix_list (pv 1) (pv 6) (fun _ _ => rfl)) pe_int (fun _ _ => rfl)) (pv 8) rfl) (pw_and1 (pt_cmpR op_in_sign (pe_ix ix_str (pe_ix ix_list (pv 1) (pe_op op_sub (pv 6) pe_int) (fun _ _ => rfl)) (pe_un un_neg pe_int) (fun _ _ => rfl)) (pv 8) rfl))))))
    (pss_one (ps_set (i := 7) sc_law_spread.nd rfl (by first | exact Or.inl rfl | exact Or.inr rfl) pe_str)) pss_nil))) (pss_cons (ps_set (i := 4) sc_law_spread.nd rfl (by first | exact Or.inl rfl | exact Or.inr rfl) (pe_op op_add_str (pv 4) (pv 7))) (pss_cons (ps_expr (pe_bm PySem.F.plainAttrs_list PySem.F.slot_list_append PySem.F.type_list_append mt_append (pv 5) (pa_cons (pe_callB call_len_str (by rfl) B.len PySem.boot_len (pa_cons (pv 4) pa_nil)) pa_nil))) (pss_one (ps_set (i := 4) sc_law_spread.nd rfl (by first | exact Or.inl rfl | exact Or.inr rfl) (pe_op op_add_str (pv 4) (pe_ix ix_list (pv 1) (pv 6) (fun _ _ => rfl)))))))))) (pss_one (ps_ret (pe_tup (pa_cons (pe_op op_add_str (pv 4) (pe_ix ix_list (pe_lst (pa_strs _ (by rfl))) (pe_c0 c__law_take hr (by omega) rfl (pa_cons (pv 0) (pa_cons pe_int pa_nil))) (fun _ _ => rfl))) (pa_cons (pv 5) pa_nil)))))))))), ?_⟩
  refine ⟨(by show 0 ≤ sizeLine; decide), fun pl hpl => ?_⟩
  have n1 := same_new hpl (.lst [])
  have hplt := ht.ne hpl
  refine ⟨_, rfl, l, _, rfl, .inl (SqL.of (n1 _ _ hl)), ((ws.map V.str).length : Int), rfl, (by rw [List.length_map]; omega), (by rw [List.length_map]; omega),
    for_range (lo := 0) (n := ((ws.map V.str).length : Int).toNat) (fun i σ' H' => ∃ (x : List Nat) (T : Toks) (x6 x7 x8 : Option V), σ' = [some (.ref t), some (.ref l), some (.str lettersS), some (.str digitsS), some (.str (SX.S x)), some (.ref pl), x6, x7, x8] ∧ Stp t H H' ∧ TapeAt H' t ∧ H' pl = some (.lst (T.map fun u => V.int u.1)) ∧ T.map (fun u => u.2) = ws.take i ∧ x.length ≤ 43 * i ∧ Spr ws i x T)
      ⟨[], [], _, _, _, rfl, Stp.of n1, ht.same n1, upd_same, rfl, Nat.zero_le _, fun cs T' h _ => h⟩ ?_ ?_⟩
  · rintro i σ' H' hi ⟨x, T, x6, x7, x8, rfl, s1, t1, hp1, hT, hxl, hS⟩
    rw [Int.zero_add]
    have hiw : i < ws.length := by rw [List.length_map] at hi; omega
    have hwi : ws[i]? = some ws[i] := List.getElem?_eq_getElem hiw
    have hzk := hwk ws[i] (List.getElem_mem hiw)
    refine ⟨(by show 6 ≤ sizeLine; decide), fun p2 hp2 => ?_⟩
    have n2 := same_new hp2 (.lst (gaps.map V.str))
    refine ⟨_, rfl, t, 6, rfl, t1.same n2, by decide, fun k H3 k0 k1 s3 t3 => ?_⟩
    have hp23 := s3 _ _ (t1.ne hp2) upd_same
    obtain ⟨k, rfl⟩ : ∃ k' : Nat, k = (k' : Int) := ⟨k.toNat, by omega⟩
    have hk : k < gaps.length := by show k < 6; omega
    refine ⟨p2, _, _, .str gaps[k], rfl, rfl, SqL.of hp23, atI_nat (show (gaps.map V.str)[k]? = some (V.str gaps[k]) by rw [List.getElem?_map, List.getElem?_eq_getElem hk]; rfl), ?_⟩
    obtain ⟨g, hge, hg, hg3⟩ := blkB_of (gaps_ok gaps[k] (List.getElem_mem hk))
    rw [hge]
    have s13 := s1.trans ((Stp.of n2).trans s3)
    have hp13 : H3 pl = some (.lst (T.map fun u => V.int u.1)) := s3 _ _ hplt (n2 _ _ hp1)
    refine ⟨_, rfl, _, rfl, (by show 2 ≤ sizeLine; decide), fun p3 hp3 => ?_⟩
    have n3 := same_new hp3 (.lst [.str lettersS, .str digitsS])
    have hp3' : (L2.upd H3 p3 (.lst [.str lettersS, .str digitsS])) p3 = some (.lst [.str lettersS, .str digitsS]) := upd_same
    have s5 := s13.trans (Stp.of n3)
    have t5 := t3.same n3
    have hp5 := n3 _ _ hp13
    have hl5 : (L2.upd H3 p3 (.lst [.str lettersS, .str digitsS])) l = some (.lst (ws.map V.str)) := s5 _ _ hlt hl
    generalize L2.upd H3 p3 (.lst [.str lettersS, .str digitsS]) = H5 at s5 t5 hp5 hl5 hp3'
    obtain ⟨d, dr, hd⟩ := hzk.cons
    have hsmall : ws[i].length ≤ sizeLine := by
      have := hzk.2
      have : (10000 : Nat) ≤ sizeLine := by decide
      omega
    refine ⟨p3, rfl, ⟨_, SqL.of hp3'⟩, for_list (xs := [.str lettersS, .str digitsS]) (fun j σ'' H'' => ∃ (g' : List Nat) (y8 : Option V), σ'' = [some (.ref t), some (.ref l), some (.str lettersS), some (.str digitsS), some (.str (SX.S x)), some (.ref pl), some (.int (i : Int)), some (.str (SX.S g')), y8] ∧ H'' = H5 ∧ Blk g' ∧ g'.length ≤ 3 ∧
        (g' = [] → 0 < i → ∀ c, (lastw ws i).getLast? = some c → (1 ≤ j → ¬ (d ∈ letters ∧ c ∈ letters)) ∧ (2 ≤ j → ¬ (d ∈ digits ∧ c ∈ digits)))) ⟨g, _, rfl, rfl, hg, hg3, fun _ _ c _ => ⟨fun h => absurd h (by decide), fun h => absurd h (by decide)⟩⟩ ?_ ?_ ?_⟩
    · rintro j σ'' H'' _ ⟨_, _, rfl, rfl, _⟩
      exact SqL.of hp3'
    · rintro j v σ'' H'' hx ⟨g', y8, rfl, rfl, hb', h3', hcond⟩
      obtain ⟨ss, rfl, hj⟩ : ∃ ss, v = .str ss ∧ ((j = 0 ∧ ss.cps.toList = letters) ∨ (j = 1 ∧ ss.cps.toList = digits)) := by
        match j, hx with
        | 0, hx => exact ⟨lettersS, (Option.some.inj hx).symm, .inl ⟨rfl, rfl⟩⟩
        | 1, hx => exact ⟨digitsS, (Option.some.inj hx).symm, .inr ⟨rfl, rfl⟩⟩
        | n + 2, hx => cases hx
      have next : (g' = [] → 0 < i → ∀ c, (lastw ws i).getLast? = some c → ¬ (d ∈ ss.cps.toList ∧ c ∈ ss.cps.toList)) → ∃ (g2 : List Nat) (y8 : Option V), [some (V.ref t), some (.ref l), some (.str lettersS), some (.str digitsS), some (.str (SX.S x)), some (.ref pl), some (.int (i : Int)), some (.str (SX.S g')), some (.str ss)] = [some (.ref t), some (.ref l), some (.str lettersS), some (.str digitsS), some (.str (SX.S x)), some (.ref pl), some (.int (i : Int)), some (.str (SX.S g2)), y8] ∧ H'' = H'' ∧ Blk g2 ∧ g2.length ≤ 3 ∧
        (g2 = [] → 0 < i → ∀ c, (lastw ws i).getLast? = some c → (1 ≤ j + 1 → ¬ (d ∈ letters ∧ c ∈ letters)) ∧ (2 ≤ j + 1 → ¬ (d ∈ digits ∧ c ∈ digits))) := fun hnew => by
        refine ⟨g', _, rfl, rfl, hb', h3', fun e hi c hc => ?_⟩
        have h1 := hcond e hi c hc
        have h2 := hnew e hi c hc
        rcases hj with ⟨rfl, e2⟩ | ⟨rfl, e2⟩
        · rw [e2] at h2
          exact ⟨fun _ => h2, fun h => absurd h (by decide)⟩
        · rw [e2] at h2
          exact ⟨fun _ => h1.1 (by decide), fun _ => h2⟩
      refine ⟨_, rfl, rfl, _, rfl, ?_⟩
      by_cases hg0 : g' = []
      · refine if_t (eqT (by rw [hg0]; rfl)) ⟨_, rfl, _, _, rfl, rfl, _, rfl, ?_⟩
        by_cases hi0 : 0 < i
        · refine if_t (decide_eq_true (by omega)) ⟨_, rfl, _, rfl, l, _, _, .str ws[i], rfl, rfl, SqL.of hl5, atI_nat (by rw [List.getElem?_map, hwi]; rfl), ws[i], _, d, rfl, rfl, hsmall, (by rw [hd]; exact atI_nat (j := 0) rfl), _, rfl, d, ss, rfl, rfl, _, rfl, ?_⟩
          by_cases hds : d ∈ ss.cps.toList
          · refine if_t (decide_eq_true hds) ?_
            obtain ⟨i0, hi1⟩ : ∃ i0, i = i0 + 1 := ⟨i - 1, by omega⟩
            have hi0w : i0 < ws.length := by omega
            have hw0 : ws[i0]? = some ws[i0] := List.getElem?_eq_getElem hi0w
            have hz0 := hwk ws[i0] (List.getElem_mem hi0w)
            obtain ⟨a0, r0, h0⟩ := hz0.cons
            obtain ⟨ini, c, hini⟩ : ∃ ini c, ws[i0].cps.toList = ini ++ [c] := ⟨ws[i0].cps.toList.dropLast, ws[i0].cps.toList.getLast (by rw [h0]; exact List.cons_ne_nil a0 r0), (List.dropLast_concat_getLast _).symm⟩
            have hlast : (lastw ws i).getLast? = some c := by rw [hi1, lastw_some hw0, hini]; simp
            refine ⟨_, rfl, _, rfl, _, _, rfl, rfl, l, _, _, .str ws[i0], rfl, rfl, SqL.of hl5, (by rw [hi1, show (((i0 + 1 : Nat) : Int) - 1) = (i0 : Int) by omega]; exact atI_nat (by rw [List.getElem?_map, hw0]; rfl)), _, rfl, ws[i0], _, c, rfl, rfl, (by have := hz0.2; exact Nat.le_trans this (by decide)), (by rw [hini]; exact atI_last _ _), _, rfl, c, ss, rfl, rfl, _, rfl, ?_⟩
            by_cases hcs : c ∈ ss.cps.toList
            · refine if_t (decide_eq_true hcs) ⟨[32], _, rfl, rfl, (by intro c hc; rw [List.mem_singleton.mp hc]; exact .inl rfl), by decide, fun h => nomatch h⟩
            · exact if_f (decide_eq_false hcs) (next fun _ _ c' hc' h => by rw [hlast] at hc'; cases hc'; exact hcs h.2)
          · exact if_f (decide_eq_false hds) (if_f rfl (next fun _ _ _ _ h => hds h.1))
        · exact if_f (decide_eq_false (by omega)) (if_f rfl (next fun _ h => absurd h hi0))
      · refine if_f (eqF (fun e => hg0 ?_)) (if_f rfl (next fun h => absurd h hg0))
        have := congrArg (fun z : Str => z.cps.toList) e
        exact (S_back g').symm.trans this
    · rintro σ'' H'' ⟨g', y8, rfl, rfl, hb', h3', hcond⟩
      have hap : g' = [] → Apart ws i ws[i] := fun e hi c d' hc hd' => by
        rw [hd] at hd'
        cases hd'
        have h := hcond e hi c hc
        exact ⟨h.1 (by decide), h.2 (by decide)⟩
      have hTl : T.length = i := by
        have := congrArg List.length hT
        rw [List.length_map, List.length_take] at this
        omega
      have hlpl : l ≠ pl := ne_of_none hl hpl
      have hzl : ws[i].cps.toList.length ≤ 40 := by
        have := hzk.2
        unfold Str.length at this
        simpa using this
      refine ⟨_, rfl, _, rfl, _, _, rfl, rfl, sl10 (by rw [len_S x, len_S g']; omega), ?_⟩
      rw [SX.S_cat]
      refine ⟨_, rfl, .inl ⟨rfl, _, SqL.of hp5⟩, _, rfl, _, rfl, sl10 (by rw [len_S, List.length_append]; omega), pl, _, _, rfl, rfl, hp5, sml1 (by rw [List.length_map]; omega), ?_⟩
      refine ⟨_, rfl, _, rfl, _, rfl, l, _, _, .str ws[i], rfl, rfl, SqL.of (by rw [upd_ne hlpl]; exact hl5), atI_nat (by rw [List.getElem?_map, hwi]; rfl), _, _, rfl, rfl, sl10 (by have := hzk.2; rw [len_S, List.length_append]; omega), ?_⟩
      rw [S_catz, len_S]
      refine ⟨x ++ g' ++ ws[i].cps.toList, T ++ [(((x ++ g').length : Int), ws[i])], _, _, _, rfl, ?_, ?_, ?_, ?_, ?_, hS.step hwk hwi hb' hap⟩
      · intro a o n e
        rw [upd_ne (ne_of_none e hpl)]
        exact s5 a o n e
      · obtain ⟨ns, h⟩ := t5
        exact ⟨ns, by rw [upd_ne hplt.symm]; exact h⟩
      · rw [upd_same, List.map_append]
        rfl
      · rw [List.map_append, hT, List.take_add_one, hwi]
        rfl
      · rw [List.length_append, List.length_append]
        omega
  · rintro σ' H' ⟨x, T, x6, x7, x8, rfl, s1, t1, hp1, hT, hxl, hS⟩
    have hTl : ws.take (((ws.map V.str).length : Int).toNat) = ws := by rw [List.length_map, Int.toNat_natCast, List.take_length]
    rw [hTl] at hT
    have hxl2 : x.length ≤ 8600 := by rw [List.length_map] at hxl; omega
    refine ⟨_, rfl, (by show 3 ≤ sizeLine; decide), fun p2 hp2 => ?_⟩
    have n2 := same_new hp2 (.lst (ends.map V.str))
    refine ⟨_, rfl, t, 3, rfl, t1.same n2, by decide, fun k H3 k0 k1 s3 t3 => ?_⟩
    have hp23 := s3 _ _ (t1.ne hp2) upd_same
    obtain ⟨k, rfl⟩ : ∃ k' : Nat, k = (k' : Int) := ⟨k.toNat, by omega⟩
    have hk : k < ends.length := by show k < 3; omega
    obtain ⟨g, hge, hg, hg3⟩ := blkB_of (ends_ok ends[k] (List.getElem_mem hk))
    refine ⟨p2, _, _, .str ends[k], rfl, rfl, SqL.of hp23, atI_nat (show (ends.map V.str)[k]? = some (V.str ends[k]) by rw [List.getElem?_map, List.getElem?_eq_getElem hk]; rfl), ?_⟩
    rw [hge]
    refine ⟨_, _, rfl, rfl, sl10 (by rw [len_S x, len_S g]; omega), _, rfl, (by show 2 ≤ sizeLine; decide), fun p3 hp3 => ?_⟩
    rw [SX.S_cat]
    have s13 := s1.trans ((Stp.of n2).trans s3)
    have n3 := same_new hp3 (.tup [.str (SX.S (x ++ g)), .ref pl])
    refine q p3 pl (SX.S (x ++ g)) T _ (s13.trans (Stp.of n3)) (t3.same n3) (s13.free' ht t3 hp3) hpl upd_same (n3 _ _ (s3 _ _ hplt (n2 _ _ hp1))) hT (by rw [len_S, List.length_append]; omega) ?_
    rw [S_back, len_S]
    exact hS.fin hg
end
end GR
set_option Elab.async false
set_option linter.all false
set_option maxRecDepth 100000
set_option maxHeartbeats 4000000
namespace GR
open PySem PySem.Spec PyProof.Rows L2
section
variable {P : Program} {w : World} {K : PySem.W.Frag} {Wd : Str → Prop} {mg : Str → Option Value} {base : Heap} {CC CB aR aS : Addr} {T : Toks} {f : Addr} {fd : FuncData} {n : Nat}
/-- the reading, of any text whose tokens are known -/
def spLReadA : Sp := fun vs H Q E => ∃ T, TkOk T ∧ spLRead T vs H Q E
def spLawF (K : PySem.W.Frag) : Sp := fun vs H Q _ => ∃ (a : Addr) (ns : List Int), vs = [.ref a] ∧ SqL K H a (ns.map V.int) ∧ ns.length ≤ 1000 ∧ ∀ H', Q (.bl true) H'
theorem ks_words {T : Toks} {ws : List Str} {m : Int} (hT : T.map (fun u => u.2) = ws) (hne : ∀ z ∈ ws, z ≠ "") : ks (T ++ [(m, ("" : Str))]) = ws.map kindOf ++ (["end"] : List Str) := by
  unfold ks
  rw [List.map_append, ← hT, List.map_map]
  congr 1
  refine List.map_congr_left fun u hu => ?_
  have : u.2 ≠ "" := hne u.2 (by rw [← hT]; exact List.mem_map.mpr ⟨u, hu, rfl⟩)
  show kd u.2 = kindOf u.2
  unfold kd
  rw [if_neg this]
theorem no_open : ("" : Str) ∉ openers := by decide +kernel
theorem ops_words {T : Toks} {ws : List Str} {m : Int} (hT : T.map (fun u => u.2) = ws) : ops (T ++ [(m, ("" : Str))]) 0 = opn ws := by
  unfold ops opn
  rw [List.drop_zero, List.filter_append, List.length_append, ← hT, List.filter_map, List.length_map]
  have : (([(m, ("" : Str))] : Toks).filter fun t => decide (t.2 ∈ openers)) = [] := by
    rw [List.filter_cons, if_neg (by rw [decide_eq_false no_open]; exact Bool.false_ne_true)]
    rfl
  rw [this]
  rfl
theorem tok_words {T : Toks} {m : Int} (h : T.length ≤ 200) : TokOk (T ++ [(m, ("" : Str))]) := by
  refine ⟨by rw [List.length_append]; show 0 < _ + 1; omega, by rw [List.length_append]; show _ + 1 ≤ 1000; omega, fun k t hk ht => ?_⟩
  rcases Nat.lt_or_ge k T.length with w | w
  · rw [List.length_append]
    show k + 1 < T.length + 1
    omega
  · rw [List.getElem?_append_right w] at hk
    rcases Nat.eq_zero_or_pos (k - T.length) with z | z
    · rw [z] at hk
      cases Option.some.inj hk
      exact absurd rfl ht
    · rw [List.getElem?_eq_none (show ([(m, ("" : Str))] : Toks).length ≤ _ from z)] at hk
      cases hk
theorem Wk.num {z : Str} (h : Wk z) (hn : number z = true) : ∃ i, PySem.intText? z = some i := by
  unfold number at hn
  rw [Bool.and_eq_true, Bool.and_eq_true] at hn
  have h1 : z ≠ "" := of_decide_eq_true hn.1
  have h2 : hd z ∈ GR.digits := of_decide_eq_true hn.2.1
  obtain ⟨d, r, e⟩ := h.cons
  have e2 : hd z = d := by unfold hd; rw [e]; rfl
  rw [e2] at h2
  have all : ∀ c ∈ z.cps.toList, c ∈ GR.digits := by
    rcases h.1 with ⟨_, h⟩ | ⟨_, h⟩ | ⟨c, hc, _, c2, _⟩
    · exact absurd h2 (let_not_dig _ (h d (by rw [e]; exact List.mem_cons_self ..)))
    · exact h
    · rw [hc] at e
      cases e
      exact absurd h2 c2
  have dg : ∀ c ∈ GR.digits, 48 ≤ c ∧ c ≤ 57 := by decide +kernel
  exact ⟨_, intText_digits (fun c hc => dg c (all c hc)) (by rw [e]; exact List.cons_ne_nil d r) (Nat.le_trans h.2 (by decide))⟩
theorem tk_words {T : Toks} {ws : List Str} {m : Int} (h : T.length ≤ 200) (hT : T.map (fun u => u.2) = ws) (hw : ∀ z ∈ ws, Wk z) : TkOk (T ++ [(m, ("" : Str))]) := by
  have cs : ∀ t ∈ T ++ [(m, ("" : Str))], Wk t.2 ∨ t.2 = "" := fun t ht => by
    rcases List.mem_append.mp ht with ht | ht
    · exact .inl (hw t.2 (by rw [← hT]; exact List.mem_map.mpr ⟨t, ht, rfl⟩))
    · rw [List.mem_singleton.mp ht]; exact .inr rfl
  refine ⟨tok_words h, fun t ht => ?_, fun t ht hn => ?_⟩
  · rcases cs t ht with k | k
    · exact Nat.le_trans k.2 (by decide)
    · rw [k]; decide +kernel
  · rcases cs t ht with k | k
    · exact k.num hn
    · rw [k] at hn; exact absurd hn (by decide +kernel)
theorem wk_def : Wk "def" ∧ ("def" : Str) ∉ openers := ⟨Wk.of (by decide +kernel), by decide +kernel⟩
def badD (v : Int) : PyData := .tuple [.str "bad", .int v, .bool true]
theorem bad_shaped (v : Int) : SeqAt.shaped (badD v) = true := by
  have h1 : (badD v).canLay0 = true := by
    simp [badD, PyData.canLay0, PyData.canLayAll0]
    decide +kernel
  have h2 : (badD v).depth ≤ 64 := by simp [badD, PyData.depth, PyData.depthAll]
  unfold SeqAt.shaped
  rw [h1, decide_eq_true h2]
  rfl
theorem bad_eqv (v : Int) : PyData.eqv (badD v) (badD v) = true := by simp [badD, PyData.eqv, PyData.eqvAll]
theorem bad_dp {K : PySem.W.Frag} {H : Hp} {p : Addr} {v : Int} (h : H p = some (.tup [.str "bad", .int v, .bl true])) : Dp K H (.ref p) (badD v) := .tup (SqT.of h) (.cons (.str _) (.cons (.int _) (.cons (.bl _) .nil)))
abbrev slaw : Stmt := top 72
abbrev nlaw : List Str := ["_law_script", "_law_k", "_law_tape_here", "_law_names", "_law_words_here", "_law_draws", "_law_j", "_law_text", "_law_places", "_law_bad", "_law_found", "_law_at"]
theorem sclaw : FnScope nlaw ["_law_script"] (defScope slaw) := ⟨rfl, rfl, rfl, by decide +kernel, rfl, by decide +kernel, by decide +kernel⟩
-- slots of law: 0 _law_script, 1 _law_k, 2 _law_tape_here, 3 _law_names, 4 _law_words_here, 5 _law_draws, 6 _law_j, 7 _law_text, 8 _law_places, 9 _law_bad, 10 _law_found, 11 _law_at
theorem ok_law (F : Fun K "law" "law" slaw f fd) (B : Blt mg)
    (c__law_tape : Cal P w K mg base CX0 2 "_law_tape" ["_law_great", "_law_lesser", "_law_count"] (spTape K))
    (c__law_cell : Cal P w K mg base CX0 1 "_law_cell" ["_law_script", "_law_k"] (spCell K))
    (c__law_words : Cal P w K mg base CX0 3 "_law_words" ["_law_tape_here", "_law_many", "_law_taken"] (spWords K))
    (c__law_sentence : Cal P w K mg base CX0 4 "_law_sentence" ["_law_tape_here", "_law_names"] (spSentence K))
    (c__law_take : Cal P w K mg base CX0 1 "_law_take" ["_law_tape_here", "_law_many"] spTakeT)
    (c__law_changed : Cal P w K mg base CX0 4 "_law_changed" ["_law_tape_here", "_law_words_here", "_law_names"] (spChanged K))
    (c__law_too_many : Cal P w K mg base CX0 1 "_law_too_many" ["_law_words_here"] spTooMany)
    (c__law_spread : Cal P w K mg base CX0 2 "_law_spread" ["_law_tape_here", "_law_out"] (spSpread K))
    (c__law_first_bad : Cal P w K mg base CX0 3 "_law_first_bad" ["_law_words_here"] spBad)
    (c__law_read : Cal P w K mg base CX0 296 "_law_read" ["_law_text"] spLReadA) : FnOk P w K mg base CX0 297 f fd ["_law_script"] (spLawF K) := by
  refine F.own sclaw (fun vs H Q E h => ?_) (fun cdv A outer s H vs Q E hr h => ?_)
  · obtain ⟨a, ns, rfl, _⟩ := h
    rfl
  obtain ⟨a, ns, rfl, ha, hn, q⟩ := h
  refine ⟨_, (pss_cons (ps_for (PassesOwn.never) rfl (pi_range1 (by rfl) B.range (pa_cons (pe_callB (call_min2 rfl) (by rfl) B.min (by decide +kernel) (pa_cons pe_int (pa_cons (pe_op op_add pe_int (pe_op op_fdiv (pe_callB call_len_seq (by rfl) B.len PySem.boot_len (pa_cons (pv 0) pa_nil)) pe_int)) pa_nil))) pa_nil)) (pg_name (i := 1) sclaw.nd rfl (by first | exact Or.inl rfl | exact Or.inr rfl))
    (pss_cons (ps_set (i := 2) sclaw.nd rfl (by first | exact Or.inl rfl | exact Or.inr rfl) (pe_c0 c__law_tape hr (by omega) rfl (pa_cons (pe_c0 c__law_cell hr (by omega) rfl (pa_cons (pv 0) (pa_cons (pe_op op_mul pe_int (pv 1)) pa_nil))) (pa_cons (pe_c0 c__law_cell hr (by omega) rfl (pa_cons (pv 0) (pa_cons (pe_op op_add (pe_op op_mul pe_int (pv 1)) pe_int) pa_nil))) (pa_cons pe_int pa_nil))))) (pss_cons (ps_set (i := 3) sclaw.nd rfl (by first | exact Or.inl rfl | exact Or.inr rfl) (pe_c0 c__law_words hr (by omega) rfl (pa_cons (pv 2) (pa_cons pe_int (pa_cons (pe_lst pa_nil) pa_nil))))) (pss_cons (ps_set (i := 4) sclaw.nd rfl (by first | exact Or.inl rfl | exact Or.inr rfl) (pe_c0 c__law_sentence hr (by omega) rfl (pa_cons (pv 2) (pa_cons (pv 3) pa_nil)))) (pss_cons (ps_set (i := 5) sclaw.nd rfl (by first | exact Or.inl rfl | exact Or.inr rfl) (pe_c0 c__law_tape hr (by omega) rfl (pa_cons (pe_c0 c__law_cell hr (by omega) rfl (pa_cons (pv 0) (pa_cons (pe_op op_add (pe_op op_mul pe_int (pv 1)) pe_int) pa_nil))) (pa_cons (pe_op op_add (pe_c0 c__law_cell hr (by omega) rfl (pa_cons (pv 0) (pa_cons (pe_op op_add (pe_op op_mul pe_int (pv 1)) pe_int) pa_nil))) pe_int) (pa_cons pe_int pa_nil))))) (pss_cons (ps_for (PassesOwn.never) rfl (pi_range1 (by rfl) B.range (pa_cons (pe_c0 c__law_take hr (by omega) rfl (pa_cons (pv 5) (pa_cons pe_int pa_nil))) pa_nil)) (pg_name (i := 6) sclaw.nd rfl (by first | exact Or.inl rfl | exact Or.inr rfl))
    (pss_one (ps_set (i := 4) sclaw.nd rfl (by first | exact Or.inl rfl | exact Or.inr rfl) (pe_c0 c__law_changed hr (by omega) rfl (pa_cons (pv 5) (pa_cons (pv 4) (pa_cons (pv 3) pa_nil))))))) (pss_cons (ps_if (pt_val (pe_c0 c__law_too_many hr (by omega) rfl (pa_cons (pv 4) pa_nil)))
    (pss_one (ps_set (i := 4) sclaw.nd rfl (by first | exact Or.inl rfl | exact Or.inr rfl) (pe_lst (pa_cons pe_str pa_nil)))) pss_nil) (pss_cons (ps_asg (pe_c0 c__law_spread hr (by omega) rfl (pa_cons (pv 5) (pa_cons (pv 4) pa_nil))) (pg_tup (by rfl) (pgs_cons (pg_name (i := 7) sclaw.nd rfl (by first | exact Or.inl rfl | exact Or.inr rfl)) (pgs_cons (pg_name (i := 8) sclaw.nd rfl (by first | exact Or.inl rfl | exact Or.inr rfl)) pgs_nil)))) (pss_cons (ps_set (i := 9) sclaw.nd rfl (by first | exact Or.inl rfl | exact Or.inr rfl) (pe_c0 c__law_first_bad hr (by omega) rfl (pa_cons (pv 4) pa_nil))) (pss_cons (ps_set (i := 10) sclaw.nd rfl (by first | exact Or.inl rfl | exact Or.inr rfl) (pe_c0 c__law_read hr (by omega) rfl (pa_cons (pv 7) pa_nil))) (pss_cons (ps_set (i := 11) sclaw.nd rfl (by first | exact Or.inl rfl | exact Or.inr rfl) (pe_callB call_len_str (by rfl) B.len PySem.boot_len (pa_cons (pv 7) pa_nil))) (pss_cons (ps_if (pt_chain op_le op_lt pe_int (pv 9) (pe_callB call_len_seq (by rfl) B.len PySem.boot_len (pa_cons (pv 4) pa_nil)))
    (pss_one (ps_set (i := 11) sclaw.nd rfl (by first | exact Or.inl rfl | exact Or.inr rfl) (pe_ix ix_list (pv 8) (pv 9) (fun _ _ => rfl)))) pss_nil) (pss_one (ps_if (pt_cmpR op_ge (pv 9) pe_int (nomark _))
    (pss_one (ps_if (pt_cmpR (op_neD hr.base.units) (pv 10) (pe_tup (pa_cons pe_str (pa_cons (pv 11) (pa_cons pe_bl pa_nil)))) (nomark _))
    (pss_one (ps_ret pe_bl)) pss_nil)) (pss_one (ps_if (pt_cmpR op_in_seq (pe_ix ix_tup (pv 10) pe_int (fun _ _ => rfl)) (pe_lst (pa_cons pe_str (pa_cons pe_str pa_nil))) rfl)
    (pss_one (ps_ret pe_bl)) pss_nil)))))))))))))))) (pss_one (ps_ret pe_bl))), ?_⟩
  have bnd : ∀ z : Int, 0 ≤ z → z ≤ 1000 → -(2 ^ 62) ≤ (if 1 + z / 3 < 2 then 1 + z / 3 else 2) ∧ (if 1 + z / 3 < 2 then 1 + z / 3 else 2) < 2 ^ 62 := fun z h0 h1 => by
    split <;> omega
  have bb := bnd ((ns.map V.int).length : Int) (by omega) (by rw [List.length_map]; omega)
  refine ⟨_, rfl, a, _, rfl, .inl ha, _, _, rfl, rfl, ⟨by decide, by decide⟩, _, _, rfl, rfl, _, _, rfl, _, rfl, bb.1, bb.2,
    for_range (lo := 0) (fun i σ' H' => (∃ x1 x2 x3 x4 x5 x6 x7 x8 x9 x10 x11, σ' = [some (.ref a), x1, x2, x3, x4, x5, x6, x7, x8, x9, x10, x11]) ∧ Same H H') ⟨⟨_, _, _, _, _, _, _, _, _, _, _, rfl⟩, Same.refl H⟩ ?_ ?_⟩
  · rintro i σ' H' hi ⟨⟨x1, x2, x3, x4, x5, x6, x7, x8, x9, x10, x11, rfl⟩, s1⟩
    rw [Int.zero_add]
    have e3 : ∀ c : Nat, (3 : Int) * (i : Int) + (c : Int) = ((3 * i + c : Nat) : Int) := fun c => by omega
    refine ⟨_, rfl, _, rfl, _, _, rfl, rfl, .inl ⟨by decide, by decide⟩, a, ns, 3 * i, (by have := e3 0; show [V.ref a, V.int (3 * (i : Int))] = _; rw [show (3 : Int) * (i : Int) = ((3 * i : Nat) : Int) by omega]), Same.seq s1 ha, fun g => ?_⟩
    refine ⟨_, rfl, _, rfl, _, _, rfl, rfl, .inl ⟨by decide, by decide⟩, _, _, rfl, rfl, a, ns, 3 * i + 1, (by show [V.ref a, V.int (3 * (i : Int) + 1)] = _; rw [show (3 : Int) * (i : Int) + 1 = ((3 * i + 1 : Nat) : Int) by omega]), Same.seq s1 ha, fun le => ?_⟩
    refine ⟨g, le, 400, rfl, by decide, fun t H1 s2 ht t1 => ?_⟩
    have s02 := s1.trans s2
    have tn := s1.free ht
    refine ⟨_, rfl, (by show 0 ≤ sizeLine; decide), fun e he => ⟨t, e, rfl, t1.same (same_new he _), upd_same, (t1.ne he).symm, fun nm nms H2 s3 t2 hnm hnm2 hnl hno => ?_⟩⟩
    have st2 : Stp t H1 H2 := (Stp.of (same_new he _)).trans s3
    have nm1 := (same_new he (.lst [])).free hnm
    have nmt := t1.ne nm1
    refine ⟨_, rfl, _, rfl, t, nm, nms, rfl, t2, SqL.of hnm2, nmt, (fun z => by rw [z] at hnl; cases hnl), hno, fun p1 ws1 H3 s4 t3 hp1 hw1 ho1 hl1 => ?_⟩
    have st3 := st2.trans s4
    have sH3 : Same H H3 := s1.trans ((Stp.same ((Stp.of s2).trans st3) ht))
    have hnm3 := s4 _ _ nmt hnm2
    refine ⟨_, rfl, _, rfl, _, _, rfl, rfl, .inl ⟨by decide, by decide⟩, _, _, rfl, rfl, a, ns, 3 * i + 2, (by show [V.ref a, V.int (3 * (i : Int) + 2)] = _; rw [show (3 : Int) * (i : Int) + 2 = ((3 * i + 2 : Nat) : Int) by omega]), Same.seq sH3 ha, fun g2 => ?_⟩
    refine ⟨_, rfl, _, rfl, _, _, rfl, rfl, .inl ⟨by decide, by decide⟩, _, _, rfl, rfl, a, ns, 3 * i + 1, (by show [V.ref a, V.int (3 * (i : Int) + 1)] = _; rw [show (3 : Int) * (i : Int) + 1 = ((3 * i + 1 : Nat) : Int) by omega]), Same.seq sH3 ha, fun le2 => ⟨_, _, rfl, rfl, ?_⟩⟩
    refine ⟨g2, le2 + 1, 300, rfl, by decide, fun d H4 s5 hd td => ?_⟩
    have sH4 := sH3.trans s5
    have dn := sH3.free hd
    have hnm4 := s5 _ _ hnm3
    have nmd : nm ≠ d := ne_of_none hnm3 hd
    have hp1d : p1 ≠ d := ne_of_none hw1.1 hd
    refine ⟨_, rfl, d, 7, rfl, td, by decide, fun z H5 z0 z7 s6 td5 => ⟨_, rfl, by omega, by omega, ?_⟩⟩
    refine for_range (lo := 0) (n := z.toNat) (fun j σ' H' => ∃ (p : Addr) (ws : List Str) (x6 x7 x8 x9 x10 x11 : Option V), σ' = [some (.ref a), some (.int (i : Int)), some (.ref t), some (.ref nm), some (.ref p), some (.ref d), x6, x7, x8, x9, x10, x11] ∧ Stp d H4 H' ∧ TapeAt H' d ∧ p ≠ d ∧ WksC H' p ws ∧ opn ws ≤ 41 + j ∧ ws.length ≤ 150 + j)
      ⟨p1, ws1, _, _, _, _, _, _, rfl, s6, td5, hp1d, ⟨s6 _ _ hp1d (s5 _ _ hw1.1), hw1.2⟩, ho1, hl1⟩ ?_ ?_
    · rintro j σ' H' hj ⟨p, ws, x6, x7, x8, x9, x10, x11, rfl, s7, td7, hpd, hw7, ho7, hl7⟩
      refine ⟨_, rfl, _, rfl, _, rfl, d, p, nm, nms, ws, rfl, td7, SqL.of (s7 _ _ nmd hnm4), nmd, hpd, (fun z => by rw [z] at hnl; cases hnl), hno, hw7, by omega, fun p' ws' H'' s8 td8 hp' hw8 ho8 hl8 => ?_⟩
      exact ⟨p', ws', _, _, _, _, _, _, rfl, s7.trans s8, td8, td7.ne hp', hw8, by omega, by omega⟩
    · rintro σ' H' ⟨p, ws, x6, x7, x8, x9, x10, x11, rfl, s7, td7, hpd, hw7, ho7, hl7⟩
      have ho7 : opn ws ≤ 47 := by omega
      have hl7 : ws.length ≤ 156 := by omega
      refine ⟨_, rfl, p, ws, rfl, hw7.1, by omega, fun b H7 s7b => ⟨_, rfl, ?_⟩⟩
      have s7 := s7.trans (Stp.of s7b)
      have td7 := td7.same s7b
      have hw7 : WksC H7 p ws := ⟨s7b _ _ hw7.1, hw7.2⟩
      have sH7' : Stp d H H7 := (Stp.of sH4).trans s7
      have sH7' : Same H H7 := Stp.same sH7' dn
      cases b with
      | false =>
        refine if_f rfl ?_
        have hlen200 : ws.length ≤ 200 := by omega
        have hne : ∀ z ∈ ws, z ≠ "" := fun z hz => (hw7.2 z hz).ne
        refine ⟨_, rfl, _, rfl, d, p, ws, rfl, td7, hw7, hpd, hlen200, fun pp qq tx T H8 s8 td8 fpp fqq hpp hqq hT htx hLay => ?_⟩
        have sH8 : Same H H8 := (Stp.same ((Stp.of sH7').trans s8) dn)
        refine ⟨pp, _, rfl, SqT.of hpp, rfl, _, _, rfl, _, _, rfl, rfl, ?_⟩
        obtain ⟨r, n, hrn, hrun⟩ := run_program (ws.map kindOf ++ (["end"] : List Str)) (by rw [List.length_append, List.length_map]; show _ + 1 ≤ 1001; omega)
        refine ⟨_, rfl, p, ws, r, n, rfl, s8 _ _ hpd hw7.1, (fun z hz => ⟨hne z hz, Nat.le_trans (hw7.2 z hz).2 (by decide)⟩), by omega, hrn, hrun, fun H9 s9 => ?_⟩
        have hTl : T.length = ws.length := by rw [← hT, List.length_map]
        have hqq9 := s9 _ _ hqq
        have hp9 := s9 _ _ (s8 _ _ hpd hw7.1)
        refine ⟨_, rfl, T ++ [((tx.length : Int), ("" : Str))], tk_words (by omega) hT hw7.2, tx, rfl, hLay, htx, tok_words (by omega), by rw [ops_words hT]; omega, fun j u p2 H10 hr2 hu s10 h10 => ?_, fun p2 z2 xs H10 hr2 s10 h10 hb hd => ?_⟩
        · obtain ⟨n2, hr2⟩ := hr2
          rw [ks_words hT hne] at hr2
          have er : r = some j := RunN.det hrun hr2
          subst er
          have sH10 := sH8.trans (s9.trans s10)
          have hp10 := s10 _ _ hp9
          have hqq10 := s10 _ _ hqq9
          have hjl : j < T.length + 1 := by
            have := (List.getElem?_eq_some_iff.mp hu).1
            rw [List.length_append] at this
            exact this
          have rest : ∀ (H11 : Hp) (p3 : Addr), Same H10 H11 → H11 p3 = some (.tup [.str "bad", .int u.1, .bl true]) → ∃ d e, Dp K H11 (.ref p2) d ∧ Dp K H11 (.ref p3) e ∧ SeqAt.shaped d = true ∧ SeqAt.shaped e = true ∧ (!PyData.eqv d e) = false := fun H11 p3 s11 h11 => ⟨badD u.1, badD u.1, bad_dp (s11 _ _ h10), bad_dp h11, bad_shaped _, bad_shaped _, by rw [bad_eqv]; rfl⟩
          refine ⟨_, rfl, tx, rfl, sl10 htx, ?_⟩
          refine ⟨_, rfl, _, _, rfl, rfl, _, rfl, if_t (decide_eq_true (Int.natCast_nonneg j)) ⟨_, rfl, p, _, rfl, .inl (SqL.of hp10), _, _, rfl, rfl, _, rfl, ?_⟩⟩
          rw [List.length_map]
          by_cases hjw : j < ws.length
          · refine if_t (decide_eq_true (show (j : Int) < (ws.length : Int) by omega)) ⟨_, rfl, _, rfl, qq, _, _, .int u.1, rfl, rfl, SqL.of hqq10, atI_nat (by rw [List.getElem?_append_left (by omega)] at hu; rw [List.getElem?_map, hu]; rfl), ?_⟩
            refine ⟨_, rfl, _, _, rfl, rfl, _, rfl, if_t (decide_eq_true (Int.natCast_nonneg j)) ⟨_, rfl, _, rfl, (by show 3 ≤ sizeLine; decide), fun p3 hp3 => ?_⟩⟩
            obtain ⟨d1, d2, k1, k2, k3, k4, k5⟩ := rest _ p3 (same_new hp3 _) upd_same
            exact ⟨d1, d2, k1, k2, k3, k4, _, rfl, if_f k5 ⟨⟨_, _, _, _, _, _, _, _, _, _, _, rfl⟩, sH10.trans (same_new hp3 _)⟩⟩
          · refine if_f (decide_eq_false (show ¬ (j : Int) < (ws.length : Int) by omega)) ?_
            have hu1 : u.1 = (tx.length : Int) := by
              rw [List.getElem?_append_right (by omega), show j - T.length = 0 by omega] at hu
              rw [← Option.some.inj hu]
            refine ⟨_, rfl, _, _, rfl, rfl, _, rfl, if_t (decide_eq_true (Int.natCast_nonneg j)) ⟨_, rfl, _, rfl, (by show 3 ≤ sizeLine; decide), fun p3 hp3 => ?_⟩⟩
            obtain ⟨d1, d2, k1, k2, k3, k4, k5⟩ := rest _ p3 (same_new hp3 _) (by rw [upd_same, hu1])
            exact ⟨d1, d2, k1, k2, k3, k4, _, rfl, if_f k5 ⟨⟨_, _, _, _, _, _, _, _, _, _, _, rfl⟩, sH10.trans (same_new hp3 _)⟩⟩
        · obtain ⟨n2, hr2⟩ := hr2
          rw [ks_words hT hne] at hr2
          have er : r = none := RunN.det hrun hr2
          subst er
          have sH10 := sH8.trans (s9.trans s10)
          refine ⟨_, rfl, tx, rfl, sl10 htx, ?_⟩
          refine ⟨_, rfl, _, _, rfl, rfl, _, rfl, if_f (by decide) ⟨_, rfl, if_f rfl ?_⟩⟩
          refine ⟨_, rfl, _, _, rfl, rfl, _, rfl, if_f (by decide) ?_⟩
          refine ⟨_, rfl, p2, _, _, _, rfl, rfl, SqT.of h10, atI_nat (j := 0) rfl, (by show 2 ≤ sizeLine; decide), fun p3 hp3 => ?_⟩
          refine ⟨p3, _, rfl, .inl (SqL.of upd_same), rfl, flatStr ["bad", "deep"], _, rfl, ?_⟩
          have hnot : z2 ∉ (["bad", "deep"] : List Str) := fun z => by
            rcases List.mem_cons.mp z with z | z
            · exact hb z
            · exact hd (List.mem_singleton.mp z)
          refine if_f (show inV (V.str z2) ((["bad", "deep"] : List Str).map V.str) = false by rw [inStr]; exact decide_eq_false hnot) ?_
          exact ⟨⟨_, _, _, _, _, _, _, _, _, _, _, rfl⟩, sH10.trans (same_new hp3 _)⟩
      | true =>
        refine if_t rfl ⟨(by show 1 ≤ sizeLine; decide), fun pd hpd' => ?_⟩
        have nd := same_new hpd' (.lst [.str "def"])
        have hpd : pd ≠ d := td7.ne hpd'
        have td7 := td7.same nd
        have sH7' := sH7'.trans nd
        have hw7 : WksC (L2.upd H7 pd (.lst [.str "def"])) pd ["def"] := ⟨upd_same, fun z hz => by rw [List.mem_singleton.mp hz]; exact wk_def.1⟩
        have ho7 : opn (["def"] : List Str) ≤ 47 := by rw [opn_one, if_neg wk_def.2]; omega
        have hl7 : (["def"] : List Str).length ≤ 156 := by decide
        generalize (["def"] : List Str) = ws at hw7 ho7 hl7
        generalize L2.upd H7 pd (.lst [.str "def"]) = H7 at sH7' td7 hw7
        generalize pd = p at hpd hw7
        have hlen200 : ws.length ≤ 200 := by omega
        have hne : ∀ z ∈ ws, z ≠ "" := fun z hz => (hw7.2 z hz).ne
        refine ⟨_, rfl, _, rfl, d, p, ws, rfl, td7, hw7, hpd, hlen200, fun pp qq tx T H8 s8 td8 fpp fqq hpp hqq hT htx hLay => ?_⟩
        have sH8 : Same H H8 := (Stp.same ((Stp.of sH7').trans s8) dn)
        refine ⟨pp, _, rfl, SqT.of hpp, rfl, _, _, rfl, _, _, rfl, rfl, ?_⟩
        obtain ⟨r, n, hrn, hrun⟩ := run_program (ws.map kindOf ++ (["end"] : List Str)) (by rw [List.length_append, List.length_map]; show _ + 1 ≤ 1001; omega)
        refine ⟨_, rfl, p, ws, r, n, rfl, s8 _ _ hpd hw7.1, (fun z hz => ⟨hne z hz, Nat.le_trans (hw7.2 z hz).2 (by decide)⟩), by omega, hrn, hrun, fun H9 s9 => ?_⟩
        have hTl : T.length = ws.length := by rw [← hT, List.length_map]
        have hqq9 := s9 _ _ hqq
        have hp9 := s9 _ _ (s8 _ _ hpd hw7.1)
        refine ⟨_, rfl, T ++ [((tx.length : Int), ("" : Str))], tk_words (by omega) hT hw7.2, tx, rfl, hLay, htx, tok_words (by omega), by rw [ops_words hT]; omega, fun j u p2 H10 hr2 hu s10 h10 => ?_, fun p2 z2 xs H10 hr2 s10 h10 hb hd => ?_⟩
        · obtain ⟨n2, hr2⟩ := hr2
          rw [ks_words hT hne] at hr2
          have er : r = some j := RunN.det hrun hr2
          subst er
          have sH10 := sH8.trans (s9.trans s10)
          have hp10 := s10 _ _ hp9
          have hqq10 := s10 _ _ hqq9
          have hjl : j < T.length + 1 := by
            have := (List.getElem?_eq_some_iff.mp hu).1
            rw [List.length_append] at this
            exact this
          have rest : ∀ (H11 : Hp) (p3 : Addr), Same H10 H11 → H11 p3 = some (.tup [.str "bad", .int u.1, .bl true]) → ∃ d e, Dp K H11 (.ref p2) d ∧ Dp K H11 (.ref p3) e ∧ SeqAt.shaped d = true ∧ SeqAt.shaped e = true ∧ (!PyData.eqv d e) = false := fun H11 p3 s11 h11 => ⟨badD u.1, badD u.1, bad_dp (s11 _ _ h10), bad_dp h11, bad_shaped _, bad_shaped _, by rw [bad_eqv]; rfl⟩
          refine ⟨_, rfl, tx, rfl, sl10 htx, ?_⟩
          refine ⟨_, rfl, _, _, rfl, rfl, _, rfl, if_t (decide_eq_true (Int.natCast_nonneg j)) ⟨_, rfl, p, _, rfl, .inl (SqL.of hp10), _, _, rfl, rfl, _, rfl, ?_⟩⟩
          rw [List.length_map]
          by_cases hjw : j < ws.length
          · refine if_t (decide_eq_true (show (j : Int) < (ws.length : Int) by omega)) ⟨_, rfl, _, rfl, qq, _, _, .int u.1, rfl, rfl, SqL.of hqq10, atI_nat (by rw [List.getElem?_append_left (by omega)] at hu; rw [List.getElem?_map, hu]; rfl), ?_⟩
            refine ⟨_, rfl, _, _, rfl, rfl, _, rfl, if_t (decide_eq_true (Int.natCast_nonneg j)) ⟨_, rfl, _, rfl, (by show 3 ≤ sizeLine; decide), fun p3 hp3 => ?_⟩⟩
            obtain ⟨d1, d2, k1, k2, k3, k4, k5⟩ := rest _ p3 (same_new hp3 _) upd_same
            exact ⟨d1, d2, k1, k2, k3, k4, _, rfl, if_f k5 ⟨⟨_, _, _, _, _, _, _, _, _, _, _, rfl⟩, sH10.trans (same_new hp3 _)⟩⟩
          · refine if_f (decide_eq_false (show ¬ (j : Int) < (ws.length : Int) by omega)) ?_
            have hu1 : u.1 = (tx.length : Int) := by
              rw [List.getElem?_append_right (by omega), show j - T.length = 0 by omega] at hu
              rw [← Option.some.inj hu]
            refine ⟨_, rfl, _, _, rfl, rfl, _, rfl, if_t (decide_eq_true (Int.natCast_nonneg j)) ⟨_, rfl, _, rfl, (by show 3 ≤ sizeLine; decide), fun p3 hp3 => ?_⟩⟩
            obtain ⟨d1, d2, k1, k2, k3, k4, k5⟩ := rest _ p3 (same_new hp3 _) (by rw [upd_same, hu1])
            exact ⟨d1, d2, k1, k2, k3, k4, _, rfl, if_f k5 ⟨⟨_, _, _, _, _, _, _, _, _, _, _, rfl⟩, sH10.trans (same_new hp3 _)⟩⟩
        · obtain ⟨n2, hr2⟩ := hr2
          rw [ks_words hT hne] at hr2
          have er : r = none := RunN.det hrun hr2
          subst er
          have sH10 := sH8.trans (s9.trans s10)
          refine ⟨_, rfl, tx, rfl, sl10 htx, ?_⟩
          refine ⟨_, rfl, _, _, rfl, rfl, _, rfl, if_f (by decide) ⟨_, rfl, if_f rfl ?_⟩⟩
          refine ⟨_, rfl, _, _, rfl, rfl, _, rfl, if_f (by decide) ?_⟩
          refine ⟨_, rfl, p2, _, _, _, rfl, rfl, SqT.of h10, atI_nat (j := 0) rfl, (by show 2 ≤ sizeLine; decide), fun p3 hp3 => ?_⟩
          refine ⟨p3, _, rfl, .inl (SqL.of upd_same), rfl, flatStr ["bad", "deep"], _, rfl, ?_⟩
          have hnot : z2 ∉ (["bad", "deep"] : List Str) := fun z => by
            rcases List.mem_cons.mp z with z | z
            · exact hb z
            · exact hd (List.mem_singleton.mp z)
          refine if_f (show inV (V.str z2) ((["bad", "deep"] : List Str).map V.str) = false by rw [inStr]; exact decide_eq_false hnot) ?_
          exact ⟨⟨_, _, _, _, _, _, _, _, _, _, _, rfl⟩, sH10.trans (same_new hp3 _)⟩
  · rintro σ' H' ⟨⟨x1, x2, x3, x4, x5, x6, x7, x8, x9, x10, x11, rfl⟩, s1⟩
    exact q H'
end
end GR
set_option Elab.async false
set_option linter.all false
set_option maxRecDepth 100000
set_option maxHeartbeats 4000000
/-! The families by induction, from the facts of the head. -/
namespace GR
open PySem PySem.Spec PyProof.Rows L2
section
variable {P : Program} {w : World} {K : PySem.W.Frag} {Wd : Str → Prop} {mg : Str → Option Value} {base : Heap} {CC CB aR aS : Addr} {T : Toks} {f : Addr} {fd : FuncData} {n : Nat}
/-- the facts of the head -/
structure HF (P : Program) (w : World) (K : PySem.W.Frag) (mg : Str → Option Value) (CC CB CR CT CD CU CW CL CP aR aS ps pg : Addr) (mc : Value) : Prop where
  Z : PF P w K mg CC CB aR aS
  X : LrX K mg CR CB CT CD CU CW CL
  N : NmF P w K mg CD CU CW
  xL : ExcR P w K mg "TooLarge" CL 1 mf1n
  PC : ProgC K CP
  mgP : mg "Program" = some (.ref CP)
  cr : ClX.CRead K CP mc
  sm : SMet K CP mc "read" ps pg
  rd : ∃ gd, Fun K "read" "Program.read" sProgram_read pg gd ∧ Binds K gd ["text"] []
  pinit : ∃ fI fdI, Mk K CP fI ∧ Fun K "__init__" "Program.__init__" sProgram_init fI fdI ∧ Binds K fdI ["self", "definitions"] []
  check_names : Df K mg "check_names" scheck_names ["definitions"]
  check_expr : Df K mg "check_expr" scheck_expr ["expr", "known", "counts"]
  inner_exprs : Df K mg "inner_exprs" sinner_exprs ["expr"]
  mentioned_names : Df K mg "mentioned_names" smentioned_names ["definitions"]
  gather_names : Df K mg "gather_names" sgather_names ["expr", "found"]
  step_names : Df K mg "step_names" sstep_names ["step"]
  check_weights : Df K mg "check_weights" scheck_weights ["definitions"]
  plain_row : Df K mg "plain_row" splain_row ["weight", "count"]
  sum_of : Df K mg "sum_of" ssum_of ["rows"]
  times : Df K mg "times" stimes ["row", "factor"]
  weigh : Df K mg "weigh" sweigh ["expr", "scope", "bodies", "count"]
  weigh_part : Df K mg "weigh_part" sweigh_part ["expr", "scope", "bodies", "count"]
  law_cell : Df K mg "_law_cell" s_law_cell ["_law_script", "_law_k"]
  law_mixed : Df K mg "_law_mixed" s_law_mixed ["_law_cell_here", "_law_k"]
  law_tape : Df K mg "_law_tape" s_law_tape ["_law_great", "_law_lesser", "_law_count"]
  law_take : Df K mg "_law_take" s_law_take ["_law_tape_here", "_law_many"]
  law_number : Df K mg "_law_number" s_law_number ["_law_tape_here"]
  law_word : Df K mg "_law_word" s_law_word ["_law_tape_here", "_law_longest"]
  law_words : Df K mg "_law_words" s_law_words ["_law_tape_here", "_law_many", "_law_taken"]
  law_pick : Df K mg "_law_pick" s_law_pick ["_law_tape_here", "_law_names"]
  law_spread : Df K mg "_law_spread" s_law_spread ["_law_tape_here", "_law_out"]
  law_read : Df K mg "_law_read" s_law_read ["_law_text"]
  law_chart : Df K mg "_law_chart" s_law_chart []
  law_kept : Df K mg "_law_kept" s_law_kept []
  law_kind : Df K mg "_law_kind" s_law_kind ["_law_word_here"]
  law_next : Df K mg "_law_next" s_law_next ["_law_rules", "_law_kind_here"]
  law_first_bad : Df K mg "_law_first_bad" s_law_first_bad ["_law_words_here"]
  law_token : Df K mg "_law_token" s_law_token ["_law_tape_here", "_law_kind_here", "_law_names"]
  law_sentence : Df K mg "_law_sentence" s_law_sentence ["_law_tape_here", "_law_names"]
  law_odd : Df K mg "_law_odd" s_law_odd ["_law_tape_here", "_law_names"]
  law_changed : Df K mg "_law_changed" s_law_changed ["_law_tape_here", "_law_words_here", "_law_names"]
  law_too_many : Df K mg "_law_too_many" s_law_too_many ["_law_words_here"]
variable {CR CT CD CU CW CL CP ps pg : Addr} {mc : Value}
theorem HF.inner (D : HF P w K mg CC CB CR CT CD CU CW CL CP aR aS ps pg mc) {N : Nat} {R : Hp → V → Prop} (hR : ∀ H H' v, Tps H H' → R H v → R H' v) : Cal P w K mg base CX0 1 "inner_exprs" ["expr"] (spInner K Wd N R) := D.inner_exprs.cal fun f fd F => ok_inner_exprs hR F
theorem no_spec {CX : CXT} {k : Nat} {qs : List Str} {sp : Sp} (no : ∀ vs H Q E, ¬ sp vs H Q E) : FnOk P w K mg base CX k f fd qs sp := ⟨fun vs H Q E h => absurd h (no vs H Q E), fun A outer s H args us vs Q E _ _ _ _ h => absurd h (no vs H Q E)⟩
theorem HF.checkE (D : HF P w K mg CC CB CR CT CD CU CW CL CP aR aS ps pg mc) : ∀ n : Nat, n ≤ 1001 → Cal P w K mg base (L2.CX P w) (n + 2) "check_expr" ["expr", "known", "counts"] (spCheckE K Wd CD CU CW 1000 n)
  | 0, _ => D.check_expr.cal fun f fd F => no_spec fun vs H Q E h => by
    obtain ⟨v, kn, ct, ns, kvs, _, h, _⟩ := h
    exact h
  | n + 1, hn => D.check_expr.cal fun f fd F => ok_check_expr F D.Z.B D.N (fun m => D.inner fun H H' v t h => h.mono t (Nat.le_refl _) (Nat.le_refl _)) (D.checkE n (by omega)) (by omega)
theorem HF.weighs (D : HF P w K mg CC CB CR CT CD CU CW CL CP aR aS ps pg mc) : ∀ n : Nat, n ≤ 1001 → Cal P w K mg base CX0 (2 * n + 2) "weigh" ["expr", "scope", "bodies", "count"] (spWeigh K Wd n)
  | 0, _ => D.weigh.cal fun f fd F => no_spec fun vs H Q E h => by
    obtain ⟨v, sc, bd, c, nm, cl, ks, bs, _, h, _⟩ := h
    exact h
  | n + 1, hn => by
    have ih := D.weighs n (by omega)
    have hp : Cal P w K mg base CX0 1 "plain_row" ["weight", "count"] (spPlainRow K) := D.plain_row.cal fun f fd F => ok_plain_row F D.Z.B
    have hs : Cal P w K mg base CX0 1 "sum_of" ["rows"] (spSumOf K) := D.sum_of.cal fun f fd F => ok_sum_of F D.Z.B D.Z.S.HEAVIEST
    have ht : Cal P w K mg base CX0 1 "times" ["row", "factor"] (spTimes K) := D.times.cal fun f fd F => ok_times (aR := aR) (aS := aS) F D.Z.B D.Z.S.HEAVIEST
    have hw : Cal P w K mg base CX0 (2 * n + 3) "weigh_part" ["expr", "scope", "bodies", "count"] (spWeighPart K Wd n) := D.weigh_part.cal fun f fd F => ok_weigh_part F D.Z.B (by omega) hp hs ih
    exact D.weigh.cal fun f fd F => ok_weigh F D.Z.B (by omega) hp hs ht (fun cl nm => D.inner fun H H' v t h => h.mono t (Nat.le_refl _) (fun _ _ z => z) (Nat.le_refl _) (fun _ z => z)) ih hw
theorem HF.gathers (D : HF P w K mg CC CB CR CT CD CU CW CL CP aR aS ps pg mc) {S : List Str} (hW : ∀ z, Wd z → z ∈ S) (hS : S.length ≤ 1000) : ∀ n : Nat, Cal P w K mg base CX0 (n + 2) "gather_names" ["expr", "found"] (spGather K Wd S n)
  | 0 => D.gather_names.cal fun f fd F => no_spec fun vs H Q E h => by
    obtain ⟨v, d, _, h, _⟩ := h
    exact h
  | n + 1 => D.gather_names.cal fun f fd F => ok_gather_names hW hS F (D.step_names.cal fun f fd F => ok_step_names F) (D.inner fun H H' v t h => h.mono t (Nat.le_refl _) (Nat.le_refl _)) (D.gathers hW hS n)
theorem HF.readT (D : HF P w K mg CC CB CR CT CD CU CW CL CP aR aS ps pg mc) (hT : TkOk T) : ∃ gd, Binds K gd ["text"] [] ∧ FnOk P w K mg base (L2.CX P w) 295 pg gd ["text"] (spRead T CB CD CU CW CL) := by
  obtain ⟨gd, Fr, bR⟩ := D.rd
  obtain ⟨fI, fdI, MKP, FI, bI⟩ := D.pinit
  let S : List Str := T.map fun u => u.2
  have hS : S.length ≤ 1000 := by
    show (T.map fun u => u.2).length ≤ 1000
    rw [List.length_map]
    exact hT.TK.lim
  have hm : Cal P w K mg base CX0 147 "mentioned_names" ["definitions"] (spMent K (fun z => z ∈ S) 144) := D.mentioned_names.cal fun f fd F => ok_mentioned_names (n := 144) hS F D.Z.B (D.gathers (fun z h => h) hS 144)
  have hd := D.Z.defs (Wd := fun z => z ∈ S) (base := base) hT (fun t ht => List.mem_map.mpr ⟨t, ht, rfl⟩) 48
  have hn : Cal P w K mg base (L2.CX P w) 147 "check_names" ["definitions"] (spCheckN K (fun z => z ∈ S) CD CU CW 144) := D.check_names.cal fun f fd F => ok_check_names (n := 144) F D.Z.B D.N (D.checkE 144 (by decide))
  have hw : Cal P w K mg base (L2.CX P w) 291 "check_weights" ["definitions"] (spCheckW K (fun z => z ∈ S) CL 144) := D.check_weights.cal fun f fd F => ok_check_weights (n := 144) F D.Z.B D.Z.S.HEAVIEST D.xL (D.weighs 144 (by decide))
  exact ⟨gd, bR, ok_Program_read Fr MKP (ok_Program_init (n := 144) FI D.Z.B D.PC hm) bI D.mgP hd hn hw⟩
theorem HF.lread (D : HF P w K mg CC CB CR CT CD CU CW CL CP aR aS ps pg mc) : Cal P w K mg base CX0 296 "_law_read" ["_law_text"] spLReadA := D.law_read.cal fun f fd F => by
  have one : ∀ T, TkOk T → FnOk P w K mg base CX0 296 f fd ["_law_text"] (spLRead T) := fun T hT => by
    obtain ⟨gd, bR, FR⟩ := D.readT (base := base) hT
    exact ok_law_read F D.Z.B D.X D.mgP D.cr D.sm FR bR
  exact ⟨fun vs H Q E ⟨T, hT, h⟩ => (one T hT).len vs H Q E h, fun A outer s H args us vs Q E a b c d ⟨T, hT, h⟩ => (one T hT).run A outer s H args us vs Q E a b c d h⟩
theorem HF.law (D : HF P w K mg CC CB CR CT CD CU CW CL CP aR aS ps pg mc) (F : Fun K "law" "law" slaw f fd) : FnOk P w K mg base CX0 297 f fd ["_law_script"] (spLawF K) := by
  have B := D.Z.B
  have cell := D.law_cell.cal (base := base) (P := P) (w := w) fun f fd F => ok_law_cell F B
  have mixed := D.law_mixed.cal (base := base) (P := P) (w := w) fun f fd F => ok_law_mixed F B
  have tape := D.law_tape.cal (base := base) (P := P) (w := w) fun f fd F => ok_law_tape F B mixed
  have take := D.law_take.cal (base := base) (P := P) (w := w) fun f fd F => ok_law_take F B
  have number := D.law_number.cal (base := base) (P := P) (w := w) fun f fd F => ok_law_number F B take
  have word := D.law_word.cal (base := base) (P := P) (w := w) fun f fd F => ok_law_word F B take
  have words := D.law_words.cal (base := base) (P := P) (w := w) fun f fd F => ok_law_words F B word
  have pick := D.law_pick.cal (base := base) (P := P) (w := w) fun f fd F => ok_law_pick F B take
  have kept' := D.law_kept.cal (base := base) (P := P) (w := w) (mg := mg) fun f fd F => ok_law_kept F
  have chart' := D.law_chart.cal (base := base) (P := P) (w := w) (mg := mg) fun f fd F => ok_law_chart F
  have kind := D.law_kind.cal (base := base) (P := P) (w := w) fun f fd F => ok_law_kind F B kept'
  have next' := D.law_next.cal (base := base) (P := P) (w := w) (mg := mg) fun f fd F => ok_law_next F
  have bad := D.law_first_bad.cal (base := base) (P := P) (w := w) fun f fd F => ok_law_first_bad F B chart' kind next'
  have token := D.law_token.cal (base := base) (P := P) (w := w) fun f fd F => ok_law_token F B take number pick
  have sentence := D.law_sentence.cal (base := base) (P := P) (w := w) fun f fd F => ok_law_sentence F B chart' pick token
  have odd := D.law_odd.cal (base := base) (P := P) (w := w) fun f fd F => ok_law_odd F B take number kept' pick
  have changed := D.law_changed.cal (base := base) (P := P) (w := w) fun f fd F => ok_law_changed F B take odd
  have many := D.law_too_many.cal (base := base) (P := P) (w := w) fun f fd F => ok_law_too_many F B
  have spread := D.law_spread.cal (base := base) (P := P) (w := w) fun f fd F => ok_law_spread F B take
  exact ok_law F B tape cell words sentence take changed many spread bad D.lread
end
end GR
set_option Elab.async false
set_option linter.all false
set_option maxRecDepth 100000
set_option maxHeartbeats 4000000
/-! What the head's facts are asked by. -/
namespace GR
open PySem PySem.Spec PyProof.Rows L2
def oexB (K : PySem.W.Frag) (C : Addr) : Bool := (match K.lookup C with
  | some ⟨.type "type", _, .cls cd, sl⟩ => (match cd.mro, sl.toList with
    | .ref C' :: bm, [_, _, _, _, some (.builtin n), _] => C' == C && (n == "ValueError.__new__" && (!cd.hasDel && (cd.hasDict && PySem.HandSPX.refsVE bm)))
    | _, _ => false)
  | _ => false) && (decide (PySem.W.findIn K (.ref C) "__setattr__" = some (some (.builtin "object.__setattr__"))) && (decide (PySem.W.subIn K (.ref C) (.type "BaseException") = some true) && (decide (PySem.W.typeIn K (.ref C) = some (.type "type")) && PySem.W.keepIn K (.ref C))))
theorem oexB_ok {K : PySem.W.Frag} {C : Addr} (h : oexB K C = true) : OexC K C := by
  obtain ⟨q, h⟩ := He.ba h
  obtain ⟨h1, h⟩ := He.ba h
  obtain ⟨h2, h⟩ := He.ba h
  obtain ⟨h3, h4⟩ := He.ba h
  refine ⟨?_, of_decide_eq_true h1, of_decide_eq_true h2, of_decide_eq_true h3, h4⟩
  split at q
  · rename_i dd cd sl ho
    split at q
    · rename_i C' bm k0 k1 k2 k3 n k5 hm hs
      simp only [Bool.and_eq_true, beq_iff_eq, Bool.not_eq_true'] at q
      obtain ⟨rfl, rfl, hdel, hd, hb⟩ := q
      obtain ⟨nm, bs, mro, ns, qn, hdc, sn, sub, ab, col, del⟩ := cd
      dsimp only at hm hdel hd
      subst hm hdel hd
      have hsl : sl = #[k0, k1, k2, k3, some (.builtin "ValueError.__new__"), k5] := by
        obtain ⟨l⟩ := sl
        simp only at hs
        rw [hs]
      subst hsl
      exact ⟨nm, qn, ns, bs, bm, sn, sub, ab, col, dd, k0, k1, k2, k3, k5, ho, hb⟩
    · cases q
  · cases q
/-! ### __init__ of an own exception, with super() -/
abbrev InW : Type := Option (Str × Arguments × FuncBody × Scope × Addr × List Str × Addr)
def initW (K : PySem.W.Frag) (f : Addr) : InW := match K.lookup f with
  | some ⟨_, _, .func fd, _⟩ => some (fd.qualname, fd.params, fd.body, fd.scope, fd.globals, fd.closure.map (·.1), fd.builtins)
  | _ => none
def initB (file : Str) (K : PySem.W.Frag) (C f : Addr) : Bool := match K.lookup f with
  | some ⟨_, _, .func fd, _⟩ => (match fd.code, fd.closure, fd.defaults with
    | .ref cda, [(_, cc)], .none => PySem.W.codeIn K (.ref cda) fd.qualname && ((match K.lookup cda with
        | some ⟨_, _, .fields vs, _⟩ => (match vs[2]? with
          | some (Value.str g _) => file == g
          | _ => false)
        | _ => false) && (match K.lookup cc with
        | some ⟨_, _, .cell (some (.ref C')), _⟩ => C' == C
        | _ => false))
    | _, _, _ => false)
  | _ => false
def supB (K : PySem.W.Frag) (C f : Addr) : Bool := oexB K C && (PySem.W.hasDictIn K C && (decide (PySem.W.findIn K (.ref C) "__init__" = some (some (.ref f))) && (decide (PySem.W.typeIn K (.ref f) = some (.type "function")) &&
  (decide (PySem.W.mroIn K C (.ref C) = some true) && (decide (PySem.W.ks_superIn K C C "__init__" = some (some (.builtin "ValueError.__init__"))) && (decide (PySem.W.subIn K (.ref C) (.type "ValueError") = some true) &&
  (decide (PySem.W.nsIn K cStatics "thirdparty.any" = some none) && decide (PySem.W.nsIn K mainGlobals "super" = some none))))))))
theorem sup_ok {P : Program} {K : PySem.W.Frag} {mg : Str → Option Value} {C f : Addr} {qual : Str} {scope : Scope} {params : Arguments} {body : List Stmt}
    (e : initW K f = (some (qual, params, FuncBody.stmts body, scope, mainGlobals, ["__class__"], builtinsNs) : InW)) (c : initB P.main.file K C f = true) (c2 : supB K C f = true) (ht : (P.main.scope.names.lookup ("super" : Str)).isSome = false) :
    ∃ cda cc, PySem.SupX.Sup P K mg C f cda cc qual scope params body := by
  obtain ⟨h1, c2⟩ := He.ba c2
  obtain ⟨h2, c2⟩ := He.ba c2
  obtain ⟨h3, c2⟩ := He.ba c2
  obtain ⟨h4, c2⟩ := He.ba c2
  obtain ⟨h5, c2⟩ := He.ba c2
  obtain ⟨h6, c2⟩ := He.ba c2
  obtain ⟨h7, c2⟩ := He.ba c2
  obtain ⟨h8, h9⟩ := He.ba c2
  unfold initB at c
  unfold initW at e
  split at c
  · rename_i oc od fd osl lk
    rw [lk] at e
    obtain ⟨n1, n2, n3, n4, n5, n6, n7, n8, n9, n10, n11, n12, n13, n14, n15⟩ := fd
    dsimp only at c e
    split at c
    · rename_i cda x cc
      simp only [Option.some.injEq, Prod.mk.injEq, List.map_cons, List.map_nil, List.cons.injEq, and_true] at e
      obtain ⟨rfl, rfl, rfl, rfl, rfl, rfl, rfl⟩ := e
      obtain ⟨k1, c⟩ := He.ba c
      obtain ⟨k2, k3⟩ := He.ba c
      refine ⟨cda, cc, oexB_ok h1, h2, of_decide_eq_true h3, of_decide_eq_true h4, ⟨oc, od, osl, n1, .none, n9, n10, n11, n12, n14, rfl, lk⟩, k1, ?_, ?_, of_decide_eq_true h5, of_decide_eq_true h6, of_decide_eq_true h7, of_decide_eq_true h8, of_decide_eq_true h9, ht⟩
      · split at k2
        · rename_i a1 a2 vs a4 lk2
          split at k2
          · rename_i g tg hv
            exact ⟨a1, a2, vs, a4, g, tg, lk2, hv, k2⟩
          · cases k2
        · cases k2
      · split at k3
        · rename_i a1 a2 C' a4 lk2
          have : C' = C := eq_of_beq k3
          subst this
          exact ⟨a1, a2, a4, lk2⟩
        · cases k3
    · cases c
  · cases c
end GR
set_option Elab.async false
set_option linter.all false
set_option maxRecDepth 100000
set_option maxHeartbeats 4000000
/-! The head: the defs and facts that the top leaves, the hook, the run. Printed by head.py. -/
namespace GR
open PySem PySem.Spec PyProof.Rows L2
abbrev RO : PySem.W.OpenRow := PySem.W.OpenLaw.row PySem.Challenge.rw_growingrecords_k13_whole_bad_texts
/-! ### defs -/
def dF (i : Nat) (x : Str) : He5.DefA := ⟨fun K => He.ga K x, x, x, defArgs (top i), defBody (top i), defScope (top i), [], []⟩
def dM (i j : Nat) (c m q : Str) : He5.DefA := ⟨fun K => He.ma K (He.ga K c) m, m, q, defArgs (mth i j), defBody (mth i j), defScope (mth i j), [], []⟩
def dS (i j : Nat) (c m q : Str) : He5.DefA := ⟨fun K => He5.wf K (He.ga K c) "staticmethod" m, m, q, defArgs (mth i j), defBody (mth i j), defScope (mth i j), [], []⟩
def fnL0 : List He5.DefA := [dF 12 "check_names", dF 13 "check_expr", dF 14 "inner_exprs", dF 15 "mentioned_names", dF 16 "gather_names", dF 17 "step_names", dF 18 "check_weights", dF 19 "plain_row", dF 20 "sum_of", dF 21 "times", dF 22 "weigh", dF 23 "weigh_part", dF 30 "tokens", dF 31 "token_end", dF 32 "is_plain_name", dF 33 "is_number"]
def fnL1 : List He5.DefA := [dM 37 0 "Cursor" "__init__" "Cursor.__init__", dM 37 1 "Cursor" "next_at" "Cursor.next_at", dM 37 2 "Cursor" "next_word" "Cursor.next_word", dM 37 3 "Cursor" "take" "Cursor.take", dM 37 4 "Cursor" "take_word" "Cursor.take_word", dM 37 5 "Cursor" "take_name" "Cursor.take_name", dF 38 "read_definitions", dF 39 "read_definition", dF 40 "read_expr", dF 41 "read_test", dF 42 "read_chain", dF 43 "read_part", dF 44 "read_change", dF 45 "read_base", dF 46 "read_arguments", dF 47 "read_fields"]
def fnL2 : List He5.DefA := [dF 48 "read_field", dM 50 2 "Program" "__init__" "Program.__init__", dS 50 3 "Program" "read" "Program.read", dF 52 "_law_cell", dF 53 "_law_mixed", dF 54 "_law_tape", dF 55 "_law_take", dF 56 "_law_number", dF 57 "_law_word", dF 58 "_law_words", dF 59 "_law_pick", dF 60 "_law_spread", dF 61 "_law_read", dF 62 "_law_chart", dF 63 "_law_kept", dF 64 "_law_kind"]
def fnL3 : List He5.DefA := [dF 65 "_law_next", dF 66 "_law_first_bad", dF 67 "_law_token", dF 68 "_law_sentence", dF 69 "_law_odd", dF 70 "_law_changed", dF 71 "_law_too_many", dF 72 "law"]
def fnL : List He5.DefA := fnL0 ++ (fnL1 ++ (fnL2 ++ (fnL3)))
def faL0 : List He.Fa := [.glo "check_names", .glo "check_expr", .glo "inner_exprs", .glo "mentioned_names", .glo "gather_names", .glo "step_names", .glo "check_weights", .glo "plain_row", .glo "sum_of", .glo "times", .glo "weigh", .glo "weigh_part", .glo "tokens", .glo "token_end", .glo "is_plain_name", .glo "is_number"]
def faL1 : List He.Fa := [.glo "read_definitions", .glo "read_definition", .glo "read_expr", .glo "read_test", .glo "read_chain", .glo "read_part", .glo "read_change", .glo "read_base", .glo "read_arguments", .glo "read_fields", .glo "read_field", .glo "_law_cell", .glo "_law_mixed", .glo "_law_tape", .glo "_law_take", .glo "_law_number"]
def faL2 : List He.Fa := [.glo "_law_word", .glo "_law_words", .glo "_law_pick", .glo "_law_spread", .glo "_law_read", .glo "_law_chart", .glo "_law_kept", .glo "_law_kind", .glo "_law_next", .glo "_law_first_bad", .glo "_law_token", .glo "_law_sentence", .glo "_law_odd", .glo "_law_changed", .glo "_law_too_many", .glo "law"]
def faL3 : List He.Fa := [.glo "Cursor", .glo "Program", .glo "RecordsError", .glo "RESERVED", .glo "SIGNS", .glo "BadText", .glo "TooDeep", .glo "DoubleName", .glo "UnknownName", .glo "WrongCount", .glo "TooLarge", .free "len", .free "range", .free "int", .free "str", .free "tuple"]
def faL4 : List He.Fa := [.free "list", .free "dict", .free "min", .free "sum", .free "sorted", .free "enumerate", .free "zip", .free "isinstance", .int "HEAVIEST" 80, .int "DEEPEST" 100, .int "LONGEST_NAME" 8, .int "LONGEST_NUMBER" 30, .str "LETTERS" lettersS, .str "DIGITS" digitsS, .cls "Cursor", .cls "Program"]
def faL5 : List He.Fa := [.noat "Cursor" "row", .noat "Cursor" "place", .noat "Program" "definitions", .noat "Program" "names", .noat "Program" "mentioned", .noat "Program" "table", .meth "Cursor" "next_at", .meth "Cursor" "next_word", .meth "Cursor" "take", .meth "Cursor" "take_word", .meth "Cursor" "take_name", .mkr "Cursor", .mkr "Program", .exm "BadText" "BadText" true, .exm "DoubleName" "BadText" false, .exm "DoubleName" "TooDeep" false]
def faL6 : List He.Fa := [.exm "DoubleName" "DoubleName" true, .exm "UnknownName" "BadText" false, .exm "UnknownName" "TooDeep" false, .exm "UnknownName" "DoubleName" false, .exm "UnknownName" "UnknownName" true, .exm "WrongCount" "BadText" false, .exm "WrongCount" "TooDeep" false, .exm "WrongCount" "DoubleName" false, .exm "WrongCount" "UnknownName" false, .exm "WrongCount" "WrongCount" true, .exm "TooLarge" "BadText" false, .exm "TooLarge" "TooDeep" false, .exm "TooLarge" "DoubleName" false, .exm "TooLarge" "UnknownName" false, .exm "TooLarge" "WrongCount" false, .exm "TooLarge" "TooLarge" true]
def faL7 : List He.Fa := [.noat "BadText" "at", .noat "TooDeep" "at", .noat "DoubleName" "at", .noat "UnknownName" "at", .noat "WrongCount" "at", .noat "DoubleName" "name", .noat "UnknownName" "name", .noat "WrongCount" "name", .noat "TooLarge" "name"]
def faL : List He.Fa := faL0 ++ (faL1 ++ (faL2 ++ (faL3 ++ (faL4 ++ (faL5 ++ (faL6 ++ (faL7)))))))
/-! ### own looks -/
def excB (K : PySem.W.Frag) (D : Addr) : Bool := He.eqO (PySem.W.findIn K (.ref D) "__getattribute__") (some (some (.builtin "BaseException.__getattribute__"))) && (He.eqO (PySem.W.findIn K (.ref D) "__getattr__") (some none) &&
  (decide (PySem.W.subIn K (.ref D) (.type "BaseException") = some true) && (PySem.W.hasDictIn K D && (He.eqO (PySem.W.findIn K (.ref D) "__class__") (some (some (.builtin "object.__class__"))) &&
  (He.eqO (PySem.W.specialIn K (.builtin "object.__class__") "__get__") (some (some (.builtin "getset_descriptor.__get__"))) && (decide (PySem.W.takesIn K (.builtin "object.__class__") = some true) && decide (PySem.W.mroIn K D (.type "object") = some true)))))))
theorem excB_ok {K : PySem.W.Frag} {D : Addr} (h : excB K D = true) : ExcC K D := by
  obtain ⟨h1, h⟩ := He.ba h
  obtain ⟨h2, h⟩ := He.ba h
  obtain ⟨h3, h⟩ := He.ba h
  obtain ⟨h4, h⟩ := He.ba h
  obtain ⟨h5, h⟩ := He.ba h
  obtain ⟨h6, h⟩ := He.ba h
  obtain ⟨h7, h8⟩ := He.ba h
  exact ⟨He.eqO_ok h1, He.eqO_ok h2, of_decide_eq_true h3, h4, He.eqO_ok h5, He.eqO_ok h6, of_decide_eq_true h7, of_decide_eq_true h8⟩
def cSup (x : Str) (K : PySem.W.Frag) : Bool := supB K (He.ga K x) (He.ma K (He.ga K x) "__init__")
def cIni (x : Str) (K : PySem.W.Frag) : Bool := initB RO.prog.main.file K (He.ga K x) (He.ma K (He.ga K x) "__init__")
def cXf (x : Str) (K : PySem.W.Frag) : Bool := xfB K (He.ga K x)
def cExc (x : Str) (K : PySem.W.Frag) : Bool := excB K (He.ga K x)
def cKit (x y : Str) (b : Bool) (K : PySem.W.Frag) : Bool := decide (PySem.W.kitOne K (.ref (He.ga K x)) (.ref (He.ga K y)) = some b)
def cRd (x : Str) (K : PySem.W.Frag) : Bool := PySem.W.readsIn K (He.ga K x) (.type "type") && He.eqO (PySem.W.specialIn K (.ref (He.ga K x)) "__getattribute__") (some (some (.builtin "type.__getattribute__")))
def cSm (x m : Str) (K : PySem.W.Frag) : Bool := He5.wrapB K (He.ga K x) "staticmethod" "staticmethod.__get__" m && PySem.W.keepIn K (.ref (He5.wf K (He.ga K x) "staticmethod" m))
def cTup (x : Str) (zs : List Str) (K : PySem.W.Frag) : Bool := He.tupB K x (zs.map He.Dv.str)
theorem kit_look {x y : Str} {b : Bool} {K : PySem.W.Frag} (h : cKit x y b K = true) : PySem.W.kitOne K (.ref (He.ga K x)) (.ref (He.ga K y)) = some b := of_decide_eq_true h
theorem rd_look {x : Str} {K : PySem.W.Frag} (h : cRd x K = true) : ClX.CRead K (He.ga K x) (.type "type") := let ⟨a, b⟩ := He.ba h; ⟨a, He.eqO_ok b⟩
theorem sm_look {x m : Str} {K : PySem.W.Frag} (h : cSm x m K = true) : SMet K (He.ga K x) (.type "type") m (He.ma K (He.ga K x) m) (He5.wf K (He.ga K x) "staticmethod" m) := by
  obtain ⟨a, b⟩ := He.ba h
  obtain ⟨a1, a2⟩ := He5.wrapB_ok a
  exact ⟨a1, a2, b⟩
theorem tup_look {x : Str} {zs : List Str} {K : PySem.W.Frag} (h : cTup x zs K = true) (H : Hp) : SqT K H (He.ga K x) (zs.map V.str) := by
  have q := He.tupB_ok (K := K) (x := x) (vs := zs.map He.Dv.str) h H
  rw [List.map_map] at q
  exact q
def ckL0 : List (PySem.W.Frag → Bool) := [cSup "BadText", cIni "BadText", cSup "DoubleName", cIni "DoubleName", cSup "UnknownName", cIni "UnknownName", cSup "WrongCount", cIni "WrongCount", cSup "TooLarge", cIni "TooLarge", cXf "BadText", cExc "BadText", cXf "TooDeep", cExc "TooDeep", cXf "DoubleName", cExc "DoubleName"]
def ckL1 : List (PySem.W.Frag → Bool) := [cXf "UnknownName", cExc "UnknownName", cXf "WrongCount", cExc "WrongCount", cXf "TooLarge", cExc "TooLarge", cKit "BadText" "RecordsError" true, cKit "BadText" "TooDeep" false, cKit "DoubleName" "RecordsError" true, cKit "UnknownName" "RecordsError" true, cKit "WrongCount" "RecordsError" true, cKit "TooLarge" "RecordsError" true, cRd "Program", cSm "Program" "read", cTup "RESERVED" kept, cTup "SIGNS" signs]
def ckL : List (PySem.W.Frag → Bool) := ckL0 ++ (ckL1)
/-! ### __init__ of the own exceptions -/
structure InD where
  cls : Str
  at_ : Nat
def InD.val (d : InD) : InW := some (d.cls ++ ".__init__", defArgs (mth d.at_ 0), FuncBody.stmts (defBody (mth d.at_ 0)), defScope (mth d.at_ 0), mainGlobals, ["__class__"], builtinsNs)
def inL : List InD := [⟨"BadText", 3⟩, ⟨"DoubleName", 5⟩, ⟨"UnknownName", 6⟩, ⟨"WrongCount", 7⟩, ⟨"TooLarge", 8⟩]
/-! ### the hook -/
abbrev AlX : Type := He.AlD × (Bool × List InW)
def obsX (fa : List He.Fa) (fn : List He5.DefA) (ck : List (PySem.W.Frag → Bool)) (ini : List InD) (K : PySem.W.Frag) : AlX := (He5.obsA fa fn K, (ck.all fun c => c K, ini.map fun d => initW K (He.ma K (He.ga K d.cls) "__init__")))
def valX (fn : List He5.DefA) (ini : List InD) : AlX := (He5.valA fn, (true, ini.map InD.val))
def SaysX (K : PySem.W.Frag) : Prop := obsX faL fnL ckL inL K = valX fnL inL
/-- what the names reach in n steps, by frontiers: growing a list without doubles costs the kernel three times the top's run -/
def nextF (g : Addr → Option Obj) (fr : List Addr) : List Addr := fr.flatMap fun a => match g a with
  | some o => He.refsD o
  | none => []
def asF (g : Addr → Option Obj) : Nat → List Addr → List Addr
  | 0, fr => fr
  | n + 1, fr => fr ++ asF g n (nextF g fr)
def obsXG (n : Nat) (g : Addr → Option Obj) : AlX := obsX faL fnL ckL inL (He.frG g (cStatics :: asF g n [mainGlobals]))
def hkX (n : Nat) : PySem.W.Hook where
  α := AlX
  obs := fun s => obsXG n s.heap.get?
  val := fun _ => valX fnL inL
  says := fun _ h => ∃ K : PySem.W.Frag, K.In h ∧ SaysX K
  of := fun _ _ e => ⟨_, He.frG_in, e⟩
  keeps := fun _ _ _ ⟨K, hK, c⟩ k => ⟨K, PySem.W.Frag.In.keeps hK k, c⟩
def obX (s : PySem.W.SharedT) : AlX := obsXG 5 (HandSHeadRun.getT s)
theorem obX_eq (s : PySem.W.SharedT) : obX s = (hkX 5).obs s.abs := by
  have e : HandSHeadRun.getT s = s.abs.heap.get? := funext (HandSHeadRun.getT_eq s)
  show obsXG 5 (HandSHeadRun.getT s) = obsXG 5 s.abs.heap.get?
  rw [e]
section
variable {K : PySem.W.Frag}
theorem SaysX.saysA (c : SaysX K) : He5.SaysA faL fnL K := congrArg (fun z : AlX => z.1) c
theorem SaysX.fact (c : SaysX K) (i : Nat) {f : He.Fa} (h : faL[i]? = some f := by rfl) : f.ok K = true := He5.SaysA.fact c.saysA i h
theorem SaysX.def_ (c : SaysX K) (i : Nat) {d : He5.DefA} (h : fnL[i]? = some d := by rfl) : ∃ fd, L2.FunD K d.name d.qual d.params d.body d.scope (d.dvs K) (d.kws K) (d.at_ K) fd := He5.SaysA.def_ c.saysA i h
theorem SaysX.look (c : SaysX K) (i : Nat) {f : PySem.W.Frag → Bool} (h : ckL[i]? = some f := by rfl) : f K = true := by
  have c1 : (ckL.all fun c => c K) = true := congrArg (fun z : AlX => z.2.1) c
  exact List.all_eq_true.mp c1 f (List.mem_of_getElem? h)
theorem SaysX.ini (c : SaysX K) (i : Nat) {d : InD} (h : inL[i]? = some d := by rfl) : initW K (He.ma K (He.ga K d.cls) "__init__") = d.val := by
  have e : (inL.map fun d => initW K (He.ma K (He.ga K d.cls) "__init__")) = inL.map InD.val := congrArg (fun z : AlX => z.2.2) c
  have e2 : (inL.map fun d => initW K (He.ma K (He.ga K d.cls) "__init__"))[i]? = (inL.map InD.val)[i]? := by rw [e]
  rw [List.getElem?_map, List.getElem?_map, h] at e2
  exact Option.some.inj e2
end
def looseL0 : List PySem.Str := ["_wall", "RecordsError", "BadText", "TooDeep", "DoubleName", "UnknownName", "WrongCount", "TooLarge", "UnknownFunction", "HEAVIEST", "check_names", "check_expr", "inner_exprs", "mentioned_names", "gather_names", "step_names"]
def looseL1 : List PySem.Str := ["check_weights", "plain_row", "sum_of", "times", "weigh", "weigh_part", "LETTERS", "DIGITS", "RESERVED", "LONGEST_NAME", "LONGEST_NUMBER", "tokens", "token_end", "is_plain_name", "is_number", "DEEPEST"]
def looseL2 : List PySem.Str := ["SIGNS", "Cursor", "read_definitions", "read_definition", "read_expr", "read_test", "read_chain", "read_part", "read_change", "read_base", "read_arguments", "read_fields", "read_field", "Program", "_law_cell", "_law_mixed"]
def looseL3 : List PySem.Str := ["_law_tape", "_law_take", "_law_number", "_law_word", "_law_words", "_law_pick", "_law_spread", "_law_read", "_law_chart", "_law_kept", "_law_kind", "_law_next", "_law_first_bad", "_law_token", "_law_sentence", "_law_odd"]
def looseL4 : List PySem.Str := ["_law_changed", "_law_too_many"]
def looseL : List PySem.Str := looseL0 ++ (looseL1 ++ (looseL2 ++ (looseL3 ++ (looseL4))))
/-- two looks at one end -/
theorem map3 {T A B C : Type} {o : Option T} {x : T → A} {y : T → B} {z : T → C} {a : A} {b : B} {c : C} (h1 : o.map (fun s => (x s, y s)) = some (a, b)) (h2 : o.map z = some c) : o.map (fun s => (x s, y s, z s)) = some (a, b, c) := by
  cases o with
  | none => cases h1
  | some s =>
    have e1 : (x s, y s) = (a, b) := Option.some.inj h1
    have e2 : z s = c := Option.some.inj h2
    show some (x s, y s, z s) = _
    rw [← e2, ← (Prod.mk.inj e1).1, ← (Prod.mk.inj e1).2]
end GR
namespace GR
open PySem PySem.W PySem.Calls PyProof.Rows
set_option maxHeartbeats 0
noncomputable abbrev topEnd (w : World) (os : OsState) : Option SharedT := HandSHeadRun.endF (HandSHeadRun.stepQ (HandSHeadRun.denQ HandSHeadRun.tabQ) RO.prog w) 6000 RO.prog w os
theorem run_seen (w : World) (os : OsState) : (topEnd w os).map (fun s => (HandSHeadRun.looksF RO.prog (boot_heap w.params) s.abs, HandSHeadRun.seenQ (view RO.prog [72]) looseL (importedModules RO.prog.main.body) (fun s => xlAt (view RO.prog [72]) [] s && recOk RO.toRowW.records s) s.abs)) = some (true, openGood (view RO.prog [72]) looseL) := by
  kernel_rfl
theorem run_facts (w : World) (os : OsState) : (topEnd w os).map obX = some (valX fnL inL) := by
  kernel_rfl
theorem top_run (w : World) : HandSHeadRun.RunEq RO (view RO.prog [72]) (hkX 5) obX 6000 looseL w := fun os => map3 (run_seen w os) (run_facts w os)
end GR
set_option Elab.async false
set_option linter.all false
set_option maxRecDepth 100000
set_option maxHeartbeats 4000000
/-! HF from the head's facts, and the law. Printed by head.py. -/
namespace GR
open PySem PySem.Spec PyProof.Rows L2
section
variable {w : World} {K : PySem.W.Frag} {h : Heap} {mg : Str → Option Value} (X : K.In h) (G : h.Ns mainGlobals mg) (c : SaysX K)
theorem gl_int {mg : Str → Option Value} {x : Str} {i : Int} (h : ∃ t, mg x = some (.int i t)) : Glb mg x (.int i) := let ⟨t, e⟩ := h; ⟨_, e, t, rfl⟩
theorem gl_str {mg : Str → Option Value} {x z : Str} (h : ∃ t, mg x = some (.str z t)) : Glb mg x (.str z) := let ⟨t, e⟩ := h; ⟨_, e, t, rfl⟩
theorem gl_ref {mg : Str → Option Value} {x : Str} {a : Addr} (h : mg x = some (.ref a)) : Glb mg x (.ref a) := ⟨_, h, rfl⟩
include X G c
theorem df_check_names : Df K mg "check_names" (top 12) ["definitions"] := by
  obtain ⟨fd, F⟩ := c.def_ 0 (d := dF 12 "check_names") rfl
  exact ⟨_, fd, He5.fun_of F, (He.glo_ok X G (c.fact 0 (f := .glo "check_names") rfl)), F.bindsN fun _ _ _ _ _ _ us hl => match us, hl with | [_], _ => rfl⟩
theorem df_check_expr : Df K mg "check_expr" (top 13) ["expr", "known", "counts"] := by
  obtain ⟨fd, F⟩ := c.def_ 1 (d := dF 13 "check_expr") rfl
  exact ⟨_, fd, He5.fun_of F, (He.glo_ok X G (c.fact 1 (f := .glo "check_expr") rfl)), F.bindsN fun _ _ _ _ _ _ us hl => match us, hl with | [_, _, _], _ => rfl⟩
theorem df_inner_exprs : Df K mg "inner_exprs" (top 14) ["expr"] := by
  obtain ⟨fd, F⟩ := c.def_ 2 (d := dF 14 "inner_exprs") rfl
  exact ⟨_, fd, He5.fun_of F, (He.glo_ok X G (c.fact 2 (f := .glo "inner_exprs") rfl)), F.bindsN fun _ _ _ _ _ _ us hl => match us, hl with | [_], _ => rfl⟩
theorem df_mentioned_names : Df K mg "mentioned_names" (top 15) ["definitions"] := by
  obtain ⟨fd, F⟩ := c.def_ 3 (d := dF 15 "mentioned_names") rfl
  exact ⟨_, fd, He5.fun_of F, (He.glo_ok X G (c.fact 3 (f := .glo "mentioned_names") rfl)), F.bindsN fun _ _ _ _ _ _ us hl => match us, hl with | [_], _ => rfl⟩
theorem df_gather_names : Df K mg "gather_names" (top 16) ["expr", "found"] := by
  obtain ⟨fd, F⟩ := c.def_ 4 (d := dF 16 "gather_names") rfl
  exact ⟨_, fd, He5.fun_of F, (He.glo_ok X G (c.fact 4 (f := .glo "gather_names") rfl)), F.bindsN fun _ _ _ _ _ _ us hl => match us, hl with | [_, _], _ => rfl⟩
theorem df_step_names : Df K mg "step_names" (top 17) ["step"] := by
  obtain ⟨fd, F⟩ := c.def_ 5 (d := dF 17 "step_names") rfl
  exact ⟨_, fd, He5.fun_of F, (He.glo_ok X G (c.fact 5 (f := .glo "step_names") rfl)), F.bindsN fun _ _ _ _ _ _ us hl => match us, hl with | [_], _ => rfl⟩
theorem df_check_weights : Df K mg "check_weights" (top 18) ["definitions"] := by
  obtain ⟨fd, F⟩ := c.def_ 6 (d := dF 18 "check_weights") rfl
  exact ⟨_, fd, He5.fun_of F, (He.glo_ok X G (c.fact 6 (f := .glo "check_weights") rfl)), F.bindsN fun _ _ _ _ _ _ us hl => match us, hl with | [_], _ => rfl⟩
theorem df_plain_row : Df K mg "plain_row" (top 19) ["weight", "count"] := by
  obtain ⟨fd, F⟩ := c.def_ 7 (d := dF 19 "plain_row") rfl
  exact ⟨_, fd, He5.fun_of F, (He.glo_ok X G (c.fact 7 (f := .glo "plain_row") rfl)), F.bindsN fun _ _ _ _ _ _ us hl => match us, hl with | [_, _], _ => rfl⟩
theorem df_sum_of : Df K mg "sum_of" (top 20) ["rows"] := by
  obtain ⟨fd, F⟩ := c.def_ 8 (d := dF 20 "sum_of") rfl
  exact ⟨_, fd, He5.fun_of F, (He.glo_ok X G (c.fact 8 (f := .glo "sum_of") rfl)), F.bindsN fun _ _ _ _ _ _ us hl => match us, hl with | [_], _ => rfl⟩
theorem df_times : Df K mg "times" (top 21) ["row", "factor"] := by
  obtain ⟨fd, F⟩ := c.def_ 9 (d := dF 21 "times") rfl
  exact ⟨_, fd, He5.fun_of F, (He.glo_ok X G (c.fact 9 (f := .glo "times") rfl)), F.bindsN fun _ _ _ _ _ _ us hl => match us, hl with | [_, _], _ => rfl⟩
theorem df_weigh : Df K mg "weigh" (top 22) ["expr", "scope", "bodies", "count"] := by
  obtain ⟨fd, F⟩ := c.def_ 10 (d := dF 22 "weigh") rfl
  exact ⟨_, fd, He5.fun_of F, (He.glo_ok X G (c.fact 10 (f := .glo "weigh") rfl)), F.bindsN fun _ _ _ _ _ _ us hl => match us, hl with | [_, _, _, _], _ => rfl⟩
theorem df_weigh_part : Df K mg "weigh_part" (top 23) ["expr", "scope", "bodies", "count"] := by
  obtain ⟨fd, F⟩ := c.def_ 11 (d := dF 23 "weigh_part") rfl
  exact ⟨_, fd, He5.fun_of F, (He.glo_ok X G (c.fact 11 (f := .glo "weigh_part") rfl)), F.bindsN fun _ _ _ _ _ _ us hl => match us, hl with | [_, _, _, _], _ => rfl⟩
theorem df_tokens : Df K mg "tokens" (top 30) ["text"] := by
  obtain ⟨fd, F⟩ := c.def_ 12 (d := dF 30 "tokens") rfl
  exact ⟨_, fd, He5.fun_of F, (He.glo_ok X G (c.fact 12 (f := .glo "tokens") rfl)), F.bindsN fun _ _ _ _ _ _ us hl => match us, hl with | [_], _ => rfl⟩
theorem df_token_end : Df K mg "token_end" (top 31) ["text", "at"] := by
  obtain ⟨fd, F⟩ := c.def_ 13 (d := dF 31 "token_end") rfl
  exact ⟨_, fd, He5.fun_of F, (He.glo_ok X G (c.fact 13 (f := .glo "token_end") rfl)), F.bindsN fun _ _ _ _ _ _ us hl => match us, hl with | [_, _], _ => rfl⟩
theorem df_is_plain_name : Df K mg "is_plain_name" (top 32) ["word"] := by
  obtain ⟨fd, F⟩ := c.def_ 14 (d := dF 32 "is_plain_name") rfl
  exact ⟨_, fd, He5.fun_of F, (He.glo_ok X G (c.fact 14 (f := .glo "is_plain_name") rfl)), F.bindsN fun _ _ _ _ _ _ us hl => match us, hl with | [_], _ => rfl⟩
theorem df_is_number : Df K mg "is_number" (top 33) ["word"] := by
  obtain ⟨fd, F⟩ := c.def_ 15 (d := dF 33 "is_number") rfl
  exact ⟨_, fd, He5.fun_of F, (He.glo_ok X G (c.fact 15 (f := .glo "is_number") rfl)), F.bindsN fun _ _ _ _ _ _ us hl => match us, hl with | [_], _ => rfl⟩
theorem di_Cursor : ∃ fI fdI, Mk K (He.ga K "Cursor") fI ∧ Fun K "__init__" "Cursor.__init__" (mth 37 0) fI fdI ∧ Binds K fdI ["self", "text"] [] := by
  obtain ⟨fd, F⟩ := c.def_ 16 (d := dM 37 0 "Cursor" "__init__" "Cursor.__init__") rfl
  exact ⟨_, fd, He.mkr_ok (c.fact 91 (f := .mkr "Cursor") rfl), He5.fun_of F, F.bindsN fun _ _ _ _ _ _ us hl => match us, hl with | [_, _], _ => rfl⟩
theorem dm_next_at : Dm K (He.ga K "Cursor") "next_at" "Cursor.next_at" (mth 37 1) ["self"] := by
  obtain ⟨fd, F⟩ := c.def_ 17 (d := dM 37 1 "Cursor" "next_at" "Cursor.next_at") rfl
  exact ⟨_, fd, He.meth_ok (c.fact 86 (f := .meth "Cursor" "next_at") rfl), He5.fun_of F, F.bindsN fun _ _ _ _ _ _ us hl => match us, hl with | [_], _ => rfl⟩
theorem dm_next_word : Dm K (He.ga K "Cursor") "next_word" "Cursor.next_word" (mth 37 2) ["self"] := by
  obtain ⟨fd, F⟩ := c.def_ 18 (d := dM 37 2 "Cursor" "next_word" "Cursor.next_word") rfl
  exact ⟨_, fd, He.meth_ok (c.fact 87 (f := .meth "Cursor" "next_word") rfl), He5.fun_of F, F.bindsN fun _ _ _ _ _ _ us hl => match us, hl with | [_], _ => rfl⟩
theorem dm_take : Dm K (He.ga K "Cursor") "take" "Cursor.take" (mth 37 3) ["self"] := by
  obtain ⟨fd, F⟩ := c.def_ 19 (d := dM 37 3 "Cursor" "take" "Cursor.take") rfl
  exact ⟨_, fd, He.meth_ok (c.fact 88 (f := .meth "Cursor" "take") rfl), He5.fun_of F, F.bindsN fun _ _ _ _ _ _ us hl => match us, hl with | [_], _ => rfl⟩
theorem dm_take_word : Dm K (He.ga K "Cursor") "take_word" "Cursor.take_word" (mth 37 4) ["self", "word"] := by
  obtain ⟨fd, F⟩ := c.def_ 20 (d := dM 37 4 "Cursor" "take_word" "Cursor.take_word") rfl
  exact ⟨_, fd, He.meth_ok (c.fact 89 (f := .meth "Cursor" "take_word") rfl), He5.fun_of F, F.bindsN fun _ _ _ _ _ _ us hl => match us, hl with | [_, _], _ => rfl⟩
theorem dm_take_name : Dm K (He.ga K "Cursor") "take_name" "Cursor.take_name" (mth 37 5) ["self"] := by
  obtain ⟨fd, F⟩ := c.def_ 21 (d := dM 37 5 "Cursor" "take_name" "Cursor.take_name") rfl
  exact ⟨_, fd, He.meth_ok (c.fact 90 (f := .meth "Cursor" "take_name") rfl), He5.fun_of F, F.bindsN fun _ _ _ _ _ _ us hl => match us, hl with | [_], _ => rfl⟩
theorem df_read_definitions : Df K mg "read_definitions" (top 38) ["text"] := by
  obtain ⟨fd, F⟩ := c.def_ 22 (d := dF 38 "read_definitions") rfl
  exact ⟨_, fd, He5.fun_of F, (He.glo_ok X G (c.fact 16 (f := .glo "read_definitions") rfl)), F.bindsN fun _ _ _ _ _ _ us hl => match us, hl with | [_], _ => rfl⟩
theorem df_read_definition : Df K mg "read_definition" (top 39) ["cursor"] := by
  obtain ⟨fd, F⟩ := c.def_ 23 (d := dF 39 "read_definition") rfl
  exact ⟨_, fd, He5.fun_of F, (He.glo_ok X G (c.fact 17 (f := .glo "read_definition") rfl)), F.bindsN fun _ _ _ _ _ _ us hl => match us, hl with | [_], _ => rfl⟩
theorem df_read_expr : Df K mg "read_expr" (top 40) ["cursor", "level"] := by
  obtain ⟨fd, F⟩ := c.def_ 24 (d := dF 40 "read_expr") rfl
  exact ⟨_, fd, He5.fun_of F, (He.glo_ok X G (c.fact 18 (f := .glo "read_expr") rfl)), F.bindsN fun _ _ _ _ _ _ us hl => match us, hl with | [_, _], _ => rfl⟩
theorem df_read_test : Df K mg "read_test" (top 41) ["cursor", "level"] := by
  obtain ⟨fd, F⟩ := c.def_ 25 (d := dF 41 "read_test") rfl
  exact ⟨_, fd, He5.fun_of F, (He.glo_ok X G (c.fact 19 (f := .glo "read_test") rfl)), F.bindsN fun _ _ _ _ _ _ us hl => match us, hl with | [_, _], _ => rfl⟩
theorem df_read_chain : Df K mg "read_chain" (top 42) ["cursor", "level"] := by
  obtain ⟨fd, F⟩ := c.def_ 26 (d := dF 42 "read_chain") rfl
  exact ⟨_, fd, He5.fun_of F, (He.glo_ok X G (c.fact 20 (f := .glo "read_chain") rfl)), F.bindsN fun _ _ _ _ _ _ us hl => match us, hl with | [_, _], _ => rfl⟩
theorem df_read_part : Df K mg "read_part" (top 43) ["cursor", "level"] := by
  obtain ⟨fd, F⟩ := c.def_ 27 (d := dF 43 "read_part") rfl
  exact ⟨_, fd, He5.fun_of F, (He.glo_ok X G (c.fact 21 (f := .glo "read_part") rfl)), F.bindsN fun _ _ _ _ _ _ us hl => match us, hl with | [_, _], _ => rfl⟩
theorem df_read_change : Df K mg "read_change" (top 44) ["cursor", "level"] := by
  obtain ⟨fd, F⟩ := c.def_ 28 (d := dF 44 "read_change") rfl
  exact ⟨_, fd, He5.fun_of F, (He.glo_ok X G (c.fact 22 (f := .glo "read_change") rfl)), F.bindsN fun _ _ _ _ _ _ us hl => match us, hl with | [_, _], _ => rfl⟩
theorem df_read_base : Df K mg "read_base" (top 45) ["cursor", "level"] := by
  obtain ⟨fd, F⟩ := c.def_ 29 (d := dF 45 "read_base") rfl
  exact ⟨_, fd, He5.fun_of F, (He.glo_ok X G (c.fact 23 (f := .glo "read_base") rfl)), F.bindsN fun _ _ _ _ _ _ us hl => match us, hl with | [_, _], _ => rfl⟩
theorem df_read_arguments : Df K mg "read_arguments" (top 46) ["cursor", "level"] := by
  obtain ⟨fd, F⟩ := c.def_ 30 (d := dF 46 "read_arguments") rfl
  exact ⟨_, fd, He5.fun_of F, (He.glo_ok X G (c.fact 24 (f := .glo "read_arguments") rfl)), F.bindsN fun _ _ _ _ _ _ us hl => match us, hl with | [_, _], _ => rfl⟩
theorem df_read_fields : Df K mg "read_fields" (top 47) ["cursor", "level"] := by
  obtain ⟨fd, F⟩ := c.def_ 31 (d := dF 47 "read_fields") rfl
  exact ⟨_, fd, He5.fun_of F, (He.glo_ok X G (c.fact 25 (f := .glo "read_fields") rfl)), F.bindsN fun _ _ _ _ _ _ us hl => match us, hl with | [_, _], _ => rfl⟩
theorem df_read_field : Df K mg "read_field" (top 48) ["cursor", "level"] := by
  obtain ⟨fd, F⟩ := c.def_ 32 (d := dF 48 "read_field") rfl
  exact ⟨_, fd, He5.fun_of F, (He.glo_ok X G (c.fact 26 (f := .glo "read_field") rfl)), F.bindsN fun _ _ _ _ _ _ us hl => match us, hl with | [_, _], _ => rfl⟩
theorem di_Program : ∃ fI fdI, Mk K (He.ga K "Program") fI ∧ Fun K "__init__" "Program.__init__" (mth 50 2) fI fdI ∧ Binds K fdI ["self", "definitions"] [] := by
  obtain ⟨fd, F⟩ := c.def_ 33 (d := dM 50 2 "Program" "__init__" "Program.__init__") rfl
  exact ⟨_, fd, He.mkr_ok (c.fact 92 (f := .mkr "Program") rfl), He5.fun_of F, F.bindsN fun _ _ _ _ _ _ us hl => match us, hl with | [_, _], _ => rfl⟩
theorem ds_read : ∃ gd, Fun K "read" "Program.read" (mth 50 3) (He5.wf K (He.ga K "Program") "staticmethod" "read") gd ∧ Binds K gd ["text"] [] := by
  obtain ⟨fd, F⟩ := c.def_ 34 (d := dS 50 3 "Program" "read" "Program.read") rfl
  exact ⟨fd, He5.fun_of F, F.bindsN fun _ _ _ _ _ _ us hl => match us, hl with | [_], _ => rfl⟩
theorem df__law_cell : Df K mg "_law_cell" (top 52) ["_law_script", "_law_k"] := by
  obtain ⟨fd, F⟩ := c.def_ 35 (d := dF 52 "_law_cell") rfl
  exact ⟨_, fd, He5.fun_of F, (He.glo_ok X G (c.fact 27 (f := .glo "_law_cell") rfl)), F.bindsN fun _ _ _ _ _ _ us hl => match us, hl with | [_, _], _ => rfl⟩
theorem df__law_mixed : Df K mg "_law_mixed" (top 53) ["_law_cell_here", "_law_k"] := by
  obtain ⟨fd, F⟩ := c.def_ 36 (d := dF 53 "_law_mixed") rfl
  exact ⟨_, fd, He5.fun_of F, (He.glo_ok X G (c.fact 28 (f := .glo "_law_mixed") rfl)), F.bindsN fun _ _ _ _ _ _ us hl => match us, hl with | [_, _], _ => rfl⟩
theorem df__law_tape : Df K mg "_law_tape" (top 54) ["_law_great", "_law_lesser", "_law_count"] := by
  obtain ⟨fd, F⟩ := c.def_ 37 (d := dF 54 "_law_tape") rfl
  exact ⟨_, fd, He5.fun_of F, (He.glo_ok X G (c.fact 29 (f := .glo "_law_tape") rfl)), F.bindsN fun _ _ _ _ _ _ us hl => match us, hl with | [_, _, _], _ => rfl⟩
theorem df__law_take : Df K mg "_law_take" (top 55) ["_law_tape_here", "_law_many"] := by
  obtain ⟨fd, F⟩ := c.def_ 38 (d := dF 55 "_law_take") rfl
  exact ⟨_, fd, He5.fun_of F, (He.glo_ok X G (c.fact 30 (f := .glo "_law_take") rfl)), F.bindsN fun _ _ _ _ _ _ us hl => match us, hl with | [_, _], _ => rfl⟩
theorem df__law_number : Df K mg "_law_number" (top 56) ["_law_tape_here"] := by
  obtain ⟨fd, F⟩ := c.def_ 39 (d := dF 56 "_law_number") rfl
  exact ⟨_, fd, He5.fun_of F, (He.glo_ok X G (c.fact 31 (f := .glo "_law_number") rfl)), F.bindsN fun _ _ _ _ _ _ us hl => match us, hl with | [_], _ => rfl⟩
theorem df__law_word : Df K mg "_law_word" (top 57) ["_law_tape_here", "_law_longest"] := by
  obtain ⟨fd, F⟩ := c.def_ 40 (d := dF 57 "_law_word") rfl
  exact ⟨_, fd, He5.fun_of F, (He.glo_ok X G (c.fact 32 (f := .glo "_law_word") rfl)), F.bindsN fun _ _ _ _ _ _ us hl => match us, hl with | [_, _], _ => rfl⟩
theorem df__law_words : Df K mg "_law_words" (top 58) ["_law_tape_here", "_law_many", "_law_taken"] := by
  obtain ⟨fd, F⟩ := c.def_ 41 (d := dF 58 "_law_words") rfl
  exact ⟨_, fd, He5.fun_of F, (He.glo_ok X G (c.fact 33 (f := .glo "_law_words") rfl)), F.bindsN fun _ _ _ _ _ _ us hl => match us, hl with | [_, _, _], _ => rfl⟩
theorem df__law_pick : Df K mg "_law_pick" (top 59) ["_law_tape_here", "_law_names"] := by
  obtain ⟨fd, F⟩ := c.def_ 42 (d := dF 59 "_law_pick") rfl
  exact ⟨_, fd, He5.fun_of F, (He.glo_ok X G (c.fact 34 (f := .glo "_law_pick") rfl)), F.bindsN fun _ _ _ _ _ _ us hl => match us, hl with | [_, _], _ => rfl⟩
theorem df__law_spread : Df K mg "_law_spread" (top 60) ["_law_tape_here", "_law_out"] := by
  obtain ⟨fd, F⟩ := c.def_ 43 (d := dF 60 "_law_spread") rfl
  exact ⟨_, fd, He5.fun_of F, (He.glo_ok X G (c.fact 35 (f := .glo "_law_spread") rfl)), F.bindsN fun _ _ _ _ _ _ us hl => match us, hl with | [_, _], _ => rfl⟩
theorem df__law_read : Df K mg "_law_read" (top 61) ["_law_text"] := by
  obtain ⟨fd, F⟩ := c.def_ 44 (d := dF 61 "_law_read") rfl
  exact ⟨_, fd, He5.fun_of F, (He.glo_ok X G (c.fact 36 (f := .glo "_law_read") rfl)), F.bindsN fun _ _ _ _ _ _ us hl => match us, hl with | [_], _ => rfl⟩
theorem df__law_chart : Df K mg "_law_chart" (top 62) [] := by
  obtain ⟨fd, F⟩ := c.def_ 45 (d := dF 62 "_law_chart") rfl
  exact ⟨_, fd, He5.fun_of F, (He.glo_ok X G (c.fact 37 (f := .glo "_law_chart") rfl)), F.bindsN fun _ _ _ _ _ _ us hl => match us, hl with | [], _ => rfl⟩
theorem df__law_kept : Df K mg "_law_kept" (top 63) [] := by
  obtain ⟨fd, F⟩ := c.def_ 46 (d := dF 63 "_law_kept") rfl
  exact ⟨_, fd, He5.fun_of F, (He.glo_ok X G (c.fact 38 (f := .glo "_law_kept") rfl)), F.bindsN fun _ _ _ _ _ _ us hl => match us, hl with | [], _ => rfl⟩
theorem df__law_kind : Df K mg "_law_kind" (top 64) ["_law_word_here"] := by
  obtain ⟨fd, F⟩ := c.def_ 47 (d := dF 64 "_law_kind") rfl
  exact ⟨_, fd, He5.fun_of F, (He.glo_ok X G (c.fact 39 (f := .glo "_law_kind") rfl)), F.bindsN fun _ _ _ _ _ _ us hl => match us, hl with | [_], _ => rfl⟩
theorem df__law_next : Df K mg "_law_next" (top 65) ["_law_rules", "_law_kind_here"] := by
  obtain ⟨fd, F⟩ := c.def_ 48 (d := dF 65 "_law_next") rfl
  exact ⟨_, fd, He5.fun_of F, (He.glo_ok X G (c.fact 40 (f := .glo "_law_next") rfl)), F.bindsN fun _ _ _ _ _ _ us hl => match us, hl with | [_, _], _ => rfl⟩
theorem df__law_first_bad : Df K mg "_law_first_bad" (top 66) ["_law_words_here"] := by
  obtain ⟨fd, F⟩ := c.def_ 49 (d := dF 66 "_law_first_bad") rfl
  exact ⟨_, fd, He5.fun_of F, (He.glo_ok X G (c.fact 41 (f := .glo "_law_first_bad") rfl)), F.bindsN fun _ _ _ _ _ _ us hl => match us, hl with | [_], _ => rfl⟩
theorem df__law_token : Df K mg "_law_token" (top 67) ["_law_tape_here", "_law_kind_here", "_law_names"] := by
  obtain ⟨fd, F⟩ := c.def_ 50 (d := dF 67 "_law_token") rfl
  exact ⟨_, fd, He5.fun_of F, (He.glo_ok X G (c.fact 42 (f := .glo "_law_token") rfl)), F.bindsN fun _ _ _ _ _ _ us hl => match us, hl with | [_, _, _], _ => rfl⟩
theorem df__law_sentence : Df K mg "_law_sentence" (top 68) ["_law_tape_here", "_law_names"] := by
  obtain ⟨fd, F⟩ := c.def_ 51 (d := dF 68 "_law_sentence") rfl
  exact ⟨_, fd, He5.fun_of F, (He.glo_ok X G (c.fact 43 (f := .glo "_law_sentence") rfl)), F.bindsN fun _ _ _ _ _ _ us hl => match us, hl with | [_, _], _ => rfl⟩
theorem df__law_odd : Df K mg "_law_odd" (top 69) ["_law_tape_here", "_law_names"] := by
  obtain ⟨fd, F⟩ := c.def_ 52 (d := dF 69 "_law_odd") rfl
  exact ⟨_, fd, He5.fun_of F, (He.glo_ok X G (c.fact 44 (f := .glo "_law_odd") rfl)), F.bindsN fun _ _ _ _ _ _ us hl => match us, hl with | [_, _], _ => rfl⟩
theorem df__law_changed : Df K mg "_law_changed" (top 70) ["_law_tape_here", "_law_words_here", "_law_names"] := by
  obtain ⟨fd, F⟩ := c.def_ 53 (d := dF 70 "_law_changed") rfl
  exact ⟨_, fd, He5.fun_of F, (He.glo_ok X G (c.fact 45 (f := .glo "_law_changed") rfl)), F.bindsN fun _ _ _ _ _ _ us hl => match us, hl with | [_, _, _], _ => rfl⟩
theorem df__law_too_many : Df K mg "_law_too_many" (top 71) ["_law_words_here"] := by
  obtain ⟨fd, F⟩ := c.def_ 54 (d := dF 71 "_law_too_many") rfl
  exact ⟨_, fd, He5.fun_of F, (He.glo_ok X G (c.fact 46 (f := .glo "_law_too_many") rfl)), F.bindsN fun _ _ _ _ _ _ us hl => match us, hl with | [_], _ => rfl⟩
theorem ex_BadText : ExcR RO.prog w K mg "BadText" (He.ga K "BadText") 1 mf1 := by
  obtain ⟨cda, cc, T⟩ := sup_ok (P := RO.prog) (mg := mg) (c.ini 0 (d := ⟨"BadText", 3⟩) rfl) (c.look 1 (f := cIni "BadText") rfl) (c.look 0 (f := cSup "BadText") rfl) (by kernel_rfl)
  exact ⟨T.oex, ⟨_, T.iC, T.tI, ir1 (i := 3) w3 T (He.noat_ok (c.fact 112 (f := .noat "BadText" "at") rfl))⟩, (He.glo_ok X G (c.fact 53 (f := .glo "BadText") rfl))⟩
theorem ex_DoubleName : ExcR RO.prog w K mg "DoubleName" (He.ga K "DoubleName") 2 mf2 := by
  obtain ⟨cda, cc, T⟩ := sup_ok (P := RO.prog) (mg := mg) (c.ini 1 (d := ⟨"DoubleName", 5⟩) rfl) (c.look 3 (f := cIni "DoubleName") rfl) (c.look 2 (f := cSup "DoubleName") rfl) (by kernel_rfl)
  exact ⟨T.oex, ⟨_, T.iC, T.tI, ir2 (i := 5) w5 T (He.noat_ok (c.fact 117 (f := .noat "DoubleName" "name") rfl)) (He.noat_ok (c.fact 114 (f := .noat "DoubleName" "at") rfl))⟩, (He.glo_ok X G (c.fact 55 (f := .glo "DoubleName") rfl))⟩
theorem ex_UnknownName : ExcR RO.prog w K mg "UnknownName" (He.ga K "UnknownName") 2 mf2 := by
  obtain ⟨cda, cc, T⟩ := sup_ok (P := RO.prog) (mg := mg) (c.ini 2 (d := ⟨"UnknownName", 6⟩) rfl) (c.look 5 (f := cIni "UnknownName") rfl) (c.look 4 (f := cSup "UnknownName") rfl) (by kernel_rfl)
  exact ⟨T.oex, ⟨_, T.iC, T.tI, ir2 (i := 6) w6 T (He.noat_ok (c.fact 118 (f := .noat "UnknownName" "name") rfl)) (He.noat_ok (c.fact 115 (f := .noat "UnknownName" "at") rfl))⟩, (He.glo_ok X G (c.fact 56 (f := .glo "UnknownName") rfl))⟩
theorem ex_WrongCount : ExcR RO.prog w K mg "WrongCount" (He.ga K "WrongCount") 2 mf2 := by
  obtain ⟨cda, cc, T⟩ := sup_ok (P := RO.prog) (mg := mg) (c.ini 3 (d := ⟨"WrongCount", 7⟩) rfl) (c.look 7 (f := cIni "WrongCount") rfl) (c.look 6 (f := cSup "WrongCount") rfl) (by kernel_rfl)
  exact ⟨T.oex, ⟨_, T.iC, T.tI, ir2 (i := 7) w7 T (He.noat_ok (c.fact 119 (f := .noat "WrongCount" "name") rfl)) (He.noat_ok (c.fact 116 (f := .noat "WrongCount" "at") rfl))⟩, (He.glo_ok X G (c.fact 57 (f := .glo "WrongCount") rfl))⟩
theorem ex_TooLarge : ExcR RO.prog w K mg "TooLarge" (He.ga K "TooLarge") 1 mf1n := by
  obtain ⟨cda, cc, T⟩ := sup_ok (P := RO.prog) (mg := mg) (c.ini 4 (d := ⟨"TooLarge", 8⟩) rfl) (c.look 9 (f := cIni "TooLarge") rfl) (c.look 8 (f := cSup "TooLarge") rfl) (by kernel_rfl)
  exact ⟨T.oex, ⟨_, T.iC, T.tI, ir1n (i := 8) w8 T (He.noat_ok (c.fact 120 (f := .noat "TooLarge" "name") rfl))⟩, (He.glo_ok X G (c.fact 58 (f := .glo "TooLarge") rfl))⟩
theorem hf_B : Blt mg := by
  exact { len := (He.free_ok X G (c.fact 59 (f := .free "len") rfl)), range := (He.free_ok X G (c.fact 60 (f := .free "range") rfl)), int := (He.free_ok X G (c.fact 61 (f := .free "int") rfl)), str := (He.free_ok X G (c.fact 62 (f := .free "str") rfl)), tuple := (He.free_ok X G (c.fact 63 (f := .free "tuple") rfl)), list := (He.free_ok X G (c.fact 64 (f := .free "list") rfl)), dict := (He.free_ok X G (c.fact 65 (f := .free "dict") rfl)), min := (He.free_ok X G (c.fact 66 (f := .free "min") rfl)), sum := (He.free_ok X G (c.fact 67 (f := .free "sum") rfl)), sorted := (He.free_ok X G (c.fact 68 (f := .free "sorted") rfl)), enumerate := (He.free_ok X G (c.fact 69 (f := .free "enumerate") rfl)), zip := (He.free_ok X G (c.fact 70 (f := .free "zip") rfl)), isinstance := (He.free_ok X G (c.fact 71 (f := .free "isinstance") rfl)) }
theorem hf_S : Cst K mg (He.ga K "RESERVED") (He.ga K "SIGNS") := by
  exact { HEAVIEST := gl_int (He.int_ok X G (c.fact 72 (f := .int "HEAVIEST" 80) rfl)), DEEPEST := gl_int (He.int_ok X G (c.fact 73 (f := .int "DEEPEST" 100) rfl)), LONGEST_NAME := gl_int (He.int_ok X G (c.fact 74 (f := .int "LONGEST_NAME" 8) rfl)), LONGEST_NUMBER := gl_int (He.int_ok X G (c.fact 75 (f := .int "LONGEST_NUMBER" 30) rfl)), LETTERS := gl_str (He.str_ok X G (c.fact 76 (f := .str "LETTERS" lettersS) rfl)), DIGITS := gl_str (He.str_ok X G (c.fact 77 (f := .str "DIGITS" digitsS) rfl)), RESERVED := gl_ref (He.glo_ok X G (c.fact 51 (f := .glo "RESERVED") rfl)), SIGNS := gl_ref (He.glo_ok X G (c.fact 52 (f := .glo "SIGNS") rfl)), hR := tup_look (c.look 30 (f := cTup "RESERVED" kept) rfl), hS := tup_look (c.look 31 (f := cTup "SIGNS" signs) rfl) }
theorem hf_C : CurC K mg (He.ga K "Cursor") := by
  exact { cl := He.cls_ok (c.fact 78 (f := .cls "Cursor") rfl), nR := He.noat_ok (c.fact 80 (f := .noat "Cursor" "row") rfl), nP := He.noat_ok (c.fact 81 (f := .noat "Cursor" "place") rfl), mg := (He.glo_ok X G (c.fact 48 (f := .glo "Cursor") rfl)) }
theorem hf_Z : PF RO.prog w K mg (He.ga K "Cursor") (He.ga K "BadText") (He.ga K "RESERVED") (He.ga K "SIGNS") := by
  exact { B := hf_B X G c, S := hf_S X G c, C := hf_C X G c, xB := ex_BadText X G c, init := di_Cursor X G c, tokens := df_tokens X G c, token_end := df_token_end X G c, is_plain_name := df_is_plain_name X G c, is_number := df_is_number X G c, read_definitions := df_read_definitions X G c, read_definition := df_read_definition X G c, read_expr := df_read_expr X G c, read_test := df_read_test X G c, read_chain := df_read_chain X G c, read_part := df_read_part X G c, read_change := df_read_change X G c, read_base := df_read_base X G c, read_arguments := df_read_arguments X G c, read_fields := df_read_fields X G c, read_field := df_read_field X G c, next_at := dm_next_at X G c, next_word := dm_next_word X G c, take := dm_take X G c, take_word := dm_take_word X G c, take_name := dm_take_name X G c }
theorem hf_X : LrX K mg (He.ga K "RecordsError") (He.ga K "BadText") (He.ga K "TooDeep") (He.ga K "DoubleName") (He.ga K "UnknownName") (He.ga K "WrongCount") (He.ga K "TooLarge") := by
  exact {
    mB := (He.glo_ok X G (c.fact 53 (f := .glo "BadText") rfl)), mT := (He.glo_ok X G (c.fact 54 (f := .glo "TooDeep") rfl)), mD := (He.glo_ok X G (c.fact 55 (f := .glo "DoubleName") rfl)), mU := (He.glo_ok X G (c.fact 56 (f := .glo "UnknownName") rfl)), mW := (He.glo_ok X G (c.fact 57 (f := .glo "WrongCount") rfl)), mL := (He.glo_ok X G (c.fact 58 (f := .glo "TooLarge") rfl)),
    mR := (He.glo_ok X G (c.fact 50 (f := .glo "RecordsError") rfl)), eBB := He.exm_ok (c.fact 93 (f := .exm "BadText" "BadText" true) rfl), eDB := He.exm_ok (c.fact 94 (f := .exm "DoubleName" "BadText" false) rfl), eDT := He.exm_ok (c.fact 95 (f := .exm "DoubleName" "TooDeep" false) rfl), eDD := He.exm_ok (c.fact 96 (f := .exm "DoubleName" "DoubleName" true) rfl), eUB := He.exm_ok (c.fact 97 (f := .exm "UnknownName" "BadText" false) rfl),
    eUT := He.exm_ok (c.fact 98 (f := .exm "UnknownName" "TooDeep" false) rfl), eUD := He.exm_ok (c.fact 99 (f := .exm "UnknownName" "DoubleName" false) rfl), eUU := He.exm_ok (c.fact 100 (f := .exm "UnknownName" "UnknownName" true) rfl), eWB := He.exm_ok (c.fact 101 (f := .exm "WrongCount" "BadText" false) rfl), eWT := He.exm_ok (c.fact 102 (f := .exm "WrongCount" "TooDeep" false) rfl), eWD := He.exm_ok (c.fact 103 (f := .exm "WrongCount" "DoubleName" false) rfl),
    eWU := He.exm_ok (c.fact 104 (f := .exm "WrongCount" "UnknownName" false) rfl), eWW := He.exm_ok (c.fact 105 (f := .exm "WrongCount" "WrongCount" true) rfl), eLB := He.exm_ok (c.fact 106 (f := .exm "TooLarge" "BadText" false) rfl), eLT := He.exm_ok (c.fact 107 (f := .exm "TooLarge" "TooDeep" false) rfl), eLD := He.exm_ok (c.fact 108 (f := .exm "TooLarge" "DoubleName" false) rfl), eLU := He.exm_ok (c.fact 109 (f := .exm "TooLarge" "UnknownName" false) rfl),
    eLW := He.exm_ok (c.fact 110 (f := .exm "TooLarge" "WrongCount" false) rfl), eLL := He.exm_ok (c.fact 111 (f := .exm "TooLarge" "TooLarge" true) rfl), kB := kit_look (c.look 22 (f := cKit "BadText" "RecordsError" true) rfl), kBT := kit_look (c.look 23 (f := cKit "BadText" "TooDeep" false) rfl), kD := kit_look (c.look 24 (f := cKit "DoubleName" "RecordsError" true) rfl), kU := kit_look (c.look 25 (f := cKit "UnknownName" "RecordsError" true) rfl),
    kW := kit_look (c.look 26 (f := cKit "WrongCount" "RecordsError" true) rfl), kL := kit_look (c.look 27 (f := cKit "TooLarge" "RecordsError" true) rfl), xB := xfB_ok (c.look 10 (f := cXf "BadText") rfl), cB := excB_ok (c.look 11 (f := cExc "BadText") rfl), xT := xfB_ok (c.look 12 (f := cXf "TooDeep") rfl), cT := excB_ok (c.look 13 (f := cExc "TooDeep") rfl),
    xD := xfB_ok (c.look 14 (f := cXf "DoubleName") rfl), cD := excB_ok (c.look 15 (f := cExc "DoubleName") rfl), xU := xfB_ok (c.look 16 (f := cXf "UnknownName") rfl), cU := excB_ok (c.look 17 (f := cExc "UnknownName") rfl), xW := xfB_ok (c.look 18 (f := cXf "WrongCount") rfl), cW := excB_ok (c.look 19 (f := cExc "WrongCount") rfl),
    xL := xfB_ok (c.look 20 (f := cXf "TooLarge") rfl), cL := excB_ok (c.look 21 (f := cExc "TooLarge") rfl), aB := He.noat_ok (c.fact 112 (f := .noat "BadText" "at") rfl), aT := He.noat_ok (c.fact 113 (f := .noat "TooDeep" "at") rfl), aD := He.noat_ok (c.fact 114 (f := .noat "DoubleName" "at") rfl), aU := He.noat_ok (c.fact 115 (f := .noat "UnknownName" "at") rfl),
    aW := He.noat_ok (c.fact 116 (f := .noat "WrongCount" "at") rfl), nD := He.noat_ok (c.fact 117 (f := .noat "DoubleName" "name") rfl), nU := He.noat_ok (c.fact 118 (f := .noat "UnknownName" "name") rfl), nW := He.noat_ok (c.fact 119 (f := .noat "WrongCount" "name") rfl), nL := He.noat_ok (c.fact 120 (f := .noat "TooLarge" "name") rfl)
  }
theorem hf_N : NmF RO.prog w K mg (He.ga K "DoubleName") (He.ga K "UnknownName") (He.ga K "WrongCount") := by
  exact ⟨ex_DoubleName X G c, ex_UnknownName X G c, ex_WrongCount X G c⟩
theorem hf_P : ProgC K (He.ga K "Program") := by
  exact ⟨He.cls_ok (c.fact 79 (f := .cls "Program") rfl), He.noat_ok (c.fact 82 (f := .noat "Program" "definitions") rfl), He.noat_ok (c.fact 83 (f := .noat "Program" "names") rfl), He.noat_ok (c.fact 84 (f := .noat "Program" "mentioned") rfl), He.noat_ok (c.fact 85 (f := .noat "Program" "table") rfl)⟩
theorem hf : HF RO.prog w K mg (He.ga K "Cursor") (He.ga K "BadText") (He.ga K "RecordsError") (He.ga K "TooDeep") (He.ga K "DoubleName") (He.ga K "UnknownName") (He.ga K "WrongCount") (He.ga K "TooLarge") (He.ga K "Program") (He.ga K "RESERVED") (He.ga K "SIGNS") (He.ma K (He.ga K "Program") "read") (He5.wf K (He.ga K "Program") "staticmethod" "read") (.type "type") := by
  exact { Z := hf_Z X G c, X := hf_X X G c, N := hf_N X G c, xL := ex_TooLarge X G c, PC := hf_P X G c, mgP := (He.glo_ok X G (c.fact 49 (f := .glo "Program") rfl)), cr := rd_look (c.look 28 (f := cRd "Program") rfl), sm := sm_look (c.look 29 (f := cSm "Program" "read") rfl), rd := ds_read X G c, pinit := di_Program X G c, check_names := df_check_names X G c, check_expr := df_check_expr X G c, inner_exprs := df_inner_exprs X G c, mentioned_names := df_mentioned_names X G c, gather_names := df_gather_names X G c, step_names := df_step_names X G c, check_weights := df_check_weights X G c, plain_row := df_plain_row X G c, sum_of := df_sum_of X G c, times := df_times X G c, weigh := df_weigh X G c, weigh_part := df_weigh_part X G c, law_cell := df__law_cell X G c, law_mixed := df__law_mixed X G c, law_tape := df__law_tape X G c, law_take := df__law_take X G c, law_number := df__law_number X G c, law_word := df__law_word X G c, law_words := df__law_words X G c, law_pick := df__law_pick X G c, law_spread := df__law_spread X G c, law_read := df__law_read X G c, law_chart := df__law_chart X G c, law_kept := df__law_kept X G c, law_kind := df__law_kind X G c, law_next := df__law_next X G c, law_first_bad := df__law_first_bad X G c, law_token := df__law_token X G c, law_sentence := df__law_sentence X G c, law_odd := df__law_odd X G c, law_changed := df__law_changed X G c, law_too_many := df__law_too_many X G c }
theorem facts {f : Addr} (hfa : mg ("law" : Str) = some (.ref f)) :
    ∃ fd : FuncData, (∀ (s : Shared) (v : Value), BindsTo s fd ⟨[v], []⟩ [("_law_script", v)]) ∧ ∀ base : Heap, FnOk RO.prog w K mg base CX0 297 f fd ["_law_script"] (spLawF K) := by
  obtain ⟨fd, F⟩ := c.def_ 55 (d := dF 72 "law") rfl
  have e := hfa.symm.trans (He.glo_ok X G (c.fact 47 (f := .glo "law") rfl))
  cases e
  have b := FunD.bindsA (ps := ["_law_script"]) F fun _ _ _ _ _ _ us hl => match us, hl with | [_], _ => rfl
  exact ⟨fd, fun s v => b s [v] rfl, fun base => (hf (w := w) X G c).law (He5.fun_of F)⟩
end
end GR
open PySem PySem.W PySem.Calls PyProof.Rows
set_option maxHeartbeats 0
theorem PySem.Challenge.cw_growingrecords_k13_whole_bad_texts_holds : PySem.Challenge.rw_growingrecords_k13_whole_bad_texts.Holds := by
  w_on; o_law
  refine HandSHeadRun.head_any (r := GR.RO) (q := view GR.RO.prog [72]) (H := GR.hkX 5) (ob := GR.obX) (M := 6000) (loose := GR.looseL) (d := HandSHeadRun.topDef GR.RO.prog 72) (kwd := []) GR.obX_eq
    (by kernel_rfl) (fun s => by kernel_rfl) GR.top_run (by kernel_rfl) (by kernel_rfl) (by kernel_rfl) (by rfl) (by first | assumption | decide +kernel) (by decide +kernel) ⟨rfl, rfl, rfl, rfl, rfl, by decide +kernel⟩ ?hw ?hc
  case hw => w_witness2
  case hc =>
    refine L2.walk_ofE (l := PySem.Challenge.rw_growingrecords_k13_whole_bad_texts) (n := 63) (k := 200) (x := "_law_script") (CX := L2.CX0) rfl (by decide) (by kernel_rfl) ⟨rfl, by decide, by decide⟩ ?F (fun _ _ _ _ z => z)
    intro w mg fa h Y G hmg0
    obtain ⟨K, KX, c⟩ := Y
    have hmg : mg ("law" : PySem.Str) = some (.ref fa) := by
      have e : (HandSHeadRun.topDef GR.RO.prog 72).name = ("law" : PySem.Str) := by kernel_rfl
      rw [← e]
      exact hmg0
    obtain ⟨fd, hb, hF⟩ := GR.facts (w := w) KX G c hmg
    exact ⟨K, fd, GR.spLawF K, KX, hb, fun H a ns hl _ hS => ⟨a, ns, rfl, hS, Nat.le_trans hl (by decide), fun _ => rfl⟩, fun base _ _ => (hF base).layer (by decide) (by decide)⟩
