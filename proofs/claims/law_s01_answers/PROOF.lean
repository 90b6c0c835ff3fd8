import PyProof.Rows.All
import Wide.All
import OpenK.AllK
import Wide.FinOn
import PyProof.EqAt
import PyProof.EqKinds
import PyProof.TupleCall
import Open.SpecLaws
import KE.OsGo
import KE.OsRun
import HandS.ForSpec
import HandS.ForMost
import HandS.ExcInit
import HandS.ExcField
import HandS.Codes
import HandS.Conv
import HandS.Deep
import HandS.DeepEq
import HandS.CallLocal
import HandS.TupSets
import HandS.SortOrd
import HandS.TupAny
import HandS.HeadHook1
import HandS.HeadHook2
import KE.DatumOrd
import HandS.Walk
import PySem.Challenge.RW_keptgroupings_s01_answers
set_option Elab.async false
set_option linter.all false
set_option maxRecDepth 100000
set_option maxHeartbeats 4000000
/-! Tokens as the program keeps them, against the specification's tokens. -/
namespace Kg
open VamvsBase
inductive Kd where
  | name | word | number | sign | fin
deriving DecidableEq
structure Tk where
  kd : Kd
  wd : Bytes
  place : Nat
def Tk.tok (t : Tk) : Tok := match t.kd with
  | .name => .name t.wd
  | .word => .name t.wd
  | .number => .num (decimal t.wd)
  | .sign => .sign (t.wd.headD 0).toNat
  | .fin => .last
def Tk.p (t : Tk) : PTok := ⟨t.place, t.tok⟩
def Tk.Ok (t : Tk) : Prop := match t.kd with
  | .name => RESERVED.contains t.wd = false ∧ t.wd.length ≤ 16
  | .word => RESERVED.contains t.wd = true
  | .number => t.wd.length ≤ 10 ∧ t.wd.all isDigit = true
  | .sign => ∃ c, SIGNS.contains c = true ∧ t.wd = [c]
  | .fin => t.wd = []
def isNum (w : Bytes) : Bool := if (w.headD 0 = 48 ∧ 1 < w.length) ∨ 10 < w.length then false else decide (decimal w ≤ NUMBER)
def isEither (c : UInt8) : Bool := isLetter c || isDigit c
def kdOf (w : Bytes) : Kd := if RESERVED.contains w = true then .word else .name
def tkAt (pl : Nat) : Bytes → Option Tk
  | [] => none
  | b :: r =>
    if isLetter b = true then (if NAME < ((b :: r).takeWhile isEither).length then none else some ⟨kdOf ((b :: r).takeWhile isEither), (b :: r).takeWhile isEither, pl⟩)
    else if isDigit b = true then (if isNum ((b :: r).takeWhile isDigit) = true then some ⟨.number, (b :: r).takeWhile isDigit, pl⟩ else none)
    else if SIGNS.contains b = true then some ⟨.sign, [b], pl⟩ else none

theorem tkAt_cons (pl : Nat) (b : UInt8) (r : Bytes) : tkAt pl (b :: r) =
    if isLetter b = true then (if NAME < ((b :: r).takeWhile isEither).length then none else some ⟨kdOf ((b :: r).takeWhile isEither), (b :: r).takeWhile isEither, pl⟩)
    else if isDigit b = true then (if isNum ((b :: r).takeWhile isDigit) = true then some ⟨.number, (b :: r).takeWhile isDigit, pl⟩ else none)
    else if SIGNS.contains b = true then some ⟨.sign, [b], pl⟩ else none := rfl
theorem numberOf_is {w : Bytes} (h : w ≠ []) : numberOf w = if isNum w = true then some (decimal w) else none := by
  have e : isNum w = decide (¬ (w = [] ∨ 10 < w.length ∨ (1 < w.length ∧ w.head? = some 48) ∨ NUMBER < decimal w)) := by
    cases w with
    | nil => exact absurd rfl h
    | cons b r =>
      unfold isNum
      have e1 : ((b :: r).headD 0 = 48) = ((b :: r).head? = some 48) := by simp
      simp only [e1]
      by_cases c1 : ((b :: r).head? = some 48 ∧ 1 < (b :: r).length) ∨ 10 < (b :: r).length
      · rw [if_pos c1, Eq.comm, decide_eq_false_iff_not]
        intro z
        apply z
        rcases c1 with c1 | c1
        · exact .inr (.inr (.inl ⟨c1.2, c1.1⟩))
        · exact .inr (.inl c1)
      · rw [if_neg c1]
        apply decide_eq_decide.mpr
        constructor
        · intro c2 z
          rcases z with z | z | z | z
          · cases z
          · exact c1 (.inr z)
          · exact c1 (.inl ⟨z.2, z.1⟩)
          · omega
        · intro z
          have : ¬ NUMBER < decimal (b :: r) := fun q => z (.inr (.inr (.inr q)))
          omega
  unfold numberOf
  rw [e]
  by_cases c : w = [] ∨ 10 < w.length ∨ (1 < w.length ∧ w.head? = some 48) ∨ NUMBER < decimal w
  · rw [if_pos c, if_neg (by simp only [decide_eq_true_eq]; exact fun z => z c)]
  · rw [if_neg c, if_pos (by simp only [decide_eq_true_eq]; exact c)]

theorem token_tkAt (pl : Nat) (l : Bytes) : token l = (tkAt pl l).map fun t => (t.tok, t.wd.length) := by
  cases l with
  | nil => rfl
  | cons b r =>
    show (if isLetter b = true then (if NAME < ((b :: r).takeWhile isEither).length then none else some (Tok.name ((b :: r).takeWhile isEither), ((b :: r).takeWhile isEither).length))
      else if isDigit b = true then (numberOf ((b :: r).takeWhile isDigit)).map fun n => (Tok.num n, ((b :: r).takeWhile isDigit).length)
      else if SIGNS.contains b = true then some (Tok.sign b.toNat, 1) else none) = _
    rw [tkAt_cons]
    by_cases h1 : isLetter b = true
    · rw [if_pos h1, if_pos h1]
      by_cases h2 : NAME < ((b :: r).takeWhile isEither).length
      · rw [if_pos h2, if_pos h2]; rfl
      · rw [if_neg h2, if_neg h2]
        unfold kdOf
        by_cases h3 : RESERVED.contains ((b :: r).takeWhile isEither) = true
        · rw [if_pos h3]; rfl
        · rw [if_neg h3]; rfl
    · rw [if_neg h1, if_neg h1]
      by_cases h2 : isDigit b = true
      · rw [if_pos h2, if_pos h2]
        have hne : (b :: r).takeWhile isDigit ≠ [] := by
          rw [List.takeWhile_cons, if_pos h2]; exact List.cons_ne_nil _ _
        rw [numberOf_is hne]
        by_cases h3 : isNum ((b :: r).takeWhile isDigit) = true
        · rw [if_pos h3, if_pos h3]; rfl
        · rw [if_neg h3, if_neg h3]; rfl
      · rw [if_neg h2, if_neg h2]
        by_cases h3 : SIGNS.contains b = true
        · rw [if_pos h3, if_pos h3]; rfl
        · rw [if_neg h3, if_neg h3]; rfl
theorem tkAt_props {pl : Nat} {l : Bytes} {t : Tk} (h : tkAt pl l = some t) : t.Ok ∧ t.kd ≠ .fin ∧ 0 < t.wd.length ∧ t.wd.length ≤ l.length ∧ t.place = pl := by
  cases l with
  | nil => cases h
  | cons b r =>
    rw [tkAt_cons] at h
    by_cases h1 : isLetter b = true
    · rw [if_pos h1] at h
      by_cases h2 : NAME < ((b :: r).takeWhile isEither).length
      · rw [if_pos h2] at h; cases h
      · rw [if_neg h2] at h
        have hw : 0 < ((b :: r).takeWhile isEither).length := by
          rw [List.takeWhile_cons, if_pos (by unfold isEither; rw [h1]; rfl)]; exact Nat.succ_pos _
        cases h
        have hle : ((b :: r).takeWhile isEither).length ≤ (b :: r).length := (List.takeWhile_sublist _).length_le
        refine ⟨?_, ?_, hw, hle, rfl⟩
        · by_cases h3 : RESERVED.contains ((b :: r).takeWhile isEither) = true
          · have e : kdOf ((b :: r).takeWhile isEither) = .word := if_pos h3
            simp only [Tk.Ok, e]; exact h3
          · have e : kdOf ((b :: r).takeWhile isEither) = .name := if_neg h3
            simp only [Tk.Ok, e]
            exact ⟨by simpa using h3, by unfold NAME at h2; omega⟩
        · show kdOf _ ≠ _
          unfold kdOf
          split <;> intro z <;> cases z
    · rw [if_neg h1] at h
      by_cases h2 : isDigit b = true
      · rw [if_pos h2] at h
        by_cases h3 : isNum ((b :: r).takeWhile isDigit) = true
        · rw [if_pos h3] at h
          cases h
          refine ⟨?_, (by intro z; cases z), ?_, (List.takeWhile_sublist _).length_le, rfl⟩
          · show ((b :: r).takeWhile isDigit).length ≤ 10 ∧ ((b :: r).takeWhile isDigit).all isDigit = true
            refine ⟨?_, List.all_takeWhile⟩
            by_cases c : 10 < ((b :: r).takeWhile isDigit).length
            · unfold isNum at h3
              rw [if_pos (Or.inr c)] at h3
              cases h3
            · omega
          · show 0 < ((b :: r).takeWhile isDigit).length
            rw [List.takeWhile_cons, if_pos h2]; exact Nat.succ_pos _
        · rw [if_neg h3] at h; cases h
      · rw [if_neg h2] at h
        by_cases h3 : SIGNS.contains b = true
        · rw [if_pos h3] at h
          cases h
          exact ⟨⟨b, h3, rfl⟩, (by intro z; cases z), Nat.succ_pos _, by simp, rfl⟩
        · rw [if_neg h3] at h; cases h

def lexT : Nat → Nat → Bytes → Except Fault (List Tk)
  | 0, pl, _ => .ok [⟨.fin, [], pl⟩]
  | _ + 1, pl, [] => .ok [⟨.fin, [], pl⟩]
  | n + 1, pl, b :: r =>
    if isBlank b = true then lexT n (pl + 1) r
    else if b == 35 then lexT n (pl + 1 + (r.takeWhile (· != 10)).length) (r.dropWhile (· != 10))
    else match tkAt pl (b :: r) with
      | none => .error ⟨2, pl⟩
      | some t => (lexT n (pl + t.wd.length) ((b :: r).drop t.wd.length)).map fun l => t :: l
theorem lexT_cons (n pl : Nat) (b : UInt8) (r : Bytes) : lexT (n + 1) pl (b :: r) =
    if isBlank b = true then lexT n (pl + 1) r
    else if b == 35 then lexT n (pl + 1 + (r.takeWhile (· != 10)).length) (r.dropWhile (· != 10))
    else match tkAt pl (b :: r) with
      | none => .error ⟨2, pl⟩
      | some t => (lexT n (pl + t.wd.length) ((b :: r).drop t.wd.length)).map fun l => t :: l := rfl
theorem lex_lexT : ∀ (n pl : Nat) (l : Bytes), lex n pl l = (lexT n pl l).map fun l => l.map Tk.p
  | 0, pl, l => rfl
  | n + 1, pl, [] => rfl
  | n + 1, pl, b :: r => by
    show (if isBlank b = true then lex n (pl + 1) r
    else if b == 35 then lex n (pl + 1 + (r.takeWhile (· != 10)).length) (r.dropWhile (· != 10))
    else match token (b :: r) with
      | none => .error ⟨2, pl⟩
      | some x => (lex n (pl + x.2) ((b :: r).drop x.2)).map fun l => ⟨pl, x.1⟩ :: l) = (if isBlank b = true then lexT n (pl + 1) r
    else if b == 35 then lexT n (pl + 1 + (r.takeWhile (· != 10)).length) (r.dropWhile (· != 10))
    else match tkAt pl (b :: r) with
      | none => .error ⟨2, pl⟩
      | some t => (lexT n (pl + t.wd.length) ((b :: r).drop t.wd.length)).map fun l => t :: l).map _
    by_cases h1 : isBlank b = true
    · rw [if_pos h1, if_pos h1]; exact lex_lexT n _ _
    · rw [if_neg h1, if_neg h1]
      by_cases h2 : (b == 35) = true
      · rw [if_pos h2, if_pos h2]; exact lex_lexT n _ _
      · rw [if_neg h2, if_neg h2, token_tkAt pl]
        cases e : tkAt pl (b :: r) with
        | none => rfl
        | some t =>
          have hp : t.place = pl := (tkAt_props e).2.2.2.2
          show (lex n (pl + t.wd.length) ((b :: r).drop t.wd.length)).map (fun l => (⟨pl, t.tok⟩ : PTok) :: l) = ((lexT n (pl + t.wd.length) ((b :: r).drop t.wd.length)).map fun l => t :: l).map fun l => l.map Tk.p
          rw [lex_lexT n]
          cases lexT n (pl + t.wd.length) ((b :: r).drop t.wd.length) with
          | error f => rfl
          | ok l =>
            show Except.ok ((⟨pl, t.tok⟩ : PTok) :: l.map Tk.p) = Except.ok (t.p :: l.map Tk.p)
            rw [← hp]
            rfl
theorem dropWhile_len (l : Bytes) (p : UInt8 → Bool) : (l.dropWhile p).length ≤ l.length := (List.dropWhile_sublist p).length_le
theorem lexT_fuel : ∀ (n m pl : Nat) (l : Bytes), l.length < n → l.length < m → lexT n pl l = lexT m pl l
  | 0, _, _, l, h, _ => absurd h (Nat.not_lt_zero _)
  | _ + 1, 0, _, l, _, h => absurd h (Nat.not_lt_zero _)
  | n + 1, m + 1, pl, [], _, _ => rfl
  | n + 1, m + 1, pl, b :: r, hn, hm => by
    have hn' : r.length < n := by simpa using hn
    have hm' : r.length < m := by simpa using hm
    rw [lexT_cons, lexT_cons]
    by_cases h1 : isBlank b = true
    · rw [if_pos h1, if_pos h1]; exact lexT_fuel n m _ _ hn' hm'
    · rw [if_neg h1, if_neg h1]
      by_cases h2 : (b == 35) = true
      · rw [if_pos h2, if_pos h2]
        have := dropWhile_len r (· != 10)
        exact lexT_fuel n m _ _ (by omega) (by omega)
      · rw [if_neg h2, if_neg h2]
        cases e : tkAt pl (b :: r) with
        | none => rfl
        | some t =>
          have h3 := (tkAt_props e).2.2.1
          have h4 : ((b :: r).drop t.wd.length).length ≤ r.length := by
            rw [List.length_drop, List.length_cons]; omega
          show Except.map _ (lexT n _ _) = Except.map _ (lexT m _ _)
          rw [lexT_fuel n m _ _ (by omega) (by omega)]
/-- all tokens of a text -/
def toksOf (b : Bytes) : Except Fault (List Tk) := lexT (b.length + 1) 0 b
theorem tokens_is {b : Bytes} (h : b.length ≤ TEXT) : tokens b = (toksOf b).map fun l => l.map Tk.p := by
  unfold tokens
  rw [if_neg (by omega), lex_lexT]
  rfl
/-- what has been found ahead of the place pl -/
structure LexI (b : Bytes) (pl : Nat) (found : List Tk) : Prop where
  le : pl ≤ b.length
  eq : ∀ n, (b.drop pl).length < n → toksOf b = (lexT n pl (b.drop pl)).map fun l => found ++ l
  ok : ∀ t ∈ found, t.Ok ∧ t.kd ≠ .fin
  few : found.length ≤ pl
theorem LexI.start (b : Bytes) : LexI b 0 [] where
  le := Nat.zero_le _
  eq n h := by
    have e : b.drop 0 = b := rfl
    rw [e] at h ⊢
    unfold toksOf
    rw [lexT_fuel (b.length + 1) n 0 b (by omega) h]
    cases lexT n 0 b <;> rfl
  ok t h := by cases h
  few := Nat.le_refl _
theorem drop_cons {b : Bytes} {pl : Nat} {c : UInt8} (h : b[pl]? = some c) : b.drop pl = c :: b.drop (pl + 1) := by
  have hl : pl < b.length := by
    rcases Nat.lt_or_ge pl b.length with h1 | h1
    · exact h1
    · rw [List.getElem?_eq_none h1] at h; cases h
  rw [List.drop_eq_getElem_cons hl]
  congr 1
  rw [List.getElem?_eq_getElem hl] at h
  exact Option.some.inj h
theorem lt_of_at {α : Type} {b : List α} {pl : Nat} {c : α} (h : b[pl]? = some c) : pl < b.length := by
  rcases Nat.lt_or_ge pl b.length with h1 | h1
  · exact h1
  · rw [List.getElem?_eq_none h1] at h; cases h
theorem LexI.blank {b : Bytes} {pl : Nat} {found : List Tk} {c : UInt8} (I : LexI b pl found) (h : b[pl]? = some c) (hb : isBlank c = true) : LexI b (pl + 1) found where
  le := lt_of_at h
  eq n hn := by
    have e := drop_cons h
    rw [I.eq (n + 1) (by rw [e, List.length_cons]; omega), e]
    rw [lexT_cons]
    rw [if_pos hb]
  ok := I.ok
  few := Nat.le_succ_of_le I.few
/-- how many bytes a remark has -/
def remLen (b : Bytes) (pl : Nat) : Nat := ((b.drop pl).takeWhile (· != 10)).length
theorem takeWhile_drop_len (p : UInt8 → Bool) : ∀ l : Bytes, l.drop (l.takeWhile p).length = l.dropWhile p
  | [] => rfl
  | a :: r => by
    by_cases h : p a = true
    · rw [List.takeWhile_cons, if_pos h, List.dropWhile_cons, if_pos h]
      exact takeWhile_drop_len p r
    · rw [List.takeWhile_cons, if_neg h, List.dropWhile_cons, if_neg h]
      rfl
theorem LexI.rem {b : Bytes} {pl : Nat} {found : List Tk} (I : LexI b pl found) (h : b[pl]? = some 35) : LexI b (pl + remLen b pl) found where
  le := by
    have : remLen b pl ≤ (b.drop pl).length := (List.takeWhile_sublist _).length_le
    rw [List.length_drop] at this
    have := I.le
    omega
  eq n hn := by
    have e := drop_cons h
    have e2 : remLen b pl = 1 + ((b.drop (pl + 1)).takeWhile (· != 10)).length := by
      unfold remLen
      rw [e, List.takeWhile_cons, if_pos (by decide), List.length_cons, Nat.add_comm]
    have e3 : b.drop (pl + remLen b pl) = (b.drop (pl + 1)).dropWhile (· != 10) := by
      rw [e2, ← Nat.add_assoc, ← takeWhile_drop_len, List.drop_drop]
    have e4 : pl + remLen b pl = pl + 1 + ((b.drop (pl + 1)).takeWhile (· != 10)).length := by rw [e2]; omega
    rw [I.eq ((b.drop pl).length + n + 1) (by omega), e]
    rw [lexT_cons]
    rw [if_neg (by decide), if_pos (by decide), e3, e4]
    rw [e3] at hn
    have := dropWhile_len (b.drop (pl + 1)) (· != 10)
    rw [lexT_fuel (List.length (35 :: b.drop (pl + 1)) + n) n _ _ (by rw [List.length_cons]; omega) hn]
  ok := I.ok
  few := Nat.le_trans I.few (Nat.le_add_right _ _)
theorem LexI.bad {b : Bytes} {pl : Nat} {found : List Tk} {c : UInt8} (I : LexI b pl found) (h : b[pl]? = some c) (hb : isBlank c = false) (h2 : c ≠ 35) (ht : tkAt pl (b.drop pl) = none) : toksOf b = .error ⟨2, pl⟩ := by
  have e := drop_cons h
  rw [I.eq ((b.drop pl).length + 1) (by omega)]
  rw [e] at ht ⊢
  unfold lexT
  rw [if_neg (by rw [hb]; exact Bool.false_ne_true), if_neg (by simpa using h2), ht]
  rfl
theorem LexI.tok {b : Bytes} {pl : Nat} {found : List Tk} {c : UInt8} {t : Tk} (I : LexI b pl found) (h : b[pl]? = some c) (hb : isBlank c = false) (h2 : c ≠ 35) (ht : tkAt pl (b.drop pl) = some t) : LexI b (pl + t.wd.length) (found ++ [t]) where
  le := by
    have := (tkAt_props ht).2.2.2.1
    rw [List.length_drop] at this
    have := I.le
    omega
  eq n hn := by
    have e := drop_cons h
    have hp := tkAt_props ht
    rw [I.eq ((b.drop pl).length + n + 1) (by omega)]
    have e2 : b.drop (pl + t.wd.length) = (b.drop pl).drop t.wd.length := by rw [List.drop_drop]
    rw [e2] at hn ⊢
    rw [e] at ht hn ⊢
    rw [lexT_cons]
    rw [if_neg (by rw [hb]; exact Bool.false_ne_true), if_neg (by simpa using h2), ht]
    show ((lexT (List.length (c :: b.drop (pl + 1)) + n) (pl + t.wd.length) ((c :: b.drop (pl + 1)).drop t.wd.length)).map fun l => t :: l).map _ = _
    have h4 : ((c :: b.drop (pl + 1)).drop t.wd.length).length ≤ (c :: b.drop (pl + 1)).length := by
      rw [List.length_drop]; omega
    rw [lexT_fuel (List.length (c :: b.drop (pl + 1)) + n) n _ _ (by omega) hn]
    cases lexT n (pl + t.wd.length) ((c :: b.drop (pl + 1)).drop t.wd.length) with
    | error f => rfl
    | ok l =>
      show Except.ok (found ++ t :: l) = Except.ok (found ++ [t] ++ l)
      rw [List.append_assoc]
      rfl
  ok x hx := by
    rcases List.mem_append.mp hx with h1 | h1
    · exact I.ok x h1
    · rw [List.mem_singleton.mp h1]
      exact ⟨(tkAt_props ht).1, (tkAt_props ht).2.1⟩
  few := by
    have := (tkAt_props ht).2.2.1
    have := I.few
    rw [List.length_append]
    show found.length + 1 ≤ _
    omega
theorem LexI.done {b : Bytes} {found : List Tk} (I : LexI b b.length found) : toksOf b = .ok (found ++ [⟨.fin, [], b.length⟩]) := by
  rw [I.eq 1 (by rw [List.drop_length]; exact Nat.zero_lt_one), List.drop_length]
  rfl
/-- a text's tokens: the last one, and no other, is its end -/
structure TksW (l : List Tk) : Prop where
  ok : ∀ t ∈ l, t.Ok
  last : ∃ pre t, l = pre ++ [t] ∧ t.kd = .fin ∧ ∀ x ∈ pre, x.kd ≠ .fin
theorem TksW.of {b : Bytes} {found : List Tk} {n : Nat} (I : LexI b n found) (pl : Nat) : TksW (found ++ [⟨.fin, [], pl⟩]) where
  ok t h := by
    rcases List.mem_append.mp h with h1 | h1
    · exact (I.ok t h1).1
    · rw [List.mem_singleton.mp h1]; rfl
  last := ⟨found, _, rfl, rfl, fun x hx => (I.ok x hx).2⟩
end Kg
/-! Groups: what a dict of sums, then its sorted keys give, against the specification's insertion. -/
namespace Kg
open VamvsBase Vamvsa
/-! ### keys in order -/
theorem lexLess_cons (a b : Nat) (r s : List Nat) : lexLess (a :: r) (b :: s) = (decide (a < b) || (a == b && lexLess r s)) := rfl
theorem lexLess_irr : ∀ k : List Nat, lexLess k k = false
  | [] => rfl
  | a :: r => by rw [lexLess_cons, lexLess_irr r]; simp
theorem lexLess_trans : ∀ {a b c : List Nat}, lexLess a b = true → lexLess b c = true → lexLess a c = true
  | a :: r, b :: s, c :: t, h1, h2 => by
    rw [lexLess_cons] at h1 h2 ⊢
    simp only [Bool.or_eq_true, decide_eq_true_eq, Bool.and_eq_true, beq_iff_eq] at h1 h2 ⊢
    rcases h1 with h1 | ⟨h1, h1'⟩ <;> rcases h2 with h2 | ⟨h2, h2'⟩
    · left; omega
    · left; omega
    · left; omega
    · right; exact ⟨h1.trans h2, lexLess_trans h1' h2'⟩
  | [], _, _, h1, _ => by cases h1
  | _ :: _, [], _, h1, _ => by cases h1
  | _ :: _, _ :: _, [], _, h2 => by cases h2
theorem lexLess_tri : ∀ {a b : List Nat}, a.length = b.length → a ≠ b → lexLess a b = false → lexLess b a = true
  | [], [], _, h, _ => absurd rfl h
  | [], _ :: _, h, _, _ => by cases h
  | _ :: _, [], h, _, _ => by cases h
  | a :: r, b :: s, hl, hn, h => by
    rw [lexLess_cons] at h ⊢
    simp only [Bool.or_eq_true, decide_eq_true_eq, Bool.and_eq_true, beq_iff_eq, Bool.or_eq_false_iff, decide_eq_false_iff_not, Bool.and_eq_false_iff] at h ⊢
    by_cases e : a = b
    · subst e
      right
      refine ⟨rfl, lexLess_tri (by simpa using hl) (fun z => hn (by rw [z])) ?_⟩
      rcases h.2 with h2 | h2
      · simp at h2
      · exact h2
    · left; omega
/-- in order, no key twice -/
abbrev Asc (l : List Group) : Prop := l.Pairwise fun x y => lexLess x.key y.key = true
/-- what a key's line says of the lines l -/
def sumOf (k : List Nat) (l : List Group) : Int := ((l.filter fun x => x.key = k).map (·.sum)).sum
def cntOf (k : List Nat) (l : List Group) : Nat := ((l.filter fun x => x.key = k).map (·.n)).sum
def lineOf (l : List Group) (k : List Nat) : Group := ⟨k, sumOf k l, cntOf k l⟩
theorem putGroup_mem {x y : Group} : ∀ {l : List Group}, y ∈ putGroup x l → y.key = x.key ∨ ∃ z ∈ l, z.key = y.key
  | [], h => .inl (by rw [List.mem_singleton.mp h])
  | z :: r, h => by
    unfold putGroup at h
    by_cases c : x.key = z.key
    · rw [if_pos c] at h
      rcases List.mem_cons.mp h with h | h
      · left; rw [h]; exact c.symm
      · right; exact ⟨y, List.mem_cons_of_mem _ h, rfl⟩
    · rw [if_neg c] at h
      by_cases c2 : lexLess x.key z.key = true
      · rw [if_pos c2] at h
        rcases List.mem_cons.mp h with h | h
        · left; rw [h]
        · right; exact ⟨y, h, rfl⟩
      · rw [if_neg c2] at h
        rcases List.mem_cons.mp h with h | h
        · right; exact ⟨z, List.mem_cons_self, by rw [h]⟩
        · rcases putGroup_mem h with h | ⟨w, hw, e⟩
          · left; exact h
          · right; exact ⟨w, List.mem_cons_of_mem _ hw, e⟩
theorem putGroup_asc {d : Nat} {x : Group} (hx : x.key.length = d) : ∀ {l : List Group}, (∀ y ∈ l, y.key.length = d) → Asc l → Asc (putGroup x l)
  | [], _, _ => List.pairwise_singleton _ _
  | z :: r, hl, h => by
    obtain ⟨h1, h2⟩ := List.pairwise_cons.mp h
    unfold putGroup
    by_cases c : x.key = z.key
    · rw [if_pos c]
      exact List.pairwise_cons.mpr ⟨h1, h2⟩
    · rw [if_neg c]
      by_cases c2 : lexLess x.key z.key = true
      · rw [if_pos c2]
        refine List.pairwise_cons.mpr ⟨fun y hy => ?_, h⟩
        rcases List.mem_cons.mp hy with hy | hy
        · rw [hy]; exact c2
        · exact lexLess_trans c2 (h1 y hy)
      · rw [if_neg c2]
        refine List.pairwise_cons.mpr ⟨fun y hy => ?_, putGroup_asc hx (fun y hy => hl y (List.mem_cons_of_mem _ hy)) h2⟩
        rcases putGroup_mem hy with e | ⟨w, hw, e⟩
        · rw [e]
          exact lexLess_tri (by rw [hx, hl z List.mem_cons_self]) c (by simpa using c2)
        · rw [← e]
          exact h1 w hw
/-- the same without order: added to its line, or behind all -/
def addTo (x : Group) : List Group → List Group
  | [] => [x]
  | y :: r => if x.key = y.key then ⟨y.key, y.sum + x.sum, y.n + x.n⟩ :: r else y :: addTo x r
/-- a line read by its key -/
def lookG (k : List Nat) (l : List Group) : Option Group := l.find? fun y => y.key = k
theorem lookG_put (x : Group) (k : List Nat) : ∀ {l : List Group}, Asc l → (∀ y ∈ l, y.key.length = x.key.length) →
    lookG k (putGroup x l) = if x.key = k then some (match lookG k l with | none => x | some y => ⟨y.key, y.sum + x.sum, y.n + x.n⟩) else lookG k l
  | [], _, _ => by
    unfold putGroup lookG
    by_cases c : x.key = k <;> simp [c]
  | z :: r, h, hl => by
    obtain ⟨h1, h2⟩ := List.pairwise_cons.mp h
    unfold putGroup
    by_cases c : x.key = z.key
    · rw [if_pos c]
      unfold lookG
      by_cases c2 : x.key = k
      · have e : z.key = k := c ▸ c2
        simp [c2, e]
      · have e : z.key ≠ k := c ▸ c2
        simp [c2, e]
    · rw [if_neg c]
      by_cases c2 : lexLess x.key z.key = true
      · rw [if_pos c2]
        unfold lookG
        by_cases c3 : x.key = k
        · have no : (z :: r).find? (fun y => decide (y.key = k)) = none := by
            rw [List.find?_eq_none]
            intro y hy
            simp only [decide_eq_true_eq]
            intro e
            have lt : lexLess x.key y.key = true := by
              rcases List.mem_cons.mp hy with hy | hy
              · rw [hy]; exact c2
              · exact lexLess_trans c2 (h1 y hy)
            rw [e, ← c3, lexLess_irr] at lt
            cases lt
          rw [no]
          simp [c3]
        · simp [c3]
      · rw [if_neg c2]
        have ih := lookG_put x k h2 fun y hy => hl y (List.mem_cons_of_mem _ hy)
        unfold lookG at ih ⊢
        rw [List.find?_cons, List.find?_cons]
        by_cases c3 : z.key = k
        · have c4 : x.key ≠ k := fun e => c (e.trans c3.symm)
          simp [c3, c4]
        · simp only [c3, decide_false]
          exact ih
theorem collect_snoc (l : List Group) (x : Group) : collect (l ++ [x]) = putGroup x (collect l) := by
  unfold collect
  rw [List.foldl_append]
  rfl
theorem sumOf_snoc (k : List Nat) (l : List Group) (x : Group) : sumOf k (l ++ [x]) = if x.key = k then sumOf k l + x.sum else sumOf k l := by
  unfold sumOf
  rw [List.filter_append, List.map_append, List.sum_append]
  by_cases c : x.key = k <;> simp [c]
theorem cntOf_snoc (k : List Nat) (l : List Group) (x : Group) : cntOf k (l ++ [x]) = if x.key = k then cntOf k l + x.n else cntOf k l := by
  unfold cntOf
  rw [List.filter_append, List.map_append, List.sum_append]
  by_cases c : x.key = k <;> simp [c]
theorem any_snoc (k : List Nat) (l : List Group) (x : Group) : (l ++ [x]).any (fun y => y.key = k) = (l.any (fun y => y.key = k) || decide (x.key = k)) := by
  rw [List.any_append]; simp
/-- what collect is: in order, and each key's line -/
theorem collect_is {d : Nat} (l : List Group) (hl : ∀ y ∈ l, y.key.length = d) : Asc (collect l) ∧ (∀ y ∈ collect l, y.key.length = d) ∧
    ∀ k, lookG k (collect l) = if l.any (fun y => y.key = k) = true then some (lineOf l k) else none := by
  suffices H : ∀ (n : Nat) (l : List Group), l.length = n → (∀ y ∈ l, y.key.length = d) → Asc (collect l) ∧ (∀ y ∈ collect l, y.key.length = d) ∧
      ∀ k, lookG k (collect l) = if l.any (fun y => y.key = k) = true then some (lineOf l k) else none from H l.length l rfl hl
  intro n
  induction n with
  | zero =>
    intro l e _
    rw [List.eq_nil_of_length_eq_zero e]
    exact ⟨List.Pairwise.nil, (fun y hy => by cases hy), fun k => rfl⟩
  | succ n ih =>
    intro l e h
    have hne : l ≠ [] := by intro z; rw [z] at e; cases e
    obtain ⟨l', x, rfl⟩ : ∃ l' x, l = l' ++ [x] := ⟨l.dropLast, l.getLast hne, (List.dropLast_concat_getLast hne).symm⟩
    have hx : x.key.length = d := h x (by simp)
    obtain ⟨i1, i2, i3⟩ := ih l' (by simpa using e) fun y hy => h y (List.mem_append_left _ hy)
    rw [collect_snoc]
    refine ⟨putGroup_asc hx i2 i1, fun y hy => ?_, fun k => ?_⟩
    · rcases putGroup_mem hy with e | ⟨z, hz, e⟩
      · rw [e]; exact hx
      · rw [← e]; exact i2 z hz
    · rw [lookG_put x k i1 fun y hy => by rw [i2 y hy, hx], i3 k, any_snoc]
      unfold lineOf
      rw [sumOf_snoc, cntOf_snoc]
      by_cases c : x.key = k
      · rw [if_pos c, if_pos c, if_pos c]
        by_cases c2 : l'.any (fun y => y.key = k) = true
        · simp [c2]
        · have z : l'.any (fun y => decide (y.key = k)) = false := by simpa using c2
          have s0 : l'.filter (fun y => decide (y.key = k)) = [] := by
            rw [List.filter_eq_nil_iff]
            intro y hy
            have := List.any_eq_false.mp z y hy
            simpa using this
          unfold sumOf cntOf
          rw [s0]
          rw [if_neg c2, if_pos (by simp [c])]
          cases x
          simp only at c
          subst c
          simp
      · rw [if_neg c, if_neg c, if_neg c]
        simp [c]
/-- a list in order is told by its look-ups -/
theorem asc_look {l : List Group} (h : Asc l) {y : Group} (hy : y ∈ l) : lookG y.key l = some y := by
  induction l with
  | nil => cases hy
  | cons z r ih =>
    obtain ⟨h1, h2⟩ := List.pairwise_cons.mp h
    unfold lookG
    rw [List.find?_cons]
    rcases List.mem_cons.mp hy with e | hy
    · subst e; simp
    · have ne : z.key ≠ y.key := fun e => by
        have q := h1 y hy
        rw [e, lexLess_irr] at q
        cases q
      simp only [ne, decide_false]
      exact ih h2 hy
theorem look_mem {l : List Group} {k : List Nat} {y : Group} (h : lookG k l = some y) : y ∈ l ∧ y.key = k :=
  ⟨List.mem_of_find?_eq_some h, by simpa using List.find?_some h⟩
/-- keys in order: two such lists with the same members are one -/
theorem keys_one {a b : List (List Nat)} (ha : a.Pairwise fun x y => lexLess x y = true) (hb : b.Pairwise fun x y => lexLess x y = true) (h : ∀ k, k ∈ a ↔ k ∈ b) : a = b := by
  induction a generalizing b with
  | nil =>
    cases b with
    | nil => rfl
    | cons y s => exact absurd ((h y).mpr List.mem_cons_self) List.not_mem_nil
  | cons x r ih =>
    cases b with
    | nil => exact absurd ((h x).mp List.mem_cons_self) List.not_mem_nil
    | cons y s =>
      obtain ⟨a1, a2⟩ := List.pairwise_cons.mp ha
      obtain ⟨b1, b2⟩ := List.pairwise_cons.mp hb
      have exy : x = y := by
        rcases List.mem_cons.mp ((h x).mp List.mem_cons_self) with e | hx
        · exact e
        · rcases List.mem_cons.mp ((h y).mpr List.mem_cons_self) with e | hy
          · exact e.symm
          · have q := lexLess_trans (b1 x hx) (a1 y hy)
            rw [lexLess_irr] at q
            cases q
      subst exy
      congr 1
      refine ih a2 b2 fun k => ⟨fun hk => ?_, fun hk => ?_⟩
      · rcases List.mem_cons.mp ((h k).mp (List.mem_cons_of_mem _ hk)) with e | q
        · have q := a1 k hk
          rw [e, lexLess_irr] at q
          cases q
        · exact q
      · rcases List.mem_cons.mp ((h k).mpr (List.mem_cons_of_mem _ hk)) with e | q
        · have q := b1 k hk
          rw [e, lexLess_irr] at q
          cases q
        · exact q
/-- THE LAW: the keys of the lines, each once, in order, each with its line: that is collect -/
theorem collect_of_keys {d : Nat} {l : List Group} (hl : ∀ y ∈ l, y.key.length = d) {ks : List (List Nat)} (ho : ks.Pairwise fun x y => lexLess x y = true) (hm : ∀ k, k ∈ ks ↔ ∃ y ∈ l, y.key = k) :
    collect l = ks.map (lineOf l) := by
  obtain ⟨h1, h2, h3⟩ := collect_is l hl
  have hk : ks = (collect l).map (·.key) := by
    refine keys_one ho (List.pairwise_map.mpr h1) fun k => (hm k).trans ⟨fun ⟨y, hy, e⟩ => ?_, fun hk => ?_⟩
    · have a : l.any (fun y => y.key = k) = true := List.any_eq_true.mpr ⟨y, hy, by simpa using e⟩
      have q := h3 k
      rw [if_pos a] at q
      exact List.mem_map.mpr ⟨_, (look_mem q).1, (look_mem q).2⟩
    · obtain ⟨y, hy, e⟩ := List.mem_map.mp hk
      have q := asc_look h1 hy
      rw [e, h3 k] at q
      by_cases a : l.any (fun y => y.key = k) = true
      · obtain ⟨z, hz, ez⟩ := List.any_eq_true.mp a
        exact ⟨z, hz, by simpa using ez⟩
      · rw [if_neg a] at q; cases q
  rw [hk, List.map_map]
  refine (List.map_id _).symm.trans (List.map_congr_left fun y hy => ?_)
  have q := asc_look h1 hy
  rw [h3 y.key] at q
  by_cases a : l.any (fun z => z.key = y.key) = true
  · rw [if_pos a] at q
    exact (Option.some.inj q).symm
  · rw [if_neg a] at q; cases q
end Kg
/-! What the specification's reading does at a token of the program's. -/
namespace Kg
open VamvsBase
def pT (l : List Tk) (i : Nat) : Toks := (l.drop i).map Tk.p
theorem pT_cons {l : List Tk} {i : Nat} {t : Tk} (h : l[i]? = some t) : pT l i = t.p :: pT l (i + 1) := by
  have hl : i < l.length := lt_of_at h
  unfold pT
  rw [List.drop_eq_getElem_cons hl, List.map_cons]
  rw [List.getElem?_eq_getElem hl] at h
  rw [Option.some.inj h]
def isWS : Kd → Bool
  | .word => true
  | .sign => true
  | _ => false
/-- the word or sign w stands at t -/
def standsM (w : Bytes) (t : Tk) : Bool := isWS t.kd && decide (t.wd = w)
section
variable {t : Tk} {L : Toks}
theorem beq_dec (a b : Bytes) : (a == b) = decide (a = b) := by
  by_cases h : a = b
  · subst h; simp
  · simp [h]
theorem next_sign (ho : t.Ok) (c : UInt8) (hc : SIGNS.contains c = true) : next (.sign c.toNat) (t.p :: L) = standsM [c] t := by
  obtain ⟨kd, wd, pl⟩ := t
  have no : RESERVED.contains [c] = false := by
    have : c = 44 ∨ c = 58 ∨ c = 59 ∨ c = 45 := by
      simpa [SIGNS] using hc
    rcases this with h | h | h | h <;> subst h <;> decide +kernel
  cases kd with
  | name => rfl
  | word =>
    have ho' : RESERVED.contains wd = true := ho
    show tokEq (.name wd) (.sign c.toNat) = (true && decide (wd = [c]))
    have : wd ≠ [c] := fun e => by rw [e, no] at ho'; cases ho'
    simp [tokEq, this]
  | number => rfl
  | sign =>
    obtain ⟨x, hx, e⟩ := ho
    have e' : wd = [x] := e
    subst e'
    show (x.toNat == c.toNat) = (true && decide ([x] = [c]))
    by_cases h : x = c
    · subst h; simp
    · have : x.toNat ≠ c.toNat := fun z => h (UInt8.toNat_inj.mp z)
      simp [h, this]
  | fin => rfl
theorem nextWord_is (ho : t.Ok) {s : String} (hs : RESERVED.contains (word s) = true) : nextWord s (t.p :: L) = standsM (word s) t := by
  obtain ⟨kd, wd, pl⟩ := t
  have long : ∀ x : UInt8, word s ≠ [x] := fun x e => by
    have h : word s ∈ RESERVED := by simpa using hs
    rw [e] at h
    have : ∀ r ∈ RESERVED, r.length ≠ 1 := by decide +kernel
    exact this _ h rfl
  cases kd with
  | name =>
    have ho' : RESERVED.contains wd = false := ho.1
    show (wd == word s) = false
    rw [beq_eq_false_iff_ne]
    intro e
    rw [e, hs] at ho'
    cases ho'
  | word =>
    show (wd == word s) = (true && decide (wd = word s))
    rw [beq_dec, Bool.true_and]
  | number => rfl
  | sign =>
    obtain ⟨x, hx, e⟩ := ho
    have e' : wd = [x] := e
    subst e'
    show false = (true && decide ([x] = word s))
    have := long x
    simp [Ne.symm this]
  | fin => rfl
theorem next_last : next .last (t.p :: L) = decide (t.kd = .fin) := by
  obtain ⟨kd, wd, pl⟩ := t
  cases kd <;> rfl
theorem takeSign_is (ho : t.Ok) (c : UInt8) (hc : SIGNS.contains c = true) : takeSign c.toNat (t.p :: L) = if standsM [c] t = true then .ok L else .error ⟨3, t.place⟩ := by
  unfold takeSign taken
  rw [next_sign ho c hc]
  rfl
theorem takeWord_is (ho : t.Ok) {s : String} (hs : RESERVED.contains (word s) = true) : takeWord s (t.p :: L) = if standsM (word s) t = true then .ok L else .error ⟨3, t.place⟩ := by
  have e := nextWord_is (L := L) ho hs
  unfold nextWord at e
  unfold takeWord taken
  rw [e]
  rfl
theorem takeName_is (ho : t.Ok) : takeName (t.p :: L) = if t.kd = .name then .ok (⟨t.place, t.wd⟩, L) else .error ⟨3, t.place⟩ := by
  obtain ⟨kd, wd, pl⟩ := t
  cases kd with
  | name =>
    have ho' : RESERVED.contains wd = false := ho.1
    show (if RESERVED.contains wd = true then _ else _) = _
    rw [if_neg (by rw [ho']; exact Bool.false_ne_true), if_pos rfl]
  | word =>
    have ho' : RESERVED.contains wd = true := ho
    show (if RESERVED.contains wd = true then _ else _) = _
    rw [if_pos ho', if_neg (by intro z; cases z)]
    rfl
  | number => rfl
  | sign => rfl
  | fin => rfl
theorem takeNat_is (most : Nat) : Vamvsa.takeNat most (t.p :: L) = if t.kd = .number then (if most < decimal t.wd then .error ⟨7, t.place⟩ else .ok (decimal t.wd, L)) else .error ⟨3, t.place⟩ := by
  obtain ⟨kd, wd, pl⟩ := t
  cases kd <;> rfl
end
/-- behind a token that is not the end there is another -/
theorem TksW.more {l : List Tk} (h : TksW l) {i : Nat} {t : Tk} (e : l[i]? = some t) (hk : t.kd ≠ .fin) : ∃ t', l[i + 1]? = some t' := by
  obtain ⟨pre, x, rfl, hx, hp⟩ := h.last
  have hl := lt_of_at e
  rw [List.length_append] at hl
  have hl' : i < pre.length + 1 := hl
  have hi : i < pre.length := by
    rcases Nat.lt_or_ge i pre.length with h1 | h1
    · exact h1
    · have : i = pre.length := by omega
      subst this
      rw [List.getElem?_append_right (Nat.le_refl _), Nat.sub_self] at e
      cases e
      exact absurd hx hk
  have : i + 1 < (pre ++ [x]).length := by rw [List.length_append]; show i + 1 < pre.length + 1; omega
  exact ⟨_, List.getElem?_eq_getElem this⟩
theorem standsM_not_fin {w : Bytes} {t : Tk} (h : standsM w t = true) : t.kd ≠ .fin := by
  intro e
  unfold standsM at h
  rw [e] at h
  cases h
theorem TksW.okAt {l : List Tk} (h : TksW l) {i : Nat} {t : Tk} (e : l[i]? = some t) : t.Ok := h.ok t (List.mem_of_getElem? e)
end Kg
/-! Kept answers: who is read, by what is least; what kept lists of the same groupings share. -/
namespace Kg
open Vamvsa
/-- v is the best of l, of those that g can be worked out from -/
def Best (t : Table) (g : Nat) (l : List Nat) : Option Nat → Prop
  | none => ∀ u ∈ l, canFrom (width t) u g = false
  | some v => v ∈ l ∧ canFrom (width t) v g = true ∧ ∀ u ∈ l, canFrom (width t) u g = true → sizeOf_ t v < sizeOf_ t u ∨ (sizeOf_ t v = sizeOf_ t u ∧ v ≤ u)
theorem best_step {t : Table} {g x : Nat} {l : List Nat} {b : Option Nat} (h : Best t g l b) (hx : ∀ u ∈ l, u < x) : Best t g (l ++ [x]) (better t g b x) := by
  unfold better
  by_cases c : canFrom (width t) x g = false
  · rw [if_pos c]
    cases b with
    | none =>
      intro u hu
      rcases List.mem_append.mp hu with hu | hu
      · exact h u hu
      · rw [List.mem_singleton.mp hu]; exact c
    | some v =>
      obtain ⟨h1, h2, h3⟩ := h
      refine ⟨List.mem_append_left _ h1, h2, fun u hu hc => ?_⟩
      rcases List.mem_append.mp hu with hu | hu
      · exact h3 u hu hc
      · rw [List.mem_singleton.mp hu, c] at hc; cases hc
  · rw [if_neg c]
    have c' : canFrom (width t) x g = true := by simpa using c
    cases b with
    | none =>
      refine ⟨by simp, c', fun u hu hc => ?_⟩
      rcases List.mem_append.mp hu with hu | hu
      · rw [h u hu] at hc; cases hc
      · rw [List.mem_singleton.mp hu]; exact .inr ⟨rfl, Nat.le_refl _⟩
    | some v =>
      obtain ⟨h1, h2, h3⟩ := h
      show Best t g (l ++ [x]) (if sizeOf_ t x < sizeOf_ t v then some x else some v)
      by_cases s : sizeOf_ t x < sizeOf_ t v
      · rw [if_pos s]
        refine ⟨by simp, c', fun u hu hc => ?_⟩
        rcases List.mem_append.mp hu with hu | hu
        · left
          rcases h3 u hu hc with h | ⟨h, _⟩ <;> omega
        · rw [List.mem_singleton.mp hu]; exact .inr ⟨rfl, Nat.le_refl _⟩
      · rw [if_neg s]
        refine ⟨List.mem_append_left _ h1, h2, fun u hu hc => ?_⟩
        rcases List.mem_append.mp hu with hu | hu
        · exact h3 u hu hc
        · rw [List.mem_singleton.mp hu]
          have := hx v h1
          omega
theorem best_fold {t : Table} {g : Nat} : ∀ {l l0 : List Nat} {b : Option Nat}, Best t g l0 b → (l0 ++ l).Pairwise (· < ·) → Best t g (l0 ++ l) (l.foldl (better t g) b)
  | [], l0, b, h, _ => by rw [List.append_nil]; exact h
  | x :: r, l0, b, h, p => by
    have e : l0 ++ x :: r = (l0 ++ [x]) ++ r := by simp
    rw [e] at p ⊢
    refine best_fold (best_step h fun u hu => ?_) p
    have := (List.pairwise_append.mp p).1
    exact (List.pairwise_append.mp this).2.2 u hu x (by simp)
theorem mem_sorted {t : Table} {k : Kept} {u : Nat} : u ∈ sortedKept t k ↔ u < 2 ^ width t ∧ u ∈ k := by
  unfold sortedKept groupings
  rw [List.mem_filter, List.mem_range]
  simp
theorem sorted_asc (t : Table) (k : Kept) : (sortedKept t k).Pairwise (· < ·) := List.Pairwise.filter _ List.pairwise_lt_range
theorem reader_best (t : Table) (k : Kept) (g : Nat) : Best t g (sortedKept t k) (reader t k g) := by
  have := best_fold (t := t) (g := g) (l := sortedKept t k) (l0 := []) (b := none) (fun _ h => by cases h) (by rw [List.nil_append]; exact sorted_asc t k)
  rw [List.nil_append] at this
  exact this
/-- the best is one -/
theorem best_one {t : Table} {g : Nat} {l l' : List Nat} {a b : Option Nat} (h : ∀ u, u ∈ l ↔ u ∈ l') (ha : Best t g l a) (hb : Best t g l' b) : a = b := by
  cases a with
  | none =>
    cases b with
    | none => rfl
    | some v =>
      have := ha v ((h v).mpr hb.1)
      rw [hb.2.1] at this
      cases this
  | some u =>
    cases b with
    | none =>
      have := hb u ((h u).mp ha.1)
      rw [ha.2.1] at this
      cases this
    | some v =>
      have h1 := ha.2.2 v ((h v).mpr hb.1) hb.2.1
      have h2 := hb.2.2 u ((h u).mp ha.1) ha.2.1
      have : u = v := by omega
      rw [this]
/-- all of k are groupings of t -/
def AllG (t : Table) (k : Kept) : Prop := ∀ u ∈ k, u < 2 ^ width t
theorem reader_of {t : Table} {k : Kept} {g : Nat} {b : Option Nat} (hk : AllG t k) (h : Best t g k b) : reader t k g = b :=
  best_one (fun u => mem_sorted.trans ⟨fun h => h.2, fun h => ⟨hk u h, h⟩⟩) (reader_best t k g) h
theorem sorted_eq {t : Table} {k k' : Kept} (h : ∀ u, u ∈ k ↔ u ∈ k') : sortedKept t k = sortedKept t k' := by
  unfold sortedKept
  refine List.filter_congr fun u _ => ?_
  have : (k.contains u = true) ↔ (k'.contains u = true) := by simp [h u]
  exact Bool.eq_iff_iff.mpr this
theorem reader_eq {t : Table} {k k' : Kept} (h : ∀ u, u ∈ k ↔ u ∈ k') (g : Nat) : reader t k g = reader t k' g := by
  unfold reader
  rw [sorted_eq h]
theorem cost_eq {t : Table} {k k' : Kept} (h : ∀ u, u ∈ k ↔ u ∈ k') (g : Nat) : costOf t k g = costOf t k' g := by
  unfold costOf
  rw [reader_eq h]
theorem total_eq {t : Table} {k k' : Kept} (h : ∀ u, u ∈ k ↔ u ∈ k') : total t k = total t k' := by
  unfold total
  congr 1
  refine List.map_congr_left fun a _ => ?_
  rw [cost_eq h]
theorem answer_eq {t : Table} {k k' : Kept} (h : ∀ u, u ∈ k ↔ u ∈ k') (g : Nat) : answerOf t k g = answerOf t k' g := by
  unfold answerOf
  rw [reader_eq h]
theorem room_eq {t : Table} {k k' : Kept} (h : ∀ u, u ∈ k ↔ u ∈ k') : room t k = room t k' := by
  unfold room
  rw [sorted_eq h]
theorem sum_erase {f : Nat → Nat} {a : Nat} : ∀ {l : List Nat}, a ∈ l → (l.map f).sum = f a + ((l.erase a).map f).sum
  | [], h => by cases h
  | b :: r, h => by
    by_cases e : b = a
    · subst e
      simp
    · have e' : (b == a) = false := by simpa using e
      rw [List.erase_cons, e']
      have hr : a ∈ r := by
        rcases List.mem_cons.mp h with h | h
        · exact absurd h.symm e
        · exact h
      have := sum_erase (f := f) hr
      simp only [List.map_cons, List.sum_cons, Bool.false_eq_true, if_false]
      omega
theorem sum_same {f : Nat → Nat} : ∀ {l l' : List Nat}, l.Nodup → l'.Nodup → (∀ u, u ∈ l ↔ u ∈ l') → (l.map f).sum = (l'.map f).sum
  | [], l', _, _, h => by
    cases l' with
    | nil => rfl
    | cons a r => exact absurd ((h a).mpr List.mem_cons_self) List.not_mem_nil
  | a :: r, l', n, n', h => by
    obtain ⟨n1, n2⟩ := List.nodup_cons.mp n
    have ha : a ∈ l' := (h a).mp List.mem_cons_self
    rw [sum_erase ha, List.map_cons, List.sum_cons]
    congr 1
    refine sum_same n2 (n'.erase a) fun u => ?_
    rw [n'.mem_erase_iff]
    constructor
    · intro hu
      exact ⟨fun e => n1 (e ▸ hu), (h u).mp (List.mem_cons_of_mem _ hu)⟩
    · rintro ⟨h1, h2⟩
      rcases List.mem_cons.mp ((h u).mpr h2) with e | e
      · exact absurd e h1
      · exact e
theorem length_same : ∀ {l l' : List Nat}, l.Nodup → l'.Nodup → (∀ u, u ∈ l ↔ u ∈ l') → l.length = l'.length := by
  intro l l' n n' h
  have := sum_same (f := fun _ => 1) n n' h
  have e : ∀ l : List Nat, (l.map fun _ => 1).sum = l.length := by
    intro l
    induction l with
    | nil => rfl
    | cons a r ih => simp only [List.map_cons, List.sum_cons, List.length_cons, ih]; omega
  rw [e, e] at this
  exact this
theorem room_is {t : Table} {k : Kept} (n : k.Nodup) (hk : AllG t k) : room t k = (k.map (sizeOf_ t)).sum := by
  unfold room
  refine sum_same ?_ n fun u => mem_sorted.trans ⟨fun h => h.2, fun h => ⟨hk u h, h⟩⟩
  exact (sorted_asc t k).imp fun h => Nat.ne_of_lt h
end Kg
/-! The line of calls: one call after the other read off a list of numbers. -/
namespace Kg
/-- how many whole numbers and how many rows a call has -/
def shp : Nat → Nat × Nat
  | 0 => (0, 1)
  | 1 => (0, 0)
  | 2 => (1, 0)
  | 3 => (2, 0)
  | 4 => (0, 0)
  | 5 => (0, 1)
  | 6 => (1, 0)
  | 7 => (1, 0)
  | 8 => (0, 0)
  | _ => (1, 0)
theorem shape_is {p : Int} {nk : Nat × Nat} (h : PyVamvsa.shape p = some nk) : ∃ m : Nat, m ≤ 9 ∧ p = (m : Int) ∧ nk = shp m := by
  unfold PyVamvsa.shape at h
  by_cases c0 : p = 0
  · rw [if_pos c0] at h; cases h; exact ⟨0, by decide, c0, rfl⟩
  rw [if_neg c0] at h
  by_cases c1 : p = 1
  · rw [if_pos c1] at h; cases h; exact ⟨1, by decide, c1, rfl⟩
  rw [if_neg c1] at h
  by_cases c2 : p = 2
  · rw [if_pos c2] at h; cases h; exact ⟨2, by decide, c2, rfl⟩
  rw [if_neg c2] at h
  by_cases c3 : p = 3
  · rw [if_pos c3] at h; cases h; exact ⟨3, by decide, c3, rfl⟩
  rw [if_neg c3] at h
  by_cases c4 : p = 4
  · rw [if_pos c4] at h; cases h; exact ⟨4, by decide, c4, rfl⟩
  rw [if_neg c4] at h
  by_cases c5 : p = 5
  · rw [if_pos c5] at h; cases h; exact ⟨5, by decide, c5, rfl⟩
  rw [if_neg c5] at h
  by_cases c6 : p = 6
  · rw [if_pos c6] at h; cases h; exact ⟨6, by decide, c6, rfl⟩
  rw [if_neg c6] at h
  by_cases c7 : p = 7
  · rw [if_pos c7] at h; cases h; exact ⟨7, by decide, c7, rfl⟩
  rw [if_neg c7] at h
  by_cases c8 : p = 8
  · rw [if_pos c8] at h; cases h; exact ⟨8, by decide, c8, rfl⟩
  rw [if_neg c8] at h
  by_cases c9 : p = 9
  · rw [if_pos c9] at h; cases h; exact ⟨9, by decide, c9, rfl⟩
  rw [if_neg c9] at h
  cases h
theorem shp_row {m : Nat} (hm : m ≤ 9) : (shp m).2 = 0 ∨ (shp m).2 = 1 := by
  match m, hm with
  | 0, _ => exact .inr rfl
  | 1, _ => exact .inl rfl
  | 2, _ => exact .inl rfl
  | 3, _ => exact .inl rfl
  | 4, _ => exact .inl rfl
  | 5, _ => exact .inr rfl
  | 6, _ => exact .inl rfl
  | 7, _ => exact .inl rfl
  | 8, _ => exact .inl rfl
  | 9, _ => exact .inl rfl
/-- a call spelled -/
def spelled (m : Nat) (xs row : List Int) : List (List Int) := ((m : Int) :: xs) :: (if (shp m).2 = 0 then [] else [row])
/-- the row that stands at e, and where the next call begins -/
def RowIs (l : List Int) (m e : Nat) (row : List Int) (j : Nat) : Prop :=
  if (shp m).2 = 0 then row = [] ∧ j = e else ∃ w : Nat, l[e]? = some ((w : Nat) : Int) ∧ j = e + 1 + w ∧ row = (l.drop (e + 1)).take w
theorem drop_at {l : List Int} {i : Nat} {p : Int} {r : List Int} (h : l.drop i = p :: r) : l[i]? = some p ∧ r = l.drop (i + 1) ∧ i < l.length := by
  have hi : i < l.length := by
    rcases Nat.lt_or_ge i l.length with h1 | h1
    · exact h1
    · rw [List.drop_eq_nil_of_le h1] at h; cases h
  rw [List.drop_eq_getElem_cons hi] at h
  injection h with h1 h2
  exact ⟨by rw [List.getElem?_eq_getElem hi, h1], h2.symm, hi⟩
theorem flat_step {l : List Int} {i f : Nat} {cs : List (List (List Int))} (hi : i < l.length) (h : PyFlat.calls PyVamvsa.shape f (l.drop i) = some cs) :
    ∃ (m j : Nat) (row : List Int) (cs' : List (List (List Int))) (f' : Nat), m ≤ 9 ∧ l[i]? = some ((m : Nat) : Int) ∧ i + 1 + (shp m).1 ≤ l.length ∧ i < j ∧ j ≤ l.length ∧
      PyFlat.calls PyVamvsa.shape f' (l.drop j) = some cs' ∧ cs = spelled m ((l.drop (i + 1)).take (shp m).1) row :: cs' ∧ RowIs l m (i + 1 + (shp m).1) row j := by
  cases e : l.drop i with
  | nil =>
    have : (l.drop i).length = 0 := by rw [e]; rfl
    rw [List.length_drop] at this
    omega
  | cons p r =>
    rw [e] at h
    obtain ⟨e1, e2, _⟩ := drop_at e
    cases f with
    | zero => cases h
    | succ f =>
      unfold PyFlat.calls at h
      cases hc : PyFlat.call PyVamvsa.shape (p :: r) with
      | none => rw [hc] at h; cases h
      | some ct =>
        obtain ⟨c, t⟩ := ct
        rw [hc] at h
        have h : (match PyFlat.calls PyVamvsa.shape f t with
          | none => none
          | some cs => some (c :: cs)) = some cs := h
        cases hr : PyFlat.calls PyVamvsa.shape f t with
        | none => rw [hr] at h; cases h
        | some cs' =>
          rw [hr] at h
          cases h
          have hc : (match PyVamvsa.shape p with
            | none => none
            | some (n, k) => if r.length < n then none else match PyFlat.rows k (r.drop n) with
              | none => none
              | some (xs, t) => some ((p :: r.take n) :: xs, t)) = some (c, t) := hc
          cases hs : PyVamvsa.shape p with
          | none => rw [hs] at hc; cases hc
          | some nk =>
            rw [hs] at hc
            obtain ⟨m, hm, ep, enk⟩ := shape_is hs
            subst ep
            subst enk
            have hc : (if r.length < (shp m).1 then none else match PyFlat.rows (shp m).2 (r.drop (shp m).1) with
              | none => none
              | some (xs, t) => some (((m : Int) :: r.take (shp m).1) :: xs, t)) = some (c, t) := hc
            by_cases c1 : r.length < (shp m).1
            · rw [if_pos c1] at hc; cases hc
            rw [if_neg c1] at hc
            have rl : r.length = l.length - (i + 1) := by rw [e2, List.length_drop]
            have le1 : i + 1 + (shp m).1 ≤ l.length := by omega
            have ed : r.drop (shp m).1 = l.drop (i + 1 + (shp m).1) := by rw [e2, List.drop_drop]
            rcases shp_row hm with k0 | k1
            · have hc : some (((m : Int) :: r.take (shp m).1) :: [], r.drop (shp m).1) = some (c, t) := by
                rw [k0] at hc
                exact hc
              injection hc with hc
              injection hc with hc1 hc2
              subst hc1
              subst hc2
              rw [ed] at hr
              refine ⟨m, i + 1 + (shp m).1, [], cs', f, hm, e1, le1, by omega, le1, hr, ?_, ?_⟩
              · unfold spelled
                rw [if_pos k0, ← e2]
              · unfold RowIs
                rw [if_pos k0]
                exact ⟨rfl, rfl⟩
            · rw [k1] at hc
              have hc : (match PyFlat.row (r.drop (shp m).1) with
                | none => none
                | some (x, s) => some (((m : Int) :: r.take (shp m).1) :: [x], s)) = some (c, t) := by
                cases z : PyFlat.row (r.drop (shp m).1) with
                | none =>
                  have : PyFlat.rows 1 (r.drop (shp m).1) = none := by unfold PyFlat.rows; rw [z]
                  rw [this] at hc
                  cases hc
                | some xs =>
                  obtain ⟨x, s⟩ := xs
                  have : PyFlat.rows 1 (r.drop (shp m).1) = some ([x], s) := by
                    unfold PyFlat.rows
                    rw [z]
                    rfl
                  rw [this] at hc
                  exact hc
              cases z : r.drop (shp m).1 with
              | nil =>
                rw [z] at hc
                cases hc
              | cons w s =>
                rw [z] at hc
                have hc : (match (if 0 ≤ w ∧ w.toNat ≤ s.length then some (s.take w.toNat, s.drop w.toNat) else none : Option (List Int × List Int)) with
                  | none => none
                  | some (x, s) => some (((m : Int) :: r.take (shp m).1) :: [x], s)) = some (c, t) := hc
                by_cases c2 : 0 ≤ w ∧ w.toNat ≤ s.length
                · rw [if_pos c2] at hc
                  injection hc with hc
                  injection hc with hc1 hc2
                  subst hc1
                  subst hc2
                  rw [ed] at z
                  obtain ⟨z1, z2, z3⟩ := drop_at z
                  have sl : s.length = l.length - (i + 1 + (shp m).1 + 1) := by rw [z2, List.length_drop]
                  have es : s.drop w.toNat = l.drop (i + 1 + (shp m).1 + 1 + w.toNat) := by rw [z2, List.drop_drop]
                  rw [es] at hr
                  refine ⟨m, i + 1 + (shp m).1 + 1 + w.toNat, s.take w.toNat, cs', f, hm, e1, le1, by omega, by omega, hr, ?_, ?_⟩
                  · unfold spelled
                    rw [if_neg (by omega), ← e2]
                  · unfold RowIs
                    rw [if_neg (by omega)]
                    refine ⟨w.toNat, ?_, rfl, by rw [← z2]⟩
                    rw [z1, Int.toNat_of_nonneg c2.1]
                · rw [if_neg c2] at hc
                  cases hc
theorem flat_end {l : List Int} {i f : Nat} {cs : List (List (List Int))} (hi : l.length ≤ i) (h : PyFlat.calls PyVamvsa.shape f (l.drop i) = some cs) : cs = [] := by
  rw [List.drop_eq_nil_of_le hi] at h
  unfold PyFlat.calls at h
  cases f <;> (cases h; rfl)
theorem whole_is (c : List (List Int)) : PyVamvsa.whole c = c := by
  unfold PyVamvsa.whole
  split <;> rfl
/-- what is asked of a call's numbers -/
def Form (m : Nat) (xs row : List Int) (k : Vamvsa.Call) : Prop :=
  (m = 0 ∧ xs = [] ∧ (∀ z ∈ row, 0 ≤ z ∧ z ≤ 255) ∧ row.length ≤ 8192 ∧ k = .load (VamvsaNeutral.bytesOf row)) ∨
  (m = 1 ∧ xs = [] ∧ k = .shown) ∨
  (m = 2 ∧ ∃ g, xs = [g] ∧ k = .group g) ∨
  (m = 3 ∧ ∃ u g, xs = [u, g] ∧ k = .roll u g) ∨
  (m = 4 ∧ xs = [] ∧ k = .sizes) ∨
  (m = 5 ∧ xs = [] ∧ row.length ≤ 2000 ∧ k = .keep row) ∨
  (m = 6 ∧ ∃ q, xs = [q] ∧ k = .cost q) ∨
  (m = 7 ∧ ∃ q, xs = [q] ∧ k = .answer q) ∨
  (m = 8 ∧ xs = [] ∧ k = .total) ∨
  (m = 9 ∧ ∃ g, xs = [g] ∧ k = .gain g)
theorem len0 {xs : List Int} (h : xs.length = 0) : xs = [] := List.eq_nil_of_length_eq_zero h
theorem len1 {xs : List Int} (h : xs.length = 1) : ∃ g, xs = [g] := by
  match xs, h with
  | [g], _ => exact ⟨g, rfl⟩
theorem len2 {xs : List Int} (h : xs.length = 2) : ∃ u g, xs = [u, g] := by
  match xs, h with
  | [u, g], _ => exact ⟨u, g, rfl⟩
theorem form_of_asked {m : Nat} {xs row : List Int} (hm : m ≤ 9) (hx : xs.length = (shp m).1) (h : VamvsaNeutral.asked1 (spelled m xs row) = true) :
    ∃ k, VamvsaNeutral.callOf (spelled m xs row) = some k ∧ Form m xs row k := by
  match m, hm with
  | 0, _ =>
    have e := len0 hx
    subst e
    have h : ((row.all (fun (z : Int) => VamvsaNeutral.natural z 8)) && decide (row.length ≤ 8192)) = true := h
    rw [Bool.and_eq_true, decide_eq_true_eq, List.all_eq_true] at h
    have hb : ∀ z ∈ row, 0 ≤ z ∧ z ≤ 255 := fun z hz => by
      have := h.1 z hz
      unfold VamvsaNeutral.natural at this
      rw [Bool.and_eq_true, decide_eq_true_eq, decide_eq_true_eq] at this
      have h2 := this.2
      have e : (2 : Int) ^ 8 = 256 := by decide
      rw [e] at h2
      omega
    have hbt : NeutralIO.bytes row = true := by
      unfold NeutralIO.bytes
      rw [List.all_eq_true]
      intro z hz
      have := hb z hz
      rw [Bool.and_eq_true, decide_eq_true_eq, decide_eq_true_eq]
      exact this
    refine ⟨.load (VamvsaNeutral.bytesOf row), ?_, .inl ⟨rfl, rfl, hb, h.2, rfl⟩⟩
    show (if NeutralIO.bytes row = true then some (Vamvsa.Call.load (VamvsaNeutral.bytesOf row)) else none) = _
    rw [if_pos hbt]
  | 1, _ =>
    have e := len0 hx
    subst e
    exact ⟨.shown, rfl, .inr (.inl ⟨rfl, rfl, rfl⟩)⟩
  | 2, _ =>
    obtain ⟨g, e⟩ := len1 hx
    subst e
    exact ⟨.group g, rfl, .inr (.inr (.inl ⟨rfl, g, rfl, rfl⟩))⟩
  | 3, _ =>
    obtain ⟨u, g, e⟩ := len2 hx
    subst e
    exact ⟨.roll u g, rfl, .inr (.inr (.inr (.inl ⟨rfl, u, g, rfl, rfl⟩)))⟩
  | 4, _ =>
    have e := len0 hx
    subst e
    exact ⟨.sizes, rfl, .inr (.inr (.inr (.inr (.inl ⟨rfl, rfl, rfl⟩))))⟩
  | 5, _ =>
    have e := len0 hx
    subst e
    have h : (row.all VamvsaNeutral.whole60 && decide (row.length ≤ 2000)) = true := h
    rw [Bool.and_eq_true, decide_eq_true_eq] at h
    exact ⟨.keep row, rfl, .inr (.inr (.inr (.inr (.inr (.inl ⟨rfl, rfl, h.2, rfl⟩)))))⟩
  | 6, _ =>
    obtain ⟨g, e⟩ := len1 hx
    subst e
    exact ⟨.cost g, rfl, .inr (.inr (.inr (.inr (.inr (.inr (.inl ⟨rfl, g, rfl, rfl⟩))))))⟩
  | 7, _ =>
    obtain ⟨g, e⟩ := len1 hx
    subst e
    exact ⟨.answer g, rfl, .inr (.inr (.inr (.inr (.inr (.inr (.inr (.inl ⟨rfl, g, rfl, rfl⟩)))))))⟩
  | 8, _ =>
    have e := len0 hx
    subst e
    exact ⟨.total, rfl, .inr (.inr (.inr (.inr (.inr (.inr (.inr (.inr (.inl ⟨rfl, rfl, rfl⟩))))))))⟩
  | 9, _ =>
    obtain ⟨g, e⟩ := len1 hx
    subst e
    exact ⟨.gain g, rfl, .inr (.inr (.inr (.inr (.inr (.inr (.inr (.inr (.inr ⟨rfl, g, rfl, rfl⟩))))))))⟩
/-- what a line that may be asked is -/
theorem line_start {l : List Int} (h : PyVamvsa.answers_asked l = true) : ∃ cs f, PyFlat.calls PyVamvsa.shape f (l.drop 0) = some cs ∧ (∀ c ∈ cs, VamvsaNeutral.asked1 c = true) ∧
    PyVamvsa.answers l = PyFlat.told (PyFlat.played VamvsaNeutral.step VamvsaNeutral.start cs) ∧ (PyVamvsa.answers l).length ≤ 10000000 := by
  unfold PyVamvsa.answers_asked at h
  cases e : PyFlat.calls PyVamvsa.shape l.length l with
  | none => rw [e] at h; cases h
  | some cs =>
    rw [e] at h
    have h : (!cs.isEmpty && PyFlat.atMost 60 cs && PyInside.calls PyVamvsa.bound cs && VamvsaNeutral.asked (cs.map PyVamvsa.whole) && PyFlat.short 10000000 (PyVamvsa.answers l)) = true := h
    have em : cs.map PyVamvsa.whole = cs := by
      have : ∀ l : List (List (List Int)), l.map PyVamvsa.whole = l := by
        intro l
        induction l with
        | nil => rfl
        | cons a r ih => rw [List.map_cons, ih, whole_is]
      exact this cs
    rw [em, Bool.and_eq_true, Bool.and_eq_true] at h
    obtain ⟨⟨_, h1⟩, h2⟩ := h
    unfold VamvsaNeutral.asked at h1
    rw [Bool.and_eq_true, List.all_eq_true] at h1
    refine ⟨cs, l.length, e, h1.1, ?_, of_decide_eq_true h2⟩
    unfold PyVamvsa.answers PyVamvsa.calls
    rw [e]
    show PyFlat.told (PyFlat.played VamvsaNeutral.step VamvsaNeutral.start (cs.map PyVamvsa.whole)) = _
    rw [em]
theorem step_is {s : Vamvsa.Obj} {c : List (List Int)} {k : Vamvsa.Call} (h : VamvsaNeutral.callOf c = some k) : VamvsaNeutral.step s c = ((Vamvsa.step s k).1, VamvsaNeutral.encode (Vamvsa.step s k).2) := by
  unfold VamvsaNeutral.step
  rw [h]
theorem told_cons (a : List Int) (l : List (List Int)) : PyFlat.told (a :: l) = (((a.length : Nat) : Int) :: a) ++ PyFlat.told l := by
  unfold PyFlat.told
  rw [List.flatMap_cons]
end Kg
/-! The program's statements by place, and what its top leaves: printed by gen_top.py -/
namespace Kg
open PySem PySem.Spec PyProof.Rows L2
def top (i : Nat) : Stmt := PySem.Challenge.pw_keptgroupings_s01_answers.main.body.getD i (.Pass ⟨0, 0, 0, 0⟩)
abbrev s_columns_in : Stmt := top 1
abbrev s_put_together : Stmt := top 2
abbrev s_answer_of : Stmt := top 3
abbrev s_can_work_out : Stmt := top 4
abbrev s_rolled : Stmt := top 5
abbrev s_size_of : Stmt := top 6
abbrev s_reads : Stmt := top 7
abbrev s_cost_of : Stmt := top 8
abbrev s_worked_out : Stmt := top 9
abbrev s_lines_kept : Stmt := top 10
abbrev s_Fault_init : Stmt := inClass (top 26) 0
abbrev s_Token_init : Stmt := inClass (top 27) 0
abbrev s_bytes_of : Stmt := top 28
abbrev s_is_letter : Stmt := top 29
abbrev s_is_digit : Stmt := top 30
abbrev s_is_either : Stmt := top 31
abbrev s_run_of : Stmt := top 32
abbrev s_number_of : Stmt := top 33
abbrev s_is_number : Stmt := top 34
abbrev s_name_at : Stmt := top 35
abbrev s_token_at : Stmt := top 36
abbrev s_behind_remark : Stmt := top 37
abbrev s_tokens_of : Stmt := top 38
abbrev s_Table_init : Stmt := inClass (top 54) 0
abbrev s_Reader_init : Stmt := inClass (top 55) 0
abbrev s_Reader_token : Stmt := inClass (top 55) 1
abbrev s_Reader_refuse : Stmt := inClass (top 55) 2
abbrev s_Reader_stands : Stmt := inClass (top 55) 3
abbrev s_Reader_may_be : Stmt := inClass (top 55) 4
abbrev s_Reader_must_be : Stmt := inClass (top 55) 5
abbrev s_Reader_ask_name : Stmt := inClass (top 55) 6
abbrev s_Reader_read_number : Stmt := inClass (top 55) 7
abbrev s_Reader_read_column : Stmt := inClass (top 55) 8
abbrev s_Reader_read_columns : Stmt := inClass (top 55) 9
abbrev s_Reader_read_row : Stmt := inClass (top 55) 10
abbrev s_Reader_read_asked : Stmt := inClass (top 55) 11
abbrev s_Reader_read_question : Stmt := inClass (top 55) 12
abbrev s_Reader_read_table : Stmt := inClass (top 55) 13
abbrev s_table_of : Stmt := top 56
abbrev s_form_of : Stmt := top 57
abbrev s_with_commas : Stmt := top 58
abbrev s_Refused_init : Stmt := inClass (top 67) 0
abbrev s_Desk_init : Stmt := inClass (top 68) 0
abbrev s_Desk_set_table : Stmt := inClass (top 68) 1
abbrev s_Desk_set_kept : Stmt := inClass (top 68) 2
abbrev s_ask : Stmt := top 69
abbrev s_load : Stmt := top 70
abbrev s_told : Stmt := top 71
abbrev s_ask_grouping : Stmt := top 72
abbrev s_group : Stmt := top 73
abbrev s_roll : Stmt := top 74
abbrev s_sizes : Stmt := top 75
abbrev s_keep : Stmt := top 76
abbrev s_ask_question : Stmt := top 77
abbrev s_cost : Stmt := top 78
abbrev s_answer : Stmt := top 79
abbrev s_total : Stmt := top 80
abbrev s_gain : Stmt := top 81
abbrev s_listed : Stmt := top 82
abbrev s_of_table : Stmt := top 83
abbrev s_answered : Stmt := top 84
abbrev s_row_at : Stmt := top 85
abbrev s_answers : Stmt := top 86
/-! the names of each def: parameters first, then what it stores, its comprehensions' names among them -/
abbrev N_columns_in : List Str := ["grouping", "many", "at"]
abbrev N_put_together : List Str := ["lines", "sums", "numbers", "much", "rows", "before"]
abbrev N_answer_of : List Str := ["table", "grouping", "columns", "at", "row", "much"]
abbrev N_can_work_out : List Str := ["other", "grouping"]
abbrev N_rolled : List Str := ["lines", "other", "grouping", "many", "columns", "places", "at", "numbers", "much", "rows"]
abbrev N_size_of : List Str := ["table", "grouping"]
abbrev N_reads : List Str := ["table", "kept", "grouping", "some", "own", "size"]
abbrev N_cost_of : List Str := ["table", "kept", "grouping", "times"]
abbrev N_worked_out : List Str := ["table", "kept", "grouping", "own", "size"]
abbrev N_lines_kept : List Str := ["table", "kept", "own"]
abbrev N_Fault_init : List Str := ["self", "code", "place"]
abbrev N_Token_init : List Str := ["self", "kind", "word", "place"]
abbrev N_bytes_of : List Str := ["signs", "sign"]
abbrev N_is_letter : List Str := ["byte"]
abbrev N_is_digit : List Str := ["byte"]
abbrev N_is_either : List Str := ["byte"]
abbrev N_run_of : List Str := ["text", "at", "is_one", "end"]
abbrev N_number_of : List Str := ["word", "found", "byte"]
abbrev N_is_number : List Str := ["word"]
abbrev N_name_at : List Str := ["text", "at", "word", "kept"]
abbrev N_token_at : List Str := ["text", "at", "word"]
abbrev N_behind_remark : List Str := ["text", "at"]
abbrev N_tokens_of : List Str := ["text", "found", "at"]
abbrev N_Table_init : List Str := ["self"]
abbrev N_Reader_init : List Str := ["self", "text"]
abbrev N_Reader_token : List Str := ["self"]
abbrev N_Reader_refuse : List Str := ["self", "code"]
abbrev N_Reader_stands : List Str := ["self", "signs"]
abbrev N_Reader_may_be : List Str := ["self", "signs"]
abbrev N_Reader_must_be : List Str := ["self", "signs"]
abbrev N_Reader_ask_name : List Str := ["self"]
abbrev N_Reader_read_number : List Str := ["self", "least", "most", "found"]
abbrev N_Reader_read_column : List Str := ["self"]
abbrev N_Reader_read_columns : List Str := ["self"]
abbrev N_Reader_read_row : List Str := ["self", "found", "sign"]
abbrev N_Reader_read_asked : List Str := ["self", "some", "bit"]
abbrev N_Reader_read_question : List Str := ["self", "grouping", "times"]
abbrev N_Reader_read_table : List Str := ["self"]
abbrev N_table_of : List Str := ["text", "reader"]
abbrev N_form_of : List Str := ["table", "found", "row", "much", "some", "value", "grouping", "times", "at", "name"]
abbrev N_with_commas : List Str := ["some", "found", "at", "word"]
abbrev N_Refused_init : List Str := ["self", "code"]
abbrev N_Desk_init : List Str := ["self"]
abbrev N_Desk_set_table : List Str := ["self", "table"]
abbrev N_Desk_set_kept : List Str := ["self", "kept"]
abbrev N_ask : List Str := ["good", "code"]
abbrev N_load : List Str := ["desk", "text", "table", "e"]
abbrev N_told : List Str := ["lines", "found", "numbers", "much", "rows"]
abbrev N_ask_grouping : List Str := ["table", "grouping"]
abbrev N_group : List Str := ["table", "grouping"]
abbrev N_roll : List Str := ["table", "other", "grouping"]
abbrev N_sizes : List Str := ["table", "own"]
abbrev N_keep : List Str := ["desk", "row", "grouping", "kept"]
abbrev N_ask_question : List Str := ["table", "number"]
abbrev N_cost : List Str := ["desk", "number", "grouping", "times", "own", "size"]
abbrev N_answer : List Str := ["desk", "number"]
abbrev N_total : List Str := ["desk", "table"]
abbrev N_gain : List Str := ["desk", "grouping", "more"]
abbrev N_listed : List Str := ["some"]
abbrev N_of_table : List Str := ["desk", "what", "some", "row"]
abbrev N_answered : List Str := ["desk", "what", "some", "row", "e"]
abbrev N_row_at : List Str := ["calls", "what", "at", "end"]
abbrev N_answers : List Str := ["calls", "desk", "found", "at", "what", "end", "some", "row", "told_here"]
/-! ### facts -/
def oexB (K : PySem.W.Frag) (C : Addr) : Bool := match K.lookup C with
  | some o => (match o.data with
    | .cls cd => decide (o.cls = .type "type") && (decide (cd.mro = .ref C :: cd.mro.tail) && (PySem.HandSPX.refsVE cd.mro.tail && (cd.hasDict && (!cd.hasDel && (decide (o.slots.size = 6) && decide (o.slots.toList[4]? = some (some (.builtin "ValueError.__new__"))))))))
    | _ => false)
  | none => false
theorem six {l : List (Option Value)} (h : l.length = 6) {v : Option Value} (e : l[4]? = some v) : ∃ a b c d f, l = [a, b, c, d, v, f] := by
  match l, h with
  | [a, b, c, d, g, f], _ =>
    have : g = v := Option.some.inj e
    subst this
    exact ⟨a, b, c, d, f, rfl⟩
def oexA (K : PySem.W.Frag) (C : Addr) : Bool := oexB K C && (decide (PySem.W.findIn K (.ref C) "__setattr__" = some (some (.builtin "object.__setattr__"))) && (decide (PySem.W.subIn K (.ref C) (.type "BaseException") = some true) && (decide (PySem.W.typeIn K (.ref C) = some (.type "type")) && PySem.W.keepIn K (.ref C))))
theorem oexB_ok {K : PySem.W.Frag} {C : Addr} (h : oexA K C = true) : OexC K C := by
  unfold oexA at h
  simp only [Bool.and_eq_true, decide_eq_true_eq] at h
  obtain ⟨h, h1, h2, h3, h4⟩ := h
  unfold oexB at h
  cases e : K.lookup C with
  | none => rw [e] at h; cases h
  | some o =>
    rw [e] at h
    obtain ⟨oc, od, dt, sl⟩ := o
    cases dt with
    | cls cd =>
      simp only [Bool.and_eq_true, decide_eq_true_eq, Bool.not_eq_true'] at h
      obtain ⟨a1, a2, a3, a4, a5, a6, a7⟩ := h
      obtain ⟨c1, c2, c3, c4, c5, c6, c7, c8, c9, c10, c11⟩ := cd
      simp only at a1 a2 a3 a4 a5 a6 a7
      subst a1 a4 a5
      obtain ⟨b0, b1, b2, b3, b5, eb⟩ := six (l := sl.toList) (by simpa using a6) a7
      have es : sl = #[b0, b1, b2, b3, some (.builtin "ValueError.__new__"), b5] := by
        apply Array.ext'
        rw [eb]
      subst es
      rw [a2] at e
      refine ⟨⟨_, _, _, _, _, _, _, _, _, _, _, _, _, _, _, e, a3⟩, h1, h2, h3, h4⟩
    | _ => cases h
def tupB (K : PySem.W.Frag) (a : Addr) (vs : List V) : Bool := match K.lookup a with
  | some o => (match o.data with
    | .seq its _ => decide (o.cls = .type "tuple") && (decide (its.size ≤ 1000) && He.relAll vs its.toList)
    | _ => false)
  | none => false
theorem small_line {n : Nat} (h : n ≤ 1000) : n ≤ sizeLine := Nat.le_of_lt (small1000 h)
theorem tupB_ok {K : PySem.W.Frag} {a : Addr} {vs : List V} {H : Hp} (h : tupB K a vs = true) : SqT K H a vs := by
  unfold tupB at h
  cases e : K.lookup a with
  | none => rw [e] at h; cases h
  | some o =>
    rw [e] at h
    obtain ⟨oc, od, dt, sl⟩ := o
    cases dt with
    | seq its n =>
      simp only [Bool.and_eq_true, decide_eq_true_eq] at h
      obtain ⟨h1, h2, h3⟩ := h
      exact .inr ⟨_, its, n, e, h1, rfl, small_line h2, He.relAll_ok h3⟩
    | _ => cases h
theorem int_c {K : PySem.W.Frag} {h : Heap} {mg : Str → Option Value} (X : K.In h) (G : h.Ns mainGlobals mg) {x : Str} {i : Int} (c : (He.Fa.int x i).ok K = true) : ∃ u, mg x = some u ∧ RelV (.int i) u := by
  obtain ⟨t, e⟩ := He.int_ok X G c
  exact ⟨_, e, _, rfl⟩
theorem str_c {K : PySem.W.Frag} {h : Heap} {mg : Str → Option Value} (X : K.In h) (G : h.Ns mainGlobals mg) {x z : Str} (c : (He.Fa.str x z).ok K = true) : ∃ u, mg x = some u ∧ RelV (.str z) u := by
  obtain ⟨t, e⟩ := He.str_ok X G c
  exact ⟨_, e, _, rfl⟩
def kfa : List He.Fa := [.free "range",
  .free "len",
  .free "tuple",
  .free "list",
  .free "sorted",
  .free "min",
  .free "sum",
  .free "ord",
  .free "str",
  .free "enumerate",
  .int "TAB" (9),
  .int "FEED" (10),
  .int "BLANK" (32),
  .int "REMARK" (35),
  .int "MOST_NAME" (16),
  .int "MOST_NUMBER" (1000000000),
  .int "NO_TOKEN" (2),
  .int "MOST_TEXT" (4096),
  .int "MOST_COLUMNS" (4),
  .int "MOST_ROWS" (16),
  .int "MOST_QUESTIONS" (8),
  .int "MOST_VALUE" (9),
  .int "MOST_SUM" (1000),
  .int "MOST_TIMES" (99),
  .int "LONG" (1),
  .int "NO_PLACE" (3),
  .int "MANY" (4),
  .int "OLD_COLUMN" (5),
  .int "TWICE" (6),
  .int "GREAT" (7),
  .int "NO_COLUMN" (8),
  .int "NO_TABLE" (-1),
  .int "NO_GROUPING" (-2),
  .int "NO_QUESTION" (-3),
  .int "NO_WAY" (-5),
  .int "OF_TABLE" (-1),
  .str "SIGNS" ",:;-",
  .str "NAME" "name",
  .str "WORD" "word",
  .str "NUMBER" "number",
  .str "SIGN" "sign",
  .str "END" "end",
  .glo "Token",
  .glo "Table",
  .glo "Reader",
  .glo "Desk",
  .glo "Fault",
  .glo "Refused",
  .glo "KEPT",
  .glo "NUMBERS",
  .glo "WITH_ROW",
  .cls "Token",
  .noat "Token" "kind",
  .noat "Token" "word",
  .noat "Token" "place",
  .mkr "Token",
  .cls "Table",
  .noat "Table" "columns",
  .noat "Table" "rows",
  .noat "Table" "questions",
  .mkr "Table",
  .cls "Reader",
  .noat "Reader" "tokens",
  .noat "Reader" "at",
  .noat "Reader" "table",
  .mkr "Reader",
  .cls "Desk",
  .noat "Desk" "table",
  .noat "Desk" "kept",
  .mkr "Desk",
  .noat "Fault" "code",
  .noat "Fault" "place",
  .exm "Fault" "Fault" true,
  .noat "Refused" "code",
  .exm "Refused" "Refused" true,
  .glo "columns_in",
  .keep "columns_in",
  .glo "put_together",
  .keep "put_together",
  .glo "answer_of",
  .keep "answer_of",
  .glo "can_work_out",
  .keep "can_work_out",
  .glo "rolled",
  .keep "rolled",
  .glo "size_of",
  .keep "size_of",
  .glo "reads",
  .keep "reads",
  .glo "cost_of",
  .keep "cost_of",
  .glo "worked_out",
  .keep "worked_out",
  .glo "lines_kept",
  .keep "lines_kept",
  .glo "bytes_of",
  .keep "bytes_of",
  .glo "is_letter",
  .keep "is_letter",
  .glo "is_digit",
  .keep "is_digit",
  .glo "is_either",
  .keep "is_either",
  .glo "run_of",
  .keep "run_of",
  .glo "number_of",
  .keep "number_of",
  .glo "is_number",
  .keep "is_number",
  .glo "name_at",
  .keep "name_at",
  .glo "token_at",
  .keep "token_at",
  .glo "behind_remark",
  .keep "behind_remark",
  .glo "tokens_of",
  .keep "tokens_of",
  .meth "Reader" "token",
  .meth "Reader" "refuse",
  .meth "Reader" "stands",
  .meth "Reader" "may_be",
  .meth "Reader" "must_be",
  .meth "Reader" "ask_name",
  .meth "Reader" "read_number",
  .meth "Reader" "read_column",
  .meth "Reader" "read_columns",
  .meth "Reader" "read_row",
  .meth "Reader" "read_asked",
  .meth "Reader" "read_question",
  .meth "Reader" "read_table",
  .glo "table_of",
  .keep "table_of",
  .glo "form_of",
  .keep "form_of",
  .glo "with_commas",
  .keep "with_commas",
  .meth "Desk" "set_table",
  .meth "Desk" "set_kept",
  .glo "ask",
  .keep "ask",
  .glo "load",
  .keep "load",
  .glo "told",
  .keep "told",
  .glo "ask_grouping",
  .keep "ask_grouping",
  .glo "group",
  .keep "group",
  .glo "roll",
  .keep "roll",
  .glo "sizes",
  .keep "sizes",
  .glo "keep",
  .keep "keep",
  .glo "ask_question",
  .keep "ask_question",
  .glo "cost",
  .keep "cost",
  .glo "answer",
  .keep "answer",
  .glo "total",
  .keep "total",
  .glo "gain",
  .keep "gain",
  .glo "listed",
  .keep "listed",
  .glo "of_table",
  .keep "of_table",
  .glo "answered",
  .keep "answered",
  .glo "row_at",
  .keep "row_at",
  .glo "answers",
  .keep "answers"]
def kfn : List He.FnD := [⟨("columns_in", none), "columns_in", "columns_in", defArgs s_columns_in, defBody s_columns_in, defScope s_columns_in⟩,
  ⟨("put_together", none), "put_together", "put_together", defArgs s_put_together, defBody s_put_together, defScope s_put_together⟩,
  ⟨("answer_of", none), "answer_of", "answer_of", defArgs s_answer_of, defBody s_answer_of, defScope s_answer_of⟩,
  ⟨("can_work_out", none), "can_work_out", "can_work_out", defArgs s_can_work_out, defBody s_can_work_out, defScope s_can_work_out⟩,
  ⟨("rolled", none), "rolled", "rolled", defArgs s_rolled, defBody s_rolled, defScope s_rolled⟩,
  ⟨("size_of", none), "size_of", "size_of", defArgs s_size_of, defBody s_size_of, defScope s_size_of⟩,
  ⟨("reads", none), "reads", "reads", defArgs s_reads, defBody s_reads, defScope s_reads⟩,
  ⟨("cost_of", none), "cost_of", "cost_of", defArgs s_cost_of, defBody s_cost_of, defScope s_cost_of⟩,
  ⟨("worked_out", none), "worked_out", "worked_out", defArgs s_worked_out, defBody s_worked_out, defScope s_worked_out⟩,
  ⟨("lines_kept", none), "lines_kept", "lines_kept", defArgs s_lines_kept, defBody s_lines_kept, defScope s_lines_kept⟩,
  ⟨("Fault", some "__init__"), "__init__", "Fault.__init__", defArgs s_Fault_init, defBody s_Fault_init, defScope s_Fault_init⟩,
  ⟨("Token", some "__init__"), "__init__", "Token.__init__", defArgs s_Token_init, defBody s_Token_init, defScope s_Token_init⟩,
  ⟨("bytes_of", none), "bytes_of", "bytes_of", defArgs s_bytes_of, defBody s_bytes_of, defScope s_bytes_of⟩,
  ⟨("is_letter", none), "is_letter", "is_letter", defArgs s_is_letter, defBody s_is_letter, defScope s_is_letter⟩,
  ⟨("is_digit", none), "is_digit", "is_digit", defArgs s_is_digit, defBody s_is_digit, defScope s_is_digit⟩,
  ⟨("is_either", none), "is_either", "is_either", defArgs s_is_either, defBody s_is_either, defScope s_is_either⟩,
  ⟨("run_of", none), "run_of", "run_of", defArgs s_run_of, defBody s_run_of, defScope s_run_of⟩,
  ⟨("number_of", none), "number_of", "number_of", defArgs s_number_of, defBody s_number_of, defScope s_number_of⟩,
  ⟨("is_number", none), "is_number", "is_number", defArgs s_is_number, defBody s_is_number, defScope s_is_number⟩,
  ⟨("name_at", none), "name_at", "name_at", defArgs s_name_at, defBody s_name_at, defScope s_name_at⟩,
  ⟨("token_at", none), "token_at", "token_at", defArgs s_token_at, defBody s_token_at, defScope s_token_at⟩,
  ⟨("behind_remark", none), "behind_remark", "behind_remark", defArgs s_behind_remark, defBody s_behind_remark, defScope s_behind_remark⟩,
  ⟨("tokens_of", none), "tokens_of", "tokens_of", defArgs s_tokens_of, defBody s_tokens_of, defScope s_tokens_of⟩,
  ⟨("Table", some "__init__"), "__init__", "Table.__init__", defArgs s_Table_init, defBody s_Table_init, defScope s_Table_init⟩,
  ⟨("Reader", some "__init__"), "__init__", "Reader.__init__", defArgs s_Reader_init, defBody s_Reader_init, defScope s_Reader_init⟩,
  ⟨("Reader", some "token"), "token", "Reader.token", defArgs s_Reader_token, defBody s_Reader_token, defScope s_Reader_token⟩,
  ⟨("Reader", some "refuse"), "refuse", "Reader.refuse", defArgs s_Reader_refuse, defBody s_Reader_refuse, defScope s_Reader_refuse⟩,
  ⟨("Reader", some "stands"), "stands", "Reader.stands", defArgs s_Reader_stands, defBody s_Reader_stands, defScope s_Reader_stands⟩,
  ⟨("Reader", some "may_be"), "may_be", "Reader.may_be", defArgs s_Reader_may_be, defBody s_Reader_may_be, defScope s_Reader_may_be⟩,
  ⟨("Reader", some "must_be"), "must_be", "Reader.must_be", defArgs s_Reader_must_be, defBody s_Reader_must_be, defScope s_Reader_must_be⟩,
  ⟨("Reader", some "ask_name"), "ask_name", "Reader.ask_name", defArgs s_Reader_ask_name, defBody s_Reader_ask_name, defScope s_Reader_ask_name⟩,
  ⟨("Reader", some "read_number"), "read_number", "Reader.read_number", defArgs s_Reader_read_number, defBody s_Reader_read_number, defScope s_Reader_read_number⟩,
  ⟨("Reader", some "read_column"), "read_column", "Reader.read_column", defArgs s_Reader_read_column, defBody s_Reader_read_column, defScope s_Reader_read_column⟩,
  ⟨("Reader", some "read_columns"), "read_columns", "Reader.read_columns", defArgs s_Reader_read_columns, defBody s_Reader_read_columns, defScope s_Reader_read_columns⟩,
  ⟨("Reader", some "read_row"), "read_row", "Reader.read_row", defArgs s_Reader_read_row, defBody s_Reader_read_row, defScope s_Reader_read_row⟩,
  ⟨("Reader", some "read_asked"), "read_asked", "Reader.read_asked", defArgs s_Reader_read_asked, defBody s_Reader_read_asked, defScope s_Reader_read_asked⟩,
  ⟨("Reader", some "read_question"), "read_question", "Reader.read_question", defArgs s_Reader_read_question, defBody s_Reader_read_question, defScope s_Reader_read_question⟩,
  ⟨("Reader", some "read_table"), "read_table", "Reader.read_table", defArgs s_Reader_read_table, defBody s_Reader_read_table, defScope s_Reader_read_table⟩,
  ⟨("table_of", none), "table_of", "table_of", defArgs s_table_of, defBody s_table_of, defScope s_table_of⟩,
  ⟨("form_of", none), "form_of", "form_of", defArgs s_form_of, defBody s_form_of, defScope s_form_of⟩,
  ⟨("with_commas", none), "with_commas", "with_commas", defArgs s_with_commas, defBody s_with_commas, defScope s_with_commas⟩,
  ⟨("Refused", some "__init__"), "__init__", "Refused.__init__", defArgs s_Refused_init, defBody s_Refused_init, defScope s_Refused_init⟩,
  ⟨("Desk", some "__init__"), "__init__", "Desk.__init__", defArgs s_Desk_init, defBody s_Desk_init, defScope s_Desk_init⟩,
  ⟨("Desk", some "set_table"), "set_table", "Desk.set_table", defArgs s_Desk_set_table, defBody s_Desk_set_table, defScope s_Desk_set_table⟩,
  ⟨("Desk", some "set_kept"), "set_kept", "Desk.set_kept", defArgs s_Desk_set_kept, defBody s_Desk_set_kept, defScope s_Desk_set_kept⟩,
  ⟨("ask", none), "ask", "ask", defArgs s_ask, defBody s_ask, defScope s_ask⟩,
  ⟨("load", none), "load", "load", defArgs s_load, defBody s_load, defScope s_load⟩,
  ⟨("told", none), "told", "told", defArgs s_told, defBody s_told, defScope s_told⟩,
  ⟨("ask_grouping", none), "ask_grouping", "ask_grouping", defArgs s_ask_grouping, defBody s_ask_grouping, defScope s_ask_grouping⟩,
  ⟨("group", none), "group", "group", defArgs s_group, defBody s_group, defScope s_group⟩,
  ⟨("roll", none), "roll", "roll", defArgs s_roll, defBody s_roll, defScope s_roll⟩,
  ⟨("sizes", none), "sizes", "sizes", defArgs s_sizes, defBody s_sizes, defScope s_sizes⟩,
  ⟨("keep", none), "keep", "keep", defArgs s_keep, defBody s_keep, defScope s_keep⟩,
  ⟨("ask_question", none), "ask_question", "ask_question", defArgs s_ask_question, defBody s_ask_question, defScope s_ask_question⟩,
  ⟨("cost", none), "cost", "cost", defArgs s_cost, defBody s_cost, defScope s_cost⟩,
  ⟨("answer", none), "answer", "answer", defArgs s_answer, defBody s_answer, defScope s_answer⟩,
  ⟨("total", none), "total", "total", defArgs s_total, defBody s_total, defScope s_total⟩,
  ⟨("gain", none), "gain", "gain", defArgs s_gain, defBody s_gain, defScope s_gain⟩,
  ⟨("listed", none), "listed", "listed", defArgs s_listed, defBody s_listed, defScope s_listed⟩,
  ⟨("of_table", none), "of_table", "of_table", defArgs s_of_table, defBody s_of_table, defScope s_of_table⟩,
  ⟨("answered", none), "answered", "answered", defArgs s_answered, defBody s_answered, defScope s_answered⟩,
  ⟨("row_at", none), "row_at", "row_at", defArgs s_row_at, defBody s_row_at, defScope s_row_at⟩,
  ⟨("answers", none), "answers", "answers", defArgs s_answers, defBody s_answers, defScope s_answers⟩]
theorem fn_at {fa : List He.Fa} {fn : List He.FnD} {K : PySem.W.Frag} (c : He.SaysE fa fn K) (i : Nat) {d : He.FnD} (h : fn[i]? = some d) : He.fnObs K d.at_ = d.val ∧ (He.Fa.code d.at_ d.qual).ok K = true := by
  constructor
  · have c2 : fn.map (fun d => He.fnObs K d.at_) = fn.map He.FnD.val := congrArg (fun z : He.Al => z.2) c
    have c3 : (fn.map (fun d => He.fnObs K d.at_))[i]? = (fn.map He.FnD.val)[i]? := by rw [c2]
    rw [List.getElem?_map, List.getElem?_map, h] at c3
    exact Option.some.inj c3
  · have c1 := (He.ba (show ((fa.all fun f => f.ok K) && fn.all fun d => (He.Fa.code d.at_ d.qual).ok K) = true from congrArg (fun z : He.Al => z.1) c)).2
    exact List.all_eq_true.mp c1 d (List.mem_of_getElem? h)
theorem fun_of {K : PySem.W.Frag} (S : He.SaysE kfa kfn K) (i : Nat) {p : Str × Option Str} {x qual : Str} {st : Stmt} (kp : PySem.W.keepIn K (.ref (He.fAd K p)) = true) (h : kfn[i]? = some ⟨p, x, qual, defArgs st, defBody st, defScope st⟩ := by rfl) :
    ∃ fd, Fun K x qual st (He.fAd K p) fd := by
  obtain ⟨e, c⟩ := fn_at S i h
  obtain ⟨oc, od, osl, kV, doc, pm, an, cdv, ct, l, cd⟩ := He.fn_ok e c
  exact ⟨_, fun_mk l cd kp⟩
def moreB (K : PySem.W.Frag) : List Bool := [oexA K (He.ga K "Fault"),
  xfB K (He.ga K "Fault"),
  decide (PySem.W.findIn K (.ref (He.ga K "Fault")) "__init__" = some (some (.ref (He.ma K (He.ga K "Fault") "__init__")))),
  decide (PySem.W.typeIn K (.ref (He.ma K (He.ga K "Fault") "__init__")) = some (.type "function")),
  oexA K (He.ga K "Refused"),
  xfB K (He.ga K "Refused"),
  decide (PySem.W.findIn K (.ref (He.ga K "Refused")) "__init__" = some (some (.ref (He.ma K (He.ga K "Refused") "__init__")))),
  decide (PySem.W.typeIn K (.ref (He.ma K (He.ga K "Refused") "__init__")) = some (.type "function")),
  tupB K (He.ga K "KEPT") [.str "columns", .str "row", .str "ask", .str "times"],
  tupB K (He.ga K "NUMBERS") [.int 0, .int 0, .int 1, .int 2, .int 0, .int 0, .int 1, .int 1, .int 0, .int 1],
  tupB K (He.ga K "WITH_ROW") [.int 0, .int 5],
  PySem.W.keepIn K (.ref (He.ga K "columns_in")),
  PySem.W.keepIn K (.ref (He.ga K "put_together")),
  PySem.W.keepIn K (.ref (He.ga K "answer_of")),
  PySem.W.keepIn K (.ref (He.ga K "can_work_out")),
  PySem.W.keepIn K (.ref (He.ga K "rolled")),
  PySem.W.keepIn K (.ref (He.ga K "size_of")),
  PySem.W.keepIn K (.ref (He.ga K "reads")),
  PySem.W.keepIn K (.ref (He.ga K "cost_of")),
  PySem.W.keepIn K (.ref (He.ga K "worked_out")),
  PySem.W.keepIn K (.ref (He.ga K "lines_kept")),
  PySem.W.keepIn K (.ref (He.ma K (He.ga K "Fault") "__init__")),
  PySem.W.keepIn K (.ref (He.ma K (He.ga K "Token") "__init__")),
  PySem.W.keepIn K (.ref (He.ga K "bytes_of")),
  PySem.W.keepIn K (.ref (He.ga K "is_letter")),
  PySem.W.keepIn K (.ref (He.ga K "is_digit")),
  PySem.W.keepIn K (.ref (He.ga K "is_either")),
  PySem.W.keepIn K (.ref (He.ga K "run_of")),
  PySem.W.keepIn K (.ref (He.ga K "number_of")),
  PySem.W.keepIn K (.ref (He.ga K "is_number")),
  PySem.W.keepIn K (.ref (He.ga K "name_at")),
  PySem.W.keepIn K (.ref (He.ga K "token_at")),
  PySem.W.keepIn K (.ref (He.ga K "behind_remark")),
  PySem.W.keepIn K (.ref (He.ga K "tokens_of")),
  PySem.W.keepIn K (.ref (He.ma K (He.ga K "Table") "__init__")),
  PySem.W.keepIn K (.ref (He.ma K (He.ga K "Reader") "__init__")),
  PySem.W.keepIn K (.ref (He.ma K (He.ga K "Reader") "token")),
  PySem.W.keepIn K (.ref (He.ma K (He.ga K "Reader") "refuse")),
  PySem.W.keepIn K (.ref (He.ma K (He.ga K "Reader") "stands")),
  PySem.W.keepIn K (.ref (He.ma K (He.ga K "Reader") "may_be")),
  PySem.W.keepIn K (.ref (He.ma K (He.ga K "Reader") "must_be")),
  PySem.W.keepIn K (.ref (He.ma K (He.ga K "Reader") "ask_name")),
  PySem.W.keepIn K (.ref (He.ma K (He.ga K "Reader") "read_number")),
  PySem.W.keepIn K (.ref (He.ma K (He.ga K "Reader") "read_column")),
  PySem.W.keepIn K (.ref (He.ma K (He.ga K "Reader") "read_columns")),
  PySem.W.keepIn K (.ref (He.ma K (He.ga K "Reader") "read_row")),
  PySem.W.keepIn K (.ref (He.ma K (He.ga K "Reader") "read_asked")),
  PySem.W.keepIn K (.ref (He.ma K (He.ga K "Reader") "read_question")),
  PySem.W.keepIn K (.ref (He.ma K (He.ga K "Reader") "read_table")),
  PySem.W.keepIn K (.ref (He.ga K "table_of")),
  PySem.W.keepIn K (.ref (He.ga K "form_of")),
  PySem.W.keepIn K (.ref (He.ga K "with_commas")),
  PySem.W.keepIn K (.ref (He.ma K (He.ga K "Refused") "__init__")),
  PySem.W.keepIn K (.ref (He.ma K (He.ga K "Desk") "__init__")),
  PySem.W.keepIn K (.ref (He.ma K (He.ga K "Desk") "set_table")),
  PySem.W.keepIn K (.ref (He.ma K (He.ga K "Desk") "set_kept")),
  PySem.W.keepIn K (.ref (He.ga K "ask")),
  PySem.W.keepIn K (.ref (He.ga K "load")),
  PySem.W.keepIn K (.ref (He.ga K "told")),
  PySem.W.keepIn K (.ref (He.ga K "ask_grouping")),
  PySem.W.keepIn K (.ref (He.ga K "group")),
  PySem.W.keepIn K (.ref (He.ga K "roll")),
  PySem.W.keepIn K (.ref (He.ga K "sizes")),
  PySem.W.keepIn K (.ref (He.ga K "keep")),
  PySem.W.keepIn K (.ref (He.ga K "ask_question")),
  PySem.W.keepIn K (.ref (He.ga K "cost")),
  PySem.W.keepIn K (.ref (He.ga K "answer")),
  PySem.W.keepIn K (.ref (He.ga K "total")),
  PySem.W.keepIn K (.ref (He.ga K "gain")),
  PySem.W.keepIn K (.ref (He.ga K "listed")),
  PySem.W.keepIn K (.ref (He.ga K "of_table")),
  PySem.W.keepIn K (.ref (He.ga K "answered")),
  PySem.W.keepIn K (.ref (He.ga K "row_at")),
  PySem.W.keepIn K (.ref (He.ga K "answers"))]
structure More (K : PySem.W.Frag) : Prop where
  all : (moreB K).all id = true
theorem More.fact {K : PySem.W.Frag} (M : More K) (i : Nat) {b : Bool} (h : (moreB K)[i]? = some b := by rfl) : b = true := List.all_eq_true.mp M.all b (List.mem_of_getElem? h)
theorem more_Fault {K : PySem.W.Frag} (M : More K) : oexA K (He.ga K "Fault") = true := M.fact 0
theorem morex_Fault {K : PySem.W.Frag} (M : More K) : xfB K (He.ga K "Fault") = true := M.fact 1
theorem morei_Fault {K : PySem.W.Frag} (M : More K) : PySem.W.findIn K (.ref (He.ga K "Fault")) "__init__" = some (some (.ref (He.ma K (He.ga K "Fault") "__init__"))) := of_decide_eq_true (M.fact 2)
theorem moret_Fault {K : PySem.W.Frag} (M : More K) : PySem.W.typeIn K (.ref (He.ma K (He.ga K "Fault") "__init__")) = some (.type "function") := of_decide_eq_true (M.fact 3)
theorem more_Refused {K : PySem.W.Frag} (M : More K) : oexA K (He.ga K "Refused") = true := M.fact 4
theorem morex_Refused {K : PySem.W.Frag} (M : More K) : xfB K (He.ga K "Refused") = true := M.fact 5
theorem morei_Refused {K : PySem.W.Frag} (M : More K) : PySem.W.findIn K (.ref (He.ga K "Refused")) "__init__" = some (some (.ref (He.ma K (He.ga K "Refused") "__init__"))) := of_decide_eq_true (M.fact 6)
theorem moret_Refused {K : PySem.W.Frag} (M : More K) : PySem.W.typeIn K (.ref (He.ma K (He.ga K "Refused") "__init__")) = some (.type "function") := of_decide_eq_true (M.fact 7)
theorem moreT_KEPT {K : PySem.W.Frag} (M : More K) : tupB K (He.ga K "KEPT") [.str "columns", .str "row", .str "ask", .str "times"] = true := M.fact 8
theorem moreT_NUMBERS {K : PySem.W.Frag} (M : More K) : tupB K (He.ga K "NUMBERS") [.int 0, .int 0, .int 1, .int 2, .int 0, .int 0, .int 1, .int 1, .int 0, .int 1] = true := M.fact 9
theorem moreT_WITH_ROW {K : PySem.W.Frag} (M : More K) : tupB K (He.ga K "WITH_ROW") [.int 0, .int 5] = true := M.fact 10
theorem keep_columns_in {K : PySem.W.Frag} (M : More K) : PySem.W.keepIn K (.ref (He.ga K "columns_in")) = true := M.fact 11
theorem keep_put_together {K : PySem.W.Frag} (M : More K) : PySem.W.keepIn K (.ref (He.ga K "put_together")) = true := M.fact 12
theorem keep_answer_of {K : PySem.W.Frag} (M : More K) : PySem.W.keepIn K (.ref (He.ga K "answer_of")) = true := M.fact 13
theorem keep_can_work_out {K : PySem.W.Frag} (M : More K) : PySem.W.keepIn K (.ref (He.ga K "can_work_out")) = true := M.fact 14
theorem keep_rolled {K : PySem.W.Frag} (M : More K) : PySem.W.keepIn K (.ref (He.ga K "rolled")) = true := M.fact 15
theorem keep_size_of {K : PySem.W.Frag} (M : More K) : PySem.W.keepIn K (.ref (He.ga K "size_of")) = true := M.fact 16
theorem keep_reads {K : PySem.W.Frag} (M : More K) : PySem.W.keepIn K (.ref (He.ga K "reads")) = true := M.fact 17
theorem keep_cost_of {K : PySem.W.Frag} (M : More K) : PySem.W.keepIn K (.ref (He.ga K "cost_of")) = true := M.fact 18
theorem keep_worked_out {K : PySem.W.Frag} (M : More K) : PySem.W.keepIn K (.ref (He.ga K "worked_out")) = true := M.fact 19
theorem keep_lines_kept {K : PySem.W.Frag} (M : More K) : PySem.W.keepIn K (.ref (He.ga K "lines_kept")) = true := M.fact 20
theorem keep_Fault_init {K : PySem.W.Frag} (M : More K) : PySem.W.keepIn K (.ref (He.ma K (He.ga K "Fault") "__init__")) = true := M.fact 21
theorem keep_Token_init {K : PySem.W.Frag} (M : More K) : PySem.W.keepIn K (.ref (He.ma K (He.ga K "Token") "__init__")) = true := M.fact 22
theorem keep_bytes_of {K : PySem.W.Frag} (M : More K) : PySem.W.keepIn K (.ref (He.ga K "bytes_of")) = true := M.fact 23
theorem keep_is_letter {K : PySem.W.Frag} (M : More K) : PySem.W.keepIn K (.ref (He.ga K "is_letter")) = true := M.fact 24
theorem keep_is_digit {K : PySem.W.Frag} (M : More K) : PySem.W.keepIn K (.ref (He.ga K "is_digit")) = true := M.fact 25
theorem keep_is_either {K : PySem.W.Frag} (M : More K) : PySem.W.keepIn K (.ref (He.ga K "is_either")) = true := M.fact 26
theorem keep_run_of {K : PySem.W.Frag} (M : More K) : PySem.W.keepIn K (.ref (He.ga K "run_of")) = true := M.fact 27
theorem keep_number_of {K : PySem.W.Frag} (M : More K) : PySem.W.keepIn K (.ref (He.ga K "number_of")) = true := M.fact 28
theorem keep_is_number {K : PySem.W.Frag} (M : More K) : PySem.W.keepIn K (.ref (He.ga K "is_number")) = true := M.fact 29
theorem keep_name_at {K : PySem.W.Frag} (M : More K) : PySem.W.keepIn K (.ref (He.ga K "name_at")) = true := M.fact 30
theorem keep_token_at {K : PySem.W.Frag} (M : More K) : PySem.W.keepIn K (.ref (He.ga K "token_at")) = true := M.fact 31
theorem keep_behind_remark {K : PySem.W.Frag} (M : More K) : PySem.W.keepIn K (.ref (He.ga K "behind_remark")) = true := M.fact 32
theorem keep_tokens_of {K : PySem.W.Frag} (M : More K) : PySem.W.keepIn K (.ref (He.ga K "tokens_of")) = true := M.fact 33
theorem keep_Table_init {K : PySem.W.Frag} (M : More K) : PySem.W.keepIn K (.ref (He.ma K (He.ga K "Table") "__init__")) = true := M.fact 34
theorem keep_Reader_init {K : PySem.W.Frag} (M : More K) : PySem.W.keepIn K (.ref (He.ma K (He.ga K "Reader") "__init__")) = true := M.fact 35
theorem keep_Reader_token {K : PySem.W.Frag} (M : More K) : PySem.W.keepIn K (.ref (He.ma K (He.ga K "Reader") "token")) = true := M.fact 36
theorem keep_Reader_refuse {K : PySem.W.Frag} (M : More K) : PySem.W.keepIn K (.ref (He.ma K (He.ga K "Reader") "refuse")) = true := M.fact 37
theorem keep_Reader_stands {K : PySem.W.Frag} (M : More K) : PySem.W.keepIn K (.ref (He.ma K (He.ga K "Reader") "stands")) = true := M.fact 38
theorem keep_Reader_may_be {K : PySem.W.Frag} (M : More K) : PySem.W.keepIn K (.ref (He.ma K (He.ga K "Reader") "may_be")) = true := M.fact 39
theorem keep_Reader_must_be {K : PySem.W.Frag} (M : More K) : PySem.W.keepIn K (.ref (He.ma K (He.ga K "Reader") "must_be")) = true := M.fact 40
theorem keep_Reader_ask_name {K : PySem.W.Frag} (M : More K) : PySem.W.keepIn K (.ref (He.ma K (He.ga K "Reader") "ask_name")) = true := M.fact 41
theorem keep_Reader_read_number {K : PySem.W.Frag} (M : More K) : PySem.W.keepIn K (.ref (He.ma K (He.ga K "Reader") "read_number")) = true := M.fact 42
theorem keep_Reader_read_column {K : PySem.W.Frag} (M : More K) : PySem.W.keepIn K (.ref (He.ma K (He.ga K "Reader") "read_column")) = true := M.fact 43
theorem keep_Reader_read_columns {K : PySem.W.Frag} (M : More K) : PySem.W.keepIn K (.ref (He.ma K (He.ga K "Reader") "read_columns")) = true := M.fact 44
theorem keep_Reader_read_row {K : PySem.W.Frag} (M : More K) : PySem.W.keepIn K (.ref (He.ma K (He.ga K "Reader") "read_row")) = true := M.fact 45
theorem keep_Reader_read_asked {K : PySem.W.Frag} (M : More K) : PySem.W.keepIn K (.ref (He.ma K (He.ga K "Reader") "read_asked")) = true := M.fact 46
theorem keep_Reader_read_question {K : PySem.W.Frag} (M : More K) : PySem.W.keepIn K (.ref (He.ma K (He.ga K "Reader") "read_question")) = true := M.fact 47
theorem keep_Reader_read_table {K : PySem.W.Frag} (M : More K) : PySem.W.keepIn K (.ref (He.ma K (He.ga K "Reader") "read_table")) = true := M.fact 48
theorem keep_table_of {K : PySem.W.Frag} (M : More K) : PySem.W.keepIn K (.ref (He.ga K "table_of")) = true := M.fact 49
theorem keep_form_of {K : PySem.W.Frag} (M : More K) : PySem.W.keepIn K (.ref (He.ga K "form_of")) = true := M.fact 50
theorem keep_with_commas {K : PySem.W.Frag} (M : More K) : PySem.W.keepIn K (.ref (He.ga K "with_commas")) = true := M.fact 51
theorem keep_Refused_init {K : PySem.W.Frag} (M : More K) : PySem.W.keepIn K (.ref (He.ma K (He.ga K "Refused") "__init__")) = true := M.fact 52
theorem keep_Desk_init {K : PySem.W.Frag} (M : More K) : PySem.W.keepIn K (.ref (He.ma K (He.ga K "Desk") "__init__")) = true := M.fact 53
theorem keep_Desk_set_table {K : PySem.W.Frag} (M : More K) : PySem.W.keepIn K (.ref (He.ma K (He.ga K "Desk") "set_table")) = true := M.fact 54
theorem keep_Desk_set_kept {K : PySem.W.Frag} (M : More K) : PySem.W.keepIn K (.ref (He.ma K (He.ga K "Desk") "set_kept")) = true := M.fact 55
theorem keep_ask {K : PySem.W.Frag} (M : More K) : PySem.W.keepIn K (.ref (He.ga K "ask")) = true := M.fact 56
theorem keep_load {K : PySem.W.Frag} (M : More K) : PySem.W.keepIn K (.ref (He.ga K "load")) = true := M.fact 57
theorem keep_told {K : PySem.W.Frag} (M : More K) : PySem.W.keepIn K (.ref (He.ga K "told")) = true := M.fact 58
theorem keep_ask_grouping {K : PySem.W.Frag} (M : More K) : PySem.W.keepIn K (.ref (He.ga K "ask_grouping")) = true := M.fact 59
theorem keep_group {K : PySem.W.Frag} (M : More K) : PySem.W.keepIn K (.ref (He.ga K "group")) = true := M.fact 60
theorem keep_roll {K : PySem.W.Frag} (M : More K) : PySem.W.keepIn K (.ref (He.ga K "roll")) = true := M.fact 61
theorem keep_sizes {K : PySem.W.Frag} (M : More K) : PySem.W.keepIn K (.ref (He.ga K "sizes")) = true := M.fact 62
theorem keep_keep {K : PySem.W.Frag} (M : More K) : PySem.W.keepIn K (.ref (He.ga K "keep")) = true := M.fact 63
theorem keep_ask_question {K : PySem.W.Frag} (M : More K) : PySem.W.keepIn K (.ref (He.ga K "ask_question")) = true := M.fact 64
theorem keep_cost {K : PySem.W.Frag} (M : More K) : PySem.W.keepIn K (.ref (He.ga K "cost")) = true := M.fact 65
theorem keep_answer {K : PySem.W.Frag} (M : More K) : PySem.W.keepIn K (.ref (He.ga K "answer")) = true := M.fact 66
theorem keep_total {K : PySem.W.Frag} (M : More K) : PySem.W.keepIn K (.ref (He.ga K "total")) = true := M.fact 67
theorem keep_gain {K : PySem.W.Frag} (M : More K) : PySem.W.keepIn K (.ref (He.ga K "gain")) = true := M.fact 68
theorem keep_listed {K : PySem.W.Frag} (M : More K) : PySem.W.keepIn K (.ref (He.ga K "listed")) = true := M.fact 69
theorem keep_of_table {K : PySem.W.Frag} (M : More K) : PySem.W.keepIn K (.ref (He.ga K "of_table")) = true := M.fact 70
theorem keep_answered {K : PySem.W.Frag} (M : More K) : PySem.W.keepIn K (.ref (He.ga K "answered")) = true := M.fact 71
theorem keep_row_at {K : PySem.W.Frag} (M : More K) : PySem.W.keepIn K (.ref (He.ga K "row_at")) = true := M.fact 72
theorem keep_answers {K : PySem.W.Frag} (M : More K) : PySem.W.keepIn K (.ref (He.ga K "answers")) = true := M.fact 73
structure Txt (K : PySem.W.Frag) (mg : Str → Option Value) : Prop where
  f_range : mg "range" = none
  f_len : mg "len" = none
  f_tuple : mg "tuple" = none
  f_list : mg "list" = none
  f_sorted : mg "sorted" = none
  f_min : mg "min" = none
  f_sum : mg "sum" = none
  f_ord : mg "ord" = none
  f_str : mg "str" = none
  f_enumerate : mg "enumerate" = none
  c_TAB : ∃ u, mg "TAB" = some u ∧ RelV (.int (9)) u
  c_FEED : ∃ u, mg "FEED" = some u ∧ RelV (.int (10)) u
  c_BLANK : ∃ u, mg "BLANK" = some u ∧ RelV (.int (32)) u
  c_REMARK : ∃ u, mg "REMARK" = some u ∧ RelV (.int (35)) u
  c_MOST_NAME : ∃ u, mg "MOST_NAME" = some u ∧ RelV (.int (16)) u
  c_MOST_NUMBER : ∃ u, mg "MOST_NUMBER" = some u ∧ RelV (.int (1000000000)) u
  c_NO_TOKEN : ∃ u, mg "NO_TOKEN" = some u ∧ RelV (.int (2)) u
  c_MOST_TEXT : ∃ u, mg "MOST_TEXT" = some u ∧ RelV (.int (4096)) u
  c_MOST_COLUMNS : ∃ u, mg "MOST_COLUMNS" = some u ∧ RelV (.int (4)) u
  c_MOST_ROWS : ∃ u, mg "MOST_ROWS" = some u ∧ RelV (.int (16)) u
  c_MOST_QUESTIONS : ∃ u, mg "MOST_QUESTIONS" = some u ∧ RelV (.int (8)) u
  c_MOST_VALUE : ∃ u, mg "MOST_VALUE" = some u ∧ RelV (.int (9)) u
  c_MOST_SUM : ∃ u, mg "MOST_SUM" = some u ∧ RelV (.int (1000)) u
  c_MOST_TIMES : ∃ u, mg "MOST_TIMES" = some u ∧ RelV (.int (99)) u
  c_LONG : ∃ u, mg "LONG" = some u ∧ RelV (.int (1)) u
  c_NO_PLACE : ∃ u, mg "NO_PLACE" = some u ∧ RelV (.int (3)) u
  c_MANY : ∃ u, mg "MANY" = some u ∧ RelV (.int (4)) u
  c_OLD_COLUMN : ∃ u, mg "OLD_COLUMN" = some u ∧ RelV (.int (5)) u
  c_TWICE : ∃ u, mg "TWICE" = some u ∧ RelV (.int (6)) u
  c_GREAT : ∃ u, mg "GREAT" = some u ∧ RelV (.int (7)) u
  c_NO_COLUMN : ∃ u, mg "NO_COLUMN" = some u ∧ RelV (.int (8)) u
  c_NO_TABLE : ∃ u, mg "NO_TABLE" = some u ∧ RelV (.int (-1)) u
  c_NO_GROUPING : ∃ u, mg "NO_GROUPING" = some u ∧ RelV (.int (-2)) u
  c_NO_QUESTION : ∃ u, mg "NO_QUESTION" = some u ∧ RelV (.int (-3)) u
  c_NO_WAY : ∃ u, mg "NO_WAY" = some u ∧ RelV (.int (-5)) u
  c_OF_TABLE : ∃ u, mg "OF_TABLE" = some u ∧ RelV (.int (-1)) u
  c_SIGNS : ∃ u, mg "SIGNS" = some u ∧ RelV (.str ",:;-") u
  c_NAME : ∃ u, mg "NAME" = some u ∧ RelV (.str "name") u
  c_WORD : ∃ u, mg "WORD" = some u ∧ RelV (.str "word") u
  c_NUMBER : ∃ u, mg "NUMBER" = some u ∧ RelV (.str "number") u
  c_SIGN : ∃ u, mg "SIGN" = some u ∧ RelV (.str "sign") u
  c_END : ∃ u, mg "END" = some u ∧ RelV (.str "end") u
  g_Token : mg "Token" = some (.ref (He.ga K "Token"))
  g_Table : mg "Table" = some (.ref (He.ga K "Table"))
  g_Reader : mg "Reader" = some (.ref (He.ga K "Reader"))
  g_Desk : mg "Desk" = some (.ref (He.ga K "Desk"))
  g_Fault : mg "Fault" = some (.ref (He.ga K "Fault"))
  g_Refused : mg "Refused" = some (.ref (He.ga K "Refused"))
  g_KEPT : mg "KEPT" = some (.ref (He.ga K "KEPT"))
  g_NUMBERS : mg "NUMBERS" = some (.ref (He.ga K "NUMBERS"))
  g_WITH_ROW : mg "WITH_ROW" = some (.ref (He.ga K "WITH_ROW"))
  cl_Token : Cls K (He.ga K "Token")
  n_Token_kind : NoAttr K (He.ga K "Token") "kind"
  n_Token_word : NoAttr K (He.ga K "Token") "word"
  n_Token_place : NoAttr K (He.ga K "Token") "place"
  mk_Token : Mk K (He.ga K "Token") (He.ma K (He.ga K "Token") "__init__")
  cl_Table : Cls K (He.ga K "Table")
  n_Table_columns : NoAttr K (He.ga K "Table") "columns"
  n_Table_rows : NoAttr K (He.ga K "Table") "rows"
  n_Table_questions : NoAttr K (He.ga K "Table") "questions"
  mk_Table : Mk K (He.ga K "Table") (He.ma K (He.ga K "Table") "__init__")
  cl_Reader : Cls K (He.ga K "Reader")
  n_Reader_tokens : NoAttr K (He.ga K "Reader") "tokens"
  n_Reader_at : NoAttr K (He.ga K "Reader") "at"
  n_Reader_table : NoAttr K (He.ga K "Reader") "table"
  mk_Reader : Mk K (He.ga K "Reader") (He.ma K (He.ga K "Reader") "__init__")
  cl_Desk : Cls K (He.ga K "Desk")
  n_Desk_table : NoAttr K (He.ga K "Desk") "table"
  n_Desk_kept : NoAttr K (He.ga K "Desk") "kept"
  mk_Desk : Mk K (He.ga K "Desk") (He.ma K (He.ga K "Desk") "__init__")
  n_Fault_code : PySem.W.findIn K (.ref (He.ga K "Fault")) "code" = some none
  n_Fault_place : PySem.W.findIn K (.ref (He.ga K "Fault")) "place" = some none
  em_Fault : PySem.W.exmOne K (.ref (He.ga K "Fault")) (.ref (He.ga K "Fault")) = some true
  ox_Fault : OexC K (He.ga K "Fault")
  xf_Fault : XfC K (He.ga K "Fault")
  i_Fault : PySem.W.findIn K (.ref (He.ga K "Fault")) "__init__" = some (some (.ref (He.ma K (He.ga K "Fault") "__init__")))
  t_Fault : PySem.W.typeIn K (.ref (He.ma K (He.ga K "Fault") "__init__")) = some (.type "function")
  n_Refused_code : PySem.W.findIn K (.ref (He.ga K "Refused")) "code" = some none
  em_Refused : PySem.W.exmOne K (.ref (He.ga K "Refused")) (.ref (He.ga K "Refused")) = some true
  ox_Refused : OexC K (He.ga K "Refused")
  xf_Refused : XfC K (He.ga K "Refused")
  i_Refused : PySem.W.findIn K (.ref (He.ga K "Refused")) "__init__" = some (some (.ref (He.ma K (He.ga K "Refused") "__init__")))
  t_Refused : PySem.W.typeIn K (.ref (He.ma K (He.ga K "Refused") "__init__")) = some (.type "function")
  g_columns_in : mg "columns_in" = some (.ref (He.ga K "columns_in"))
  k_columns_in : PySem.W.keepIn K (.ref (He.ga K "columns_in")) = true
  g_put_together : mg "put_together" = some (.ref (He.ga K "put_together"))
  k_put_together : PySem.W.keepIn K (.ref (He.ga K "put_together")) = true
  g_answer_of : mg "answer_of" = some (.ref (He.ga K "answer_of"))
  k_answer_of : PySem.W.keepIn K (.ref (He.ga K "answer_of")) = true
  g_can_work_out : mg "can_work_out" = some (.ref (He.ga K "can_work_out"))
  k_can_work_out : PySem.W.keepIn K (.ref (He.ga K "can_work_out")) = true
  g_rolled : mg "rolled" = some (.ref (He.ga K "rolled"))
  k_rolled : PySem.W.keepIn K (.ref (He.ga K "rolled")) = true
  g_size_of : mg "size_of" = some (.ref (He.ga K "size_of"))
  k_size_of : PySem.W.keepIn K (.ref (He.ga K "size_of")) = true
  g_reads : mg "reads" = some (.ref (He.ga K "reads"))
  k_reads : PySem.W.keepIn K (.ref (He.ga K "reads")) = true
  g_cost_of : mg "cost_of" = some (.ref (He.ga K "cost_of"))
  k_cost_of : PySem.W.keepIn K (.ref (He.ga K "cost_of")) = true
  g_worked_out : mg "worked_out" = some (.ref (He.ga K "worked_out"))
  k_worked_out : PySem.W.keepIn K (.ref (He.ga K "worked_out")) = true
  g_lines_kept : mg "lines_kept" = some (.ref (He.ga K "lines_kept"))
  k_lines_kept : PySem.W.keepIn K (.ref (He.ga K "lines_kept")) = true
  g_bytes_of : mg "bytes_of" = some (.ref (He.ga K "bytes_of"))
  k_bytes_of : PySem.W.keepIn K (.ref (He.ga K "bytes_of")) = true
  g_is_letter : mg "is_letter" = some (.ref (He.ga K "is_letter"))
  k_is_letter : PySem.W.keepIn K (.ref (He.ga K "is_letter")) = true
  g_is_digit : mg "is_digit" = some (.ref (He.ga K "is_digit"))
  k_is_digit : PySem.W.keepIn K (.ref (He.ga K "is_digit")) = true
  g_is_either : mg "is_either" = some (.ref (He.ga K "is_either"))
  k_is_either : PySem.W.keepIn K (.ref (He.ga K "is_either")) = true
  g_run_of : mg "run_of" = some (.ref (He.ga K "run_of"))
  k_run_of : PySem.W.keepIn K (.ref (He.ga K "run_of")) = true
  g_number_of : mg "number_of" = some (.ref (He.ga K "number_of"))
  k_number_of : PySem.W.keepIn K (.ref (He.ga K "number_of")) = true
  g_is_number : mg "is_number" = some (.ref (He.ga K "is_number"))
  k_is_number : PySem.W.keepIn K (.ref (He.ga K "is_number")) = true
  g_name_at : mg "name_at" = some (.ref (He.ga K "name_at"))
  k_name_at : PySem.W.keepIn K (.ref (He.ga K "name_at")) = true
  g_token_at : mg "token_at" = some (.ref (He.ga K "token_at"))
  k_token_at : PySem.W.keepIn K (.ref (He.ga K "token_at")) = true
  g_behind_remark : mg "behind_remark" = some (.ref (He.ga K "behind_remark"))
  k_behind_remark : PySem.W.keepIn K (.ref (He.ga K "behind_remark")) = true
  g_tokens_of : mg "tokens_of" = some (.ref (He.ga K "tokens_of"))
  k_tokens_of : PySem.W.keepIn K (.ref (He.ga K "tokens_of")) = true
  m_Reader_token : Meth K (He.ga K "Reader") "token" (He.ma K (He.ga K "Reader") "token")
  m_Reader_refuse : Meth K (He.ga K "Reader") "refuse" (He.ma K (He.ga K "Reader") "refuse")
  m_Reader_stands : Meth K (He.ga K "Reader") "stands" (He.ma K (He.ga K "Reader") "stands")
  m_Reader_may_be : Meth K (He.ga K "Reader") "may_be" (He.ma K (He.ga K "Reader") "may_be")
  m_Reader_must_be : Meth K (He.ga K "Reader") "must_be" (He.ma K (He.ga K "Reader") "must_be")
  m_Reader_ask_name : Meth K (He.ga K "Reader") "ask_name" (He.ma K (He.ga K "Reader") "ask_name")
  m_Reader_read_number : Meth K (He.ga K "Reader") "read_number" (He.ma K (He.ga K "Reader") "read_number")
  m_Reader_read_column : Meth K (He.ga K "Reader") "read_column" (He.ma K (He.ga K "Reader") "read_column")
  m_Reader_read_columns : Meth K (He.ga K "Reader") "read_columns" (He.ma K (He.ga K "Reader") "read_columns")
  m_Reader_read_row : Meth K (He.ga K "Reader") "read_row" (He.ma K (He.ga K "Reader") "read_row")
  m_Reader_read_asked : Meth K (He.ga K "Reader") "read_asked" (He.ma K (He.ga K "Reader") "read_asked")
  m_Reader_read_question : Meth K (He.ga K "Reader") "read_question" (He.ma K (He.ga K "Reader") "read_question")
  m_Reader_read_table : Meth K (He.ga K "Reader") "read_table" (He.ma K (He.ga K "Reader") "read_table")
  g_table_of : mg "table_of" = some (.ref (He.ga K "table_of"))
  k_table_of : PySem.W.keepIn K (.ref (He.ga K "table_of")) = true
  g_form_of : mg "form_of" = some (.ref (He.ga K "form_of"))
  k_form_of : PySem.W.keepIn K (.ref (He.ga K "form_of")) = true
  g_with_commas : mg "with_commas" = some (.ref (He.ga K "with_commas"))
  k_with_commas : PySem.W.keepIn K (.ref (He.ga K "with_commas")) = true
  m_Desk_set_table : Meth K (He.ga K "Desk") "set_table" (He.ma K (He.ga K "Desk") "set_table")
  m_Desk_set_kept : Meth K (He.ga K "Desk") "set_kept" (He.ma K (He.ga K "Desk") "set_kept")
  g_ask : mg "ask" = some (.ref (He.ga K "ask"))
  k_ask : PySem.W.keepIn K (.ref (He.ga K "ask")) = true
  g_load : mg "load" = some (.ref (He.ga K "load"))
  k_load : PySem.W.keepIn K (.ref (He.ga K "load")) = true
  g_told : mg "told" = some (.ref (He.ga K "told"))
  k_told : PySem.W.keepIn K (.ref (He.ga K "told")) = true
  g_ask_grouping : mg "ask_grouping" = some (.ref (He.ga K "ask_grouping"))
  k_ask_grouping : PySem.W.keepIn K (.ref (He.ga K "ask_grouping")) = true
  g_group : mg "group" = some (.ref (He.ga K "group"))
  k_group : PySem.W.keepIn K (.ref (He.ga K "group")) = true
  g_roll : mg "roll" = some (.ref (He.ga K "roll"))
  k_roll : PySem.W.keepIn K (.ref (He.ga K "roll")) = true
  g_sizes : mg "sizes" = some (.ref (He.ga K "sizes"))
  k_sizes : PySem.W.keepIn K (.ref (He.ga K "sizes")) = true
  g_keep : mg "keep" = some (.ref (He.ga K "keep"))
  k_keep : PySem.W.keepIn K (.ref (He.ga K "keep")) = true
  g_ask_question : mg "ask_question" = some (.ref (He.ga K "ask_question"))
  k_ask_question : PySem.W.keepIn K (.ref (He.ga K "ask_question")) = true
  g_cost : mg "cost" = some (.ref (He.ga K "cost"))
  k_cost : PySem.W.keepIn K (.ref (He.ga K "cost")) = true
  g_answer : mg "answer" = some (.ref (He.ga K "answer"))
  k_answer : PySem.W.keepIn K (.ref (He.ga K "answer")) = true
  g_total : mg "total" = some (.ref (He.ga K "total"))
  k_total : PySem.W.keepIn K (.ref (He.ga K "total")) = true
  g_gain : mg "gain" = some (.ref (He.ga K "gain"))
  k_gain : PySem.W.keepIn K (.ref (He.ga K "gain")) = true
  g_listed : mg "listed" = some (.ref (He.ga K "listed"))
  k_listed : PySem.W.keepIn K (.ref (He.ga K "listed")) = true
  g_of_table : mg "of_table" = some (.ref (He.ga K "of_table"))
  k_of_table : PySem.W.keepIn K (.ref (He.ga K "of_table")) = true
  g_answered : mg "answered" = some (.ref (He.ga K "answered"))
  k_answered : PySem.W.keepIn K (.ref (He.ga K "answered")) = true
  g_row_at : mg "row_at" = some (.ref (He.ga K "row_at"))
  k_row_at : PySem.W.keepIn K (.ref (He.ga K "row_at")) = true
  g_answers : mg "answers" = some (.ref (He.ga K "answers"))
  k_answers : PySem.W.keepIn K (.ref (He.ga K "answers")) = true
  F_columns_in : ∃ fd, Fun K "columns_in" "columns_in" s_columns_in (He.ga K "columns_in") fd
  F_put_together : ∃ fd, Fun K "put_together" "put_together" s_put_together (He.ga K "put_together") fd
  F_answer_of : ∃ fd, Fun K "answer_of" "answer_of" s_answer_of (He.ga K "answer_of") fd
  F_can_work_out : ∃ fd, Fun K "can_work_out" "can_work_out" s_can_work_out (He.ga K "can_work_out") fd
  F_rolled : ∃ fd, Fun K "rolled" "rolled" s_rolled (He.ga K "rolled") fd
  F_size_of : ∃ fd, Fun K "size_of" "size_of" s_size_of (He.ga K "size_of") fd
  F_reads : ∃ fd, Fun K "reads" "reads" s_reads (He.ga K "reads") fd
  F_cost_of : ∃ fd, Fun K "cost_of" "cost_of" s_cost_of (He.ga K "cost_of") fd
  F_worked_out : ∃ fd, Fun K "worked_out" "worked_out" s_worked_out (He.ga K "worked_out") fd
  F_lines_kept : ∃ fd, Fun K "lines_kept" "lines_kept" s_lines_kept (He.ga K "lines_kept") fd
  F_Fault_init : ∃ fd, Fun K "__init__" "Fault.__init__" s_Fault_init (He.ma K (He.ga K "Fault") "__init__") fd
  F_Token_init : ∃ fd, Fun K "__init__" "Token.__init__" s_Token_init (He.ma K (He.ga K "Token") "__init__") fd
  F_bytes_of : ∃ fd, Fun K "bytes_of" "bytes_of" s_bytes_of (He.ga K "bytes_of") fd
  F_is_letter : ∃ fd, Fun K "is_letter" "is_letter" s_is_letter (He.ga K "is_letter") fd
  F_is_digit : ∃ fd, Fun K "is_digit" "is_digit" s_is_digit (He.ga K "is_digit") fd
  F_is_either : ∃ fd, Fun K "is_either" "is_either" s_is_either (He.ga K "is_either") fd
  F_run_of : ∃ fd, Fun K "run_of" "run_of" s_run_of (He.ga K "run_of") fd
  F_number_of : ∃ fd, Fun K "number_of" "number_of" s_number_of (He.ga K "number_of") fd
  F_is_number : ∃ fd, Fun K "is_number" "is_number" s_is_number (He.ga K "is_number") fd
  F_name_at : ∃ fd, Fun K "name_at" "name_at" s_name_at (He.ga K "name_at") fd
  F_token_at : ∃ fd, Fun K "token_at" "token_at" s_token_at (He.ga K "token_at") fd
  F_behind_remark : ∃ fd, Fun K "behind_remark" "behind_remark" s_behind_remark (He.ga K "behind_remark") fd
  F_tokens_of : ∃ fd, Fun K "tokens_of" "tokens_of" s_tokens_of (He.ga K "tokens_of") fd
  F_Table_init : ∃ fd, Fun K "__init__" "Table.__init__" s_Table_init (He.ma K (He.ga K "Table") "__init__") fd
  F_Reader_init : ∃ fd, Fun K "__init__" "Reader.__init__" s_Reader_init (He.ma K (He.ga K "Reader") "__init__") fd
  F_Reader_token : ∃ fd, Fun K "token" "Reader.token" s_Reader_token (He.ma K (He.ga K "Reader") "token") fd
  F_Reader_refuse : ∃ fd, Fun K "refuse" "Reader.refuse" s_Reader_refuse (He.ma K (He.ga K "Reader") "refuse") fd
  F_Reader_stands : ∃ fd, Fun K "stands" "Reader.stands" s_Reader_stands (He.ma K (He.ga K "Reader") "stands") fd
  F_Reader_may_be : ∃ fd, Fun K "may_be" "Reader.may_be" s_Reader_may_be (He.ma K (He.ga K "Reader") "may_be") fd
  F_Reader_must_be : ∃ fd, Fun K "must_be" "Reader.must_be" s_Reader_must_be (He.ma K (He.ga K "Reader") "must_be") fd
  F_Reader_ask_name : ∃ fd, Fun K "ask_name" "Reader.ask_name" s_Reader_ask_name (He.ma K (He.ga K "Reader") "ask_name") fd
  F_Reader_read_number : ∃ fd, Fun K "read_number" "Reader.read_number" s_Reader_read_number (He.ma K (He.ga K "Reader") "read_number") fd
  F_Reader_read_column : ∃ fd, Fun K "read_column" "Reader.read_column" s_Reader_read_column (He.ma K (He.ga K "Reader") "read_column") fd
  F_Reader_read_columns : ∃ fd, Fun K "read_columns" "Reader.read_columns" s_Reader_read_columns (He.ma K (He.ga K "Reader") "read_columns") fd
  F_Reader_read_row : ∃ fd, Fun K "read_row" "Reader.read_row" s_Reader_read_row (He.ma K (He.ga K "Reader") "read_row") fd
  F_Reader_read_asked : ∃ fd, Fun K "read_asked" "Reader.read_asked" s_Reader_read_asked (He.ma K (He.ga K "Reader") "read_asked") fd
  F_Reader_read_question : ∃ fd, Fun K "read_question" "Reader.read_question" s_Reader_read_question (He.ma K (He.ga K "Reader") "read_question") fd
  F_Reader_read_table : ∃ fd, Fun K "read_table" "Reader.read_table" s_Reader_read_table (He.ma K (He.ga K "Reader") "read_table") fd
  F_table_of : ∃ fd, Fun K "table_of" "table_of" s_table_of (He.ga K "table_of") fd
  F_form_of : ∃ fd, Fun K "form_of" "form_of" s_form_of (He.ga K "form_of") fd
  F_with_commas : ∃ fd, Fun K "with_commas" "with_commas" s_with_commas (He.ga K "with_commas") fd
  F_Refused_init : ∃ fd, Fun K "__init__" "Refused.__init__" s_Refused_init (He.ma K (He.ga K "Refused") "__init__") fd
  F_Desk_init : ∃ fd, Fun K "__init__" "Desk.__init__" s_Desk_init (He.ma K (He.ga K "Desk") "__init__") fd
  F_Desk_set_table : ∃ fd, Fun K "set_table" "Desk.set_table" s_Desk_set_table (He.ma K (He.ga K "Desk") "set_table") fd
  F_Desk_set_kept : ∃ fd, Fun K "set_kept" "Desk.set_kept" s_Desk_set_kept (He.ma K (He.ga K "Desk") "set_kept") fd
  F_ask : ∃ fd, Fun K "ask" "ask" s_ask (He.ga K "ask") fd
  F_load : ∃ fd, Fun K "load" "load" s_load (He.ga K "load") fd
  F_told : ∃ fd, Fun K "told" "told" s_told (He.ga K "told") fd
  F_ask_grouping : ∃ fd, Fun K "ask_grouping" "ask_grouping" s_ask_grouping (He.ga K "ask_grouping") fd
  F_group : ∃ fd, Fun K "group" "group" s_group (He.ga K "group") fd
  F_roll : ∃ fd, Fun K "roll" "roll" s_roll (He.ga K "roll") fd
  F_sizes : ∃ fd, Fun K "sizes" "sizes" s_sizes (He.ga K "sizes") fd
  F_keep : ∃ fd, Fun K "keep" "keep" s_keep (He.ga K "keep") fd
  F_ask_question : ∃ fd, Fun K "ask_question" "ask_question" s_ask_question (He.ga K "ask_question") fd
  F_cost : ∃ fd, Fun K "cost" "cost" s_cost (He.ga K "cost") fd
  F_answer : ∃ fd, Fun K "answer" "answer" s_answer (He.ga K "answer") fd
  F_total : ∃ fd, Fun K "total" "total" s_total (He.ga K "total") fd
  F_gain : ∃ fd, Fun K "gain" "gain" s_gain (He.ga K "gain") fd
  F_listed : ∃ fd, Fun K "listed" "listed" s_listed (He.ga K "listed") fd
  F_of_table : ∃ fd, Fun K "of_table" "of_table" s_of_table (He.ga K "of_table") fd
  F_answered : ∃ fd, Fun K "answered" "answered" s_answered (He.ga K "answered") fd
  F_row_at : ∃ fd, Fun K "row_at" "row_at" s_row_at (He.ga K "row_at") fd
  F_answers : ∃ fd, Fun K "answers" "answers" s_answers (He.ga K "answers") fd
  T_KEPT : ∀ H : Hp, SqT K H (He.ga K "KEPT") [.str "columns", .str "row", .str "ask", .str "times"]
  T_NUMBERS : ∀ H : Hp, SqT K H (He.ga K "NUMBERS") [.int 0, .int 0, .int 1, .int 2, .int 0, .int 0, .int 1, .int 1, .int 0, .int 1]
  T_WITH_ROW : ∀ H : Hp, SqT K H (He.ga K "WITH_ROW") [.int 0, .int 5]
theorem txt_of {K : PySem.W.Frag} {mg : Str → Option Value} {h : Heap} (X : K.In h) (G : h.Ns mainGlobals mg) (S : He.SaysE kfa kfn K) (M : More K) : Txt K mg where
  f_range := He.free_ok X G (S.fact 0)
  f_len := He.free_ok X G (S.fact 1)
  f_tuple := He.free_ok X G (S.fact 2)
  f_list := He.free_ok X G (S.fact 3)
  f_sorted := He.free_ok X G (S.fact 4)
  f_min := He.free_ok X G (S.fact 5)
  f_sum := He.free_ok X G (S.fact 6)
  f_ord := He.free_ok X G (S.fact 7)
  f_str := He.free_ok X G (S.fact 8)
  f_enumerate := He.free_ok X G (S.fact 9)
  c_TAB := int_c X G (S.fact 10)
  c_FEED := int_c X G (S.fact 11)
  c_BLANK := int_c X G (S.fact 12)
  c_REMARK := int_c X G (S.fact 13)
  c_MOST_NAME := int_c X G (S.fact 14)
  c_MOST_NUMBER := int_c X G (S.fact 15)
  c_NO_TOKEN := int_c X G (S.fact 16)
  c_MOST_TEXT := int_c X G (S.fact 17)
  c_MOST_COLUMNS := int_c X G (S.fact 18)
  c_MOST_ROWS := int_c X G (S.fact 19)
  c_MOST_QUESTIONS := int_c X G (S.fact 20)
  c_MOST_VALUE := int_c X G (S.fact 21)
  c_MOST_SUM := int_c X G (S.fact 22)
  c_MOST_TIMES := int_c X G (S.fact 23)
  c_LONG := int_c X G (S.fact 24)
  c_NO_PLACE := int_c X G (S.fact 25)
  c_MANY := int_c X G (S.fact 26)
  c_OLD_COLUMN := int_c X G (S.fact 27)
  c_TWICE := int_c X G (S.fact 28)
  c_GREAT := int_c X G (S.fact 29)
  c_NO_COLUMN := int_c X G (S.fact 30)
  c_NO_TABLE := int_c X G (S.fact 31)
  c_NO_GROUPING := int_c X G (S.fact 32)
  c_NO_QUESTION := int_c X G (S.fact 33)
  c_NO_WAY := int_c X G (S.fact 34)
  c_OF_TABLE := int_c X G (S.fact 35)
  c_SIGNS := str_c X G (S.fact 36)
  c_NAME := str_c X G (S.fact 37)
  c_WORD := str_c X G (S.fact 38)
  c_NUMBER := str_c X G (S.fact 39)
  c_SIGN := str_c X G (S.fact 40)
  c_END := str_c X G (S.fact 41)
  g_Token := He.glo_ok X G (S.fact 42)
  g_Table := He.glo_ok X G (S.fact 43)
  g_Reader := He.glo_ok X G (S.fact 44)
  g_Desk := He.glo_ok X G (S.fact 45)
  g_Fault := He.glo_ok X G (S.fact 46)
  g_Refused := He.glo_ok X G (S.fact 47)
  g_KEPT := He.glo_ok X G (S.fact 48)
  g_NUMBERS := He.glo_ok X G (S.fact 49)
  g_WITH_ROW := He.glo_ok X G (S.fact 50)
  cl_Token := He.cls_ok (S.fact 51)
  n_Token_kind := He.noat_ok (S.fact 52)
  n_Token_word := He.noat_ok (S.fact 53)
  n_Token_place := He.noat_ok (S.fact 54)
  mk_Token := He.mkr_ok (S.fact 55)
  cl_Table := He.cls_ok (S.fact 56)
  n_Table_columns := He.noat_ok (S.fact 57)
  n_Table_rows := He.noat_ok (S.fact 58)
  n_Table_questions := He.noat_ok (S.fact 59)
  mk_Table := He.mkr_ok (S.fact 60)
  cl_Reader := He.cls_ok (S.fact 61)
  n_Reader_tokens := He.noat_ok (S.fact 62)
  n_Reader_at := He.noat_ok (S.fact 63)
  n_Reader_table := He.noat_ok (S.fact 64)
  mk_Reader := He.mkr_ok (S.fact 65)
  cl_Desk := He.cls_ok (S.fact 66)
  n_Desk_table := He.noat_ok (S.fact 67)
  n_Desk_kept := He.noat_ok (S.fact 68)
  mk_Desk := He.mkr_ok (S.fact 69)
  n_Fault_code := He.noat_ok (S.fact 70)
  n_Fault_place := He.noat_ok (S.fact 71)
  em_Fault := He.exm_ok (S.fact 72)
  ox_Fault := oexB_ok (more_Fault M)
  xf_Fault := xfB_ok (morex_Fault M)
  i_Fault := morei_Fault M
  t_Fault := moret_Fault M
  n_Refused_code := He.noat_ok (S.fact 73)
  em_Refused := He.exm_ok (S.fact 74)
  ox_Refused := oexB_ok (more_Refused M)
  xf_Refused := xfB_ok (morex_Refused M)
  i_Refused := morei_Refused M
  t_Refused := moret_Refused M
  g_columns_in := He.glo_ok X G (S.fact 75)
  k_columns_in := He.keep_ok (S.fact 76)
  g_put_together := He.glo_ok X G (S.fact 77)
  k_put_together := He.keep_ok (S.fact 78)
  g_answer_of := He.glo_ok X G (S.fact 79)
  k_answer_of := He.keep_ok (S.fact 80)
  g_can_work_out := He.glo_ok X G (S.fact 81)
  k_can_work_out := He.keep_ok (S.fact 82)
  g_rolled := He.glo_ok X G (S.fact 83)
  k_rolled := He.keep_ok (S.fact 84)
  g_size_of := He.glo_ok X G (S.fact 85)
  k_size_of := He.keep_ok (S.fact 86)
  g_reads := He.glo_ok X G (S.fact 87)
  k_reads := He.keep_ok (S.fact 88)
  g_cost_of := He.glo_ok X G (S.fact 89)
  k_cost_of := He.keep_ok (S.fact 90)
  g_worked_out := He.glo_ok X G (S.fact 91)
  k_worked_out := He.keep_ok (S.fact 92)
  g_lines_kept := He.glo_ok X G (S.fact 93)
  k_lines_kept := He.keep_ok (S.fact 94)
  g_bytes_of := He.glo_ok X G (S.fact 95)
  k_bytes_of := He.keep_ok (S.fact 96)
  g_is_letter := He.glo_ok X G (S.fact 97)
  k_is_letter := He.keep_ok (S.fact 98)
  g_is_digit := He.glo_ok X G (S.fact 99)
  k_is_digit := He.keep_ok (S.fact 100)
  g_is_either := He.glo_ok X G (S.fact 101)
  k_is_either := He.keep_ok (S.fact 102)
  g_run_of := He.glo_ok X G (S.fact 103)
  k_run_of := He.keep_ok (S.fact 104)
  g_number_of := He.glo_ok X G (S.fact 105)
  k_number_of := He.keep_ok (S.fact 106)
  g_is_number := He.glo_ok X G (S.fact 107)
  k_is_number := He.keep_ok (S.fact 108)
  g_name_at := He.glo_ok X G (S.fact 109)
  k_name_at := He.keep_ok (S.fact 110)
  g_token_at := He.glo_ok X G (S.fact 111)
  k_token_at := He.keep_ok (S.fact 112)
  g_behind_remark := He.glo_ok X G (S.fact 113)
  k_behind_remark := He.keep_ok (S.fact 114)
  g_tokens_of := He.glo_ok X G (S.fact 115)
  k_tokens_of := He.keep_ok (S.fact 116)
  m_Reader_token := He.meth_ok (S.fact 117)
  m_Reader_refuse := He.meth_ok (S.fact 118)
  m_Reader_stands := He.meth_ok (S.fact 119)
  m_Reader_may_be := He.meth_ok (S.fact 120)
  m_Reader_must_be := He.meth_ok (S.fact 121)
  m_Reader_ask_name := He.meth_ok (S.fact 122)
  m_Reader_read_number := He.meth_ok (S.fact 123)
  m_Reader_read_column := He.meth_ok (S.fact 124)
  m_Reader_read_columns := He.meth_ok (S.fact 125)
  m_Reader_read_row := He.meth_ok (S.fact 126)
  m_Reader_read_asked := He.meth_ok (S.fact 127)
  m_Reader_read_question := He.meth_ok (S.fact 128)
  m_Reader_read_table := He.meth_ok (S.fact 129)
  g_table_of := He.glo_ok X G (S.fact 130)
  k_table_of := He.keep_ok (S.fact 131)
  g_form_of := He.glo_ok X G (S.fact 132)
  k_form_of := He.keep_ok (S.fact 133)
  g_with_commas := He.glo_ok X G (S.fact 134)
  k_with_commas := He.keep_ok (S.fact 135)
  m_Desk_set_table := He.meth_ok (S.fact 136)
  m_Desk_set_kept := He.meth_ok (S.fact 137)
  g_ask := He.glo_ok X G (S.fact 138)
  k_ask := He.keep_ok (S.fact 139)
  g_load := He.glo_ok X G (S.fact 140)
  k_load := He.keep_ok (S.fact 141)
  g_told := He.glo_ok X G (S.fact 142)
  k_told := He.keep_ok (S.fact 143)
  g_ask_grouping := He.glo_ok X G (S.fact 144)
  k_ask_grouping := He.keep_ok (S.fact 145)
  g_group := He.glo_ok X G (S.fact 146)
  k_group := He.keep_ok (S.fact 147)
  g_roll := He.glo_ok X G (S.fact 148)
  k_roll := He.keep_ok (S.fact 149)
  g_sizes := He.glo_ok X G (S.fact 150)
  k_sizes := He.keep_ok (S.fact 151)
  g_keep := He.glo_ok X G (S.fact 152)
  k_keep := He.keep_ok (S.fact 153)
  g_ask_question := He.glo_ok X G (S.fact 154)
  k_ask_question := He.keep_ok (S.fact 155)
  g_cost := He.glo_ok X G (S.fact 156)
  k_cost := He.keep_ok (S.fact 157)
  g_answer := He.glo_ok X G (S.fact 158)
  k_answer := He.keep_ok (S.fact 159)
  g_total := He.glo_ok X G (S.fact 160)
  k_total := He.keep_ok (S.fact 161)
  g_gain := He.glo_ok X G (S.fact 162)
  k_gain := He.keep_ok (S.fact 163)
  g_listed := He.glo_ok X G (S.fact 164)
  k_listed := He.keep_ok (S.fact 165)
  g_of_table := He.glo_ok X G (S.fact 166)
  k_of_table := He.keep_ok (S.fact 167)
  g_answered := He.glo_ok X G (S.fact 168)
  k_answered := He.keep_ok (S.fact 169)
  g_row_at := He.glo_ok X G (S.fact 170)
  k_row_at := He.keep_ok (S.fact 171)
  g_answers := He.glo_ok X G (S.fact 172)
  k_answers := He.keep_ok (S.fact 173)
  F_columns_in := fun_of (p := ("columns_in", none)) S 0 (keep_columns_in M)
  F_put_together := fun_of (p := ("put_together", none)) S 1 (keep_put_together M)
  F_answer_of := fun_of (p := ("answer_of", none)) S 2 (keep_answer_of M)
  F_can_work_out := fun_of (p := ("can_work_out", none)) S 3 (keep_can_work_out M)
  F_rolled := fun_of (p := ("rolled", none)) S 4 (keep_rolled M)
  F_size_of := fun_of (p := ("size_of", none)) S 5 (keep_size_of M)
  F_reads := fun_of (p := ("reads", none)) S 6 (keep_reads M)
  F_cost_of := fun_of (p := ("cost_of", none)) S 7 (keep_cost_of M)
  F_worked_out := fun_of (p := ("worked_out", none)) S 8 (keep_worked_out M)
  F_lines_kept := fun_of (p := ("lines_kept", none)) S 9 (keep_lines_kept M)
  F_Fault_init := fun_of (p := ("Fault", some "__init__")) S 10 (keep_Fault_init M)
  F_Token_init := fun_of (p := ("Token", some "__init__")) S 11 (keep_Token_init M)
  F_bytes_of := fun_of (p := ("bytes_of", none)) S 12 (keep_bytes_of M)
  F_is_letter := fun_of (p := ("is_letter", none)) S 13 (keep_is_letter M)
  F_is_digit := fun_of (p := ("is_digit", none)) S 14 (keep_is_digit M)
  F_is_either := fun_of (p := ("is_either", none)) S 15 (keep_is_either M)
  F_run_of := fun_of (p := ("run_of", none)) S 16 (keep_run_of M)
  F_number_of := fun_of (p := ("number_of", none)) S 17 (keep_number_of M)
  F_is_number := fun_of (p := ("is_number", none)) S 18 (keep_is_number M)
  F_name_at := fun_of (p := ("name_at", none)) S 19 (keep_name_at M)
  F_token_at := fun_of (p := ("token_at", none)) S 20 (keep_token_at M)
  F_behind_remark := fun_of (p := ("behind_remark", none)) S 21 (keep_behind_remark M)
  F_tokens_of := fun_of (p := ("tokens_of", none)) S 22 (keep_tokens_of M)
  F_Table_init := fun_of (p := ("Table", some "__init__")) S 23 (keep_Table_init M)
  F_Reader_init := fun_of (p := ("Reader", some "__init__")) S 24 (keep_Reader_init M)
  F_Reader_token := fun_of (p := ("Reader", some "token")) S 25 (keep_Reader_token M)
  F_Reader_refuse := fun_of (p := ("Reader", some "refuse")) S 26 (keep_Reader_refuse M)
  F_Reader_stands := fun_of (p := ("Reader", some "stands")) S 27 (keep_Reader_stands M)
  F_Reader_may_be := fun_of (p := ("Reader", some "may_be")) S 28 (keep_Reader_may_be M)
  F_Reader_must_be := fun_of (p := ("Reader", some "must_be")) S 29 (keep_Reader_must_be M)
  F_Reader_ask_name := fun_of (p := ("Reader", some "ask_name")) S 30 (keep_Reader_ask_name M)
  F_Reader_read_number := fun_of (p := ("Reader", some "read_number")) S 31 (keep_Reader_read_number M)
  F_Reader_read_column := fun_of (p := ("Reader", some "read_column")) S 32 (keep_Reader_read_column M)
  F_Reader_read_columns := fun_of (p := ("Reader", some "read_columns")) S 33 (keep_Reader_read_columns M)
  F_Reader_read_row := fun_of (p := ("Reader", some "read_row")) S 34 (keep_Reader_read_row M)
  F_Reader_read_asked := fun_of (p := ("Reader", some "read_asked")) S 35 (keep_Reader_read_asked M)
  F_Reader_read_question := fun_of (p := ("Reader", some "read_question")) S 36 (keep_Reader_read_question M)
  F_Reader_read_table := fun_of (p := ("Reader", some "read_table")) S 37 (keep_Reader_read_table M)
  F_table_of := fun_of (p := ("table_of", none)) S 38 (keep_table_of M)
  F_form_of := fun_of (p := ("form_of", none)) S 39 (keep_form_of M)
  F_with_commas := fun_of (p := ("with_commas", none)) S 40 (keep_with_commas M)
  F_Refused_init := fun_of (p := ("Refused", some "__init__")) S 41 (keep_Refused_init M)
  F_Desk_init := fun_of (p := ("Desk", some "__init__")) S 42 (keep_Desk_init M)
  F_Desk_set_table := fun_of (p := ("Desk", some "set_table")) S 43 (keep_Desk_set_table M)
  F_Desk_set_kept := fun_of (p := ("Desk", some "set_kept")) S 44 (keep_Desk_set_kept M)
  F_ask := fun_of (p := ("ask", none)) S 45 (keep_ask M)
  F_load := fun_of (p := ("load", none)) S 46 (keep_load M)
  F_told := fun_of (p := ("told", none)) S 47 (keep_told M)
  F_ask_grouping := fun_of (p := ("ask_grouping", none)) S 48 (keep_ask_grouping M)
  F_group := fun_of (p := ("group", none)) S 49 (keep_group M)
  F_roll := fun_of (p := ("roll", none)) S 50 (keep_roll M)
  F_sizes := fun_of (p := ("sizes", none)) S 51 (keep_sizes M)
  F_keep := fun_of (p := ("keep", none)) S 52 (keep_keep M)
  F_ask_question := fun_of (p := ("ask_question", none)) S 53 (keep_ask_question M)
  F_cost := fun_of (p := ("cost", none)) S 54 (keep_cost M)
  F_answer := fun_of (p := ("answer", none)) S 55 (keep_answer M)
  F_total := fun_of (p := ("total", none)) S 56 (keep_total M)
  F_gain := fun_of (p := ("gain", none)) S 57 (keep_gain M)
  F_listed := fun_of (p := ("listed", none)) S 58 (keep_listed M)
  F_of_table := fun_of (p := ("of_table", none)) S 59 (keep_of_table M)
  F_answered := fun_of (p := ("answered", none)) S 60 (keep_answered M)
  F_row_at := fun_of (p := ("row_at", none)) S 61 (keep_row_at M)
  F_answers := fun_of (p := ("answers", none)) S 62 (keep_answers M)
  T_KEPT := fun H => tupB_ok (moreT_KEPT M)
  T_NUMBERS := fun H => tupB_ok (moreT_NUMBERS M)
  T_WITH_ROW := fun H => tupB_ok (moreT_WITH_ROW M)
/-! ### scopes -/
theorem sc_columns_in : FnScope N_columns_in ["grouping", "many"] (defScope s_columns_in) := ⟨rfl, rfl, rfl, by decide +kernel, rfl, by decide +kernel, by decide +kernel⟩
theorem sc_put_together : FnScope N_put_together ["lines"] (defScope s_put_together) := ⟨rfl, rfl, rfl, by decide +kernel, rfl, by decide +kernel, by decide +kernel⟩
theorem sc_answer_of : FnScope N_answer_of ["table", "grouping"] (defScope s_answer_of) := ⟨rfl, rfl, rfl, by decide +kernel, rfl, by decide +kernel, by decide +kernel⟩
theorem sc_can_work_out : FnScope N_can_work_out ["other", "grouping"] (defScope s_can_work_out) := ⟨rfl, rfl, rfl, by decide +kernel, rfl, by decide +kernel, by decide +kernel⟩
theorem sc_rolled : FnScope N_rolled ["lines", "other", "grouping", "many"] (defScope s_rolled) := ⟨rfl, rfl, rfl, by decide +kernel, rfl, by decide +kernel, by decide +kernel⟩
theorem sc_size_of : FnScope N_size_of ["table", "grouping"] (defScope s_size_of) := ⟨rfl, rfl, rfl, by decide +kernel, rfl, by decide +kernel, by decide +kernel⟩
theorem sc_reads : FnScope N_reads ["table", "kept", "grouping"] (defScope s_reads) := ⟨rfl, rfl, rfl, by decide +kernel, rfl, by decide +kernel, by decide +kernel⟩
theorem sc_cost_of : FnScope N_cost_of ["table", "kept"] (defScope s_cost_of) := ⟨rfl, rfl, rfl, by decide +kernel, rfl, by decide +kernel, by decide +kernel⟩
theorem sc_worked_out : FnScope N_worked_out ["table", "kept", "grouping"] (defScope s_worked_out) := ⟨rfl, rfl, rfl, by decide +kernel, rfl, by decide +kernel, by decide +kernel⟩
theorem sc_lines_kept : FnScope N_lines_kept ["table", "kept"] (defScope s_lines_kept) := ⟨rfl, rfl, rfl, by decide +kernel, rfl, by decide +kernel, by decide +kernel⟩
theorem sc_Fault_init : FnScope N_Fault_init ["self", "code", "place"] (defScope s_Fault_init) := ⟨rfl, rfl, rfl, by decide +kernel, rfl, by decide +kernel, by decide +kernel⟩
theorem sc_Token_init : FnScope N_Token_init ["self", "kind", "word", "place"] (defScope s_Token_init) := ⟨rfl, rfl, rfl, by decide +kernel, rfl, by decide +kernel, by decide +kernel⟩
theorem sc_bytes_of : FnScope N_bytes_of ["signs"] (defScope s_bytes_of) := ⟨rfl, rfl, rfl, by decide +kernel, rfl, by decide +kernel, by decide +kernel⟩
theorem sc_is_letter : FnScope N_is_letter ["byte"] (defScope s_is_letter) := ⟨rfl, rfl, rfl, by decide +kernel, rfl, by decide +kernel, by decide +kernel⟩
theorem sc_is_digit : FnScope N_is_digit ["byte"] (defScope s_is_digit) := ⟨rfl, rfl, rfl, by decide +kernel, rfl, by decide +kernel, by decide +kernel⟩
theorem sc_is_either : FnScope N_is_either ["byte"] (defScope s_is_either) := ⟨rfl, rfl, rfl, by decide +kernel, rfl, by decide +kernel, by decide +kernel⟩
theorem sc_run_of : FnScope N_run_of ["text", "at", "is_one"] (defScope s_run_of) := ⟨rfl, rfl, rfl, by decide +kernel, rfl, by decide +kernel, by decide +kernel⟩
theorem sc_number_of : FnScope N_number_of ["word"] (defScope s_number_of) := ⟨rfl, rfl, rfl, by decide +kernel, rfl, by decide +kernel, by decide +kernel⟩
theorem sc_is_number : FnScope N_is_number ["word"] (defScope s_is_number) := ⟨rfl, rfl, rfl, by decide +kernel, rfl, by decide +kernel, by decide +kernel⟩
theorem sc_name_at : FnScope N_name_at ["text", "at"] (defScope s_name_at) := ⟨rfl, rfl, rfl, by decide +kernel, rfl, by decide +kernel, by decide +kernel⟩
theorem sc_token_at : FnScope N_token_at ["text", "at"] (defScope s_token_at) := ⟨rfl, rfl, rfl, by decide +kernel, rfl, by decide +kernel, by decide +kernel⟩
theorem sc_behind_remark : FnScope N_behind_remark ["text", "at"] (defScope s_behind_remark) := ⟨rfl, rfl, rfl, by decide +kernel, rfl, by decide +kernel, by decide +kernel⟩
theorem sc_tokens_of : FnScope N_tokens_of ["text"] (defScope s_tokens_of) := ⟨rfl, rfl, rfl, by decide +kernel, rfl, by decide +kernel, by decide +kernel⟩
theorem sc_Table_init : FnScope N_Table_init ["self"] (defScope s_Table_init) := ⟨rfl, rfl, rfl, by decide +kernel, rfl, by decide +kernel, by decide +kernel⟩
theorem sc_Reader_init : FnScope N_Reader_init ["self", "text"] (defScope s_Reader_init) := ⟨rfl, rfl, rfl, by decide +kernel, rfl, by decide +kernel, by decide +kernel⟩
theorem sc_Reader_token : FnScope N_Reader_token ["self"] (defScope s_Reader_token) := ⟨rfl, rfl, rfl, by decide +kernel, rfl, by decide +kernel, by decide +kernel⟩
theorem sc_Reader_refuse : FnScope N_Reader_refuse ["self", "code"] (defScope s_Reader_refuse) := ⟨rfl, rfl, rfl, by decide +kernel, rfl, by decide +kernel, by decide +kernel⟩
theorem sc_Reader_stands : FnScope N_Reader_stands ["self", "signs"] (defScope s_Reader_stands) := ⟨rfl, rfl, rfl, by decide +kernel, rfl, by decide +kernel, by decide +kernel⟩
theorem sc_Reader_may_be : FnScope N_Reader_may_be ["self", "signs"] (defScope s_Reader_may_be) := ⟨rfl, rfl, rfl, by decide +kernel, rfl, by decide +kernel, by decide +kernel⟩
theorem sc_Reader_must_be : FnScope N_Reader_must_be ["self", "signs"] (defScope s_Reader_must_be) := ⟨rfl, rfl, rfl, by decide +kernel, rfl, by decide +kernel, by decide +kernel⟩
theorem sc_Reader_ask_name : FnScope N_Reader_ask_name ["self"] (defScope s_Reader_ask_name) := ⟨rfl, rfl, rfl, by decide +kernel, rfl, by decide +kernel, by decide +kernel⟩
theorem sc_Reader_read_number : FnScope N_Reader_read_number ["self", "least", "most"] (defScope s_Reader_read_number) := ⟨rfl, rfl, rfl, by decide +kernel, rfl, by decide +kernel, by decide +kernel⟩
theorem sc_Reader_read_column : FnScope N_Reader_read_column ["self"] (defScope s_Reader_read_column) := ⟨rfl, rfl, rfl, by decide +kernel, rfl, by decide +kernel, by decide +kernel⟩
theorem sc_Reader_read_columns : FnScope N_Reader_read_columns ["self"] (defScope s_Reader_read_columns) := ⟨rfl, rfl, rfl, by decide +kernel, rfl, by decide +kernel, by decide +kernel⟩
theorem sc_Reader_read_row : FnScope N_Reader_read_row ["self"] (defScope s_Reader_read_row) := ⟨rfl, rfl, rfl, by decide +kernel, rfl, by decide +kernel, by decide +kernel⟩
theorem sc_Reader_read_asked : FnScope N_Reader_read_asked ["self", "some"] (defScope s_Reader_read_asked) := ⟨rfl, rfl, rfl, by decide +kernel, rfl, by decide +kernel, by decide +kernel⟩
theorem sc_Reader_read_question : FnScope N_Reader_read_question ["self"] (defScope s_Reader_read_question) := ⟨rfl, rfl, rfl, by decide +kernel, rfl, by decide +kernel, by decide +kernel⟩
theorem sc_Reader_read_table : FnScope N_Reader_read_table ["self"] (defScope s_Reader_read_table) := ⟨rfl, rfl, rfl, by decide +kernel, rfl, by decide +kernel, by decide +kernel⟩
theorem sc_table_of : FnScope N_table_of ["text"] (defScope s_table_of) := ⟨rfl, rfl, rfl, by decide +kernel, rfl, by decide +kernel, by decide +kernel⟩
theorem sc_form_of : FnScope N_form_of ["table"] (defScope s_form_of) := ⟨rfl, rfl, rfl, by decide +kernel, rfl, by decide +kernel, by decide +kernel⟩
theorem sc_with_commas : FnScope N_with_commas ["some"] (defScope s_with_commas) := ⟨rfl, rfl, rfl, by decide +kernel, rfl, by decide +kernel, by decide +kernel⟩
theorem sc_Refused_init : FnScope N_Refused_init ["self", "code"] (defScope s_Refused_init) := ⟨rfl, rfl, rfl, by decide +kernel, rfl, by decide +kernel, by decide +kernel⟩
theorem sc_Desk_init : FnScope N_Desk_init ["self"] (defScope s_Desk_init) := ⟨rfl, rfl, rfl, by decide +kernel, rfl, by decide +kernel, by decide +kernel⟩
theorem sc_Desk_set_table : FnScope N_Desk_set_table ["self", "table"] (defScope s_Desk_set_table) := ⟨rfl, rfl, rfl, by decide +kernel, rfl, by decide +kernel, by decide +kernel⟩
theorem sc_Desk_set_kept : FnScope N_Desk_set_kept ["self", "kept"] (defScope s_Desk_set_kept) := ⟨rfl, rfl, rfl, by decide +kernel, rfl, by decide +kernel, by decide +kernel⟩
theorem sc_ask : FnScope N_ask ["good", "code"] (defScope s_ask) := ⟨rfl, rfl, rfl, by decide +kernel, rfl, by decide +kernel, by decide +kernel⟩
theorem sc_load : FnScope N_load ["desk", "text"] (defScope s_load) := ⟨rfl, rfl, rfl, by decide +kernel, rfl, by decide +kernel, by decide +kernel⟩
theorem sc_told : FnScope N_told ["lines"] (defScope s_told) := ⟨rfl, rfl, rfl, by decide +kernel, rfl, by decide +kernel, by decide +kernel⟩
theorem sc_ask_grouping : FnScope N_ask_grouping ["table", "grouping"] (defScope s_ask_grouping) := ⟨rfl, rfl, rfl, by decide +kernel, rfl, by decide +kernel, by decide +kernel⟩
theorem sc_group : FnScope N_group ["table", "grouping"] (defScope s_group) := ⟨rfl, rfl, rfl, by decide +kernel, rfl, by decide +kernel, by decide +kernel⟩
theorem sc_roll : FnScope N_roll ["table", "other", "grouping"] (defScope s_roll) := ⟨rfl, rfl, rfl, by decide +kernel, rfl, by decide +kernel, by decide +kernel⟩
theorem sc_sizes : FnScope N_sizes ["table"] (defScope s_sizes) := ⟨rfl, rfl, rfl, by decide +kernel, rfl, by decide +kernel, by decide +kernel⟩
theorem sc_keep : FnScope N_keep ["desk", "row"] (defScope s_keep) := ⟨rfl, rfl, rfl, by decide +kernel, rfl, by decide +kernel, by decide +kernel⟩
theorem sc_ask_question : FnScope N_ask_question ["table", "number"] (defScope s_ask_question) := ⟨rfl, rfl, rfl, by decide +kernel, rfl, by decide +kernel, by decide +kernel⟩
theorem sc_cost : FnScope N_cost ["desk", "number"] (defScope s_cost) := ⟨rfl, rfl, rfl, by decide +kernel, rfl, by decide +kernel, by decide +kernel⟩
theorem sc_answer : FnScope N_answer ["desk", "number"] (defScope s_answer) := ⟨rfl, rfl, rfl, by decide +kernel, rfl, by decide +kernel, by decide +kernel⟩
theorem sc_total : FnScope N_total ["desk"] (defScope s_total) := ⟨rfl, rfl, rfl, by decide +kernel, rfl, by decide +kernel, by decide +kernel⟩
theorem sc_gain : FnScope N_gain ["desk", "grouping"] (defScope s_gain) := ⟨rfl, rfl, rfl, by decide +kernel, rfl, by decide +kernel, by decide +kernel⟩
theorem sc_listed : FnScope N_listed ["some"] (defScope s_listed) := ⟨rfl, rfl, rfl, by decide +kernel, rfl, by decide +kernel, by decide +kernel⟩
theorem sc_of_table : FnScope N_of_table ["desk", "what", "some", "row"] (defScope s_of_table) := ⟨rfl, rfl, rfl, by decide +kernel, rfl, by decide +kernel, by decide +kernel⟩
theorem sc_answered : FnScope N_answered ["desk", "what", "some", "row"] (defScope s_answered) := ⟨rfl, rfl, rfl, by decide +kernel, rfl, by decide +kernel, by decide +kernel⟩
theorem sc_row_at : FnScope N_row_at ["calls", "what", "at"] (defScope s_row_at) := ⟨rfl, rfl, rfl, by decide +kernel, rfl, by decide +kernel, by decide +kernel⟩
theorem sc_answers : FnScope N_answers ["calls"] (defScope s_answers) := ⟨rfl, rfl, rfl, by decide +kernel, rfl, by decide +kernel, by decide +kernel⟩
theorem b_columns_in {K : PySem.W.Frag} {f : Addr} {fd : FuncData} (F : Fun K "columns_in" "columns_in" s_columns_in f fd) : Binds K fd ["grouping", "many"] [] := F.binds fun _ _ _ _ _ _ us hl => match us, hl with | [_, _], _ => rfl
theorem b_put_together {K : PySem.W.Frag} {f : Addr} {fd : FuncData} (F : Fun K "put_together" "put_together" s_put_together f fd) : Binds K fd ["lines"] [] := F.binds fun _ _ _ _ _ _ us hl => match us, hl with | [_], _ => rfl
theorem b_answer_of {K : PySem.W.Frag} {f : Addr} {fd : FuncData} (F : Fun K "answer_of" "answer_of" s_answer_of f fd) : Binds K fd ["table", "grouping"] [] := F.binds fun _ _ _ _ _ _ us hl => match us, hl with | [_, _], _ => rfl
theorem b_can_work_out {K : PySem.W.Frag} {f : Addr} {fd : FuncData} (F : Fun K "can_work_out" "can_work_out" s_can_work_out f fd) : Binds K fd ["other", "grouping"] [] := F.binds fun _ _ _ _ _ _ us hl => match us, hl with | [_, _], _ => rfl
theorem b_rolled {K : PySem.W.Frag} {f : Addr} {fd : FuncData} (F : Fun K "rolled" "rolled" s_rolled f fd) : Binds K fd ["lines", "other", "grouping", "many"] [] := F.binds fun _ _ _ _ _ _ us hl => match us, hl with | [_, _, _, _], _ => rfl
theorem b_size_of {K : PySem.W.Frag} {f : Addr} {fd : FuncData} (F : Fun K "size_of" "size_of" s_size_of f fd) : Binds K fd ["table", "grouping"] [] := F.binds fun _ _ _ _ _ _ us hl => match us, hl with | [_, _], _ => rfl
theorem b_reads {K : PySem.W.Frag} {f : Addr} {fd : FuncData} (F : Fun K "reads" "reads" s_reads f fd) : Binds K fd ["table", "kept", "grouping"] [] := F.binds fun _ _ _ _ _ _ us hl => match us, hl with | [_, _, _], _ => rfl
theorem b_cost_of {K : PySem.W.Frag} {f : Addr} {fd : FuncData} (F : Fun K "cost_of" "cost_of" s_cost_of f fd) : Binds K fd ["table", "kept"] [] := F.binds fun _ _ _ _ _ _ us hl => match us, hl with | [_, _], _ => rfl
theorem b_worked_out {K : PySem.W.Frag} {f : Addr} {fd : FuncData} (F : Fun K "worked_out" "worked_out" s_worked_out f fd) : Binds K fd ["table", "kept", "grouping"] [] := F.binds fun _ _ _ _ _ _ us hl => match us, hl with | [_, _, _], _ => rfl
theorem b_lines_kept {K : PySem.W.Frag} {f : Addr} {fd : FuncData} (F : Fun K "lines_kept" "lines_kept" s_lines_kept f fd) : Binds K fd ["table", "kept"] [] := F.binds fun _ _ _ _ _ _ us hl => match us, hl with | [_, _], _ => rfl
theorem b_Fault_init {K : PySem.W.Frag} {f : Addr} {fd : FuncData} (F : Fun K "__init__" "Fault.__init__" s_Fault_init f fd) : Binds K fd ["self", "code", "place"] [] := F.binds fun _ _ _ _ _ _ us hl => match us, hl with | [_, _, _], _ => rfl
theorem b_Token_init {K : PySem.W.Frag} {f : Addr} {fd : FuncData} (F : Fun K "__init__" "Token.__init__" s_Token_init f fd) : Binds K fd ["self", "kind", "word", "place"] [] := F.binds fun _ _ _ _ _ _ us hl => match us, hl with | [_, _, _, _], _ => rfl
theorem b_bytes_of {K : PySem.W.Frag} {f : Addr} {fd : FuncData} (F : Fun K "bytes_of" "bytes_of" s_bytes_of f fd) : Binds K fd ["signs"] [] := F.binds fun _ _ _ _ _ _ us hl => match us, hl with | [_], _ => rfl
theorem b_is_letter {K : PySem.W.Frag} {f : Addr} {fd : FuncData} (F : Fun K "is_letter" "is_letter" s_is_letter f fd) : Binds K fd ["byte"] [] := F.binds fun _ _ _ _ _ _ us hl => match us, hl with | [_], _ => rfl
theorem b_is_digit {K : PySem.W.Frag} {f : Addr} {fd : FuncData} (F : Fun K "is_digit" "is_digit" s_is_digit f fd) : Binds K fd ["byte"] [] := F.binds fun _ _ _ _ _ _ us hl => match us, hl with | [_], _ => rfl
theorem b_is_either {K : PySem.W.Frag} {f : Addr} {fd : FuncData} (F : Fun K "is_either" "is_either" s_is_either f fd) : Binds K fd ["byte"] [] := F.binds fun _ _ _ _ _ _ us hl => match us, hl with | [_], _ => rfl
theorem b_run_of {K : PySem.W.Frag} {f : Addr} {fd : FuncData} (F : Fun K "run_of" "run_of" s_run_of f fd) : Binds K fd ["text", "at", "is_one"] [] := F.binds fun _ _ _ _ _ _ us hl => match us, hl with | [_, _, _], _ => rfl
theorem b_number_of {K : PySem.W.Frag} {f : Addr} {fd : FuncData} (F : Fun K "number_of" "number_of" s_number_of f fd) : Binds K fd ["word"] [] := F.binds fun _ _ _ _ _ _ us hl => match us, hl with | [_], _ => rfl
theorem b_is_number {K : PySem.W.Frag} {f : Addr} {fd : FuncData} (F : Fun K "is_number" "is_number" s_is_number f fd) : Binds K fd ["word"] [] := F.binds fun _ _ _ _ _ _ us hl => match us, hl with | [_], _ => rfl
theorem b_name_at {K : PySem.W.Frag} {f : Addr} {fd : FuncData} (F : Fun K "name_at" "name_at" s_name_at f fd) : Binds K fd ["text", "at"] [] := F.binds fun _ _ _ _ _ _ us hl => match us, hl with | [_, _], _ => rfl
theorem b_token_at {K : PySem.W.Frag} {f : Addr} {fd : FuncData} (F : Fun K "token_at" "token_at" s_token_at f fd) : Binds K fd ["text", "at"] [] := F.binds fun _ _ _ _ _ _ us hl => match us, hl with | [_, _], _ => rfl
theorem b_behind_remark {K : PySem.W.Frag} {f : Addr} {fd : FuncData} (F : Fun K "behind_remark" "behind_remark" s_behind_remark f fd) : Binds K fd ["text", "at"] [] := F.binds fun _ _ _ _ _ _ us hl => match us, hl with | [_, _], _ => rfl
theorem b_tokens_of {K : PySem.W.Frag} {f : Addr} {fd : FuncData} (F : Fun K "tokens_of" "tokens_of" s_tokens_of f fd) : Binds K fd ["text"] [] := F.binds fun _ _ _ _ _ _ us hl => match us, hl with | [_], _ => rfl
theorem b_Table_init {K : PySem.W.Frag} {f : Addr} {fd : FuncData} (F : Fun K "__init__" "Table.__init__" s_Table_init f fd) : Binds K fd ["self"] [] := F.binds fun _ _ _ _ _ _ us hl => match us, hl with | [_], _ => rfl
theorem b_Reader_init {K : PySem.W.Frag} {f : Addr} {fd : FuncData} (F : Fun K "__init__" "Reader.__init__" s_Reader_init f fd) : Binds K fd ["self", "text"] [] := F.binds fun _ _ _ _ _ _ us hl => match us, hl with | [_, _], _ => rfl
theorem b_Reader_token {K : PySem.W.Frag} {f : Addr} {fd : FuncData} (F : Fun K "token" "Reader.token" s_Reader_token f fd) : Binds K fd ["self"] [] := F.binds fun _ _ _ _ _ _ us hl => match us, hl with | [_], _ => rfl
theorem b_Reader_refuse {K : PySem.W.Frag} {f : Addr} {fd : FuncData} (F : Fun K "refuse" "Reader.refuse" s_Reader_refuse f fd) : Binds K fd ["self", "code"] [] := F.binds fun _ _ _ _ _ _ us hl => match us, hl with | [_, _], _ => rfl
theorem b_Reader_stands {K : PySem.W.Frag} {f : Addr} {fd : FuncData} (F : Fun K "stands" "Reader.stands" s_Reader_stands f fd) : Binds K fd ["self", "signs"] [] := F.binds fun _ _ _ _ _ _ us hl => match us, hl with | [_, _], _ => rfl
theorem b_Reader_may_be {K : PySem.W.Frag} {f : Addr} {fd : FuncData} (F : Fun K "may_be" "Reader.may_be" s_Reader_may_be f fd) : Binds K fd ["self", "signs"] [] := F.binds fun _ _ _ _ _ _ us hl => match us, hl with | [_, _], _ => rfl
theorem b_Reader_must_be {K : PySem.W.Frag} {f : Addr} {fd : FuncData} (F : Fun K "must_be" "Reader.must_be" s_Reader_must_be f fd) : Binds K fd ["self", "signs"] [] := F.binds fun _ _ _ _ _ _ us hl => match us, hl with | [_, _], _ => rfl
theorem b_Reader_ask_name {K : PySem.W.Frag} {f : Addr} {fd : FuncData} (F : Fun K "ask_name" "Reader.ask_name" s_Reader_ask_name f fd) : Binds K fd ["self"] [] := F.binds fun _ _ _ _ _ _ us hl => match us, hl with | [_], _ => rfl
theorem b_Reader_read_number {K : PySem.W.Frag} {f : Addr} {fd : FuncData} (F : Fun K "read_number" "Reader.read_number" s_Reader_read_number f fd) : Binds K fd ["self", "least", "most"] [] := F.binds fun _ _ _ _ _ _ us hl => match us, hl with | [_, _, _], _ => rfl
theorem b_Reader_read_column {K : PySem.W.Frag} {f : Addr} {fd : FuncData} (F : Fun K "read_column" "Reader.read_column" s_Reader_read_column f fd) : Binds K fd ["self"] [] := F.binds fun _ _ _ _ _ _ us hl => match us, hl with | [_], _ => rfl
theorem b_Reader_read_columns {K : PySem.W.Frag} {f : Addr} {fd : FuncData} (F : Fun K "read_columns" "Reader.read_columns" s_Reader_read_columns f fd) : Binds K fd ["self"] [] := F.binds fun _ _ _ _ _ _ us hl => match us, hl with | [_], _ => rfl
theorem b_Reader_read_row {K : PySem.W.Frag} {f : Addr} {fd : FuncData} (F : Fun K "read_row" "Reader.read_row" s_Reader_read_row f fd) : Binds K fd ["self"] [] := F.binds fun _ _ _ _ _ _ us hl => match us, hl with | [_], _ => rfl
theorem b_Reader_read_asked {K : PySem.W.Frag} {f : Addr} {fd : FuncData} (F : Fun K "read_asked" "Reader.read_asked" s_Reader_read_asked f fd) : Binds K fd ["self", "some"] [] := F.binds fun _ _ _ _ _ _ us hl => match us, hl with | [_, _], _ => rfl
theorem b_Reader_read_question {K : PySem.W.Frag} {f : Addr} {fd : FuncData} (F : Fun K "read_question" "Reader.read_question" s_Reader_read_question f fd) : Binds K fd ["self"] [] := F.binds fun _ _ _ _ _ _ us hl => match us, hl with | [_], _ => rfl
theorem b_Reader_read_table {K : PySem.W.Frag} {f : Addr} {fd : FuncData} (F : Fun K "read_table" "Reader.read_table" s_Reader_read_table f fd) : Binds K fd ["self"] [] := F.binds fun _ _ _ _ _ _ us hl => match us, hl with | [_], _ => rfl
theorem b_table_of {K : PySem.W.Frag} {f : Addr} {fd : FuncData} (F : Fun K "table_of" "table_of" s_table_of f fd) : Binds K fd ["text"] [] := F.binds fun _ _ _ _ _ _ us hl => match us, hl with | [_], _ => rfl
theorem b_form_of {K : PySem.W.Frag} {f : Addr} {fd : FuncData} (F : Fun K "form_of" "form_of" s_form_of f fd) : Binds K fd ["table"] [] := F.binds fun _ _ _ _ _ _ us hl => match us, hl with | [_], _ => rfl
theorem b_with_commas {K : PySem.W.Frag} {f : Addr} {fd : FuncData} (F : Fun K "with_commas" "with_commas" s_with_commas f fd) : Binds K fd ["some"] [] := F.binds fun _ _ _ _ _ _ us hl => match us, hl with | [_], _ => rfl
theorem b_Refused_init {K : PySem.W.Frag} {f : Addr} {fd : FuncData} (F : Fun K "__init__" "Refused.__init__" s_Refused_init f fd) : Binds K fd ["self", "code"] [] := F.binds fun _ _ _ _ _ _ us hl => match us, hl with | [_, _], _ => rfl
theorem b_Desk_init {K : PySem.W.Frag} {f : Addr} {fd : FuncData} (F : Fun K "__init__" "Desk.__init__" s_Desk_init f fd) : Binds K fd ["self"] [] := F.binds fun _ _ _ _ _ _ us hl => match us, hl with | [_], _ => rfl
theorem b_Desk_set_table {K : PySem.W.Frag} {f : Addr} {fd : FuncData} (F : Fun K "set_table" "Desk.set_table" s_Desk_set_table f fd) : Binds K fd ["self", "table"] [] := F.binds fun _ _ _ _ _ _ us hl => match us, hl with | [_, _], _ => rfl
theorem b_Desk_set_kept {K : PySem.W.Frag} {f : Addr} {fd : FuncData} (F : Fun K "set_kept" "Desk.set_kept" s_Desk_set_kept f fd) : Binds K fd ["self", "kept"] [] := F.binds fun _ _ _ _ _ _ us hl => match us, hl with | [_, _], _ => rfl
theorem b_ask {K : PySem.W.Frag} {f : Addr} {fd : FuncData} (F : Fun K "ask" "ask" s_ask f fd) : Binds K fd ["good", "code"] [] := F.binds fun _ _ _ _ _ _ us hl => match us, hl with | [_, _], _ => rfl
theorem b_load {K : PySem.W.Frag} {f : Addr} {fd : FuncData} (F : Fun K "load" "load" s_load f fd) : Binds K fd ["desk", "text"] [] := F.binds fun _ _ _ _ _ _ us hl => match us, hl with | [_, _], _ => rfl
theorem b_told {K : PySem.W.Frag} {f : Addr} {fd : FuncData} (F : Fun K "told" "told" s_told f fd) : Binds K fd ["lines"] [] := F.binds fun _ _ _ _ _ _ us hl => match us, hl with | [_], _ => rfl
theorem b_ask_grouping {K : PySem.W.Frag} {f : Addr} {fd : FuncData} (F : Fun K "ask_grouping" "ask_grouping" s_ask_grouping f fd) : Binds K fd ["table", "grouping"] [] := F.binds fun _ _ _ _ _ _ us hl => match us, hl with | [_, _], _ => rfl
theorem b_group {K : PySem.W.Frag} {f : Addr} {fd : FuncData} (F : Fun K "group" "group" s_group f fd) : Binds K fd ["table", "grouping"] [] := F.binds fun _ _ _ _ _ _ us hl => match us, hl with | [_, _], _ => rfl
theorem b_roll {K : PySem.W.Frag} {f : Addr} {fd : FuncData} (F : Fun K "roll" "roll" s_roll f fd) : Binds K fd ["table", "other", "grouping"] [] := F.binds fun _ _ _ _ _ _ us hl => match us, hl with | [_, _, _], _ => rfl
theorem b_sizes {K : PySem.W.Frag} {f : Addr} {fd : FuncData} (F : Fun K "sizes" "sizes" s_sizes f fd) : Binds K fd ["table"] [] := F.binds fun _ _ _ _ _ _ us hl => match us, hl with | [_], _ => rfl
theorem b_keep {K : PySem.W.Frag} {f : Addr} {fd : FuncData} (F : Fun K "keep" "keep" s_keep f fd) : Binds K fd ["desk", "row"] [] := F.binds fun _ _ _ _ _ _ us hl => match us, hl with | [_, _], _ => rfl
theorem b_ask_question {K : PySem.W.Frag} {f : Addr} {fd : FuncData} (F : Fun K "ask_question" "ask_question" s_ask_question f fd) : Binds K fd ["table", "number"] [] := F.binds fun _ _ _ _ _ _ us hl => match us, hl with | [_, _], _ => rfl
theorem b_cost {K : PySem.W.Frag} {f : Addr} {fd : FuncData} (F : Fun K "cost" "cost" s_cost f fd) : Binds K fd ["desk", "number"] [] := F.binds fun _ _ _ _ _ _ us hl => match us, hl with | [_, _], _ => rfl
theorem b_answer {K : PySem.W.Frag} {f : Addr} {fd : FuncData} (F : Fun K "answer" "answer" s_answer f fd) : Binds K fd ["desk", "number"] [] := F.binds fun _ _ _ _ _ _ us hl => match us, hl with | [_, _], _ => rfl
theorem b_total {K : PySem.W.Frag} {f : Addr} {fd : FuncData} (F : Fun K "total" "total" s_total f fd) : Binds K fd ["desk"] [] := F.binds fun _ _ _ _ _ _ us hl => match us, hl with | [_], _ => rfl
theorem b_gain {K : PySem.W.Frag} {f : Addr} {fd : FuncData} (F : Fun K "gain" "gain" s_gain f fd) : Binds K fd ["desk", "grouping"] [] := F.binds fun _ _ _ _ _ _ us hl => match us, hl with | [_, _], _ => rfl
theorem b_listed {K : PySem.W.Frag} {f : Addr} {fd : FuncData} (F : Fun K "listed" "listed" s_listed f fd) : Binds K fd ["some"] [] := F.binds fun _ _ _ _ _ _ us hl => match us, hl with | [_], _ => rfl
theorem b_of_table {K : PySem.W.Frag} {f : Addr} {fd : FuncData} (F : Fun K "of_table" "of_table" s_of_table f fd) : Binds K fd ["desk", "what", "some", "row"] [] := F.binds fun _ _ _ _ _ _ us hl => match us, hl with | [_, _, _, _], _ => rfl
theorem b_answered {K : PySem.W.Frag} {f : Addr} {fd : FuncData} (F : Fun K "answered" "answered" s_answered f fd) : Binds K fd ["desk", "what", "some", "row"] [] := F.binds fun _ _ _ _ _ _ us hl => match us, hl with | [_, _, _, _], _ => rfl
theorem b_row_at {K : PySem.W.Frag} {f : Addr} {fd : FuncData} (F : Fun K "row_at" "row_at" s_row_at f fd) : Binds K fd ["calls", "what", "at"] [] := F.binds fun _ _ _ _ _ _ us hl => match us, hl with | [_, _, _], _ => rfl
theorem b_answers {K : PySem.W.Frag} {f : Addr} {fd : FuncData} (F : Fun K "answers" "answers" s_answers f fd) : Binds K fd ["calls"] [] := F.binds fun _ _ _ _ _ _ us hl => match us, hl with | [_], _ => rfl
end Kg
/-! Rules of our own: defs by name with their promises (raising or not), min of pairs, sorted of a short list. -/
namespace Kg
open PySem PySem.Spec PyProof.Rows L2
open PySem.W (Datum DatumOrd minOf min_list_datum Holds)
open PySem.SeqAt (plain_unique)
theorem PE_of {X : Cx} {e : Expr} {t t' : TE} (h : PE X e t) (i : ∀ σ H Q, t' σ H Q → t σ H Q) : PE X e t' := ⟨fun pins s σ H Q I q => h.run pins s σ H Q I (i σ H Q q)⟩
/-! ### calls -/
section
variable (P : Program) (w : World) (K : PySem.W.Frag) (mg : Str → Option Value) (base : Heap) (CX : CXT) (k : Nat)
structure CalX (x : Str) (sp : Sp) : Prop where
  ex : ∃ f fd ps, FnOk P w K mg base CX k f fd ps sp ∧ mg x = some (.ref f) ∧ PySem.W.keepIn K (.ref f) = true ∧ Binds K fd ps []
structure MetX (C : Addr) (m : Str) (sp : Sp) : Prop where
  ex : ∃ f fd ps, Cls K C ∧ Meth K C m f ∧ FnOk P w K mg base CX k f fd ps sp ∧ Binds K fd ps []
structure MakX (x : Str) (C : Addr) (sp : Sp) : Prop where
  ex : ∃ f fd ps, Mk K C f ∧ FnOk P w K mg base CX k f fd ps sp ∧ mg x = some (.ref C) ∧ Binds K fd ps []
end
def tCl (sp : Sp) (E : XK) (t : TA) : TE := fun σ H Q => t σ H fun vs H1 => sp vs H1 Q E
def tMe (C : Addr) (m : Str) (sp : Sp) (E : XK) (ta : TE) (t : TA) : TE := fun σ H Q => ta σ H fun x H1 => ∃ a dx fs, x = .ref a ∧ H1 a = some (.ins C dx fs) ∧ fs.lookup m = none ∧ t σ H1 fun vs H2 => sp (x :: vs) H2 Q E
def tMk (C : Addr) (sp : Sp) (E : XK) (t : TA) : TE := fun σ H Q => t σ H fun vs H1 => ∀ x dx, H1 x = none → H1 dx = none → dx ≠ x →
  sp (.ref x :: vs) (upd (upd H1 dx (.own x)) x (.ins C dx [])) (fun v H2 => v = .non ∧ Q (.ref x) H2) E
theorem nil_app {sp : Sp} {E : XK} : (fun (vs : List V) (H1 : Hp) (Q : VK) => sp (vs ++ []) H1 Q E) = fun vs H1 Q => sp vs H1 Q E := by
  funext vs H1 Q
  rw [List.append_nil]
theorem tCl_eq {sp : Sp} {E : XK} {t : TA} : tCall sp [] E t = tCl sp E t := by
  funext σ H Q
  unfold tCall tCl
  congr 1
  funext vs H1
  rw [List.append_nil]
theorem tMe_eq {C : Addr} {m : Str} {sp : Sp} {E : XK} {ta : TE} {t : TA} : tMeth C m sp [] E ta t = tMe C m sp E ta t := by
  unfold tMeth tMe
  funext σ H Q
  simp only [List.append_nil]
theorem tMk_eq {C : Addr} {sp : Sp} {E : XK} {t : TA} : tMake C sp [] E t = tMk C sp E t := by
  unfold tMake tMk
  funext σ H Q
  simp only [List.append_nil]
section
variable {X : Cx} {CX : CXT} {k j : Nat} {C : Addr} {x m : Str} {sp : Sp} {E : XK} {t : TA} {ta : TE} {e o : Expr} {es : List Expr} {p pos apos : Pos}
theorem pe_cx (c : CalX X.prog X.w X.K X.mg X.base CX k x sp) (hr : Room j X.A) (hk : k ≤ j) (hx : Passes CX X E) (hg : Gl X x) (ha : PA X (e :: es) t)
    (hdb : (x == ("__debug__" : Str)) = false := by decide) (he : starEach (e :: es) X.env = (false, eval e X.env) :: starEach es X.env := by rfl) (hpl : (backTo pos (starEach es X.env)).any (·.1) = false := by rfl) :
    PE X (.Call (.Name x p) (e :: es) [] pos) (tCl sp E t) := by
  obtain ⟨f, fd, ps, F, hm, kp, b⟩ := c.ex
  rw [← tCl_eq]
  exact pe_call F (hr.mono hk) hg hm kp b .nil hx ha hdb he hpl
/-- in a try -/
theorem pe_cS {W : L2.St → XK} (c : CalX X.prog X.w X.K X.mg X.base CX k x sp) (hr : Room j X.A) (hk : k ≤ j) (hx : ∀ σ, PassesAt CX X σ (W σ)) (hg : Gl X x) (ha : PA X (e :: es) t)
    (hdb : (x == ("__debug__" : Str)) = false := by decide) (he : starEach (e :: es) X.env = (false, eval e X.env) :: starEach es X.env := by rfl) (hpl : (backTo pos (starEach es X.env)).any (·.1) = false := by rfl) :
    PE X (.Call (.Name x p) (e :: es) [] pos) (tCallS sp W t) := by
  obtain ⟨f, fd, ps, F, hm, kp, b⟩ := c.ex
  exact pe_callS F (hr.mono hk) hg hm kp b hx ha hdb he hpl
theorem pe_mx {pl : Sem Bool} (c : MetX X.prog X.w X.K X.mg X.base CX k C m sp) (hr : Room j X.A) (hk : k ≤ j) (hx : Passes CX X E) (he : PE X o ta) (ha : PA X (e :: es) t)
    (hst : starEach (e :: es) X.env = (false, eval e X.env) :: starEach es X.env := by rfl) (hpl : (backTo pos (starEach es X.env)).any (·.1) = false := by rfl)
    (ht : eval (.Call (.Attribute o m apos) (e :: es) [] pos) X.env = (do
      let ov ← eval o X.env
      standAt apos.atName
      let (f, first) ← holding [ov] (getMethod ov m pl)
      callWith pos f first (backTo pos (starEach (e :: es) X.env)) (backToKw pos (keywordEach [] X.env))) := by rfl) :
    PE X (.Call (.Attribute o m apos) (e :: es) [] pos) (tMe C m sp E ta t) := by
  obtain ⟨f, fd, ps, cl, hm, F, b⟩ := c.ex
  rw [← tMe_eq]
  exact pe_meth (pl := pl) he cl hm F (hr.mono hk) b .nil hx ha hst hpl ht
theorem pe_mx0 {pl : Sem Bool} (c : MetX X.prog X.w X.K X.mg X.base CX k C m sp) (hr : Room j X.A) (hk : k ≤ j) (hx : Passes CX X E) (he : PE X o ta)
    (ht : eval (.Call (.Attribute o m apos) [] [] pos) X.env = (do
      let ov ← eval o X.env
      standAt apos.atName
      let (f, first) ← holding [ov] (getMethod ov m pl)
      callWith pos f first (backTo pos (starEach [] X.env)) (backToKw pos (keywordEach [] X.env))) := by rfl) :
    PE X (.Call (.Attribute o m apos) [] [] pos) (tMe C m sp E ta tNil) := by
  obtain ⟨f, fd, ps, cl, hm, F, b⟩ := c.ex
  rw [← tMe_eq]
  exact pe_meth0 (pl := pl) he cl hm F (hr.mono hk) b .nil hx ht
theorem pe_kx (c : MakX X.prog X.w X.K X.mg X.base CX k x C sp) (hr : Room j X.A) (hk : k + 1 ≤ j) (hx : Passes CX X E) (hg : Gl X x) (ha : PA X (e :: es) t)
    (hdb : (x == ("__debug__" : Str)) = false := by decide) (he : starEach (e :: es) X.env = (false, eval e X.env) :: starEach es X.env := by rfl) (hpl : (backTo pos (starEach es X.env)).any (·.1) = false := by rfl) :
    PE X (.Call (.Name x p) (e :: es) [] pos) (tMk C sp E t) := by
  obtain ⟨f, fd, ps, M, F, hm, b⟩ := c.ex
  rw [← tMk_eq]
  exact pe_make M F (hr.mono hk) hg hm b .nil hx ha hdb he hpl
theorem pe_kx0 (c : MakX X.prog X.w X.K X.mg X.base CX k x C sp) (hr : Room j X.A) (hk : k + 1 ≤ j) (hx : Passes CX X E) (hg : Gl X x) (hdb : (x == ("__debug__" : Str)) = false := by decide) :
    PE X (.Call (.Name x p) [] [] pos) (tMk C sp E tNil) := by
  obtain ⟨f, fd, ps, M, F, hm, b⟩ := c.ex
  rw [← tMk_eq]
  exact pe_make0 M F (hr.mono hk) hg hm b .nil hx hdb
end
/-- in a def that may raise, what a callee lets out leaves the def as it is -/
theorem passD {P : Program} {w : World} {K : PySem.W.Frag} {mg : Str → Option Value} {base : Heap} {N : List Str} {qual : Str} {scope : Scope} {f : Addr} {cd : Value} {A : Around} {outer : List Env} {s : Shared} {H : Hp} {E : XK} :
    Passes (L2.CX P w) (cxOf (L2.CX P w) P w K mg base N qual scope f cd A outer s H E) E := passes_call (W := fun cls d _ H => E cls d H) (takes_of rfl rfl rfl rfl) fun _ _ _ _ h => h
theorem takesD {P : Program} {w : World} {K : PySem.W.Frag} {mg : Str → Option Value} {base : Heap} {N : List Str} {qual : Str} {scope : Scope} {f : Addr} {cd : Value} {A : Around} {outer : List Env} {s : Shared} {H : Hp} {E : XK} :
    Takes (cxOf (L2.CX P w) P w K mg base N qual scope f cd A outer s H E) (fun cls d _ H => E cls d H) := takes_of rfl rfl rfl rfl
theorem ownD {P : Program} {w : World} {K : PySem.W.Frag} {mg : Str → Option Value} {base : Heap} {N : List Str} {qual : Str} {scope : Scope} {f : Addr} {cd : Value} {A : Around} {outer : List Env} {s : Shared} {H : Hp} {E : XK} :
    PassesOwn (model P w) (A.deeper (envOfC qual scope s.heap.objs.size f cd)) (envOfC qual scope s.heap.objs.size f cd) (cxOf (L2.CX P w) P w K mg base N qual scope f cd A outer s H E).xe :=
  passes_of (X := cxOf (L2.CX P w) P w K mg base N qual scope f cd A outer s H E) rfl
/-! ### min of pairs -/
def PairAt (K : PySem.W.Frag) (H : Hp) (x : V) (p : Int × Int) : Prop := ∃ t, x = .ref t ∧ SqT K H t [.int p.1, .int p.2]
theorem PairAt.dp {K : PySem.W.Frag} {H : Hp} {x : V} {p : Int × Int} (h : PairAt K H x p) : Dp K H x (Datum.toD p) := by
  obtain ⟨t, rfl, h⟩ := h
  exact .tup h (.cons (.int _) (.cons (.int _) .nil))
theorem pairs_dp {K : PySem.W.Frag} {H : Hp} : ∀ {xs : List V} {ps : List (Int × Int)}, Paired (PairAt K H) xs ps → DpAll K H xs (ps.map Datum.toD)
  | _, _, .nil => .nil
  | _, _, .cons h r => .cons h.dp (pairs_dp r)
theorem paired_get {α β : Type} {F : α → β → Prop} : ∀ {l₁ : List α} {l₂ : List β} {i : Nat} {a : α}, Paired F l₁ l₂ → l₁[i]? = some a → ∃ b, l₂[i]? = some b ∧ F a b
  | _, _, 0, _, .cons h _, e => ⟨_, rfl, by cases e; exact h⟩
  | _, _, i + 1, a, .cons _ r, e => paired_get (i := i) r e
  | _, _, i, _, .nil, e => by cases e
theorem paired_get' {α β : Type} {F : α → β → Prop} : ∀ {l₁ : List α} {l₂ : List β} {i : Nat} {b : β}, Paired F l₁ l₂ → l₂[i]? = some b → ∃ a, l₁[i]? = some a ∧ F a b
  | _, _, 0, _, .cons h _, e => ⟨_, rfl, by cases e; exact h⟩
  | _, _, i + 1, a, .cons _ r, e => paired_get' (i := i) r e
  | _, _, i, _, .nil, e => by cases e
theorem paired_len {α β : Type} {F : α → β → Prop} : ∀ {l₁ : List α} {l₂ : List β}, Paired F l₁ l₂ → l₁.length = l₂.length
  | _, _, .nil => rfl
  | _, _, .cons _ r => congrArg Nat.succ (paired_len r)
theorem paired_imp {α β : Type} {F G : α → β → Prop} (h : ∀ a b, F a b → G a b) : ∀ {l₁ : List α} {l₂ : List β}, Paired F l₁ l₂ → Paired G l₁ l₂
  | _, _, .nil => .nil
  | _, _, .cons x r => .cons (h _ _ x) (paired_imp h r)
def rMinP (K : PySem.W.Frag) : List V → Hp → VK → Prop := fun vs H Q => ∃ (a : Addr) (xs : List V) (p : Int × Int) (ps : List (Int × Int)), vs = [.ref a] ∧ SqL K H a xs ∧ Paired (PairAt K H) xs (p :: ps) ∧
  ∀ x, PairAt K H x (minOf p ps) → Q x H
theorem toD_pair_inj {p q : Int × Int} (e : (Datum.toD p : PyData) = Datum.toD q) : p = q := by
  have h := Datum.eqv p q
  rw [e, Datum.eqv q q] at h
  simpa using h.symm
theorem cr_minP {X : Cx} (hc : X.calm = true) (hu : X.A.units + 100 < cLine) : CallR X (.builtin "min") (rMinP X.K) := by
  intro pins s σ H vs us Q I r h
  obtain ⟨a, xs, p, ps, rfl, hs, hp, q⟩ := h
  obtain ⟨its, rv, hl, hz⟩ := I.list hs
  rw [Vals.ref1 r]
  have hd := pairs_dp hp
  obtain ⟨as, rs⟩ := Dp.readsAll I _ xs its hd rv
  refine min_list_datum (x := p) (xs := ps) (I.ok.hd hc) hl.isList ⟨as, rs⟩ (by show X.A.units + 1 + Datum.depth (Int × Int) < cLine; have : Datum.depth (Int × Int) = 1 := rfl; omega) fun i v h' tk hv hh hk => ?_
  have hv' : its[i]? = some v := by simpa using hv
  obtain ⟨x, hx, rx⟩ : ∃ x, xs[i]? = some x ∧ RelV x v := paired_get' rv hv'
  obtain ⟨y, hy, py⟩ := paired_get hp hx
  obtain ⟨bs, rd⟩ := Dp.reads I _ x v py.dp rx
  obtain ⟨cs, rd2⟩ := hh
  obtain ⟨bs2, rd3⟩ := Holds.keeps hk (⟨bs, rd⟩ : Holds s.heap v y)
  have e : y = minOf p ps := toD_pair_inj (plain_unique _ _ _ _ _ (Datum.plain y) rd3 rd2)
  subst e
  exact ⟨x, H, I.kept (t' := tk) hk, rx, q x py⟩
/-! ### sorted of a list of one item, or none -/
def rSort1 (K : PySem.W.Frag) : List V → Hp → VK → Prop := fun vs H Q => ∃ (a : Addr) (xs : List V), vs = [V.ref a] ∧ SqL K H a xs ∧ xs.length < 2 ∧ ∀ p : Addr, H p = none → Q (.ref p) (upd H p (.lst xs))
theorem perm_short {α : Type} : ∀ {l m : List α}, l.Perm m → m.length < 2 → l = m
  | l, [], h, _ => h.eq_nil
  | l, [x], h, _ => List.perm_singleton.mp h
  | _, _ :: _ :: _, _, h => absurd h (by simp)
theorem cr_sort1 {X : Cx} : CallR X (.builtin "sorted") (rSort1 X.K) := by
  intro pins s σ H vs us Q I r h
  obtain ⟨a, xs, rfl, hs, h2, q⟩ := h
  obtain ⟨its, rv, hl, hz⟩ := I.list hs
  rw [Vals.ref1 r]
  have hn : its.length < 2 := by rw [← rv.length]; exact h2
  have O : SrtO.Swo (fun (_ _ : Value) => false) := ⟨(fun _ _ h => by cases h), fun _ _ _ _ _ => rfl⟩
  refine SrtO.sorted_ord (ltv := fun _ _ => false) O hl.isList (by rw [← rv.length]; exact hz) (fun z => absurd z (by omega)) fun out _ st => ?_
  have e : out = its := perm_short st.perm hn
  subst e
  obtain ⟨ep, he'⟩ := PyProof.Rows.sortedAll_at s.heap out out.toArray
  exact ⟨.ref _, upd H (s.heap.objs.size + 1) (.lst xs), I.laid (t' := s.toks) (fun _ _ => PyProof.Rows.sortedAll_old) (Nat.le_succ _) ⟨hz, out, ep, rv, he'⟩, rfl, q _ (I.hok.fresh (Nat.le_succ _))⟩
end Kg
/-! How the program's data lie in the heap; comprehensions and loops in short. -/
namespace Kg
open PySem PySem.Spec PyProof.Rows L2
theorem hu65 {A : Around} {k : Nat} (hr : Room k A) : A.units + 65 < cLine := by have := hr.un; omega
theorem hu64 {A : Around} {k : Nat} (hr : Room k A) : A.units + 64 < cLine := by have := hr.un; omega
theorem hu100 {A : Around} {k : Nat} (hr : Room k A) : A.units + 100 < cLine := by have := hr.un; omega
theorem line_eq : sizeLine = 16777216 := sizeLine_eq
/-! ### heaps -/
def Tups (H H' : Hp) : Prop := ∀ b xs, H b = some (.tup xs) → H' b = some (.tup xs)
theorem Tups.refl (H : Hp) : Tups H H := fun _ _ h => h
theorem Tups.trans {H H1 H2 : Hp} (a : Tups H H1) (b : Tups H1 H2) : Tups H H2 := fun x xs h => b x xs (a x xs h)
theorem Tups.of {H H' : Hp} (s : Same H H') : Tups H H' := fun b xs h => s b _ h
theorem Tups.lst {H : Hp} {D : Addr} {ys zs : List V} (h : H D = some (.lst ys)) : Tups H (upd H D (.lst zs)) := fun b xs e => by
  rw [upd_ne (ne_of e h (by intro z; cases z))]
  exact e
theorem Tups.new {H : Hp} {D : Addr} {o : HO} (h : H D = none) : Tups H (upd H D o) := fun b xs e => by
  rw [upd_ne (ne_of_none e h)]
  exact e
theorem same_new {H : Hp} {D : Addr} {o : HO} (h : H D = none) : Same H (upd H D o) := fun b u e => by
  rw [upd_ne (ne_of_none e h)]
  exact e
/-- what stood ahead stands still: the list at D is a new one -/
theorem same_lst {H H1 : Hp} {D : Addr} {o : HO} (s : Same H H1) (h : H D = none) : Same H (upd H1 D o) := fun b u e => by
  rw [upd_ne (ne_of_none e h)]
  exact s b u e
theorem same_none {H H1 : Hp} {a : Addr} (s : Same H H1) (h : H1 a = none) : H a = none := s.free h
theorem seqT_same {K : PySem.W.Frag} {H H' : Hp} {a : Addr} {xs : List V} (e : Same H H') (h : SqT K H a xs) : SqT K H' a xs := by
  rcases h with h | h
  · refine .inl ?_
    rcases h with h | ⟨o, h⟩
    · exact .inl (e _ _ h)
    · exact .inr ⟨o, e _ _ h⟩
  · exact .inr h
/-! ### data -/
def bV (b : VamvsBase.Bytes) : List V := b.map fun c => V.int ((c.toNat : Nat) : Int)
def nV (l : List Nat) : List V := l.map fun n => V.int ((n : Nat) : Int)
def iV (l : List Int) : List V := l.map V.int
theorem bV_length (b : VamvsBase.Bytes) : (bV b).length = b.length := List.length_map ..
theorem nV_length (b : List Nat) : (nV b).length = b.length := List.length_map ..
theorem iV_length (b : List Int) : (iV b).length = b.length := List.length_map ..
/-- a tuple of a text's bytes -/
def ByAt (H : Hp) (v : V) (b : VamvsBase.Bytes) : Prop := ∃ a, v = .ref a ∧ H a = some (.tup (bV b))
def RowAt (H : Hp) (v : V) (r : Vamvsa.Row) : Prop := ∃ t k, v = .ref t ∧ H t = some (.tup [.ref k, .int r.m]) ∧ H k = some (.tup (nV r.vs))
def AskAt (H : Hp) (v : V) (a : Vamvsa.Ask) : Prop := ∃ t, v = .ref t ∧ H t = some (.tup [.int (a.g : Nat), .int (a.k : Nat)])
def LnAt (H : Hp) (v : V) (x : Vamvsa.Group) : Prop := ∃ t k, v = .ref t ∧ H t = some (.tup [.ref k, .int x.sum, .int (x.n : Nat)]) ∧ H k = some (.tup (nV x.key))
theorem ByAt.mono {H H' : Hp} {v : V} {b : VamvsBase.Bytes} (s : Tups H H') (h : ByAt H v b) : ByAt H' v b := by
  obtain ⟨a, e, h⟩ := h
  exact ⟨a, e, s _ _ h⟩
theorem RowAt.mono {H H' : Hp} {v : V} {b : Vamvsa.Row} (s : Tups H H') (h : RowAt H v b) : RowAt H' v b := by
  obtain ⟨t, k, e, h, h2⟩ := h
  exact ⟨t, k, e, s _ _ h, s _ _ h2⟩
theorem AskAt.mono {H H' : Hp} {v : V} {b : Vamvsa.Ask} (s : Tups H H') (h : AskAt H v b) : AskAt H' v b := by
  obtain ⟨a, e, h⟩ := h
  exact ⟨a, e, s _ _ h⟩
theorem LnAt.mono {H H' : Hp} {v : V} {b : Vamvsa.Group} (s : Tups H H') (h : LnAt H v b) : LnAt H' v b := by
  obtain ⟨t, k, e, h, h2⟩ := h
  exact ⟨t, k, e, s _ _ h, s _ _ h2⟩
/-- a list of such, at p -/
def LsAt (H : Hp) (p : Addr) (l : List Vamvsa.Group) : Prop := ∃ vs, H p = some (.lst vs) ∧ Paired (LnAt H) vs l
theorem LsAt.mono {H H' : Hp} {p : Addr} {l : List Vamvsa.Group} (s : Same H H') (h : LsAt H p l) : LsAt H' p l := by
  obtain ⟨vs, h1, h2⟩ := h
  exact ⟨vs, s _ _ h1, paired_imp (fun _ _ x => x.mono (.of s)) h2⟩
/-! ### the new list of a comprehension -/
/-- behind i turns: the list at D holds what R tells of the turns that p lets through -/
def LcI (H1 : Hp) (D : Addr) (R : Nat → Hp → V → Prop) (p : Nat → Bool) (i : Nat) (H : Hp) : Prop := Same H1 H ∧ ∃ ys, H D = some (.lst ys) ∧ Paired (fun y j => R j H y) ys ((List.range i).filter p)
section
variable {H1 H H4 : Hp} {D : Addr} {R : Nat → Hp → V → Prop} {p : Nat → Bool} {i : Nat} {y : V}
theorem LcI.start (hD : H1 D = none) : LcI H1 D R p 0 (upd H1 D (.lst [])) := ⟨same_new hD, [], upd_same, .nil⟩
theorem LcI.add (h : LcI H1 D R p i H) (hD : H1 D = none) (s : Same H H4) (mono : ∀ j H H' y, Tups H H' → R j H y → R j H' y) (hp : p i = true) (r : R i H4 y) (hi : i < sizeLine) :
    ∃ acc, H4 D = some (.lst acc) ∧ acc.length < sizeLine ∧ LcI H1 D R p (i + 1) (upd H4 D (.lst (acc ++ [y]))) := by
  obtain ⟨s1, ys, hy, P⟩ := h
  have h4 := s _ _ hy
  refine ⟨ys, h4, ?_, same_lst (s1.trans s) hD, _, upd_same, ?_⟩
  · rw [paired_len P]
    have := List.length_filter_le p (List.range i)
    rw [List.length_range] at this
    omega
  · rw [List.range_succ, List.filter_append]
    have e : [i].filter p = [i] := by simp [hp]
    rw [e]
    refine Paired.snoc (paired_imp (fun a b x => mono _ _ _ _ ((Tups.of s).trans (.lst h4)) x) P) (mono _ _ _ _ (.lst h4) r)
theorem LcI.skip (h : LcI H1 D R p i H) (s : Same H H4) (mono : ∀ j H H' y, Tups H H' → R j H y → R j H' y) (hp : p i = false) : LcI H1 D R p (i + 1) H4 := by
  obtain ⟨s1, ys, hy, P⟩ := h
  refine ⟨s1.trans s, ys, s _ _ hy, ?_⟩
  rw [List.range_succ, List.filter_append]
  have e : [i].filter p = [] := by simp [hp]
  rw [e, List.append_nil]
  exact paired_imp (fun a b x => mono _ _ _ _ (.of s) x) P
end
theorem all_true (n : Nat) : (List.range n).filter (fun _ => true) = List.range n := by simp
/-- what the turns of a list tell -/
theorem paired_of {α : Type} {F : V → α → Prop} {R : V → Nat → Prop} : ∀ {l : List α} {ys : List V}, Paired R ys (List.range l.length) → (∀ y j, R y j → ∃ c, l[j]? = some c ∧ F y c) → Paired F ys l := by
  intro l ys h hr
  have hl : ys.length = l.length := by rw [paired_len h, List.length_range]
  have key : ∀ (i : Nat) (y : V), ys[i]? = some y → ∃ c, l[i]? = some c ∧ F y c := by
    intro i y hy
    obtain ⟨j, hj, r⟩ := paired_get h hy
    have hi : i < l.length := by
      rw [← hl]; exact lt_of_at hy
    rw [List.getElem?_range hi] at hj
    cases hj
    exact hr y i r
  clear h hr
  induction l generalizing ys with
  | nil =>
    rw [List.eq_nil_of_length_eq_zero hl]
    exact .nil
  | cons a r ih =>
    cases ys with
    | nil => cases hl
    | cons y s =>
      obtain ⟨c, hc, f⟩ := key 0 y rfl
      cases hc
      refine .cons f (ih (by simpa using hl) fun i z hz => key (i + 1) z hz)
theorem map_of {α : Type} {g : α → V} : ∀ {ys : List V} {l : List α}, Paired (fun y c => y = g c) ys l → ys = l.map g
  | _, _, .nil => rfl
  | _, _, .cons h r => by
    rw [List.map_cons, ← map_of r, h]
/-! ### tests -/
theorem if_t {c : Bool} {A B : Prop} (hc : c = true) (h : A) : if c = true then A else B := by rw [if_pos hc]; exact h
theorem if_f {c : Bool} {A B : Prop} (hc : c = false) (h : B) : if c = true then A else B := by rw [hc, if_neg Bool.false_ne_true]; exact h
theorem if_b {c : Bool} {A B : Prop} (ht : c = true → A) (hf : c = false → B) : if c = true then A else B := by
  cases c with
  | true => exact if_t rfl (ht rfl)
  | false => exact if_f rfl (hf rfl)
theorem if_d {c : Prop} [Decidable c] {A B : Prop} (ht : c → A) (hf : ¬ c → B) : if decide c = true then A else B := if_b (fun h => ht (of_decide_eq_true h)) fun h => hf (of_decide_eq_false h)
end Kg
/-! The defs that tell tokens: letters, digits, runs, numbers, names. -/
namespace Kg
open PySem PySem.Spec PyProof.Rows L2
variable {P : Program} {w : World} {K : PySem.W.Frag} {mg : Str → Option Value} {base : Heap}
/-! ### bytes_of -/
def codeV (z : Str) : List V := z.cps.toList.map fun c => V.int ((c : Nat) : Int)
def spBytes : Sp := fun vs H Q _ => ∃ z : Str, vs = [.str z] ∧ z.length ≤ 100000 ∧ ∀ H' p, Same H H' → H p = none → H' p = some (.tup (codeV z)) → Q (.ref p) H'
theorem c_bytes_of (T : Txt K mg) : CalX P w K mg base CX0 1 "bytes_of" spBytes := by
  obtain ⟨fd, F⟩ := T.F_bytes_of
  refine ⟨_, fd, _, F.ok sc_bytes_of (fun vs H Q E h => ?_) (fun cdv A outer s H vs Q E hr h => ⟨_, (pss_one (ps_ret (pe_callTy call_tuple_of (by rfl) T.f_tuple (by decide +kernel) (pa_cons (pe_lc (own := [("sign", 1)]) (g := gName 1) rfl sc_bytes_of.nd (pi_str (pv 0)) (blkOk_by (N := N_bytes_of) (sc := defScope s_bytes_of) (by decide +kernel)) (fun _ _ _ _ _ => (pg_name (i := 1) sc_bytes_of.nd rfl (Or.inl rfl))) (fun _ _ _ _ _ => pts_nil) (fun _ _ _ _ _ => (pe_callB call_ord (by rfl) T.f_ord (by decide +kernel) (pa_cons (pv 1) pa_nil)))) pa_nil)))), ?_⟩), T.g_bytes_of, T.k_bytes_of, b_bytes_of F⟩
  · obtain ⟨z, rfl, _⟩ := h
    rfl
  · obtain ⟨z, rfl, hz, q⟩ := h
    have hsz : z.cps.size ≤ 100000 := hz
    refine ⟨_, rfl, _, rfl, fun D hD => lc_it walk_str (LcI H D (fun i _ y => ∃ c, z.cps[i]? = some c ∧ y = V.int ((c : Nat) : Int)) fun _ => true) (LcI.start hD) (fun _ _ _ _ => trivial) (fun i x H1 H2 hi I ⟨e, c, hc, ex⟩ => ?_) fun H1 I => ?_⟩
    · subst e ex
      refine ⟨rfl, _, rfl, _, rfl, rfl, ?_⟩
      refine I.add hD (Same.refl _) (fun _ _ _ _ _ h => h) rfl ⟨c, hc, rfl⟩ (by rw [line_eq]; omega)
    · obtain ⟨s1, ys, hy, Pr⟩ := I
      rw [all_true] at Pr
      have e : ys = codeV z := by
        refine map_of (paired_of (l := z.cps.toList) (R := fun y i => ∃ c, z.cps[i]? = some c ∧ y = V.int ((c : Nat) : Int)) (by simpa using Pr) fun y j h => ?_)
        obtain ⟨c, hc, e⟩ := h
        exact ⟨c, by simpa using hc, e⟩
      subst e
      exact ⟨D, _, rfl, .inl ⟨SqL.of hy, fun l hl => q _ l (same_lst s1 (same_none s1 hl)) (same_none s1 hl) upd_same⟩⟩
/-! ### letters and digits -/
def ltrI (n : Int) : Bool := (decide (65 ≤ n) && decide (n ≤ 90)) || (decide (97 ≤ n) && decide (n ≤ 122))
def digI (n : Int) : Bool := decide (48 ≤ n) && decide (n ≤ 57)
def eitI (n : Int) : Bool := ltrI n || digI n
def spI (f : Int → Bool) : Sp := fun vs H Q _ => ∃ n : Int, vs = [.int n] ∧ Q (.bl (f n)) H
theorem c_is_digit (T : Txt K mg) : CalX P w K mg base CX0 1 "is_digit" (spI digI) := by
  obtain ⟨fd, F⟩ := T.F_is_digit
  refine ⟨_, fd, _, F.ok sc_is_digit (fun vs H Q E h => ?_) (fun cdv A outer s H vs Q E hr h => ⟨_, (pss_one (ps_ret (pe_chain op_le op_le pe_int (pv 0) pe_int))), ?_⟩), T.g_is_digit, T.k_is_digit, b_is_digit F⟩
  · obtain ⟨z, rfl, _⟩ := h
    rfl
  · obtain ⟨n, rfl, q⟩ := h
    refine ⟨_, rfl, _, _, rfl, rfl, _, rfl, if_b (fun h => ⟨_, _, rfl, rfl, ?_⟩) fun h => ?_⟩
    · unfold digI at q; rw [h] at q; exact q
    · unfold digI at q; rw [h] at q; exact q
theorem c_is_letter (T : Txt K mg) : CalX P w K mg base CX0 1 "is_letter" (spI ltrI) := by
  obtain ⟨fd, F⟩ := T.F_is_letter
  refine ⟨_, fd, _, F.ok sc_is_letter (fun vs H Q E h => ?_) (fun cdv A outer s H vs Q E hr h => ⟨_, (pss_one (ps_ret (pe_or (pe_chain op_le op_le pe_int (pv 0) pe_int) (pe_one (pe_chain op_le op_le pe_int (pv 0) pe_int))))), ?_⟩), T.g_is_letter, T.k_is_letter, b_is_letter F⟩
  · obtain ⟨z, rfl, _⟩ := h
    rfl
  · obtain ⟨n, rfl, q⟩ := h
    have second : (decide (65 ≤ n) && decide (n ≤ 90)) = false → tChain (rI0 fun i j => .bl (decide (i ≤ j))) (rI0 fun i j => .bl (decide (i ≤ j))) (tC (.int 97)) (tVar 0) (tC (.int 122)) [some (.int n)] H Q := fun h => by
      unfold ltrI at q
      rw [h, Bool.false_or] at q
      refine ⟨_, rfl, _, _, rfl, rfl, _, rfl, if_b (fun h => ⟨_, _, rfl, rfl, ?_⟩) fun h => ?_⟩
      · rw [h] at q; exact q
      · rw [h] at q; exact q
    refine ⟨_, rfl, _, _, rfl, rfl, _, rfl, if_b (fun h => ⟨_, _, rfl, rfl, _, rfl, if_b (fun h2 => ?_) fun h2 => ?_⟩) fun h => ⟨_, rfl, second (by rw [h]; rfl)⟩⟩
    · unfold ltrI at q; rw [h, h2] at q; exact q
    · exact second (by rw [h, h2]; rfl)
theorem c_is_either (T : Txt K mg) : CalX P w K mg base CX0 2 "is_either" (spI eitI) := by
  obtain ⟨fd, F⟩ := T.F_is_either
  refine ⟨_, fd, _, F.ok sc_is_either (fun vs H Q E h => ?_) (fun cdv A outer s H vs Q E hr h => ⟨_, (pss_one (ps_ret (pe_or (pe_cx (c_is_letter T) hr (by decide) pass0 rfl (pa_cons (pv 0) pa_nil)) (pe_one (pe_cx (c_is_digit T) hr (by decide) pass0 rfl (pa_cons (pv 0) pa_nil)))))), ?_⟩), T.g_is_either, T.k_is_either, b_is_either F⟩
  · obtain ⟨z, rfl, _⟩ := h
    rfl
  · obtain ⟨n, rfl, q⟩ := h
    refine ⟨_, rfl, n, rfl, _, rfl, if_b (fun h => ?_) fun h => ⟨_, rfl, n, rfl, ?_⟩⟩
    · unfold eitI at q; rw [h] at q; exact q
    · unfold eitI at q; rw [h] at q; exact q
/-! ### exceptions of our own: made -/
def spEI (C : Addr) (n : Nat) (fsOf : List V → List (Str × V)) : Sp := fun vs H Q _ => ∃ a ws, vs = .ref a :: ws ∧ ws.length = n ∧ H a = some (exo a C none) ∧
  ∀ d H2, H d = none → d ≠ a → (∀ b o, H b = some o → b ≠ a → H2 b = some o) → H2 a = some (exo a C (some d)) → H2 d = some (exd d (fsOf ws)) → Q .non H2
structure ExcX (P : Program) (w : World) (K : PySem.W.Frag) (mg : Str → Option Value) (base : Heap) (k : Nat) (x : Str) (C : Addr) (n : Nat) (fsOf : List V → List (Str × V)) : Prop where
  ex : ∃ fI fd ps, OexC K C ∧ PySem.W.findIn K (.ref C) "__init__" = some (some (.ref fI)) ∧ PySem.W.typeIn K (.ref fI) = some (.type "function") ∧ FnOk P w K mg base CX0 k fI fd ps (spEI C n fsOf) ∧ Binds K fd ps [] ∧ mg x = some (.ref C)
theorem pr_x {X : Cx} {k j n : Nat} {x : Str} {C : Addr} {fsOf : List V → List (Str × V)} {e : Expr} {es : List Expr} {ta : TA} {p pos : Pos} (c : ExcX X.prog X.w X.K X.mg X.base k x C n fsOf) (hr : Room j X.A) (hk : k + 1 ≤ j) (hg : Gl X x) (ha : PA X (e :: es) ta)
    (hdb : (x == ("__debug__" : Str)) = false := by decide) (he : starEach (e :: es) X.env = (false, eval e X.env) :: starEach es X.env := by rfl) (hpl : (backTo pos (starEach es X.env)).any (·.1) = false := by rfl) :
    PMk X (.Call (.Name x p) (e :: es) [] pos) (tMkO C (spEI C n fsOf) [] ta) := by
  obtain ⟨fI, fd, ps, O, iC, tI, F, b, hm⟩ := c.ex
  exact pmk_oex O iC tI F (hr.mono hk) b .nil pass0 hg hm ha hdb he hpl
theorem exc_go {C : Addr} {n : Nat} {fsOf : List V → List (Str × V)} {vs : List V} {H1 : Hp} {Q : XK} (hn : vs.length = n) (h : n ≤ 1000) (q : ∀ d H3, Same H1 H3 → H1 d = none → H3 d = some (.xd (fsOf vs)) → Q (.ref C) (some d) H3) :
    vs.length ≤ 1000 ∧ ∀ a, H1 a = none → spEI C n fsOf (.ref a :: (vs ++ [])) (upd H1 a (exo a C none))
      (fun v H2 => v = .non ∧ ∃ (d : Addr) (fs : List (Str × V)), H2 a = some (exo a C (some d)) ∧ H2 d = some (exd d fs) ∧ H1 d = none ∧ Q (.ref C) (some d) (upd (del H2 a) d (.xd fs))) (fun _ _ _ => False) := by
  rw [List.append_nil]
  refine ⟨hn ▸ h, fun a ha => ⟨a, vs, rfl, hn, upd_same, fun d H2 hd hda k e1 e2 => ⟨rfl, d, _, e1, e2, ?_, ?_⟩⟩⟩
  · rw [upd_ne hda] at hd
    exact hd
  · rw [upd_ne hda] at hd
    refine q d _ (fun b o hb => ?_) hd upd_same
    have hba : b ≠ a := ne_of_none hb ha
    rw [upd_ne (ne_of_none hb hd), del_ne hba]
    exact k b o (by rw [upd_ne hba]; exact hb) hba
def fFault : List V → List (Str × V)
  | [c, p] => [("place", p), ("code", c)]
  | _ => []
def fRefused : List V → List (Str × V)
  | [c] => [("code", c)]
  | _ => []
theorem x_Fault (T : Txt K mg) : ExcX P w K mg base 1 "Fault" (He.ga K "Fault") 2 fFault := by
  obtain ⟨fd, F⟩ := T.F_Fault_init
  refine ⟨_, fd, _, T.ox_Fault, T.i_Fault, T.t_Fault, F.ok sc_Fault_init (fun vs H Q E h => ?_) (fun cdv A outer s H vs Q E hr h => ⟨_, (pss_cons (ps_ost (pv 0) (pv 1))
    (pss_one (ps_ost (pv 0) (pv 2)))), ?_⟩), b_Fault_init F, T.g_Fault⟩
  · obtain ⟨a, ws, rfl, hn, _⟩ := h
    match ws, hn with
    | [_, _], _ => rfl
  · obtain ⟨a, ws, rfl, hn, ha, q⟩ := h
    match ws, hn with
    | [c, p], _ =>
      refine ⟨_, rfl, _, rfl, a, _, rfl, T.ox_Fault, T.n_Fault_code, .inl ⟨ha, fun dx hdx hne => ?_⟩⟩
      refine ⟨_, rfl, _, rfl, a, _, rfl, T.ox_Fault, T.n_Fault_place, .inr ⟨dx, _, upd_same, (by rw [upd_ne hne]; exact upd_same), (by show 1 ≤ 900; decide), ?_⟩⟩
      refine q dx _ hdx hne (fun b o hb hba => ?_) ?_ upd_same
      · rw [upd_ne (ne_of_none hb hdx), upd_ne hba, upd_ne (ne_of_none hb hdx)]
        exact hb
      · rw [upd_ne (Ne.symm hne)]
        exact upd_same
theorem x_Refused (T : Txt K mg) : ExcX P w K mg base 1 "Refused" (He.ga K "Refused") 1 fRefused := by
  obtain ⟨fd, F⟩ := T.F_Refused_init
  refine ⟨_, fd, _, T.ox_Refused, T.i_Refused, T.t_Refused, F.ok sc_Refused_init (fun vs H Q E h => ?_) (fun cdv A outer s H vs Q E hr h => ⟨_, (pss_one (ps_ost (pv 0) (pv 1))), ?_⟩), b_Refused_init F, T.g_Refused⟩
  · obtain ⟨a, ws, rfl, hn, _⟩ := h
    match ws, hn with
    | [_], _ => rfl
  · obtain ⟨a, ws, rfl, hn, ha, q⟩ := h
    match ws, hn with
    | [c], _ =>
      refine ⟨_, rfl, _, rfl, a, _, rfl, T.ox_Refused, T.n_Refused_code, .inl ⟨ha, fun dx hdx hne => ?_⟩⟩
      refine q dx _ hdx hne (fun b o hb hba => ?_) upd_same (by rw [upd_ne hne]; exact upd_same)
      rw [upd_ne hba, upd_ne (ne_of_none hb hdx)]
      exact hb
/-! ### instances: made -/
theorem lk_here {k : Str} {v : V} {r : List (Str × V)} : List.lookup k ((k, v) :: r) = some v := by
  have e : (k == k) = true := beq_self_eq_true k
  simp only [List.lookup, e]
theorem lk_past {k g : Str} {v : V} {r : List (Str × V)} (h : (k == g) = false) : List.lookup k ((g, v) :: r) = List.lookup k r := by
  simp only [List.lookup, h]
/-- an __init__ that leaves the instance with these fields -/
def spNew (C : Addr) (n : Nat) (fs : List V → List (Str × V)) : Sp := fun vs H Q _ => ∃ p dx ws, vs = .ref p :: ws ∧ ws.length = n ∧ H p = some (.ins C dx []) ∧
  ∀ H', (∀ b o, H b = some o → b ≠ p → H' b = some o) → H' p = some (.ins C dx (fs ws)) → Q .non H'
def fToken : List V → List (Str × V)
  | [k, wd, pl] => [("kind", k), ("word", wd), ("place", pl)]
  | _ => []
theorem put_here {f : Str} {v x : V} {r : List (Str × V)} : putF f v ((f, x) :: r) = (f, v) :: r := if_pos rfl
theorem put_past {f g : Str} {v x : V} {r : List (Str × V)} (h : ¬ g = f) : putF f v ((g, x) :: r) = (g, x) :: putF f v r := if_neg h
theorem put2 {f g : Str} {v x : V} (h : ¬ g = f) : putF f v [(g, x)] = [(g, x), (f, v)] := put_past h
theorem put3 {f g e : Str} {v x y : V} (h : ¬ g = f) (h2 : ¬ e = f) : putF f v [(g, x), (e, y)] = [(g, x), (e, y), (f, v)] := by
  rw [put_past h, put_past h2]
  rfl
theorem k_Token (T : Txt K mg) : MakX P w K mg base CX0 1 "Token" (He.ga K "Token") (spNew (He.ga K "Token") 3 fToken) := by
  obtain ⟨fd, F⟩ := T.F_Token_init
  refine ⟨_, fd, _, T.mk_Token, F.ok sc_Token_init (fun vs H Q E h => ?_) (fun cdv A outer s H vs Q E hr h => ⟨_, (pss_cons (ps_fld (pv 0) (pv 1) rfl)
    (pss_cons (ps_fld (pv 0) (pv 2) rfl)
    (pss_one (ps_fld (pv 0) (pv 3) rfl)))), ?_⟩), T.g_Token, b_Token_init F⟩
  · obtain ⟨a, dx, ws, rfl, hn, _⟩ := h
    match ws, hn with
    | [_, _, _], _ => rfl
  · obtain ⟨a, dx, ws, rfl, hn, ha, q⟩ := h
    match ws, hn with
    | [k, wd, pl], _ =>
      refine ⟨_, rfl, _, rfl, a, _, dx, _, rfl, ha, T.cl_Token, T.n_Token_kind, (by show 0 < 1000; decide), ?_⟩
      refine ⟨_, rfl, _, rfl, a, _, dx, _, rfl, upd_same, T.cl_Token, T.n_Token_word, (by show 1 < 1000; decide), ?_⟩
      refine ⟨_, rfl, _, rfl, a, _, dx, _, rfl, upd_same, T.cl_Token, T.n_Token_place, (by show 2 < 1000; decide), ?_⟩
      refine q _ (fun b o hb hba => ?_) ?_
      · rw [upd_ne hba, upd_ne hba, upd_ne hba]
        exact hb
      · refine Eq.trans upd_same (congrArg (fun z => some (HO.ins _ dx z)) ?_)
        show putF "place" pl (putF "word" wd [("kind", k)]) = _
        rw [put2 (by decide +kernel), put3 (by decide +kernel) (by decide +kernel)]
        rfl
end Kg
/-! Runs, numbers, names, tokens. -/
namespace Kg
open PySem PySem.Spec PyProof.Rows L2
open VamvsBase (Bytes)
variable {P : Program} {w : World} {K : PySem.W.Frag} {mg : Str → Option Value} {base : Heap}
/-! ### mathematics -/
theorem cI {c : UInt8} : (0 : Int) ≤ ((c.toNat : Nat) : Int) ∧ ((c.toNat : Nat) : Int) ≤ 255 := by
  have := c.toNat_lt
  omega
theorem let_is (c : UInt8) : ltrI ((c.toNat : Nat) : Int) = VamvsBase.isLetter c := by
  unfold ltrI VamvsBase.isLetter
  simp only [Bool.decide_and]
  congr 2 <;> congr 1 <;> apply propext <;> omega
theorem dig_is (c : UInt8) : digI ((c.toNat : Nat) : Int) = VamvsBase.isDigit c := by
  unfold digI VamvsBase.isDigit
  simp only [Bool.decide_and]
  congr 1 <;> congr 1 <;> apply propext <;> omega
theorem eit_is (c : UInt8) : eitI ((c.toNat : Nat) : Int) = isEither c := by
  unfold eitI isEither
  rw [let_is, dig_is]
theorem bV_get {b : Bytes} {i : Nat} {c : UInt8} (h : b[i]? = some c) : (bV b)[i]? = some (.int ((c.toNat : Nat) : Int)) := by
  unfold bV
  rw [List.getElem?_map, h]
  rfl
theorem get_lt {α : Type} {b : List α} {i : Nat} (h : i < b.length) : ∃ c, b[i]? = some c := ⟨_, List.getElem?_eq_getElem h⟩
def runLen (p : UInt8 → Bool) (b : Bytes) (i : Nat) : Nat := ((b.drop i).takeWhile p).length
theorem runLen_step {p : UInt8 → Bool} {b : Bytes} {i : Nat} {c : UInt8} (h : b[i]? = some c) (hp : p c = true) : runLen p b i = 1 + runLen p b (i + 1) := by
  unfold runLen
  rw [drop_cons h, List.takeWhile_cons, if_pos hp, List.length_cons, Nat.add_comm]
theorem runLen_stop {p : UInt8 → Bool} {b : Bytes} {i : Nat} {c : UInt8} (h : b[i]? = some c) (hp : p c = false) : runLen p b i = 0 := by
  unfold runLen
  rw [drop_cons h, List.takeWhile_cons, if_neg (by rw [hp]; exact Bool.false_ne_true)]
  rfl
theorem runLen_end {p : UInt8 → Bool} {b : Bytes} {i : Nat} (h : b.length ≤ i) : runLen p b i = 0 := by
  unfold runLen
  rw [List.drop_eq_nil_of_le h]
  rfl
theorem runLen_le (p : UInt8 → Bool) (b : Bytes) (i : Nat) : runLen p b i ≤ b.length - i := by
  unfold runLen
  have := (List.takeWhile_sublist p (l := b.drop i)).length_le
  rwa [List.length_drop] at this
theorem takeWhile_take (p : UInt8 → Bool) : ∀ l : Bytes, l.take (l.takeWhile p).length = l.takeWhile p
  | [] => rfl
  | a :: r => by
    by_cases h : p a = true
    · rw [List.takeWhile_cons, if_pos h, List.length_cons, List.take_succ_cons, takeWhile_take p r]
    · rw [List.takeWhile_cons, if_neg h]
      rfl
theorem cut_nat {xs : List V} {i j : Nat} (hi : i ≤ j) (hj : j ≤ xs.length) : cutV xs (some (i : Int)) (some (j : Int)) = (xs.drop i).take (j - i) := by
  unfold cutV
  rw [HT.sIx_nat, HT.sIx_nat, Nat.min_eq_left hj, Nat.min_eq_left (Nat.le_trans hi hj)]
theorem cut_run {p : UInt8 → Bool} {b : Bytes} {i : Nat} (hi : i ≤ b.length) : cutV (bV b) (some (i : Int)) (some ((i + runLen p b i : Nat) : Int)) = bV ((b.drop i).takeWhile p) := by
  have h := runLen_le p b i
  rw [cut_nat (Nat.le_add_right _ _) (by rw [bV_length]; omega)]
  unfold bV
  rw [← List.map_drop, ← List.map_take]
  congr 1
  rw [Nat.add_sub_cancel_left]
  exact takeWhile_take p _
/-! ### run_of -/
def spRun (P : Program) (w : World) (K : PySem.W.Frag) (mg : Str → Option Value) (base : Heap) : Sp := fun vs H Q _ => ∃ (a f : Addr) (b : Bytes) (i : Nat) (p : Int → Bool) (pp : UInt8 → Bool), vs = [.ref a, .int (i : Nat), .ref f] ∧ SqL K H a (bV b) ∧ b.length ≤ 100000 ∧ i ≤ b.length ∧
  Held P w K mg base 2 f (spI p) ∧ (∀ c : UInt8, p ((c.toNat : Nat) : Int) = pp c) ∧ ∀ H' q, Same H H' → H q = none → H' q = some (.tup (bV ((b.drop i).takeWhile pp))) → Q (.ref q) H'
theorem c_run_of (T : Txt K mg) : CalX P w K mg base CX0 3 "run_of" (spRun P w K mg base) := by
  obtain ⟨fd, F⟩ := T.F_run_of
  refine ⟨_, fd, _, F.ok sc_run_of (fun vs H Q E h => ?_) (fun cdv A outer s H vs Q E hr h => ?_), T.g_run_of, T.k_run_of, b_run_of F⟩
  · obtain ⟨a, f, b, i, p, pp, rfl, _⟩ := h
    rfl
  · obtain ⟨a, f, b, i, p, pp, rfl, hS, hb, hi, hh, hp, q⟩ := h
    have hA : ∀ g sp, (if g = f then some (spI p) else none) = some sp → Held P w K mg base 2 g sp := fun g sp e => by
      by_cases c : g = f
      · rw [if_pos c] at e
        cases e
        rw [c]
        exact hh
      · rw [if_neg c] at e
        cases e
    refine ⟨_, (pss_cons (ps_set (i := 3) sc_run_of.nd rfl (Or.inl rfl) (pv 1))
    (pss_cons (ps_while PassesOwn.never (PW.pt (pw_and (pt_cmpR op_lt (pv 3) (pe_callB call_len_seq (by rfl) T.f_len (by decide +kernel) (pa_cons (pv 0) pa_nil)) (nomark _)) (pw_and1 (pt_val (pe_callA (i := 2) (S := fun g => if g = f then some (spI p) else none) hA hr rfl (Or.inl rfl) (pa_cons (pe_ix ix_list (pv 0) (pv 3) (fun _ _ => rfl)) pa_nil)))))) (pss_one (ps_aug (i := 3) sc_run_of.nd rfl (Or.inl rfl) pe_int ip_add)))
    (pss_one (ps_ret (pe_callTy call_tuple_of (by rfl) T.f_tuple (by decide +kernel) (pa_cons (pe_slice sl_list (pv 0) (po_some (pv 1)) (po_some (pv 3))) pa_nil)))))), ?_⟩
    refine ⟨_, rfl, fun m σ H' => ∃ e : Nat, σ = [some (.ref a), some (.int (i : Nat)), some (.ref f), some (.int (e : Nat))] ∧ H' = H ∧ i ≤ e ∧ e ≤ b.length ∧ m = b.length - e ∧ i + runLen pp b i = e + runLen pp b e, ⟨_, i, rfl, rfl, Nat.le_refl _, hi, rfl, rfl⟩, ?_⟩
    rintro m σ H' ⟨e, rfl, rfl, h1, h2, rfl, h3⟩
    have done : runLen pp b e = 0 → tRet (tCB (fun xs H Q => ∃ p ys, xs = [.ref p] ∧ ((SqL K H p ys ∧ ∀ l, H l = none → Q (.ref l) (upd H l (.tup ys))) ∨ (SqT K H p ys ∧ Q (.ref p) H))) (tCons (tSl (rSlL K) (tVar 0) (tPart (tVar 1)) (tPart (tVar 3))) tNil))
        { nx := fun _ H' => Q .non H', rt := Q } [some (.ref a), some (.int (i : Nat)), some (.ref f), some (.int (e : Nat))] H' := fun h => by
      refine ⟨_, rfl, _, rfl, _, rfl, _, rfl, _, rfl, a, _, rfl, hS, fun l hl => ⟨l, _, rfl, .inl ⟨SqL.of upd_same, fun t ht => ?_⟩⟩⟩
      have ee : e = i + runLen pp b i := by omega
      rw [ee, cut_run hi] at ht ⊢
      exact q _ t (same_lst (same_new hl) ((same_new hl).free ht)) ((same_new hl).free ht) upd_same
    refine ⟨_, rfl, _, rfl, a, _, rfl, .inl hS, _, _, rfl, rfl, _, rfl, ?_⟩
    rw [bV_length]
    by_cases c : e < b.length
    · obtain ⟨y, hy⟩ := get_lt c
      rw [decide_eq_true (by omega)]
      refine ⟨f, _, rfl, if_pos rfl, _, rfl, _, rfl, _, _, _, _, rfl, rfl, hS, atI_nat (bV_get hy), _, rfl, _, rfl, ?_⟩
      rw [hp]
      cases hc : pp y with
      | true =>
        refine ⟨_, fun _ _ h => h, _, rfl, _, _, rfl, rfl, ⟨_, ?_, e + 1, ?_, rfl, by omega, by omega, rfl, ?_⟩⟩
        · omega
        · show _ = _
          rw [Int.natCast_add]
          rfl
        · have := runLen_step hy hc
          omega
      | false => exact done (runLen_stop hy hc)
    · rw [decide_eq_false (by omega)]
      exact done (runLen_end (by omega))
/-! ### numbers -/
theorem dec_snoc (l : Bytes) (c : UInt8) : VamvsBase.decimal (l ++ [c]) = 10 * VamvsBase.decimal l + (c.toNat - 48) := by
  unfold VamvsBase.decimal
  rw [List.foldl_append]
  rfl
theorem dig_48 {c : UInt8} (h : VamvsBase.isDigit c = true) : 48 ≤ c.toNat := by
  unfold VamvsBase.isDigit at h
  have := of_decide_eq_true h
  omega
theorem take_snoc {α : Type} {l : List α} {i : Nat} {x : α} (h : l[i]? = some x) : l.take (i + 1) = l.take i ++ [x] := by
  rw [List.take_add_one, h]
  rfl
def spNum (K : PySem.W.Frag) : Sp := fun vs H Q _ => ∃ (a : Addr) (b : Bytes), vs = [.ref a] ∧ SqT K H a (bV b) ∧ b.all VamvsBase.isDigit = true ∧ Q (.int ((VamvsBase.decimal b : Nat) : Int)) H
theorem c_number_of (T : Txt K mg) : CalX P w K mg base CX0 1 "number_of" (spNum K) := by
  obtain ⟨fd, F⟩ := T.F_number_of
  refine ⟨_, fd, _, F.ok sc_number_of (fun vs H Q E h => ?_) (fun cdv A outer s H vs Q E hr h => ⟨_, (pss_cons (ps_set (i := 1) sc_number_of.nd rfl (Or.inl rfl) pe_int)
    (pss_cons (ps_for PassesOwn.never rfl (pi_tup (pv 0)) (pg_name (i := 2) sc_number_of.nd rfl (Or.inl rfl)) (pss_one (ps_set (i := 1) sc_number_of.nd rfl (Or.inl rfl) (pe_op op_sub (pe_op op_add (pe_op op_mul pe_int (pv 1)) (pv 2)) pe_int))))
    (pss_one (ps_ret (pv 1))))), ?_⟩), T.g_number_of, T.k_number_of, b_number_of F⟩
  · obtain ⟨a, b, rfl, _⟩ := h
    rfl
  · obtain ⟨a, b, rfl, hS, hd, q⟩ := h
    refine ⟨_, rfl, a, rfl, ⟨_, hS⟩, for_tup (K := K) (a := a) (xs := bV b) (fun i σ H' => ∃ v, σ = [some (.ref a), some (.int ((VamvsBase.decimal (b.take i) : Nat) : Int)), v] ∧ H' = H) ⟨none, rfl, rfl⟩ (fun i σ H' _ ⟨_, _, e⟩ => by rw [e]; exact hS) ?_ ?_⟩
    · rintro i x σ H' hx ⟨v, rfl, rfl⟩
      have hi := lt_of_at hx
      rw [bV_length] at hi
      obtain ⟨c, hc⟩ := get_lt hi
      rw [bV_get hc] at hx
      cases hx
      have h48 := dig_48 (List.all_eq_true.mp hd c (List.mem_of_getElem? hc))
      refine ⟨_, rfl, _, _, rfl, rfl, .inl ⟨by decide, by decide⟩, _, rfl, _, _, rfl, rfl, _, _, rfl, rfl, ⟨some (.int ((c.toNat : Nat) : Int)), ?_, rfl⟩⟩
      rw [take_snoc hc, dec_snoc]
      congr 2
      have e : ((10 * VamvsBase.decimal (b.take i) + (c.toNat - 48) : Nat) : Int) = 10 * ((VamvsBase.decimal (b.take i) : Nat) : Int) + ((c.toNat : Nat) : Int) - 48 := by omega
      rw [e]
      rfl
    · rintro σ H' ⟨v, rfl, rfl⟩
      rw [bV_length, List.take_length]
      exact ⟨_, rfl, q⟩
def spIsNum (K : PySem.W.Frag) : Sp := fun vs H Q _ => ∃ (a : Addr) (b : Bytes), vs = [.ref a] ∧ SqT K H a (bV b) ∧ b ≠ [] ∧ b.all VamvsBase.isDigit = true ∧ Q (.bl (isNum b)) H
theorem c_is_number (T : Txt K mg) : CalX P w K mg base CX0 2 "is_number" (spIsNum K) := by
  obtain ⟨fd, F⟩ := T.F_is_number
  refine ⟨_, fd, _, F.ok sc_is_number (fun vs H Q E h => ?_) (fun cdv A outer s H vs Q E hr h => ⟨_, (pss_cons (ps_if (PW.pt (pw_or (PW.pt (pw_and (pt_cmpR op_eq (pe_ix ix_tup (pv 0) pe_int (fun _ _ => rfl)) pe_int (nomark _)) (pw_and1 (pt_cmpR op_gt (pe_callB call_len_seq (by rfl) T.f_len (by decide +kernel) (pa_cons (pv 0) pa_nil)) pe_int (nomark _))))) (pw_or1 (pt_cmpR op_gt (pe_callB call_len_seq (by rfl) T.f_len (by decide +kernel) (pa_cons (pv 0) pa_nil)) pe_int (nomark _))))) (pss_one (ps_ret pe_bl)) pss_nil)
    (pss_one (ps_ret (pe_cmpR op_le (pe_cx (c_number_of T) hr (by decide) pass0 rfl (pa_cons (pv 0) pa_nil)) (C8.pe_gc rfl T.c_MOST_NUMBER) (nomark _))))), ?_⟩), T.g_is_number, T.k_is_number, b_is_number F⟩
  · obtain ⟨a, b, rfl, _⟩ := h
    rfl
  · obtain ⟨a, b, rfl, hS, hne, hd, q⟩ := h
    cases b with
    | nil => exact absurd rfl hne
    | cons c r =>
      have lens : (bV (c :: r)).length = (c :: r).length := bV_length _
      have e1 : decide (V.int ((c.toNat : Nat) : Int) = V.int 48) = decide (c = 48) := by
        apply decide_eq_decide.mpr
        constructor
        · intro z
          injection z with z
          apply UInt8.toNat_inj.mp
          show c.toNat = 48
          omega
        · intro z
          rw [z]
          rfl
      have yes : (c = 48 ∧ 1 < (c :: r).length) ∨ 10 < (c :: r).length → Q (.bl false) H := fun z => by
        have e : isNum (c :: r) = false := if_pos z
        rw [e] at q
        exact q
      have no : ¬ ((c = 48 ∧ 1 < (c :: r).length) ∨ 10 < (c :: r).length) → Q (.bl (decide (((VamvsBase.decimal (c :: r) : Nat) : Int) ≤ 1000000000))) H := fun z => by
        have e : isNum (c :: r) = decide (((VamvsBase.decimal (c :: r) : Nat) : Int) ≤ 1000000000) := by
          refine (if_neg z).trans ?_
          apply decide_eq_decide.mpr
          unfold VamvsBase.NUMBER
          omega
        rw [e] at q
        exact q
      refine ⟨_, rfl, a, _, _, _, rfl, rfl, hS, atI_nat (j := 0) rfl, rfl, _, rfl, ?_⟩
      rw [e1]
      by_cases h : c = 48
      · rw [decide_eq_true h]
        refine ⟨_, rfl, a, _, rfl, .inr hS, _, _, rfl, rfl, _, rfl, ?_⟩
        rw [lens]
        by_cases h2 : 1 < (c :: r).length
        · rw [decide_eq_true (by omega)]
          exact yes (.inl ⟨h, h2⟩)
        · rw [decide_eq_false (by omega)]
          refine ⟨_, rfl, a, _, rfl, .inr hS, _, _, rfl, rfl, _, rfl, ?_⟩
          rw [lens, decide_eq_false (by omega)]
          exact ⟨_, rfl, a, _, rfl, hS, hd, _, _, rfl, rfl, no (by omega)⟩
      · rw [decide_eq_false h]
        refine ⟨_, rfl, a, _, rfl, .inr hS, _, _, rfl, rfl, _, rfl, ?_⟩
        rw [lens]
        by_cases h2 : 10 < (c :: r).length
        · rw [decide_eq_true (by omega)]
          exact yes (.inr h2)
        · rw [decide_eq_false (by omega)]
          exact ⟨_, rfl, a, _, rfl, hS, hd, _, _, rfl, rfl, no (by rintro (z | z); exact h z.1; exact h2 z)⟩
end Kg
/-! Names, tokens, all tokens of a text. -/
namespace Kg
open PySem PySem.Spec PyProof.Rows L2
open PySem.W (Datum Tup)
open VamvsBase (Bytes RESERVED)
variable {P : Program} {w : World} {K : PySem.W.Frag} {mg : Str → Option Value} {base : Heap}
/-! ### words as data -/
def bD (b : Bytes) : PyData := Datum.toD (Tup.mk (b.map fun c => ((c.toNat : Nat) : Int)))
theorem bI_inj {a b : Bytes} (h : a.map (fun c => ((c.toNat : Nat) : Int)) = b.map fun c => ((c.toNat : Nat) : Int)) : a = b := by
  induction a generalizing b with
  | nil =>
    cases b with
    | nil => rfl
    | cons y s => cases h
  | cons x r ih =>
    cases b with
    | nil => cases h
    | cons y s =>
      rw [List.map_cons, List.map_cons] at h
      injection h with h1 h2
      rw [ih h2]
      congr 1
      exact UInt8.toNat_inj.mp (by omega)
theorem bD_eqv (a b : Bytes) : PyData.eqv (bD a) (bD b) = decide (a = b) := by
  unfold bD
  rw [Datum.eqv]
  apply decide_eq_decide.mpr
  exact ⟨fun e => bI_inj (by injection e), fun e => by rw [e]⟩
theorem ints_dp {K : PySem.W.Frag} {H : Hp} : ∀ l : List Int, DpAll K H (l.map V.int) (l.map Datum.toD)
  | [] => .nil
  | i :: r => .cons (.int i) (ints_dp r)
theorem bV_map (b : Bytes) : bV b = (b.map fun c => ((c.toNat : Nat) : Int)).map V.int := by
  unfold bV
  rw [List.map_map]
  rfl
theorem ByAt.dp {H : Hp} {v : V} {b : Bytes} (h : ByAt H v b) : Dp K H v (bD b) := by
  obtain ⟨a, rfl, h⟩ := h
  rw [bV_map] at h
  exact .tup (SqT.of h) (ints_dp _)
theorem bys_dp {H : Hp} : ∀ {vs : List V} {l : List Bytes}, Paired (ByAt H) vs l → DpAll K H vs (l.map bD)
  | _, _, .nil => .nil
  | _, _, .cons h r => .cons h.dp (bys_dp r)
theorem ints_lay : ∀ l : List Int, PyData.canLayAll0 (l.map Datum.toD) = true
  | [] => rfl
  | i :: r => by
    show (PyData.canLay0 (.int i) && PyData.canLayAll0 (r.map Datum.toD)) = true
    rw [ints_lay r]
    rfl
theorem bD_lay (b : Bytes) : (bD b).canLay0 = true := ints_lay _
theorem ints_depth : ∀ l : List Int, PyData.depthAll (l.map Datum.toD) = 0
  | [] => by simp only [List.map_nil, PyData.depthAll]
  | i :: r => by
    have e : (Datum.toD i : PyData) = .int i := rfl
    rw [List.map_cons, e, PyData.depthAll, ints_depth r, PyData.depth]
    rfl
theorem bD_depth (b : Bytes) : (bD b).depth = 1 := by
  have e : bD b = .tuple ((b.map fun c => ((c.toNat : Nat) : Int)).map Datum.toD) := rfl
  rw [e, PyData.depth, ints_depth]
theorem bDs_lay : ∀ l : List Bytes, PyData.canLayAll0 (l.map bD) = true
  | [] => rfl
  | b :: r => by
    show (PyData.canLay0 (bD b) && PyData.canLayAll0 (r.map bD)) = true
    rw [bDs_lay r, bD_lay]
    rfl
theorem bDs_depth : ∀ l : List Bytes, PyData.depthAll (l.map bD) ≤ 1
  | [] => by simp only [List.map_nil, PyData.depthAll]; omega
  | b :: r => by
    rw [List.map_cons, PyData.depthAll, bD_depth]
    have := bDs_depth r
    omega
theorem bD_shaped (b : Bytes) : SeqAt.shaped (bD b) = true := by
  unfold SeqAt.shaped
  rw [bD_lay, bD_depth]
  rfl
theorem bDs_shaped (l : List Bytes) : SeqAt.shaped (.list (l.map bD)) = true := by
  unfold SeqAt.shaped
  have h := bDs_depth l
  have e : (PyData.list (l.map bD)).canLay0 = true := bDs_lay l
  rw [e, PyData.depth]
  simp only [Bool.true_and, decide_eq_true_eq]
  omega
theorem any_bD (l : List Bytes) (b : Bytes) : ((l.map bD).any fun z => PyData.eqv z (bD b)) = l.contains b := by
  rw [List.any_map, ← List.any_beq']
  congr 1
  funext z
  simp only [Function.comp, bD_eqv]
  by_cases e : z = b
  · simp [e]
  · simp [e, Ne.symm e]
theorem code_columns : codeV "columns" = bV (VamvsBase.word "columns") := by decide +kernel
theorem code_row : codeV "row" = bV (VamvsBase.word "row") := by decide +kernel
theorem code_ask : codeV "ask" = bV (VamvsBase.word "ask") := by decide +kernel
theorem code_times : codeV "times" = bV (VamvsBase.word "times") := by decide +kernel
/-! ### tokens in the heap -/
def kdS : Kd → Str
  | .name => "name"
  | .word => "word"
  | .number => "number"
  | .sign => "sign"
  | .fin => "end"
def TokAt (C : Addr) (H : Hp) (v : V) (t : Tk) : Prop := ∃ a dx wd, v = .ref a ∧ H a = some (.ins C dx [("kind", .str (kdS t.kd)), ("word", .ref wd), ("place", .int (t.place : Nat))]) ∧ H wd = some (.tup (bV t.wd))
theorem TokAt.mono {C : Addr} {H H' : Hp} {v : V} {t : Tk} (s : Same H H') (h : TokAt C H v t) : TokAt C H' v t := by
  obtain ⟨a, dx, wd, e, h1, h2⟩ := h
  exact ⟨a, dx, wd, e, s _ _ h1, s _ _ h2⟩
/-- what is raised: a fault, its code and its place told -/
def FaultE (CF : Addr) (H : Hp) (E : XK) (code pl : Nat) : Prop := ∀ d H3, Same H H3 → H d = none → H3 d = some (.xd [("place", .int (pl : Nat)), ("code", .int (code : Nat))]) → E (.ref CF) (some d) H3
/-- a token made -/
theorem tok_go {C : Addr} {H1 : Hp} {Q : VK} {k wd pl : V} (q : ∀ a dx H2, Same H1 H2 → H1 a = none → H2 a = some (.ins C dx [("kind", k), ("word", wd), ("place", pl)]) → Q (.ref a) H2) :
    ∀ x dx, H1 x = none → H1 dx = none → dx ≠ x → spNew C 3 fToken (.ref x :: [k, wd, pl]) (upd (upd H1 dx (.own x)) x (.ins C dx [])) (fun v H2 => v = .non ∧ Q (.ref x) H2) E0 := fun x dx nx nd ne =>
  ⟨x, dx, _, rfl, rfl, upd_same, fun H' kp e => ⟨rfl, q x dx H' (Same.made nx nd kp) nx e⟩⟩
/-! ### name_at -/
def nameTk (b : Bytes) (i : Nat) : Option Tk := if VamvsBase.NAME < ((b.drop i).takeWhile isEither).length then none else some ⟨kdOf ((b.drop i).takeWhile isEither), (b.drop i).takeWhile isEither, i⟩
def spTok (CT CF : Addr) (f : Bytes → Nat → Option Tk) (pre : Bytes → Nat → Prop) (K : PySem.W.Frag) : Sp := fun vs H Q E => ∃ (a : Addr) (b : Bytes) (i : Nat), vs = [.ref a, .int (i : Nat)] ∧ SqL K H a (bV b) ∧ b.length ≤ 100000 ∧ i < b.length ∧ pre b i ∧
  (∀ t, f b i = some t → ∀ H' v, Same H H' → TokAt CT H' v t → Q v H') ∧ (f b i = none → FaultE CF H E 2 i)
theorem held_either (T : Txt K mg) : Held P w K mg base 2 (He.ga K "is_either") (spI eitI) := by
  obtain ⟨f, fd, ps, F, hm, kp, b⟩ := (c_is_either (P := P) (w := w) (base := base) T).ex
  have e := hm.symm.trans T.g_is_either
  cases e
  exact ⟨fd, ps, F, kp, b⟩
theorem held_digit (T : Txt K mg) : Held P w K mg base 2 (He.ga K "is_digit") (spI digI) := by
  obtain ⟨f, fd, ps, F, hm, kp, b⟩ := (c_is_digit (P := P) (w := w) (base := base) T).ex
  have e := hm.symm.trans T.g_is_digit
  cases e
  exact ⟨fd, ps, F.mono (by decide), kp, b⟩
theorem c_name_at (T : Txt K mg) : CalX P w K mg base (L2.CX P w) 4 "name_at" (spTok (He.ga K "Token") (He.ga K "Fault") nameTk (fun _ _ => True) K) := by
  obtain ⟨fd, F⟩ := T.F_name_at
  refine ⟨_, fd, _, F.okX sc_name_at (fun vs H Q E h => ?_) (fun cdv A outer s H vs Q E hr h => ⟨_, (pss_cons (ps_set (i := 2) sc_name_at.nd rfl (Or.inl rfl) (pe_cx (c_run_of T) hr (by decide) pass0 rfl (pa_cons (pv 0) (pa_cons (pv 1) (pa_cons (pe_glob (v := .ref (He.ga K "is_either")) rfl T.g_is_either rfl) pa_nil)))))
    (pss_cons (ps_if (pt_cmpR op_gt (pe_callB call_len_seq (by rfl) T.f_len (by decide +kernel) (pa_cons (pv 2) pa_nil)) (C8.pe_gc rfl T.c_MOST_NAME) (nomark _)) (pss_one (ps_raise rfl takesD (pr_x (x_Fault T) hr (by decide) rfl (pa_cons (C8.pe_gc rfl T.c_NO_TOKEN) (pa_cons (pv 1) pa_nil))))) pss_nil)
    (pss_cons (ps_if (pt_cmpR (op_inD (hu65 hr)) (pv 2) (pe_lc (own := [("kept", 3)]) (g := gName 3) rfl sc_name_at.nd (pi_tup (pe_glob (v := .ref (He.ga K "KEPT")) rfl T.g_KEPT rfl)) (blkOk_by (N := N_name_at) (sc := defScope s_name_at) (by decide +kernel)) (fun _ _ _ _ _ => (pg_name (i := 3) sc_name_at.nd rfl (Or.inl rfl))) (fun _ _ _ _ _ => pts_nil) (fun _ _ _ _ _ => (pe_cx (c_bytes_of T) hr (by decide) pass0 rfl (pa_cons (pv 3) pa_nil)))) rfl) (pss_one (ps_ret (pe_kx (k_Token T) hr (by decide) pass0 rfl (pa_cons (C8.pe_gc rfl T.c_WORD) (pa_cons (pv 2) (pa_cons (pv 1) pa_nil)))))) pss_nil)
    (pss_one (ps_ret (pe_kx (k_Token T) hr (by decide) pass0 rfl (pa_cons (C8.pe_gc rfl T.c_NAME) (pa_cons (pv 2) (pa_cons (pv 1) pa_nil))))))))), ?_⟩), T.g_name_at, T.k_name_at, b_name_at F⟩
  · obtain ⟨a, b, i, rfl, _⟩ := h
    rfl
  · obtain ⟨a, b, i, rfl, hS, hb, hi, _, q, qE⟩ := h
    refine ⟨_, rfl, _, rfl, a, _, b, i, eitI, isEither, rfl, hS, hb, Nat.le_of_lt hi, held_either T, eit_is, fun H1 wd s1 nw hw => ?_⟩
    refine ⟨_, rfl, wd, _, rfl, .inr (SqT.of hw), _, _, rfl, rfl, _, rfl, ?_⟩
    rw [bV_length]
    refine if_d (fun h => ?_) fun h => ?_
    · have e : nameTk b i = none := if_pos (by unfold VamvsBase.NAME; omega)
      refine ⟨_, rfl, exc_go rfl (by decide) fun d H3 s3 hd hx => qE e d H3 (s1.trans s3) (s1.free hd) hx⟩
    · have e : nameTk b i = some ⟨kdOf ((b.drop i).takeWhile isEither), (b.drop i).takeWhile isEither, i⟩ := if_neg (by unfold VamvsBase.NAME; omega)
      have q' := q _ e
      refine ⟨_, rfl, _, rfl, ⟨_, T.T_KEPT _⟩, fun D hD => lc_it walk_tup (LcI H1 D (fun i H' y => ∃ b, RESERVED[i]? = some b ∧ ByAt H' y b) fun _ => true) (LcI.start hD) (fun _ _ _ _ => T.T_KEPT _) (fun j x H2 H2' hj I ⟨e1, hx⟩ => ?_) fun H2 I => ?_⟩
      · subst e1
        have go : ∀ (z : Str) (r : Bytes), x = .str z → z.length ≤ 100000 → codeV z = bV r → RESERVED[j]? = some r → tCl spBytes E0 (tCons (tVar 3) tNil) [some (.ref a), some (.int (i : Nat)), some (.ref wd), some x] H2' fun y H4 =>
            ∃ acc, H4 D = some (.lst acc) ∧ acc.length < sizeLine ∧ LcI H1 D (fun i H' y => ∃ b, RESERVED[i]? = some b ∧ ByAt H' y b) (fun _ => true) (j + 1) (upd H4 D (.lst (acc ++ [y]))) := by
          intro z r ez hz hc hr
          subst ez
          refine ⟨_, rfl, z, rfl, hz, fun H4 p s4 np hp => ?_⟩
          rw [hc] at hp
          exact I.add hD s4 (fun _ _ _ _ s ⟨b, h1, h2⟩ => ⟨b, h1, h2.mono s⟩) rfl ⟨r, hr, p, rfl, hp⟩ (by rw [line_eq]; have : j < 4 := hj; omega)
        match j, hx with
        | 0, hx => cases hx; exact ⟨rfl, go _ _ rfl (by decide) code_columns rfl⟩
        | 1, hx => cases hx; exact ⟨rfl, go _ _ rfl (by decide) code_row rfl⟩
        | 2, hx => cases hx; exact ⟨rfl, go _ _ rfl (by decide) code_ask rfl⟩
        | 3, hx => cases hx; exact ⟨rfl, go _ _ rfl (by decide) code_times rfl⟩
        | j + 4, hx => cases hx
      · obtain ⟨s2, ys, hy, Pr⟩ := I
        rw [all_true] at Pr
        have Pr2 : Paired (ByAt H2) ys RESERVED := paired_of (l := RESERVED) Pr fun y j h => h
        refine ⟨bD ((b.drop i).takeWhile isEither), RESERVED.map bD, ByAt.dp ⟨wd, rfl, s2 _ _ hw⟩, .lst (SqL.of hy) (bys_dp Pr2), bD_shaped _, bDs_shaped _, _, rfl, ?_⟩
        rw [any_bD]
        have fin : ∀ k : Str, k = kdS (kdOf ((b.drop i).takeWhile isEither)) → ∀ a1 dx H5, Same H2 H5 → H2 a1 = none → H5 a1 = some (.ins (He.ga K "Token") dx [("kind", .str k), ("word", .ref wd), ("place", .int (i : Nat))]) → Q (.ref a1) H5 := fun k ek a1 dx H5 s5 n5 h5 =>
          q' H5 (.ref a1) ((s1.trans s2).trans s5) ⟨a1, dx, wd, rfl, by rw [← ek]; exact h5, (s2.trans s5) _ _ hw⟩
        refine if_b (fun h => ?_) fun h => ?_
        · exact ⟨_, rfl, _, rfl, tok_go (fin _ (by unfold kdOf; rw [if_pos h]; rfl))⟩
        · exact ⟨_, rfl, _, rfl, tok_go (fin _ (by unfold kdOf; rw [if_neg (by rw [h]; exact Bool.false_ne_true)]; rfl))⟩
/-! ### token_at -/
theorem FaultE.mono {CF : Addr} {H H' : Hp} {E : XK} {c p : Nat} (s : Same H H') (q : FaultE CF H E c p) : FaultE CF H' E c p := fun d H3 s3 hd hx => q d H3 (s.trans s3) (s.free hd) hx
theorem inV_bytes (c : UInt8) : ∀ l : Bytes, inV (.int ((c.toNat : Nat) : Int)) (bV l) = l.contains c
  | [] => rfl
  | x :: r => by
    have ih := inV_bytes c r
    show (eqV (.int ((x.toNat : Nat) : Int)) (.int ((c.toNat : Nat) : Int)) || inV (.int ((c.toNat : Nat) : Int)) (bV r)) = _
    rw [ih, List.contains_cons]
    congr 1
    show (((x.toNat : Nat) : Int) == ((c.toNat : Nat) : Int)) = (c == x)
    by_cases e : c = x
    · subst e
      exact (beq_self_eq_true _).trans (beq_self_eq_true _).symm
    · have : ((x.toNat : Nat) : Int) ≠ ((c.toNat : Nat) : Int) := fun z => e (UInt8.toNat_inj.mp (by omega))
      exact (beq_eq_false_iff_ne.mpr this).trans (beq_eq_false_iff_ne.mpr e).symm
theorem flat_bytes (l : Bytes) : (bV l).all flatV = true := by
  unfold bV
  rw [List.all_map, List.all_eq_true]
  intro x _
  rfl
theorem code_signs : codeV ",:;-" = bV VamvsBase.SIGNS := by decide +kernel
def tokTk (b : Bytes) (i : Nat) : Option Tk := tkAt i (b.drop i)
theorem tokTk_is {b : Bytes} {i : Nat} {c : UInt8} (h : b[i]? = some c) : tokTk b i = if VamvsBase.isLetter c = true then nameTk b i
    else if VamvsBase.isDigit c = true then (if isNum ((b.drop i).takeWhile VamvsBase.isDigit) = true then some ⟨.number, (b.drop i).takeWhile VamvsBase.isDigit, i⟩ else none)
    else if VamvsBase.SIGNS.contains c = true then some ⟨.sign, [c], i⟩ else none := by
  have hd := drop_cons h
  unfold tokTk nameTk
  rw [hd, tkAt_cons]
theorem c_token_at (T : Txt K mg) : CalX P w K mg base (L2.CX P w) 5 "token_at" (spTok (He.ga K "Token") (He.ga K "Fault") tokTk (fun _ _ => True) K) := by
  obtain ⟨fd, F⟩ := T.F_token_at
  refine ⟨_, fd, _, F.okX sc_token_at (fun vs H Q E h => ?_) (fun cdv A outer s H vs Q E hr h => ⟨_, (pss_cons (ps_if (pt_val (pe_cx (c_is_letter T) hr (by decide) pass0 rfl (pa_cons (pe_ix ix_list (pv 0) (pv 1) (fun _ _ => rfl)) pa_nil))) (pss_one (ps_ret (pe_cx (c_name_at T) hr (by decide) passD rfl (pa_cons (pv 0) (pa_cons (pv 1) pa_nil))))) pss_nil)
    (pss_cons (ps_if (pt_val (pe_cx (c_is_digit T) hr (by decide) pass0 rfl (pa_cons (pe_ix ix_list (pv 0) (pv 1) (fun _ _ => rfl)) pa_nil))) (pss_cons (ps_set (i := 2) sc_token_at.nd rfl (Or.inl rfl) (pe_cx (c_run_of T) hr (by decide) pass0 rfl (pa_cons (pv 0) (pa_cons (pv 1) (pa_cons (pe_glob (v := .ref (He.ga K "is_digit")) rfl T.g_is_digit rfl) pa_nil)))))
    (pss_cons (ps_if (pt_not (pt_val (pe_cx (c_is_number T) hr (by decide) pass0 rfl (pa_cons (pv 2) pa_nil)))) (pss_one (ps_raise rfl takesD (pr_x (x_Fault T) hr (by decide) rfl (pa_cons (C8.pe_gc rfl T.c_NO_TOKEN) (pa_cons (pv 1) pa_nil))))) pss_nil)
    (pss_one (ps_ret (pe_kx (k_Token T) hr (by decide) pass0 rfl (pa_cons (C8.pe_gc rfl T.c_NUMBER) (pa_cons (pv 2) (pa_cons (pv 1) pa_nil)))))))) pss_nil)
    (pss_cons (ps_if (pt_cmpR op_notIn_seq (pe_ix ix_list (pv 0) (pv 1) (fun _ _ => rfl)) (pe_cx (c_bytes_of T) hr (by decide) pass0 rfl (pa_cons (C8.pe_gc rfl T.c_SIGNS) pa_nil)) rfl) (pss_one (ps_raise rfl takesD (pr_x (x_Fault T) hr (by decide) rfl (pa_cons (C8.pe_gc rfl T.c_NO_TOKEN) (pa_cons (pv 1) pa_nil))))) pss_nil)
    (pss_one (ps_ret (pe_kx (k_Token T) hr (by decide) pass0 rfl (pa_cons (C8.pe_gc rfl T.c_SIGN) (pa_cons (pe_tup (pa_cons (pe_ix ix_list (pv 0) (pv 1) (fun _ _ => rfl)) pa_nil)) (pa_cons (pv 1) pa_nil))))))))), ?_⟩), T.g_token_at, T.k_token_at, b_token_at F⟩
  · obtain ⟨a, b, i, rfl, _⟩ := h
    rfl
  · obtain ⟨a, b, i, rfl, hS, hb, hi, _, q, qE⟩ := h
    obtain ⟨c, hc⟩ := get_lt hi
    have hd := drop_cons hc
    have hx := atI_nat (bV_get hc)
    rw [tokTk_is hc] at q qE
    refine ⟨_, rfl, _, rfl, a, _, _, _, rfl, rfl, hS, hx, _, rfl, _, rfl, ?_⟩
    rw [let_is]
    refine if_b (fun h1 => ?_) fun h1 => ?_
    · rw [if_pos h1] at q qE
      exact ⟨_, rfl, _, rfl, a, b, i, rfl, hS, hb, hi, trivial, q, qE⟩
    · rw [if_neg (by rw [h1]; exact Bool.false_ne_true)] at q qE
      refine ⟨_, rfl, _, rfl, a, _, _, _, rfl, rfl, hS, hx, _, rfl, _, rfl, ?_⟩
      rw [dig_is]
      refine if_b (fun h2 => ?_) fun h2 => ?_
      · rw [if_pos h2] at q qE
        refine ⟨_, rfl, _, rfl, a, _, b, i, digI, VamvsBase.isDigit, rfl, hS, hb, Nat.le_of_lt hi, held_digit T, dig_is, fun H1 wd s1 nw hw => ?_⟩
        refine ⟨_, rfl, wd, _, rfl, SqT.of hw, ?_, ?_, _, rfl, ?_⟩
        · rw [hd, List.takeWhile_cons, if_pos h2]
          exact List.cons_ne_nil _ _
        · exact List.all_takeWhile
        · cases h3 : isNum ((b.drop i).takeWhile VamvsBase.isDigit) with
          | true =>
            rw [if_pos h3] at q
            exact ⟨_, rfl, _, rfl, tok_go fun a1 dx H5 s5 n5 h5 => q _ rfl H5 _ (s1.trans s5) ⟨a1, dx, wd, rfl, h5, s5 _ _ hw⟩⟩
          | false =>
            rw [if_neg (by rw [h3]; exact Bool.false_ne_true)] at qE
            exact ⟨_, rfl, exc_go rfl (by decide) fun d H3 s3 hd hx => qE rfl d H3 (s1.trans s3) (s1.free hd) hx⟩
      · rw [if_neg (by rw [h2]; exact Bool.false_ne_true)] at q qE
        refine ⟨_, rfl, _, rfl, a, _, _, _, rfl, rfl, hS, hx, _, rfl, (by decide), fun H1 p s1 np hp => ?_⟩
        rw [code_signs] at hp
        refine ⟨p, _, rfl, .inr (SqT.of hp), rfl, flat_bytes _, _, rfl, ?_⟩
        show if (!inV (.int ((c.toNat : Nat) : Int)) (bV VamvsBase.SIGNS)) = true then _ else _
        rw [inV_bytes]
        cases h3 : VamvsBase.SIGNS.contains c with
        | true =>
          rw [if_pos h3] at q
          have hS1 := s1.seq hS
          refine ⟨_, rfl, _, rfl, a, _, _, _, rfl, rfl, hS1, hx, (by show 1 ≤ sizeLine; rw [line_eq]; decide), fun t nt => ⟨_, rfl, tok_go fun a1 dx H5 s5 n5 h5 => ?_⟩⟩
          exact q _ rfl H5 _ (s1.trans ((same_new nt).trans s5)) ⟨a1, dx, t, rfl, h5, s5 _ _ upd_same⟩
        | false =>
          rw [if_neg (by rw [h3]; exact Bool.false_ne_true)] at qE
          exact ⟨_, rfl, exc_go rfl (by decide) fun d H3 s3 hd hx => qE rfl d H3 (s1.trans s3) (s1.free hd) hx⟩
/-! ### behind_remark -/
def spRem (K : PySem.W.Frag) : Sp := fun vs H Q _ => ∃ (a : Addr) (b : Bytes) (i : Nat), vs = [.ref a, .int (i : Nat)] ∧ SqL K H a (bV b) ∧ b.length ≤ 100000 ∧ i ≤ b.length ∧ Q (.int ((i + remLen b i : Nat) : Int)) H
theorem c_behind_remark (T : Txt K mg) : CalX P w K mg base CX0 1 "behind_remark" (spRem K) := by
  obtain ⟨fd, F⟩ := T.F_behind_remark
  refine ⟨_, fd, _, F.ok sc_behind_remark (fun vs H Q E h => ?_) (fun cdv A outer s H vs Q E hr h => ⟨_, (pss_cons (ps_while PassesOwn.never (PW.pt (pw_and (pt_cmpR op_lt (pv 1) (pe_callB call_len_seq (by rfl) T.f_len (by decide +kernel) (pa_cons (pv 0) pa_nil)) (nomark _)) (pw_and1 (pt_cmpR op_ne (pe_ix ix_list (pv 0) (pv 1) (fun _ _ => rfl)) (C8.pe_gc rfl T.c_FEED) (nomark _))))) (pss_one (ps_aug (i := 1) sc_behind_remark.nd rfl (Or.inl rfl) pe_int ip_add)))
    (pss_one (ps_ret (pv 1)))), ?_⟩), T.g_behind_remark, T.k_behind_remark, b_behind_remark F⟩
  · obtain ⟨a, b, i, rfl, _⟩ := h
    rfl
  · obtain ⟨a, b, i, rfl, hS, hb, hi, q⟩ := h
    refine ⟨fun m σ H' => ∃ e : Nat, σ = [some (.ref a), some (.int (e : Nat))] ∧ H' = H ∧ i ≤ e ∧ e ≤ b.length ∧ m = b.length - e ∧ i + runLen (· != 10) b i = e + runLen (· != 10) b e, ⟨_, i, rfl, rfl, Nat.le_refl _, hi, rfl, rfl⟩, ?_⟩
    rintro m σ H' ⟨e, rfl, rfl, h1, h2, rfl, h3⟩
    have done : runLen (· != 10) b e = 0 → Q (.int (e : Nat)) H' := fun h => by
      have z : e = i + remLen b i := by
        show e = i + runLen (· != 10) b i
        omega
      rw [z]
      exact q
    refine ⟨_, rfl, _, rfl, a, _, rfl, .inl hS, _, _, rfl, rfl, _, rfl, ?_⟩
    rw [bV_length]
    by_cases c : e < b.length
    · obtain ⟨y, hy⟩ := get_lt c
      rw [decide_eq_true (by omega)]
      refine ⟨_, rfl, _, rfl, a, _, _, _, rfl, rfl, hS, atI_nat (bV_get hy), rfl, _, rfl, ?_⟩
      rw [dec_int]
      by_cases hz : y = 10
      · subst hz
        exact ⟨_, rfl, done (runLen_stop hy (by decide))⟩
      · have e1 : (((y.toNat : Nat) : Int) == 10) = false := by
          rw [beq_eq_false_iff_ne]
          intro z
          apply hz
          apply UInt8.toNat_inj.mp
          show y.toNat = 10
          omega
        rw [e1]
        refine ⟨_, fun _ _ h => h, _, rfl, _, _, rfl, rfl, ⟨_, ?_, e + 1, ?_, rfl, by omega, by omega, rfl, ?_⟩⟩
        · omega
        · show _ = _
          rw [Int.natCast_add]
          rfl
        · have := runLen_step (p := (· != 10)) hy (by simpa using hz)
          omega
    · rw [decide_eq_false (by omega)]
      exact ⟨_, rfl, done (runLen_end (by omega))⟩
end Kg
/-! All tokens of a text. -/
namespace Kg
open PySem PySem.Spec PyProof.Rows L2
open VamvsBase (Bytes)
variable {P : Program} {w : World} {K : PySem.W.Frag} {mg : Str → Option Value} {base : Heap}
theorem TokAt.lst {C D : Addr} {H : Hp} {v : V} {t : Tk} {xs ys : List V} (hD : H D = some (.lst xs)) (h : TokAt C H v t) : TokAt C (upd H D (.lst ys)) v t := by
  obtain ⟨a, dx, wd, e, h1, h2⟩ := h
  exact ⟨a, dx, wd, e, by rw [upd_ne (ne_of h1 hD (by intro z; cases z))]; exact h1, by rw [upd_ne (ne_of h2 hD (by intro z; cases z))]; exact h2⟩
abbrev tkF (t : Tk) (wd : Addr) : List (Str × V) := [("kind", .str (kdS t.kd)), ("word", .ref wd), ("place", .int (t.place : Nat))]
theorem tkF_kind (t : Tk) (wd : Addr) : (tkF t wd).lookup ("kind" : Str) = some (.str (kdS t.kd)) := lk_here
theorem tkF_word (t : Tk) (wd : Addr) : (tkF t wd).lookup ("word" : Str) = some (.ref wd) := (lk_past (by decide +kernel)).trans lk_here
theorem tkF_place (t : Tk) (wd : Addr) : (tkF t wd).lookup ("place" : Str) = some (.int (t.place : Nat)) := (lk_past (by decide +kernel)).trans ((lk_past (by decide +kernel)).trans lk_here)
/-- the tokens in a list at p -/
def ToksAt (C : Addr) (H : Hp) (p : Addr) (l : List Tk) : Prop := ∃ vs, H p = some (.lst vs) ∧ Paired (TokAt C H) vs l
theorem toks_mono {C : Addr} {H H' : Hp} (s : Same H H') {vs : List V} {l : List Tk} (h : Paired (TokAt C H) vs l) : Paired (TokAt C H') vs l := paired_imp (fun _ _ x => x.mono s) h
def spToks (CT CF : Addr) (K : PySem.W.Frag) : Sp := fun vs H Q E => ∃ (a : Addr) (b : Bytes), vs = [.ref a] ∧ SqL K H a (bV b) ∧ b.length ≤ 100000 ∧
  (∀ l, toksOf b = .ok l → TksW l → l.length ≤ b.length + 1 → ∀ H' p, Same H H' → H p = none → ToksAt CT H' p l → Q (.ref p) H') ∧ (∀ f, toksOf b = .error f → FaultE CF H E f.code f.place)
theorem blank_is (c : UInt8) : inV (.int ((c.toNat : Nat) : Int)) [.int 32, .int 9, .int 10] = VamvsBase.isBlank c := by
  have h := inV_bytes c [32, 9, 10]
  have e : bV [32, 9, 10] = [.int 32, .int 9, .int 10] := rfl
  rw [e] at h
  rw [h]
  unfold VamvsBase.isBlank
  rw [List.contains_cons, List.contains_cons, List.contains_cons]
  simp
theorem c_tokens_of (T : Txt K mg) : CalX P w K mg base (L2.CX P w) 6 "tokens_of" (spToks (He.ga K "Token") (He.ga K "Fault") K) := by
  obtain ⟨fd, F⟩ := T.F_tokens_of
  refine ⟨_, fd, _, F.okX sc_tokens_of (fun vs H Q E h => ?_) (fun cdv A outer s H vs Q E hr h => ⟨_, (pss_cons (ps_set (i := 1) sc_tokens_of.nd rfl (Or.inl rfl) (pe_lst pa_nil))
    (pss_cons (ps_set (i := 2) sc_tokens_of.nd rfl (Or.inl rfl) pe_int)
    (pss_cons (ps_while ownD (pt_cmpR op_lt (pv 2) (pe_callB call_len_seq (by rfl) T.f_len (by decide +kernel) (pa_cons (pv 0) pa_nil)) (nomark _)) (pss_one (ps_if (pt_cmpR op_in_seq (pe_ix ix_list (pv 0) (pv 2) (fun _ _ => rfl)) (pe_tup (pa_cons (C8.pe_gc rfl T.c_BLANK) (pa_cons (C8.pe_gc rfl T.c_TAB) (pa_cons (C8.pe_gc rfl T.c_FEED) pa_nil)))) rfl) (pss_one (ps_aug (i := 2) sc_tokens_of.nd rfl (Or.inl rfl) pe_int ip_add)) (pss_one (ps_if (pt_cmpR op_eq (pe_ix ix_list (pv 0) (pv 2) (fun _ _ => rfl)) (C8.pe_gc rfl T.c_REMARK) (nomark _)) (pss_one (ps_set (i := 2) sc_tokens_of.nd rfl (Or.inl rfl) (pe_cx (c_behind_remark T) hr (by decide) pass0 rfl (pa_cons (pv 0) (pa_cons (pv 2) pa_nil))))) (pss_cons (ps_expr (pe_bm PySem.F.plainAttrs_list PySem.F.slot_list_append PySem.F.type_list_append mt_append (pv 1) (pa_cons (pe_cx (c_token_at T) hr (by decide) passD rfl (pa_cons (pv 0) (pa_cons (pv 2) pa_nil))) pa_nil)))
    (pss_one (ps_aug (i := 2) sc_tokens_of.nd rfl (Or.inl rfl) (pe_callB call_len_seq (by rfl) T.f_len (by decide +kernel) (pa_cons (pe_fld (pe_ix ix_list (pv 1) (pe_un un_neg pe_int) (fun _ _ => rfl)) rfl) pa_nil)) ip_add))))))))
    (pss_one (ps_ret (pe_op op_cat (pv 1) (pe_lst (pa_cons (pe_kx (k_Token T) hr (by decide) pass0 rfl (pa_cons (C8.pe_gc rfl T.c_END) (pa_cons (pe_tup pa_nil) (pa_cons (pe_callB call_len_seq (by rfl) T.f_len (by decide +kernel) (pa_cons (pv 0) pa_nil)) pa_nil)))) pa_nil)))))))), ?_⟩), T.g_tokens_of, T.k_tokens_of, b_tokens_of F⟩
  · obtain ⟨a, b, rfl, _⟩ := h
    rfl
  · obtain ⟨a, b, rfl, hS, hb, q, qE⟩ := h
    refine ⟨by rw [line_eq]; decide, fun D hD => ⟨fun m σ H' => ∃ (e : Nat) (found : List Tk) (vs : List V), σ = [some (.ref a), some (.ref D), some (.int (e : Nat))] ∧ Same H H' ∧ H' D = some (.lst vs) ∧ Paired (TokAt (He.ga K "Token") H') vs found ∧ LexI b e found ∧ m = b.length - e,
      ⟨_, 0, [], [], rfl, same_new hD, upd_same, .nil, .start b, rfl⟩, ?_⟩⟩
    rintro m σ H1 ⟨e, found, vs, rfl, s1, h1, Pr, I, rfl⟩
    have hS1 := s1.seq hS
    have hle := I.le
    have hfew := I.few
    have hvs : vs.length = found.length := paired_len Pr
    refine ⟨_, rfl, _, rfl, a, _, rfl, .inl hS1, _, _, rfl, rfl, _, rfl, ?_⟩
    rw [bV_length]
    by_cases c : e < b.length
    · obtain ⟨y, hy⟩ := get_lt c
      have hx := atI_nat (bV_get hy)
      rw [decide_eq_true (by omega)]
      refine ⟨_, fun _ _ h => h, ?_⟩
      -- text[at] in (BLANK, TAB, FEED)
      refine ⟨_, rfl, _, rfl, a, _, _, _, rfl, rfl, hS1, hx, (by show 3 ≤ sizeLine; rw [line_eq]; decide), fun t nt => ?_⟩
      have s2 : Same H1 (upd H1 t (.tup [.int 32, .int 9, .int 10])) := same_new nt
      have tD : D ≠ t := ne_of_none h1 nt
      refine ⟨t, _, rfl, .inr (SqT.of upd_same), rfl, rfl, _, rfl, ?_⟩
      show if inV (.int ((y.toNat : Nat) : Int)) [.int 32, .int 9, .int 10] = true then _ else _
      rw [blank_is]
      refine if_b (fun hb1 => ?_) fun hb1 => ?_
      · refine ⟨_, rfl, _, _, rfl, rfl, b.length - (e + 1), by omega, e + 1, found, vs, ?_, s1.trans s2, s2 _ _ h1, toks_mono s2 Pr, I.blank hy hb1, rfl⟩
        show _ = _
        rw [Int.natCast_add]
        rfl
      · have hS2 := s2.seq hS1
        refine ⟨_, rfl, _, rfl, a, _, _, _, rfl, rfl, hS2, hx, rfl, _, rfl, ?_⟩
        rw [dec_int]
        by_cases h35 : y = 35
        · subst h35
          refine ⟨_, rfl, _, rfl, a, b, e, rfl, hS2, hb, hle, ⟨_, ?_, e + remLen b e, found, vs, rfl, s1.trans s2, s2 _ _ h1, toks_mono s2 Pr, I.rem hy, rfl⟩⟩
          have : remLen b e = 1 + runLen (· != 10) b (e + 1) := runLen_step (p := (· != 10)) hy (by decide)
          omega
        · have e35 : (((y.toNat : Nat) : Int) == 35) = false := by
            rw [beq_eq_false_iff_ne]
            intro z
            apply h35
            apply UInt8.toNat_inj.mp
            show y.toNat = 35
            omega
          rw [e35]
          -- found.append(token_at(text, at))
          refine ⟨_, rfl, .inl ⟨rfl, _, SqL.of (s2 _ _ h1)⟩, _, rfl, _, rfl, a, b, e, rfl, hS2, hb, c, trivial, fun tk ht H3 v s3 hv => ?_, fun hn => (qE ⟨2, e⟩ (I.bad hy hb1 h35 hn)).mono (s1.trans s2)⟩
          have h3 : H3 D = some (.lst vs) := s3 _ _ (s2 _ _ h1)
          have s13 : Same H1 H3 := s2.trans s3
          refine ⟨D, vs, v, rfl, rfl, h3, by rw [line_eq]; omega, ?_⟩
          have Pr3 : Paired (TokAt (He.ga K "Token") (upd H3 D (.lst (vs ++ [v])))) (vs ++ [v]) (found ++ [tk]) := (paired_imp (fun _ _ x => (x.mono s13).lst h3) Pr).snoc (hv.lst h3)
          obtain ⟨ta, dx, wd, ev, k1, k2⟩ := hv.lst (ys := vs ++ [v]) h3
          have s04 : Same H (upd H3 D (.lst (vs ++ [v]))) := same_lst (s1.trans s13) hD
          -- at += len(found[-1].word)
          refine ⟨_, rfl, _, rfl, _, rfl, D, _, _, v, rfl, rfl, SqL.of upd_same, atI_last vs v, ?_⟩
          subst ev
          refine ⟨ta, _, dx, _, _, rfl, k1, T.cl_Token, T.n_Token_word, tkF_word tk wd, wd, _, rfl, .inr (SqT.of k2), _, _, rfl, rfl, ?_⟩
          have hp := tkAt_props ht
          have hp3 := hp.2.2.1
          refine ⟨b.length - (e + tk.wd.length), by omega, e + tk.wd.length, found ++ [tk], vs ++ [V.ref ta], ?_, s04, upd_same, Pr3, I.tok hy hb1 h35 ht, rfl⟩
          rw [bV_length, Int.natCast_add]
          rfl
    · rw [decide_eq_false (by omega)]
      have ee : e = b.length := by omega
      subst ee
      -- found + [Token(END, (), len(text))]
      refine ⟨_, rfl, by rw [line_eq]; decide, fun t nt => ⟨_, rfl, a, _, rfl, .inl ((same_new nt).seq hS1), ?_⟩⟩
      have s2 : Same H1 (upd H1 t (.tup [])) := same_new nt
      refine fun a1 dx n5 nd ne => ⟨a1, dx, _, rfl, rfl, upd_same, fun H5 kp h5 => ⟨rfl, small_line (by show 1 ≤ 1000; decide), fun L nL => ?_⟩⟩
      have s5 := Same.made n5 nd kp
      have s15 : Same H1 H5 := s2.trans s5
      have s6 : Same H5 (upd H5 L (.lst [.ref a1])) := same_new nL
      refine ⟨D, L, vs, _, rfl, rfl, s6 _ _ (s15 _ _ h1), upd_same, ?_, fun p np => ?_⟩
      · show vs.length + 1 ≤ sizeLine
        rw [line_eq]
        omega
      have s7 : Same (upd H5 L (.lst [.ref a1])) (upd (upd H5 L (.lst [.ref a1])) p (.lst (vs ++ [.ref a1]))) := same_new np
      have s17 : Same H1 _ := s15.trans (s6.trans s7)
      refine q _ (LexI.done I) (TksW.of I _) ?_ _ p (s1.trans s17) (s1.free (s15.free (s6.free np))) ⟨_, upd_same, ?_⟩
      · rw [List.length_append]
        show found.length + 1 ≤ _
        omega
      · refine (toks_mono s17 Pr).snoc ⟨a1, dx, t, rfl, ?_, (s5.trans (s6.trans s7)) _ _ upd_same⟩
        refine ((s6.trans s7) _ _ h5).trans ?_
        rw [bV_length]
        rfl
end Kg
/-! The reader: how it lies in the heap; its small methods. -/
namespace Kg
open PySem PySem.Spec PyProof.Rows L2
open VamvsBase (Bytes)
variable {P : Program} {w : World} {K : PySem.W.Frag} {mg : Str → Option Value} {base : Heap}
/-- where a reader and its table lie -/
structure RA where
  a : Addr
  dx : Addr
  T : Addr
  p : Addr
  dp : Addr
  c : Addr
  r : Addr
  q : Addr
abbrev rdF (R : RA) (i : Nat) : List (Str × V) := [("tokens", .ref R.T), ("at", .int (i : Nat)), ("table", .ref R.p)]
abbrev tbF (c r q : Addr) : List (Str × V) := [("columns", .ref c), ("rows", .ref r), ("questions", .ref q)]
theorem rdF_tokens (R : RA) (i : Nat) : (rdF R i).lookup ("tokens" : Str) = some (.ref R.T) := lk_here
theorem rdF_at (R : RA) (i : Nat) : (rdF R i).lookup ("at" : Str) = some (.int (i : Nat)) := (lk_past (by decide +kernel)).trans lk_here
theorem rdF_table (R : RA) (i : Nat) : (rdF R i).lookup ("table" : Str) = some (.ref R.p) := (lk_past (by decide +kernel)).trans ((lk_past (by decide +kernel)).trans lk_here)
theorem tbF_columns (c r q : Addr) : (tbF c r q).lookup ("columns" : Str) = some (.ref c) := lk_here
theorem tbF_rows (c r q : Addr) : (tbF c r q).lookup ("rows" : Str) = some (.ref r) := (lk_past (by decide +kernel)).trans lk_here
theorem tbF_questions (c r q : Addr) : (tbF c r q).lookup ("questions" : Str) = some (.ref q) := (lk_past (by decide +kernel)).trans ((lk_past (by decide +kernel)).trans lk_here)
theorem rdF_none (R : RA) (i : Nat) {m : Str} (h1 : (m == ("tokens" : Str)) = false) (h2 : (m == ("at" : Str)) = false) (h3 : (m == ("table" : Str)) = false) : (rdF R i).lookup m = none := (lk_past h1).trans ((lk_past h2).trans ((lk_past h3).trans rfl))
theorem rdF_put (R : RA) (i : Nat) (j : Int) (k : Nat) (h : j = (k : Int)) : putF "at" (.int j) (rdF R i) = rdF R k := by
  rw [h]
  exact (put_past (by decide +kernel)).trans (congrArg _ put_here)
/-- the classes' addresses -/
abbrev cTok (K : PySem.W.Frag) : Addr := He.ga K "Token"
abbrev cTab (K : PySem.W.Frag) : Addr := He.ga K "Table"
abbrev cRd (K : PySem.W.Frag) : Addr := He.ga K "Reader"
abbrev cFlt (K : PySem.W.Frag) : Addr := He.ga K "Fault"
structure RdS (K : PySem.W.Frag) (H : Hp) (R : RA) (l : List Tk) (i : Nat) (t : Vamvsa.Table) : Prop where
  self : H R.a = some (.ins (cRd K) R.dx (rdF R i))
  toks : ToksAt (cTok K) H R.T l
  tab : H R.p = some (.ins (cTab K) R.dp (tbF R.c R.r R.q))
  cols : ∃ cs, H R.c = some (.lst cs) ∧ Paired (ByAt H) cs t.cols
  rows : ∃ rs, H R.r = some (.lst rs) ∧ Paired (RowAt H) rs t.rows
  asks : ∃ qs, H R.q = some (.lst qs) ∧ Paired (AskAt H) qs t.asks
  cr : R.c ≠ R.r
  cq : R.c ≠ R.q
  rq : R.r ≠ R.q
  tc : R.T ≠ R.c
  tr : R.T ≠ R.r
  tq : R.T ≠ R.q
  good : TksW l
  lt : i < l.length
  size : l.length ≤ 100000
/-- what the reader's own objects are not stands -/
structure Keep (R : RA) (H H' : Hp) : Prop where
  keep : ∀ b o, H b = some o → b ≠ R.a → b ≠ R.c → b ≠ R.r → b ≠ R.q → H' b = some o
  dom : ∀ b, H' b = none → H b = none
theorem Keep.of {R : RA} {H H' : Hp} (s : Same H H') : Keep R H H' := ⟨fun b o h _ _ _ _ => s b o h, fun _ h => s.free h⟩
theorem Keep.refl (R : RA) (H : Hp) : Keep R H H := .of (Same.refl H)
theorem Keep.trans {R : RA} {H H1 H2 : Hp} (a : Keep R H H1) (b : Keep R H1 H2) : Keep R H H2 :=
  ⟨fun x o h h1 h2 h3 h4 => b.keep x o (a.keep x o h h1 h2 h3 h4) h1 h2 h3 h4, fun x h => a.dom x (b.dom x h)⟩
theorem Keep.upd {R : RA} {H : Hp} {x : Addr} {o u : HO} (hx : x = R.a ∨ x = R.c ∨ x = R.r ∨ x = R.q) (h : H x = some u) : Keep R H (upd H x o) := by
  refine ⟨fun b ob hb h1 h2 h3 h4 => ?_, fun b hb => ?_⟩
  · have : b ≠ x := by
      rcases hx with e | e | e | e <;> rw [e] <;> assumption
    rw [upd_ne this]
    exact hb
  · by_cases e : b = x
    · subst e
      rw [upd_same] at hb
      cases hb
    · rw [upd_ne e] at hb
      exact hb
/-- what is raised out of the reader -/
def FaultK (R : RA) (CF : Addr) (H : Hp) (E : XK) (code pl : Nat) : Prop := ∀ d H3, Keep R H H3 → H d = none → H3 d = some (.xd [("place", .int (pl : Nat)), ("code", .int (code : Nat))]) → E (.ref CF) (some d) H3
theorem FaultK.mono {R : RA} {CF : Addr} {H H' : Hp} {E : XK} {c p : Nat} (s : Keep R H H') (q : FaultK R CF H E c p) : FaultK R CF H' E c p := fun d H3 s3 hd hx => q d H3 (s.trans s3) (s.dom d hd) hx
theorem FaultK.fe {R : RA} {CF : Addr} {H : Hp} {E : XK} {c p : Nat} (q : FaultK R CF H E c p) : FaultE CF H E c p := fun d H3 s hd hx => q d H3 (.of s) hd hx
section
variable {H H' : Hp} {R : RA} {l : List Tk} {i : Nat} {t : Vamvsa.Table}
theorem RdS.same (S : RdS K H R l i t) (s : Same H H') : RdS K H' R l i t where
  self := s _ _ S.self
  toks := by
    obtain ⟨vs, h, Pr⟩ := S.toks
    exact ⟨vs, s _ _ h, toks_mono s Pr⟩
  tab := s _ _ S.tab
  cols := by
    obtain ⟨vs, h, Pr⟩ := S.cols
    exact ⟨vs, s _ _ h, paired_imp (fun _ _ x => x.mono (.of s)) Pr⟩
  rows := by
    obtain ⟨vs, h, Pr⟩ := S.rows
    exact ⟨vs, s _ _ h, paired_imp (fun _ _ x => x.mono (.of s)) Pr⟩
  asks := by
    obtain ⟨vs, h, Pr⟩ := S.asks
    exact ⟨vs, s _ _ h, paired_imp (fun _ _ x => x.mono (.of s)) Pr⟩
  cr := S.cr
  cq := S.cq
  rq := S.rq
  tc := S.tc
  tr := S.tr
  tq := S.tq
  good := S.good
  lt := S.lt
  size := S.size
theorem ins_lst {H : Hp} {a b C dx : Addr} {fs : List (Str × V)} {xs : List V} (h : H a = some (.ins C dx fs)) (h' : H b = some (.lst xs)) : a ≠ b := ne_of h h' (by intro z; cases z)
theorem tok_rd {C C' dx dx' : Addr} {k : Str} {v v' : V} {fs fs' : List (Str × V)} (h : (k == ("tokens" : Str)) = false) : HO.ins C dx ((k, v) :: fs) ≠ HO.ins C' dx' (("tokens", v') :: fs') := by
  intro z
  injection z with _ _ z
  injection z with z _
  injection z with z _
  rw [z] at h
  revert h
  decide +kernel
/-- the reader's place is another one -/
theorem RdS.at_ (S : RdS K H R l i t) {j : Nat} (hj : j < l.length) : RdS K (upd H R.a (.ins (cRd K) R.dx (rdF R j))) R l j t := by
  have tu : Tups H (upd H R.a (.ins (cRd K) R.dx (rdF R j))) := fun b xs e => by
    rw [upd_ne (ne_of e S.self (by intro z; cases z))]
    exact e
  have li : ∀ {b : Addr} {xs : List V}, H b = some (.lst xs) → upd H R.a (.ins (cRd K) R.dx (rdF R j)) b = some (.lst xs) := fun {b xs} e => by
    rw [upd_ne (Ne.symm (ins_lst S.self e))]
    exact e
  exact
    { self := upd_same
      toks := by
        obtain ⟨vs, h, Pr⟩ := S.toks
        refine ⟨vs, li h, paired_imp (fun v tk x => ?_) Pr⟩
        obtain ⟨a, dx, wd, e, h1, h2⟩ := x
        exact ⟨a, dx, wd, e, by rw [upd_ne (ne_of h1 S.self (tok_rd (by decide +kernel)))]; exact h1, tu _ _ h2⟩
      tab := by
        rw [upd_ne (ne_of S.tab S.self (tok_rd (by decide +kernel)))]
        exact S.tab
      cols := by
        obtain ⟨vs, h, Pr⟩ := S.cols
        exact ⟨vs, li h, paired_imp (fun _ _ x => x.mono tu) Pr⟩
      rows := by
        obtain ⟨vs, h, Pr⟩ := S.rows
        exact ⟨vs, li h, paired_imp (fun _ _ x => x.mono tu) Pr⟩
      asks := by
        obtain ⟨vs, h, Pr⟩ := S.asks
        exact ⟨vs, li h, paired_imp (fun _ _ x => x.mono tu) Pr⟩
      cr := S.cr
      cq := S.cq
      rq := S.rq
      tc := S.tc
      tr := S.tr
      tq := S.tq
      good := S.good
      lt := hj
      size := S.size }
theorem RdS.tkAt_ (S : RdS K H R l i t) : ∃ vs v tk, H R.T = some (.lst vs) ∧ vs[i]? = some v ∧ l[i]? = some tk ∧ TokAt (cTok K) H v tk := by
  obtain ⟨vs, h, Pr⟩ := S.toks
  obtain ⟨tk, htk⟩ := get_lt S.lt
  obtain ⟨v, hv, ht⟩ := paired_get' Pr htk
  exact ⟨vs, v, tk, h, hv, htk, ht⟩
end
/-! ### token, refuse, stands -/
def spToken (K : PySem.W.Frag) : Sp := fun vs H Q _ => ∃ R l i t tk, vs = [.ref R.a] ∧ RdS K H R l i t ∧ l[i]? = some tk ∧ ∀ v, TokAt (cTok K) H v tk → Q v H
theorem m_Reader_token (T : Txt K mg) : MetX P w K mg base CX0 1 (cRd K) "token" (spToken K) := by
  obtain ⟨fd, F⟩ := T.F_Reader_token
  refine ⟨_, fd, _, T.cl_Reader, T.m_Reader_token, F.ok sc_Reader_token (fun vs H Q E h => ?_) (fun cdv A outer s H vs Q E hr h => ⟨_, (pss_one (ps_ret (pe_ix ix_list (pe_fld (pv 0) rfl) (pe_fld (pv 0) rfl) (fun _ _ => rfl)))), ?_⟩), b_Reader_token F⟩
  · obtain ⟨R, l, i, t, tk, rfl, _⟩ := h
    rfl
  · obtain ⟨R, l, i, t, tk, rfl, S, htk, q⟩ := h
    obtain ⟨ws, v, tk', hT, hv, htk', ht⟩ := S.tkAt_
    rw [htk] at htk'
    cases htk'
    exact ⟨_, rfl, _, _, _, _, _, rfl, S.self, T.cl_Reader, T.n_Reader_tokens, rdF_tokens R i, _, rfl, _, _, _, _, _, rfl, S.self, T.cl_Reader, T.n_Reader_at, rdF_at R i, _, _, _, _, rfl, rfl, SqL.of hT, atI_nat hv, q v ht⟩
def spRefuse (K : PySem.W.Frag) : Sp := fun vs H _ E => ∃ R l i t tk c, vs = [.ref R.a, .int ((c : Nat) : Int)] ∧ RdS K H R l i t ∧ l[i]? = some tk ∧ FaultE (cFlt K) H E c tk.place
theorem m_Reader_refuse (T : Txt K mg) : MetX P w K mg base (L2.CX P w) 3 (cRd K) "refuse" (spRefuse K) := by
  obtain ⟨fd, F⟩ := T.F_Reader_refuse
  refine ⟨_, fd, _, T.cl_Reader, T.m_Reader_refuse, F.okX sc_Reader_refuse (fun vs H Q E h => ?_) (fun cdv A outer s H vs Q E hr h => ⟨_, (pss_one (ps_raise rfl takesD (pr_x (x_Fault T) hr (by decide) rfl (pa_cons (pv 1) (pa_cons (pe_fld (pe_mx0 (m_Reader_token T) hr (by decide) pass0 (pv 0)) rfl) pa_nil))))), ?_⟩), b_Reader_refuse F⟩
  · obtain ⟨R, l, i, t, tk, c, rfl, _⟩ := h
    rfl
  · obtain ⟨R, l, i, t, tk, c, rfl, S, htk, q⟩ := h
    refine ⟨_, rfl, _, rfl, _, _, _, rfl, S.self, rdF_none R i (by decide +kernel) (by decide +kernel) (by decide +kernel), R, l, i, t, tk, rfl, S, htk, fun v hv => ?_⟩
    obtain ⟨a, dx, wd, rfl, h1, h2⟩ := hv
    exact ⟨a, _, dx, _, _, rfl, h1, T.cl_Token, T.n_Token_place, tkF_place tk wd, exc_go rfl (by decide) fun d H3 s3 hd hx => q d H3 s3 hd hx⟩
theorem kinds_ws (k : Kd) : inV (.str (kdS k)) [.str "end", .str "name", .str "number"] = !isWS k := by
  cases k <;> decide +kernel
def spStands (K : PySem.W.Frag) : Sp := fun vs H Q _ => ∃ R l i t tk z wz, vs = [.ref R.a, .str z] ∧ RdS K H R l i t ∧ l[i]? = some tk ∧ z.length ≤ 1000 ∧ codeV z = bV wz ∧ ∀ H', Same H H' → Q (.bl (standsM wz tk)) H'
theorem m_Reader_stands (T : Txt K mg) : MetX P w K mg base CX0 2 (cRd K) "stands" (spStands K) := by
  obtain ⟨fd, F⟩ := T.F_Reader_stands
  refine ⟨_, fd, _, T.cl_Reader, T.m_Reader_stands, F.ok sc_Reader_stands (fun vs H Q E h => ?_) (fun cdv A outer s H vs Q E hr h => ⟨_, (pss_one (ps_ret (pe_and (pe_cmpR op_notIn_seq (pe_fld (pe_mx0 (m_Reader_token T) hr (by decide) pass0 (pv 0)) rfl) (pe_tup (pa_cons (C8.pe_gc rfl T.c_END) (pa_cons (C8.pe_gc rfl T.c_NAME) (pa_cons (C8.pe_gc rfl T.c_NUMBER) pa_nil)))) rfl) (pe_one (pe_cmpR (op_eqD (hu64 hr)) (pe_fld (pe_mx0 (m_Reader_token T) hr (by decide) pass0 (pv 0)) rfl) (pe_cx (c_bytes_of T) hr (by decide) pass0 rfl (pa_cons (pv 1) pa_nil)) (nomark _)))))), ?_⟩), b_Reader_stands F⟩
  · obtain ⟨R, l, i, t, tk, z, wz, rfl, _⟩ := h
    rfl
  · obtain ⟨R, l, i, t, tk, z, wz, rfl, S, htk, hz, hc, q⟩ := h
    refine ⟨_, rfl, _, _, _, rfl, S.self, rdF_none R i (by decide +kernel) (by decide +kernel) (by decide +kernel), R, l, i, t, tk, rfl, S, htk, fun v hv => ?_⟩
    obtain ⟨a, dx, wd, rfl, h1, h2⟩ := hv
    refine ⟨a, _, dx, _, _, rfl, h1, T.cl_Token, T.n_Token_kind, tkF_kind tk wd, small_line (by show 3 ≤ 1000; decide), fun tt nt => ?_⟩
    have s1 : Same H (upd H tt (.tup [.str "end", .str "name", .str "number"])) := same_new nt
    refine ⟨tt, _, rfl, .inr (SqT.of upd_same), rfl, rfl, _, rfl, ?_⟩
    show if (!inV (.str (kdS tk.kd)) [.str "end", .str "name", .str "number"]) = true then _ else _
    rw [kinds_ws, Bool.not_not]
    refine if_b (fun hk => ?_) fun hk => ?_
    · have S1 := S.same s1
      refine ⟨_, rfl, _, _, _, rfl, S1.self, rdF_none R i (by decide +kernel) (by decide +kernel) (by decide +kernel), R, l, i, t, tk, rfl, S1, htk, fun v hv => ?_⟩
      obtain ⟨a2, dx2, wd2, rfl, k1, k2⟩ := hv
      refine ⟨a2, _, dx2, _, _, rfl, k1, T.cl_Token, T.n_Token_word, tkF_word tk wd2, _, rfl, z, rfl, Nat.le_trans hz (by decide), fun H3 p s3 np hp => ?_⟩
      rw [hc] at hp
      refine ⟨bD tk.wd, bD wz, ByAt.dp ⟨wd2, rfl, s3 _ _ k2⟩, ByAt.dp ⟨p, rfl, hp⟩, bD_shaped _, bD_shaped _, ?_⟩
      have e : standsM wz tk = PyData.eqv (bD tk.wd) (bD wz) := by
        unfold standsM
        rw [bD_eqv, hk, Bool.true_and]
      rw [← e]
      exact q _ (s1.trans s3)
    · have e : standsM wz tk = false := by
        unfold standsM
        rw [hk, Bool.false_and]
      have q' := q _ s1
      rw [e] at q'
      exact q'
end Kg
/-! The reader: signs, names, numbers, columns. -/
namespace Kg
open PySem PySem.Spec PyProof.Rows L2
open VamvsBase (Bytes)
variable {P : Program} {w : World} {K : PySem.W.Frag} {mg : Str → Option Value} {base : Heap}
theorem RdS.more {H : Hp} {R : RA} {l : List Tk} {i : Nat} {t : Vamvsa.Table} {tk : Tk} (S : RdS K H R l i t) (h : l[i]? = some tk) (hk : tk.kd ≠ .fin) : i + 1 < l.length := by
  obtain ⟨t', e⟩ := S.good.more h hk
  exact lt_of_at e
def spMay (K : PySem.W.Frag) : Sp := fun vs H Q _ => ∃ R l i t tk z wz, vs = [.ref R.a, .str z] ∧ RdS K H R l i t ∧ l[i]? = some tk ∧ z.length ≤ 1000 ∧ codeV z = bV wz ∧
  (standsM wz tk = false → ∀ H', Same H H' → Q (.bl false) H') ∧ (standsM wz tk = true → ∀ H', Keep R H H' → RdS K H' R l (i + 1) t → Q (.bl true) H')
theorem m_Reader_may_be (T : Txt K mg) : MetX P w K mg base CX0 3 (cRd K) "may_be" (spMay K) := by
  obtain ⟨fd, F⟩ := T.F_Reader_may_be
  refine ⟨_, fd, _, T.cl_Reader, T.m_Reader_may_be, F.ok sc_Reader_may_be (fun vs H Q E h => ?_) (fun cdv A outer s H vs Q E hr h => ⟨_, (pss_cons (ps_if (pt_not (pt_val (pe_mx (m_Reader_stands T) hr (by decide) pass0 (pv 0) (pa_cons (pv 1) pa_nil)))) (pss_one (ps_ret pe_bl)) pss_nil)
    (pss_cons (ps_fldaug (pv 0) pe_int in_add)
    (pss_one (ps_ret pe_bl)))), ?_⟩), b_Reader_may_be F⟩
  · obtain ⟨R, l, i, t, tk, z, wz, rfl, _⟩ := h
    rfl
  · obtain ⟨R, l, i, t, tk, z, wz, rfl, S, htk, hz, hc, qF, qT⟩ := h
    refine ⟨_, rfl, _, _, _, rfl, S.self, rdF_none R i (by decide +kernel) (by decide +kernel) (by decide +kernel), _, rfl, R, l, i, t, tk, z, wz, rfl, S, htk, hz, hc, fun H1 s1 => ?_⟩
    have S1 := S.same s1
    cases hs : standsM wz tk with
    | false => exact ⟨_, rfl, qF hs H1 s1⟩
    | true =>
      have hm := S.more htk (standsM_not_fin hs)
      refine ⟨_, rfl, _, rfl, _, _, _, _, _, rfl, S1.self, T.cl_Reader, T.n_Reader_at, rdF_at R i, _, _, rfl, rfl, _, _, S1.self, (by show 3 < 1000; decide), ?_⟩
      rw [rdF_put R i _ (i + 1) (by rw [Int.natCast_add]; rfl)]
      exact qT hs _ ((Keep.of s1).trans (.upd (.inl rfl) S1.self)) (S1.at_ hm)
def spMust (K : PySem.W.Frag) : Sp := fun vs H Q E => ∃ R l i t tk z wz, vs = [.ref R.a, .str z] ∧ RdS K H R l i t ∧ l[i]? = some tk ∧ z.length ≤ 1000 ∧ codeV z = bV wz ∧
  (standsM wz tk = false → FaultK R (cFlt K) H E 3 tk.place) ∧ (standsM wz tk = true → ∀ H', Keep R H H' → RdS K H' R l (i + 1) t → Q .non H')
theorem m_Reader_must_be (T : Txt K mg) : MetX P w K mg base (L2.CX P w) 4 (cRd K) "must_be" (spMust K) := by
  obtain ⟨fd, F⟩ := T.F_Reader_must_be
  refine ⟨_, fd, _, T.cl_Reader, T.m_Reader_must_be, F.okX sc_Reader_must_be (fun vs H Q E h => ?_) (fun cdv A outer s H vs Q E hr h => ⟨_, (pss_one (ps_if (pt_not (pt_val (pe_mx (m_Reader_may_be T) hr (by decide) pass0 (pv 0) (pa_cons (pv 1) pa_nil)))) (pss_one (ps_expr (pe_mx (m_Reader_refuse T) hr (by decide) passD (pv 0) (pa_cons (C8.pe_gc rfl T.c_NO_PLACE) pa_nil)))) pss_nil)), ?_⟩), b_Reader_must_be F⟩
  · obtain ⟨R, l, i, t, tk, z, wz, rfl, _⟩ := h
    rfl
  · obtain ⟨R, l, i, t, tk, z, wz, rfl, S, htk, hz, hc, qF, qT⟩ := h
    refine ⟨_, rfl, _, _, _, rfl, S.self, rdF_none R i (by decide +kernel) (by decide +kernel) (by decide +kernel), _, rfl, R, l, i, t, tk, z, wz, rfl, S, htk, hz, hc, fun hs H1 s1 => ⟨_, rfl, ?_⟩, fun hs H1 k1 S1 => ⟨_, rfl, qT hs H1 k1 S1⟩⟩
    have S1 := S.same s1
    exact ⟨_, rfl, _, _, _, rfl, S1.self, rdF_none R i (by decide +kernel) (by decide +kernel) (by decide +kernel), R, l, i, t, tk, 3, rfl, S1, htk, ((qF hs).mono (.of s1)).fe⟩
theorem kind_eq (k j : Kd) : decide (V.str (kdS k) = V.str (kdS j)) = decide (k = j) := by
  cases k <;> cases j <;> decide +kernel
def spAskName (K : PySem.W.Frag) : Sp := fun vs H Q E => ∃ R l i t tk, vs = [.ref R.a] ∧ RdS K H R l i t ∧ l[i]? = some tk ∧ (tk.kd ≠ .name → FaultK R (cFlt K) H E 3 tk.place) ∧ (tk.kd = .name → Q .non H)
theorem m_Reader_ask_name (T : Txt K mg) : MetX P w K mg base (L2.CX P w) 4 (cRd K) "ask_name" (spAskName K) := by
  obtain ⟨fd, F⟩ := T.F_Reader_ask_name
  refine ⟨_, fd, _, T.cl_Reader, T.m_Reader_ask_name, F.okX sc_Reader_ask_name (fun vs H Q E h => ?_) (fun cdv A outer s H vs Q E hr h => ⟨_, (pss_one (ps_if (pt_cmpR op_ne (pe_fld (pe_mx0 (m_Reader_token T) hr (by decide) pass0 (pv 0)) rfl) (C8.pe_gc rfl T.c_NAME) (nomark _)) (pss_one (ps_expr (pe_mx (m_Reader_refuse T) hr (by decide) passD (pv 0) (pa_cons (C8.pe_gc rfl T.c_NO_PLACE) pa_nil)))) pss_nil)), ?_⟩), b_Reader_ask_name F⟩
  · obtain ⟨R, l, i, t, tk, rfl, _⟩ := h
    rfl
  · obtain ⟨R, l, i, t, tk, rfl, S, htk, qF, qT⟩ := h
    refine ⟨_, rfl, _, _, _, rfl, S.self, rdF_none R i (by decide +kernel) (by decide +kernel) (by decide +kernel), R, l, i, t, tk, rfl, S, htk, fun v hv => ?_⟩
    obtain ⟨a, dx, wd, rfl, h1, h2⟩ := hv
    refine ⟨a, _, dx, _, _, rfl, h1, T.cl_Token, T.n_Token_kind, tkF_kind tk wd, rfl, _, rfl, ?_⟩
    have e := kind_eq tk.kd .name
    rw [show decide (V.str (kdS tk.kd) = V.str "name") = decide (tk.kd = .name) from e]
    by_cases c : tk.kd = .name
    · rw [decide_eq_true c]
      exact qT c
    · rw [decide_eq_false c]
      exact ⟨_, rfl, _, _, _, rfl, S.self, rdF_none R i (by decide +kernel) (by decide +kernel) (by decide +kernel), R, l, i, t, tk, 3, rfl, S, htk, (qF c).fe⟩
def spNumber (K : PySem.W.Frag) : Sp := fun vs H Q E => ∃ R l i t tk, ∃ lo hi : Int, vs = [.ref R.a, .int lo, .int hi] ∧ RdS K H R l i t ∧ l[i]? = some tk ∧ (tk.kd ≠ .number → FaultK R (cFlt K) H E 3 tk.place) ∧
  (tk.kd = .number → ¬ (lo ≤ ((VamvsBase.decimal tk.wd : Nat) : Int) ∧ ((VamvsBase.decimal tk.wd : Nat) : Int) ≤ hi) → FaultK R (cFlt K) H E 7 tk.place) ∧
  (tk.kd = .number → (lo ≤ ((VamvsBase.decimal tk.wd : Nat) : Int) ∧ ((VamvsBase.decimal tk.wd : Nat) : Int) ≤ hi) → ∀ H', Keep R H H' → RdS K H' R l (i + 1) t → Q (.int ((VamvsBase.decimal tk.wd : Nat) : Int)) H')
theorem m_Reader_read_number (T : Txt K mg) : MetX P w K mg base (L2.CX P w) 4 (cRd K) "read_number" (spNumber K) := by
  obtain ⟨fd, F⟩ := T.F_Reader_read_number
  refine ⟨_, fd, _, T.cl_Reader, T.m_Reader_read_number, F.okX sc_Reader_read_number (fun vs H Q E h => ?_) (fun cdv A outer s H vs Q E hr h => ⟨_, (pss_cons (ps_if (pt_cmpR op_ne (pe_fld (pe_mx0 (m_Reader_token T) hr (by decide) pass0 (pv 0)) rfl) (C8.pe_gc rfl T.c_NUMBER) (nomark _)) (pss_one (ps_expr (pe_mx (m_Reader_refuse T) hr (by decide) passD (pv 0) (pa_cons (C8.pe_gc rfl T.c_NO_PLACE) pa_nil)))) pss_nil)
    (pss_cons (ps_set (i := 3) sc_Reader_read_number.nd rfl (Or.inl rfl) (pe_cx (c_number_of T) hr (by decide) pass0 rfl (pa_cons (pe_fld (pe_mx0 (m_Reader_token T) hr (by decide) pass0 (pv 0)) rfl) pa_nil)))
    (pss_cons (ps_if (pt_not (pt_chain op_le op_le (pv 1) (pv 3) (pv 2))) (pss_one (ps_expr (pe_mx (m_Reader_refuse T) hr (by decide) passD (pv 0) (pa_cons (C8.pe_gc rfl T.c_GREAT) pa_nil)))) pss_nil)
    (pss_cons (ps_fldaug (pv 0) pe_int in_add)
    (pss_one (ps_ret (pv 3))))))), ?_⟩), b_Reader_read_number F⟩
  · obtain ⟨R, l, i, t, tk, lo, hi, rfl, _⟩ := h
    rfl
  · obtain ⟨R, l, i, t, tk, lo, hi, rfl, S, htk, qN, qF, qT⟩ := h
    have ref : ∀ (c : Nat) (σ : L2.St) (D : Ends), σ[0]? = some (some (.ref R.a)) → FaultE (cFlt K) H E c tk.place → (c : Int) = c → tMe (cRd K) "refuse" (spRefuse K) E (tVar 0) (tCons (tC (.int c)) tNil) σ H (fun _ H1 => D.nx σ H1) := fun c σ D hσ q _ =>
      ⟨_, hσ, _, _, _, rfl, S.self, rdF_none R i (by decide +kernel) (by decide +kernel) (by decide +kernel), R, l, i, t, tk, c, rfl, S, htk, q⟩
    refine ⟨_, rfl, _, _, _, rfl, S.self, rdF_none R i (by decide +kernel) (by decide +kernel) (by decide +kernel), R, l, i, t, tk, rfl, S, htk, fun v hv => ?_⟩
    obtain ⟨a, dx, wd, rfl, h1, h2⟩ := hv
    refine ⟨a, _, dx, _, _, rfl, h1, T.cl_Token, T.n_Token_kind, tkF_kind tk wd, rfl, _, rfl, ?_⟩
    rw [show decide (V.str (kdS tk.kd) = V.str "number") = decide (tk.kd = .number) from kind_eq tk.kd .number]
    by_cases c : tk.kd = .number
    · rw [decide_eq_true c]
      have ok := S.good.okAt htk
      have dg : tk.wd.all VamvsBase.isDigit = true := by
        unfold Tk.Ok at ok
        rw [c] at ok
        exact ok.2
      refine ⟨_, rfl, _, _, _, rfl, S.self, rdF_none R i (by decide +kernel) (by decide +kernel) (by decide +kernel), R, l, i, t, tk, rfl, S, htk, fun v hv => ?_⟩
      obtain ⟨a2, dx2, wd2, rfl, k1, k2⟩ := hv
      refine ⟨a2, _, dx2, _, _, rfl, k1, T.cl_Token, T.n_Token_word, tkF_word tk wd2, wd2, tk.wd, rfl, SqT.of k2, dg, ?_⟩
      have good : (lo ≤ ((VamvsBase.decimal tk.wd : Nat) : Int) ∧ ((VamvsBase.decimal tk.wd : Nat) : Int) ≤ hi) → sFldAug K (tVar 0) (tC (.int 1)) rAdd "at" { nx := tRet (tVar 3) { nx := fun _ H' => Q .non H', rt := Q }, rt := Q } [some (.ref R.a), some (.int lo), some (.int hi), some (.int ((VamvsBase.decimal tk.wd : Nat) : Int))] H := fun hb => by
        have hm := S.more htk (by rw [c]; intro z; cases z)
        refine ⟨_, rfl, _, _, _, _, _, rfl, S.self, T.cl_Reader, T.n_Reader_at, rdF_at R i, _, _, rfl, rfl, _, _, S.self, (by show 3 < 1000; decide), ?_⟩
        rw [rdF_put R i _ (i + 1) (by rw [Int.natCast_add]; rfl)]
        exact ⟨_, rfl, qT c hb _ (.upd (.inl rfl) S.self) (S.at_ hm)⟩
      refine ⟨_, rfl, _, rfl, _, _, rfl, rfl, _, rfl, ?_⟩
      by_cases c1 : lo ≤ ((VamvsBase.decimal tk.wd : Nat) : Int)
      · rw [decide_eq_true c1]
        refine ⟨_, rfl, _, _, rfl, rfl, _, rfl, ?_⟩
        by_cases c2 : ((VamvsBase.decimal tk.wd : Nat) : Int) ≤ hi
        · rw [decide_eq_true c2]
          exact good ⟨c1, c2⟩
        · rw [decide_eq_false c2]
          exact ref 7 _ _ rfl (qF c fun z => c2 z.2).fe rfl
      · rw [decide_eq_false c1]
        exact ⟨_, rfl, ref 7 _ _ rfl (qF c fun z => c1 z.1).fe rfl⟩
    · rw [decide_eq_false c]
      exact ref 3 _ _ rfl (qN c).fe rfl
end Kg
/-! The reader: columns. -/
namespace Kg
open PySem PySem.Spec PyProof.Rows L2
open VamvsBase (Bytes)
variable {P : Program} {w : World} {K : PySem.W.Frag} {mg : Str → Option Value} {base : Heap}
section
variable {H : Hp} {R : RA} {l : List Tk} {i : Nat} {t : Vamvsa.Table}
/-- what a store into one of the table's lists leaves -/
theorem RdS.lists (S : RdS K H R l i t) {x : Addr} {ys zs : List V} (hx : H x = some (.lst ys)) (hT : R.T ≠ x) :
    upd H x (.lst zs) R.a = some (.ins (cRd K) R.dx (rdF R i)) ∧ ToksAt (cTok K) (upd H x (.lst zs)) R.T l ∧ upd H x (.lst zs) R.p = some (.ins (cTab K) R.dp (tbF R.c R.r R.q)) := by
  refine ⟨?_, ?_, ?_⟩
  · rw [upd_ne (ins_lst S.self hx)]
    exact S.self
  · obtain ⟨vs, h, Pr⟩ := S.toks
    exact ⟨vs, by rw [upd_ne hT]; exact h, paired_imp (fun _ _ y => y.lst hx) Pr⟩
  · rw [upd_ne (ins_lst S.tab hx)]
    exact S.tab
theorem RdS.addCol (S : RdS K H R l i t) {cs : List V} {v : V} {b : Bytes} (h : H R.c = some (.lst cs)) (hb : ByAt H v b) : RdS K (upd H R.c (.lst (cs ++ [v]))) R l i { t with cols := t.cols ++ [b] } := by
  obtain ⟨e1, e2, e3⟩ := S.lists (zs := cs ++ [v]) h S.tc
  have tu : Tups H (upd H R.c (.lst (cs ++ [v]))) := .lst h
  exact
    { self := e1, toks := e2, tab := e3
      cols := by
        obtain ⟨vs, h', Pr⟩ := S.cols
        rw [h] at h'
        cases h'
        exact ⟨_, upd_same, (paired_imp (fun _ _ y => y.mono tu) Pr).snoc (hb.mono tu)⟩
      rows := by
        obtain ⟨vs, h', Pr⟩ := S.rows
        exact ⟨vs, by rw [upd_ne (Ne.symm S.cr)]; exact h', paired_imp (fun _ _ y => y.mono tu) Pr⟩
      asks := by
        obtain ⟨vs, h', Pr⟩ := S.asks
        exact ⟨vs, by rw [upd_ne (Ne.symm S.cq)]; exact h', paired_imp (fun _ _ y => y.mono tu) Pr⟩
      cr := S.cr, cq := S.cq, rq := S.rq, tc := S.tc, tr := S.tr, tq := S.tq, good := S.good, lt := S.lt, size := S.size }
theorem RdS.addRow (S : RdS K H R l i t) {cs : List V} {v : V} {b : Vamvsa.Row} (h : H R.r = some (.lst cs)) (hb : RowAt H v b) : RdS K (upd H R.r (.lst (cs ++ [v]))) R l i { t with rows := t.rows ++ [b] } := by
  obtain ⟨e1, e2, e3⟩ := S.lists (zs := cs ++ [v]) h S.tr
  have tu : Tups H (upd H R.r (.lst (cs ++ [v]))) := .lst h
  exact
    { self := e1, toks := e2, tab := e3
      rows := by
        obtain ⟨vs, h', Pr⟩ := S.rows
        rw [h] at h'
        cases h'
        exact ⟨_, upd_same, (paired_imp (fun _ _ y => y.mono tu) Pr).snoc (hb.mono tu)⟩
      cols := by
        obtain ⟨vs, h', Pr⟩ := S.cols
        exact ⟨vs, by rw [upd_ne S.cr]; exact h', paired_imp (fun _ _ y => y.mono tu) Pr⟩
      asks := by
        obtain ⟨vs, h', Pr⟩ := S.asks
        exact ⟨vs, by rw [upd_ne (Ne.symm S.rq)]; exact h', paired_imp (fun _ _ y => y.mono tu) Pr⟩
      cr := S.cr, cq := S.cq, rq := S.rq, tc := S.tc, tr := S.tr, tq := S.tq, good := S.good, lt := S.lt, size := S.size }
theorem RdS.addAsk (S : RdS K H R l i t) {cs : List V} {v : V} {b : Vamvsa.Ask} (h : H R.q = some (.lst cs)) (hb : AskAt H v b) : RdS K (upd H R.q (.lst (cs ++ [v]))) R l i { t with asks := t.asks ++ [b] } := by
  obtain ⟨e1, e2, e3⟩ := S.lists (zs := cs ++ [v]) h S.tq
  have tu : Tups H (upd H R.q (.lst (cs ++ [v]))) := .lst h
  exact
    { self := e1, toks := e2, tab := e3
      asks := by
        obtain ⟨vs, h', Pr⟩ := S.asks
        rw [h] at h'
        cases h'
        exact ⟨_, upd_same, (paired_imp (fun _ _ y => y.mono tu) Pr).snoc (hb.mono tu)⟩
      cols := by
        obtain ⟨vs, h', Pr⟩ := S.cols
        exact ⟨vs, by rw [upd_ne S.cq]; exact h', paired_imp (fun _ _ y => y.mono tu) Pr⟩
      rows := by
        obtain ⟨vs, h', Pr⟩ := S.rows
        exact ⟨vs, by rw [upd_ne S.rq]; exact h', paired_imp (fun _ _ y => y.mono tu) Pr⟩
      cr := S.cr, cq := S.cq, rq := S.rq, tc := S.tc, tr := S.tr, tq := S.tq, good := S.good, lt := S.lt, size := S.size }
/-- the next token, for a call of token() -/
theorem RdS.next (S : RdS K H R l i t) : ∃ tk, l[i]? = some tk := get_lt S.lt
end
/-! ### a column -/
def colStep (cs : List Bytes) (tk : Tk) : Except VamvsBase.Fault Bytes :=
  if tk.kd = .name then (if 4 ≤ cs.length then .error ⟨4, tk.place⟩ else if cs.contains tk.wd = true then .error ⟨5, tk.place⟩ else .ok tk.wd) else .error ⟨3, tk.place⟩
def contCol (n : Nat) (cs : List Bytes) (L : VamvsBase.Toks) : Except VamvsBase.Fault (List Bytes × VamvsBase.Toks) :=
  if VamvsBase.next (.sign 44) L = true then Vamvsa.takeColumns n cs (L.drop 1) else (VamvsBase.takeSign 59 L).map fun m => (cs, m)
theorem takeColumns_step {n : Nat} {cs : List Bytes} {tk : Tk} {L : VamvsBase.Toks} (ho : tk.Ok) : Vamvsa.takeColumns (n + 1) cs (tk.p :: L) = (colStep cs tk).bind fun b => contCol n (cs ++ [b]) L := by
  show ((VamvsBase.takeName (tk.p :: L)).bind fun x => if Vamvsa.COLUMNS ≤ cs.length then .error ⟨4, x.1.place⟩ else if cs.contains x.1.name = true then .error ⟨5, x.1.place⟩ else contCol n (cs ++ [x.1.name]) x.2) = _
  rw [takeName_is ho]
  unfold colStep
  by_cases c : tk.kd = .name
  · rw [if_pos c, if_pos c]
    show (if 4 ≤ cs.length then _ else _) = _
    by_cases c1 : 4 ≤ cs.length
    · rw [if_pos c1, if_pos c1]; rfl
    · rw [if_neg c1, if_neg c1]
      by_cases c2 : cs.contains tk.wd = true
      · rw [if_pos c2, if_pos c2]; rfl
      · rw [if_neg c2, if_neg c2]; rfl
  · rw [if_neg c, if_neg c]; rfl
def spColumn (K : PySem.W.Frag) : Sp := fun vs H Q E => ∃ R l i t tk, vs = [.ref R.a] ∧ RdS K H R l i t ∧ l[i]? = some tk ∧ t.cols.length ≤ 4 ∧ (∀ f, colStep t.cols tk = .error f → FaultK R (cFlt K) H E f.code f.place) ∧
  (∀ b, colStep t.cols tk = .ok b → ∀ H', Keep R H H' → RdS K H' R l (i + 1) { t with cols := t.cols ++ [b] } → Q .non H')
theorem ref_len4 {n : Nat} : decide (V.int ((n : Nat) : Int) = V.int 4) = decide (n = 4) := by
  rw [dec_int]
  by_cases h : n = 4
  · subst h; rfl
  · have : ((n : Nat) : Int) ≠ 4 := by omega
    rw [decide_eq_false h]
    exact beq_eq_false_iff_ne.mpr this
theorem m_Reader_read_column (T : Txt K mg) : MetX P w K mg base (L2.CX P w) 5 (cRd K) "read_column" (spColumn K) := by
  obtain ⟨fd, F⟩ := T.F_Reader_read_column
  refine ⟨_, fd, _, T.cl_Reader, T.m_Reader_read_column, F.okX sc_Reader_read_column (fun vs H Q E h => ?_) (fun cdv A outer s H vs Q E hr h => ⟨_, (pss_cons (ps_expr (pe_mx0 (m_Reader_ask_name T) hr (by decide) passD (pv 0)))
    (pss_cons (ps_if (pt_cmpR op_eq (pe_callB call_len_seq (by rfl) T.f_len (by decide +kernel) (pa_cons (pe_fld (pe_fld (pv 0) rfl) rfl) pa_nil)) (C8.pe_gc rfl T.c_MOST_COLUMNS) (nomark _)) (pss_one (ps_expr (pe_mx (m_Reader_refuse T) hr (by decide) passD (pv 0) (pa_cons (C8.pe_gc rfl T.c_MANY) pa_nil)))) pss_nil)
    (pss_cons (ps_if (pt_cmpR (op_inD (hu65 hr)) (pe_fld (pe_mx0 (m_Reader_token T) hr (by decide) pass0 (pv 0)) rfl) (pe_fld (pe_fld (pv 0) rfl) rfl) rfl) (pss_one (ps_expr (pe_mx (m_Reader_refuse T) hr (by decide) passD (pv 0) (pa_cons (C8.pe_gc rfl T.c_OLD_COLUMN) pa_nil)))) pss_nil)
    (pss_cons (ps_expr (pe_bm PySem.F.plainAttrs_list PySem.F.slot_list_append PySem.F.type_list_append mt_append (pe_fld (pe_fld (pv 0) rfl) rfl) (pa_cons (pe_fld (pe_mx0 (m_Reader_token T) hr (by decide) pass0 (pv 0)) rfl) pa_nil)))
    (pss_one (ps_fldaug (pv 0) pe_int in_add)))))), ?_⟩), b_Reader_read_column F⟩
  · obtain ⟨R, l, i, t, tk, rfl, _⟩ := h
    rfl
  · obtain ⟨R, l, i, t, tk, rfl, S, htk, hc4, qE, qT⟩ := h
    have nn : ∀ {m : Str}, (m == ("tokens" : Str)) = false → (m == ("at" : Str)) = false → (m == ("table" : Str)) = false → (rdF R i).lookup m = none := fun h1 h2 h3 => rdF_none R i h1 h2 h3
    have ref : ∀ (c : Nat) (σ : L2.St) (D : Ends), σ[0]? = some (some (.ref R.a)) → FaultE (cFlt K) H E c tk.place → (c : Int) = c → tMe (cRd K) "refuse" (spRefuse K) E (tVar 0) (tCons (tC (.int c)) tNil) σ H (fun _ H1 => D.nx σ H1) := fun c σ D hσ q _ =>
      ⟨_, hσ, _, _, _, rfl, S.self, nn (by decide +kernel) (by decide +kernel) (by decide +kernel), R, l, i, t, tk, c, rfl, S, htk, q⟩
    obtain ⟨cs, hcs, Pr⟩ := S.cols
    have ln : cs.length = t.cols.length := paired_len Pr
    refine ⟨_, rfl, _, _, _, rfl, S.self, nn (by decide +kernel) (by decide +kernel) (by decide +kernel), R, l, i, t, tk, rfl, S, htk, fun hk => qE ⟨3, tk.place⟩ (if_neg hk), fun hk => ?_⟩
    refine ⟨_, rfl, _, _, _, _, _, rfl, S.self, T.cl_Reader, T.n_Reader_table, rdF_table R i, _, _, _, _, _, rfl, S.tab, T.cl_Table, T.n_Table_columns, tbF_columns _ _ _, _, _, rfl, .inl (SqL.of hcs), rfl, _, rfl, ?_⟩
    rw [ref_len4]
    by_cases c1 : cs.length = 4
    · rw [decide_eq_true c1]
      exact ref 4 _ _ rfl (qE ⟨4, tk.place⟩ (by unfold colStep; rw [if_pos hk, if_pos (by omega)])).fe rfl
    · rw [decide_eq_false c1]
      refine ⟨_, rfl, _, _, _, rfl, S.self, nn (by decide +kernel) (by decide +kernel) (by decide +kernel), R, l, i, t, tk, rfl, S, htk, fun v hv => ?_⟩
      obtain ⟨a, dx, wd, rfl, h1, h2⟩ := hv
      refine ⟨a, _, dx, _, _, rfl, h1, T.cl_Token, T.n_Token_word, tkF_word tk wd, _, rfl, _, _, _, _, _, rfl, S.self, T.cl_Reader, T.n_Reader_table, rdF_table R i, _, _, _, _, _, rfl, S.tab, T.cl_Table, T.n_Table_columns, tbF_columns _ _ _, ?_⟩
      refine ⟨bD tk.wd, t.cols.map bD, ByAt.dp ⟨wd, rfl, h2⟩, .lst (SqL.of hcs) (bys_dp Pr), bD_shaped _, bDs_shaped _, _, rfl, ?_⟩
      rw [any_bD]
      refine if_b (fun c2 => ?_) fun c2 => ?_
      · exact ref 5 _ _ rfl (qE ⟨5, tk.place⟩ (by unfold colStep; rw [if_pos hk, if_neg (by omega), if_pos c2])).fe rfl
      · have ok : colStep t.cols tk = .ok tk.wd := by
          unfold colStep
          rw [if_pos hk, if_neg (by omega), if_neg (by rw [c2]; exact Bool.false_ne_true)]
        refine ⟨_, rfl, _, _, _, _, _, rfl, S.self, T.cl_Reader, T.n_Reader_table, rdF_table R i, _, _, _, _, _, rfl, S.tab, T.cl_Table, T.n_Table_columns, tbF_columns _ _ _, .inl ⟨rfl, _, SqL.of hcs⟩, ?_⟩
        refine ⟨_, rfl, _, _, _, rfl, S.self, nn (by decide +kernel) (by decide +kernel) (by decide +kernel), R, l, i, t, tk, rfl, S, htk, fun v hv => ?_⟩
        obtain ⟨a2, dx2, wd2, rfl, k1, k2⟩ := hv
        refine ⟨a2, _, dx2, _, _, rfl, k1, T.cl_Token, T.n_Token_word, tkF_word tk wd2, _, _, _, rfl, rfl, hcs, Nat.lt_of_lt_of_le (show cs.length < 1000 by omega) (small_line (Nat.le_refl _)), ?_⟩
        have S2 := S.addCol hcs ⟨wd2, rfl, k2⟩
        have hm := S.more htk (by rw [hk]; intro z; cases z)
        refine ⟨_, rfl, _, _, _, _, _, rfl, S2.self, T.cl_Reader, T.n_Reader_at, rdF_at R i, _, _, rfl, rfl, _, _, S2.self, (by show 3 < 1000; decide), ?_⟩
        rw [rdF_put R i _ (i + 1) (by rw [Int.natCast_add]; rfl)]
        exact qT _ ok _ ((Keep.upd (.inr (.inl rfl)) hcs).trans (.upd (.inl rfl) S2.self)) (S2.at_ hm)
end Kg
/-! The reader: all columns; a row. -/
namespace Kg
open PySem PySem.Spec PyProof.Rows L2
open VamvsBase (Bytes)
variable {P : Program} {w : World} {K : PySem.W.Frag} {mg : Str → Option Value} {base : Heap}
theorem rdF_m {R : RA} {i : Nat} {m : Str} (h : ((m == ("tokens" : Str)) || ((m == ("at" : Str)) || (m == ("table" : Str)))) = false) : (rdF R i).lookup m = none := by
  rw [Bool.or_eq_false_iff, Bool.or_eq_false_iff] at h
  exact rdF_none R i h.1 h.2.1 h.2.2
theorem code_comma : codeV "," = bV [44] := by decide +kernel
theorem code_semi : codeV ";" = bV [59] := by decide +kernel
theorem code_colon : codeV ":" = bV [58] := by decide +kernel
theorem code_minus : codeV "-" = bV [45] := by decide +kernel
theorem res_columns : VamvsBase.RESERVED.contains (VamvsBase.word "columns") = true := by decide +kernel
theorem res_row : VamvsBase.RESERVED.contains (VamvsBase.word "row") = true := by decide +kernel
theorem res_ask : VamvsBase.RESERVED.contains (VamvsBase.word "ask") = true := by decide +kernel
theorem res_times : VamvsBase.RESERVED.contains (VamvsBase.word "times") = true := by decide +kernel
theorem sg44 {t : Tk} {L : VamvsBase.Toks} (ho : t.Ok) : VamvsBase.next (.sign 44) (t.p :: L) = standsM [44] t := next_sign ho 44 (by decide)
theorem sg45 {t : Tk} {L : VamvsBase.Toks} (ho : t.Ok) : VamvsBase.next (.sign 45) (t.p :: L) = standsM [45] t := next_sign ho 45 (by decide)
theorem sg59 {t : Tk} {L : VamvsBase.Toks} (ho : t.Ok) : VamvsBase.next (.sign 59) (t.p :: L) = standsM [59] t := next_sign ho 59 (by decide)
theorem ts44 {t : Tk} {L : VamvsBase.Toks} (ho : t.Ok) : VamvsBase.takeSign 44 (t.p :: L) = if standsM [44] t = true then .ok L else .error ⟨3, t.place⟩ := takeSign_is ho 44 (by decide)
theorem ts58 {t : Tk} {L : VamvsBase.Toks} (ho : t.Ok) : VamvsBase.takeSign 58 (t.p :: L) = if standsM [58] t = true then .ok L else .error ⟨3, t.place⟩ := takeSign_is ho 58 (by decide)
theorem ts59 {t : Tk} {L : VamvsBase.Toks} (ho : t.Ok) : VamvsBase.takeSign 59 (t.p :: L) = if standsM [59] t = true then .ok L else .error ⟨3, t.place⟩ := takeSign_is ho 59 (by decide)
/-! ### read_columns -/
def colsX (L : VamvsBase.Toks) : Except VamvsBase.Fault (List Bytes × VamvsBase.Toks) := (VamvsBase.takeWord "columns" L).bind fun r => Vamvsa.takeColumns (r.length + 1) [] r
def spColumns (K : PySem.W.Frag) : Sp := fun vs H Q E => ∃ R l i, vs = [.ref R.a] ∧ RdS K H R l i ⟨[], [], []⟩ ∧ (∀ f, colsX (pT l i) = .error f → FaultK R (cFlt K) H E f.code f.place) ∧
  (∀ cs j, cs ≠ [] → cs.length ≤ 4 → colsX (pT l i) = .ok (cs, pT l j) → ∀ H', Keep R H H' → RdS K H' R l j ⟨cs, [], []⟩ → Q .non H')
theorem colStep_len {cs : List Bytes} {tk : Tk} {b : Bytes} (h : colStep cs tk = .ok b) : cs.length < 4 := by
  unfold colStep at h
  by_cases c : tk.kd = .name
  · rw [if_pos c] at h
    by_cases c1 : 4 ≤ cs.length
    · rw [if_pos c1] at h; cases h
    · omega
  · rw [if_neg c] at h; cases h
theorem pT_len {l : List Tk} {i : Nat} : (pT l i).length = l.length - i := by
  unfold pT
  rw [List.length_map, List.length_drop]
theorem m_Reader_read_columns (T : Txt K mg) : MetX P w K mg base (L2.CX P w) 6 (cRd K) "read_columns" (spColumns K) := by
  obtain ⟨fd, F⟩ := T.F_Reader_read_columns
  refine ⟨_, fd, _, T.cl_Reader, T.m_Reader_read_columns, F.okX sc_Reader_read_columns (fun vs H Q E h => ?_) (fun cdv A outer s H vs Q E hr h => ⟨_, (pss_cons (ps_expr (pe_mx (m_Reader_must_be T) hr (by decide) passD (pv 0) (pa_cons pe_str pa_nil)))
    (pss_cons (ps_expr (pe_mx0 (m_Reader_read_column T) hr (by decide) passD (pv 0)))
    (pss_cons (ps_while ownD (pt_val (pe_mx (m_Reader_may_be T) hr (by decide) pass0 (pv 0) (pa_cons pe_str pa_nil))) (pss_one (ps_expr (pe_mx0 (m_Reader_read_column T) hr (by decide) passD (pv 0)))))
    (pss_one (ps_expr (pe_mx (m_Reader_must_be T) hr (by decide) passD (pv 0) (pa_cons pe_str pa_nil))))))), ?_⟩), b_Reader_read_columns F⟩
  · obtain ⟨R, l, i, rfl, _⟩ := h
    rfl
  · obtain ⟨R, l, i, rfl, S, qE, qT⟩ := h
    obtain ⟨tk, htk⟩ := S.next
    have ok := S.good.okAt htk
    have e0 : colsX (pT l i) = if standsM (VamvsBase.word "columns") tk = true then Vamvsa.takeColumns ((pT l (i + 1)).length + 1) [] (pT l (i + 1)) else .error ⟨3, tk.place⟩ := by
      unfold colsX
      rw [pT_cons htk, takeWord_is ok res_columns]
      by_cases c : standsM (VamvsBase.word "columns") tk = true
      · rw [if_pos c, if_pos c]; rfl
      · rw [if_neg c, if_neg c]; rfl
    refine ⟨_, rfl, _, _, _, rfl, S.self, rdF_m (by decide +kernel), R, l, i, _, tk, "columns", _, rfl, S, htk, (by decide), code_columns, fun hs => ?_, fun hs H1 k1 S1 => ?_⟩
    · exact qE ⟨3, tk.place⟩ (by rw [e0, hs]; rfl)
    · rw [if_pos hs] at e0
      obtain ⟨tk1, htk1⟩ := S1.next
      have e1 : colsX (pT l i) = (colStep [] tk1).bind fun b => contCol (pT l (i + 1)).length ([] ++ [b]) (pT l (i + 1 + 1)) := by
        have := takeColumns_step (n := (pT l (i + 1)).length) (cs := []) (L := pT l (i + 1 + 1)) (S1.good.okAt htk1)
        rw [← pT_cons htk1] at this
        rw [e0, this]
      refine ⟨_, rfl, _, _, _, rfl, S1.self, rdF_m (by decide +kernel), R, l, i + 1, _, tk1, rfl, S1, htk1, Nat.zero_le _, fun f hf => ?_, fun b hb H2 k2 S2 => ?_⟩
      · exact (qE f (by rw [e1, hf]; rfl)).mono k1
      · rw [hb] at e1
        have k02 := k1.trans k2
        refine ⟨fun m σ H' => ∃ j n cs, σ = [some (.ref R.a)] ∧ Keep R H H' ∧ RdS K H' R l j ⟨cs, [], []⟩ ∧ cs.length ≤ 4 ∧ cs ≠ [] ∧ (pT l j).length ≤ n ∧ colsX (pT l i) = contCol n cs (pT l j) ∧ m = l.length - j,
          ⟨_, i + 1 + 1, (pT l (i + 1)).length, [b], rfl, k02, S2, (by show 1 ≤ 4; decide), List.cons_ne_nil _ _, by rw [pT_len, pT_len]; omega, e1, rfl⟩, ?_⟩
        rintro m σ H3 ⟨j, n, cs, rfl, k3, S3, hc4, hcn, hn, e3, rfl⟩
        obtain ⟨tk3, htk3⟩ := S3.next
        have ok3 := S3.good.okAt htk3
        have lt3 := S3.lt
        refine ⟨_, rfl, _, _, _, rfl, S3.self, rdF_m (by decide +kernel), R, l, j, _, tk3, ",", [44], rfl, S3, htk3, (by decide), code_comma, fun hs4 H4 s4 => ⟨_, rfl, ?_⟩, fun hs4 H4 k4 S4 => ⟨_, rfl, _, fun _ _ h => h, ?_⟩⟩
        · -- no comma: must_be(";")
          have S4 := S3.same s4
          have k34 := k3.trans (Keep.of s4)
          have e4 : colsX (pT l i) = if standsM [59] tk3 = true then .ok (cs, pT l (j + 1)) else .error ⟨3, tk3.place⟩ := by
            rw [e3, pT_cons htk3]
            unfold contCol
            rw [sg44 ok3, hs4, if_neg Bool.false_ne_true, ts59 ok3]
            by_cases c : standsM [59] tk3 = true
            · rw [if_pos c, if_pos c]; rfl
            · rw [if_neg c, if_neg c]; rfl
          refine ⟨_, rfl, _, _, _, rfl, S4.self, rdF_m (by decide +kernel), R, l, j, _, tk3, ";", [59], rfl, S4, htk3, (by decide), code_semi, fun hs5 => ?_, fun hs5 H5 k5 S5 => ?_⟩
          · exact (qE ⟨3, tk3.place⟩ (by rw [e4, hs5]; rfl)).mono k34
          · exact qT cs (j + 1) hcn hc4 (by rw [e4, if_pos hs5]) H5 (k34.trans k5) S5
        · -- a comma: a further column
          obtain ⟨tk5, htk5⟩ := S4.next
          have n1 : n = (n - 1) + 1 := by
            rw [pT_len] at hn
            omega
          have e4 : colsX (pT l i) = (colStep cs tk5).bind fun b => contCol (n - 1) (cs ++ [b]) (pT l (j + 1 + 1)) := by
            rw [e3, pT_cons htk3]
            unfold contCol
            rw [sg44 ok3, if_pos hs4]
            show Vamvsa.takeColumns n cs (pT l (j + 1)) = _
            rw [pT_cons htk5, n1]
            exact takeColumns_step (S4.good.okAt htk5)
          refine ⟨_, rfl, _, _, _, rfl, S4.self, rdF_m (by decide +kernel), R, l, j + 1, _, tk5, rfl, S4, htk5, hc4, fun f hf => ?_, fun b5 hb5 H5 k5 S5 => ?_⟩
          · exact (qE f (by rw [e4, hf]; rfl)).mono (k3.trans k4)
          · rw [hb5] at e4
            have hlt : cs.length < 4 := colStep_len hb5
            refine ⟨_, ?_, j + 1 + 1, n - 1, cs ++ [b5], rfl, k3.trans (k4.trans k5), S5, ?_, (by simp), ?_, e4, rfl⟩
            · omega
            · rw [List.length_append]
              show cs.length + 1 ≤ 4
              omega
            · rw [pT_len] at hn ⊢
              omega
end Kg
/-! The reader: a row. -/
namespace Kg
open PySem PySem.Spec PyProof.Rows L2
open VamvsBase (Bytes)
variable {P : Program} {w : World} {K : PySem.W.Frag} {mg : Str → Option Value} {base : Heap}
/-- an address beside the reader's lists -/
structure Side (R : RA) (D : Addr) : Prop where
  a : D ≠ R.a
  T : D ≠ R.T
  p : D ≠ R.p
  c : D ≠ R.c
  r : D ≠ R.r
  q : D ≠ R.q
theorem RdS.side_new {H : Hp} {R : RA} {l : List Tk} {i : Nat} {t : Vamvsa.Table} {D : Addr} (S : RdS K H R l i t) (h : H D = none) : Side R D := by
  obtain ⟨_, hT, _⟩ := S.toks
  obtain ⟨_, hc, _⟩ := S.cols
  obtain ⟨_, hr, _⟩ := S.rows
  obtain ⟨_, hq, _⟩ := S.asks
  exact ⟨Ne.symm (ne_of_none S.self h), Ne.symm (ne_of_none hT h), Ne.symm (ne_of_none S.tab h), Ne.symm (ne_of_none hc h), Ne.symm (ne_of_none hr h), Ne.symm (ne_of_none hq h)⟩
theorem RdS.side {H : Hp} {R : RA} {l : List Tk} {i : Nat} {t : Vamvsa.Table} {D : Addr} {ys zs : List V} (S : RdS K H R l i t) (h : H D = some (.lst ys)) (d : Side R D) : RdS K (upd H D (.lst zs)) R l i t := by
  obtain ⟨e1, e2, e3⟩ := S.lists (zs := zs) h (Ne.symm d.T)
  have tu : Tups H (upd H D (.lst zs)) := .lst h
  exact
    { self := e1, toks := e2, tab := e3
      cols := by
        obtain ⟨vs, h', Pr⟩ := S.cols
        exact ⟨vs, by rw [upd_ne (Ne.symm d.c)]; exact h', paired_imp (fun _ _ y => y.mono tu) Pr⟩
      rows := by
        obtain ⟨vs, h', Pr⟩ := S.rows
        exact ⟨vs, by rw [upd_ne (Ne.symm d.r)]; exact h', paired_imp (fun _ _ y => y.mono tu) Pr⟩
      asks := by
        obtain ⟨vs, h', Pr⟩ := S.asks
        exact ⟨vs, by rw [upd_ne (Ne.symm d.q)]; exact h', paired_imp (fun _ _ y => y.mono tu) Pr⟩
      cr := S.cr, cq := S.cq, rq := S.rq, tc := S.tc, tr := S.tr, tq := S.tq, good := S.good, lt := S.lt, size := S.size }
theorem Keep.side {R : RA} {H H' : Hp} {D : Addr} {o : HO} (k : Keep R H H') (h : H D = none) : Keep R H (L2.upd H' D o) := by
  refine ⟨fun b ob hb h1 h2 h3 h4 => ?_, fun b hb => ?_⟩
  · rw [upd_ne (ne_of_none hb h)]
    exact k.keep b ob hb h1 h2 h3 h4
  · by_cases e : b = D
    · rw [e]; exact h
    · rw [upd_ne e] at hb
      exact k.dom b hb
theorem Keep.at_ {R : RA} {H H' : Hp} {D : Addr} {o : HO} (k : Keep R H H') (d : Side R D) (h : H D = some o) : H' D = some o := k.keep D o h d.a d.c d.r d.q
theorem Keep.tup {R : RA} {H H' : Hp} {D : Addr} {xs : List V} {l : List Tk} {i : Nat} {t : Vamvsa.Table} (S : RdS K H R l i t) (k : Keep R H H') (h : H D = some (.tup xs)) : H' D = some (.tup xs) := by
  obtain ⟨_, hc, _⟩ := S.cols
  obtain ⟨_, hr, _⟩ := S.rows
  obtain ⟨_, hq, _⟩ := S.asks
  exact k.keep D _ h (ne_of h S.self (by intro z; cases z)) (ne_of h hc (by intro z; cases z)) (ne_of h hr (by intro z; cases z)) (ne_of h hq (by intro z; cases z))
theorem here_pT {l : List Tk} {i : Nat} {tk : Tk} (h : l[i]? = some tk) : VamvsBase.here (pT l i) = tk.place := by
  rw [pT_cons h]
  rfl
theorem drop_pT {l : List Tk} {i : Nat} {tk : Tk} (h : l[i]? = some tk) : (pT l i).drop 1 = pT l (i + 1) := by
  rw [pT_cons h]
  rfl
theorem nV_snoc (l : List Nat) (n : Nat) : nV (l ++ [n]) = nV l ++ [.int ((n : Nat) : Int)] := by
  unfold nV
  rw [List.map_append]
  rfl
/-- values of a row: one step -/
theorem takeValues_next {n : Nat} {vs : List Nat} {t1 t2 : Tk} {l : List Tk} {j : Nat} (hv : vs ≠ []) (h1 : l[j]? = some t1) (ok : t1.Ok) : Vamvsa.takeValues (n + 1) vs (pT l j) =
    if standsM [44] t1 = true then (Vamvsa.takeNat 9 (pT l (j + 1))).bind fun x => Vamvsa.takeValues n (vs ++ [x.1]) x.2 else .error ⟨3, t1.place⟩ := by
  show ((if vs.isEmpty = true then .ok (pT l j) else VamvsBase.takeSign 44 (pT l j)).bind fun r => (Vamvsa.takeNat 9 r).bind fun x => Vamvsa.takeValues n (vs ++ [x.1]) x.2) = _
  rw [if_neg (by cases vs with | nil => exact absurd rfl hv | cons a r => exact Bool.false_ne_true), pT_cons h1, ts44 ok]
  by_cases c : standsM [44] t1 = true
  · rw [if_pos c, if_pos c]; rfl
  · rw [if_neg c, if_neg c]; rfl
def rowX (t : Vamvsa.Table) (L : VamvsBase.Toks) : Except VamvsBase.Fault (Vamvsa.Row × VamvsBase.Toks) :=
  if 16 ≤ t.rows.length then .error ⟨4, VamvsBase.here L⟩ else (Vamvsa.takeValues t.cols.length [] (L.drop 1)).bind fun v => (VamvsBase.takeSign 58 v.2).bind fun r => (Vamvsa.takeInt r).bind fun x => (VamvsBase.takeSign 59 x.2).map fun m => ((⟨v.1, x.1⟩ : Vamvsa.Row), m)
def spRow (K : PySem.W.Frag) : Sp := fun vs H Q E => ∃ R l i t tk, vs = [.ref R.a] ∧ RdS K H R l i t ∧ l[i]? = some tk ∧ standsM (VamvsBase.word "row") tk = true ∧ t.rows.length ≤ 16 ∧ t.cols ≠ [] ∧ t.cols.length ≤ 4 ∧
  (∀ f, rowX t (pT l i) = .error f → FaultK R (cFlt K) H E f.code f.place) ∧
  (∀ r j, i < j → rowX t (pT l i) = .ok (r, pT l j) → ∀ H', Keep R H H' → RdS K H' R l j { t with rows := t.rows ++ [r] } → Q .non H')
theorem ref_len {n m : Nat} : decide (V.int ((n : Nat) : Int) = V.int ((m : Nat) : Int)) = decide (n = m) := by
  rw [dec_int]
  by_cases h : n = m
  · subst h; rw [decide_eq_true rfl]; exact beq_self_eq_true _
  · have : ((n : Nat) : Int) ≠ ((m : Nat) : Int) := by omega
    rw [decide_eq_false h]
    exact beq_eq_false_iff_ne.mpr this
theorem m_Reader_read_row (T : Txt K mg) : MetX P w K mg base (L2.CX P w) 5 (cRd K) "read_row" (spRow K) := by
  obtain ⟨fd, F⟩ := T.F_Reader_read_row
  refine ⟨_, fd, _, T.cl_Reader, T.m_Reader_read_row, F.okX sc_Reader_read_row (fun vs H Q E h => ?_) (fun cdv A outer s H vs Q E hr h => ⟨_, (pss_cons (ps_if (pt_cmpR op_eq (pe_callB call_len_seq (by rfl) T.f_len (by decide +kernel) (pa_cons (pe_fld (pe_fld (pv 0) rfl) rfl) pa_nil)) (C8.pe_gc rfl T.c_MOST_ROWS) (nomark _)) (pss_one (ps_expr (pe_mx (m_Reader_refuse T) hr (by decide) passD (pv 0) (pa_cons (C8.pe_gc rfl T.c_MANY) pa_nil)))) pss_nil)
    (pss_cons (ps_expr (pe_mx (m_Reader_must_be T) hr (by decide) passD (pv 0) (pa_cons pe_str pa_nil)))
    (pss_cons (ps_set (i := 1) sc_Reader_read_row.nd rfl (Or.inl rfl) (pe_lst (pa_cons (pe_mx (m_Reader_read_number T) hr (by decide) passD (pv 0) (pa_cons pe_int (pa_cons (C8.pe_gc rfl T.c_MOST_VALUE) pa_nil))) pa_nil)))
    (pss_cons (ps_while ownD (pt_cmpR op_lt (pe_callB call_len_seq (by rfl) T.f_len (by decide +kernel) (pa_cons (pv 1) pa_nil)) (pe_callB call_len_seq (by rfl) T.f_len (by decide +kernel) (pa_cons (pe_fld (pe_fld (pv 0) rfl) rfl) pa_nil)) (nomark _)) (pss_cons (ps_expr (pe_mx (m_Reader_must_be T) hr (by decide) passD (pv 0) (pa_cons pe_str pa_nil)))
    (pss_one (ps_expr (pe_bm PySem.F.plainAttrs_list PySem.F.slot_list_append PySem.F.type_list_append mt_append (pv 1) (pa_cons (pe_mx (m_Reader_read_number T) hr (by decide) passD (pv 0) (pa_cons pe_int (pa_cons (C8.pe_gc rfl T.c_MOST_VALUE) pa_nil))) pa_nil))))))
    (pss_cons (ps_expr (pe_mx (m_Reader_must_be T) hr (by decide) passD (pv 0) (pa_cons pe_str pa_nil)))
    (pss_cons (ps_set (i := 2) sc_Reader_read_row.nd rfl (Or.inl rfl) pe_int)
    (pss_cons (ps_if (pt_val (pe_mx (m_Reader_may_be T) hr (by decide) pass0 (pv 0) (pa_cons pe_str pa_nil))) (pss_one (ps_set (i := 2) sc_Reader_read_row.nd rfl (Or.inl rfl) (pe_un un_neg pe_int))) pss_nil)
    (pss_cons (ps_expr (pe_bm PySem.F.plainAttrs_list PySem.F.slot_list_append PySem.F.type_list_append mt_append (pe_fld (pe_fld (pv 0) rfl) rfl) (pa_cons (pe_tup (pa_cons (pe_callTy call_tuple_of (by rfl) T.f_tuple (by decide +kernel) (pa_cons (pv 1) pa_nil)) (pa_cons (pe_op op_mul (pv 2) (pe_mx (m_Reader_read_number T) hr (by decide) passD (pv 0) (pa_cons pe_int (pa_cons (C8.pe_gc rfl T.c_MOST_SUM) pa_nil)))) pa_nil))) pa_nil)))
    (pss_one (ps_expr (pe_mx (m_Reader_must_be T) hr (by decide) passD (pv 0) (pa_cons pe_str pa_nil)))))))))))), ?_⟩), b_Reader_read_row F⟩
  · obtain ⟨R, l, i, t, tk, rfl, _⟩ := h
    rfl
  · obtain ⟨R, l, i, t, tk, rfl, S, htk, hrow, hr16, hc0, hc4, qE, qT⟩ := h
    obtain ⟨rs, hrs, Pr⟩ := S.rows
    have ln : rs.length = t.rows.length := paired_len Pr
    -- if len(self.table.rows) == MOST_ROWS
    refine ⟨_, rfl, _, _, _, _, _, rfl, S.self, T.cl_Reader, T.n_Reader_table, rdF_table R i, _, _, _, _, _, rfl, S.tab, T.cl_Table, T.n_Table_rows, tbF_rows _ _ _, _, _, rfl, .inl (SqL.of hrs), rfl, _, rfl, ?_⟩
    rw [show decide (V.int ((rs.length : Nat) : Int) = V.int 16) = decide (rs.length = 16) from ref_len]
    by_cases c1 : rs.length = 16
    · rw [decide_eq_true c1]
      refine ⟨_, rfl, _, _, _, rfl, S.self, rdF_m (by decide +kernel), R, l, i, t, tk, 4, rfl, S, htk, ?_⟩
      exact (qE ⟨4, tk.place⟩ (by unfold rowX; rw [if_pos (by omega), here_pT htk])).fe
    · rw [decide_eq_false c1]
      have e0 : rowX t (pT l i) = (Vamvsa.takeValues t.cols.length [] (pT l (i + 1))).bind fun v => (VamvsBase.takeSign 58 v.2).bind fun r => (Vamvsa.takeInt r).bind fun x => (VamvsBase.takeSign 59 x.2).map fun m => ((⟨v.1, x.1⟩ : Vamvsa.Row), m) := by
        unfold rowX
        rw [if_neg (by omega), drop_pT htk]
      -- self.must_be("row")
      refine ⟨_, rfl, _, _, _, rfl, S.self, rdF_m (by decide +kernel), R, l, i, t, tk, "row", _, rfl, S, htk, (by decide), code_row, fun hs => ?_, fun _ H1 k1 S1 => ?_⟩
      · rw [hrow] at hs; cases hs
      · -- found = [self.read_number(0, 9)]
        obtain ⟨tk1, htk1⟩ := S1.next
        have nc : t.cols.length = (t.cols.length - 1) + 1 := by
          cases hcc : t.cols with
          | nil => exact absurd hcc hc0
          | cons a r => rfl
        have e1 : rowX t (pT l i) = ((Vamvsa.takeNat 9 (pT l (i + 1))).bind fun x => Vamvsa.takeValues (t.cols.length - 1) ([] ++ [x.1]) x.2).bind fun v => (VamvsBase.takeSign 58 v.2).bind fun r => (Vamvsa.takeInt r).bind fun x => (VamvsBase.takeSign 59 x.2).map fun m => ((⟨v.1, x.1⟩ : Vamvsa.Row), m) := by
          rw [e0]
          conv => lhs; rw [nc]
          rfl
        have tn1 := takeNat_is (t := tk1) (L := pT l (i + 1 + 1)) 9
        rw [← pT_cons htk1] at tn1
        refine ⟨_, rfl, _, _, _, rfl, S1.self, rdF_m (by decide +kernel), R, l, i + 1, t, tk1, 0, 9, rfl, S1, htk1, fun hk => ?_, fun hk hb => ?_, fun hk hb H2 k2 S2 => ?_⟩
        · exact (qE ⟨3, tk1.place⟩ (by rw [e1, tn1, if_neg hk]; rfl)).mono k1
        · exact (qE ⟨7, tk1.place⟩ (by rw [e1, tn1, if_pos hk, if_pos (by omega)]; rfl)).mono k1
        · rw [tn1, if_pos hk, if_neg (by omega)] at e1
          have k12 := k1.trans k2
          refine ⟨small_line (by show 1 ≤ 1000; decide), fun D nD => ?_⟩
          have dD := S2.side_new nD
          have nHD : H D = none := k12.dom D nD
          -- while len(found) < len(self.table.columns)
          refine ⟨fun m σ H' => ∃ j vs n, σ = [some (.ref R.a), some (.ref D), none] ∧ Keep R H H' ∧ RdS K H' R l j t ∧ H' D = some (.lst (nV vs)) ∧ vs.length + n = t.cols.length ∧ vs ≠ [] ∧ i < j ∧
              rowX t (pT l i) = (Vamvsa.takeValues n vs (pT l j)).bind (fun v => (VamvsBase.takeSign 58 v.2).bind fun r => (Vamvsa.takeInt r).bind fun x => (VamvsBase.takeSign 59 x.2).map fun m => ((⟨v.1, x.1⟩ : Vamvsa.Row), m)) ∧ m = n,
            ⟨_, i + 1 + 1, [VamvsBase.decimal tk1.wd], t.cols.length - 1, rfl, k12.side nHD, S2.same (same_new nD), upd_same, by show 1 + (t.cols.length - 1) = _; omega, List.cons_ne_nil _ _, by omega, e1, rfl⟩, ?_⟩
          rintro m σ H3 ⟨j, vs, n, rfl, k3, S3, hD3, hvn, hv0, hij, e3, rfl⟩
          obtain ⟨cs, hcs, Pc⟩ := S3.cols
          have lc : cs.length = t.cols.length := paired_len Pc
          obtain ⟨tk3, htk3⟩ := S3.next
          have ok3 := S3.good.okAt htk3
          refine ⟨_, rfl, _, _, rfl, .inl (SqL.of hD3), _, rfl, _, _, _, _, _, rfl, S3.self, T.cl_Reader, T.n_Reader_table, rdF_table R j, _, _, _, _, _, rfl, S3.tab, T.cl_Table, T.n_Table_columns, tbF_columns _ _ _, _, _, rfl, .inl (SqL.of hcs), _, _, rfl, rfl, _, rfl, ?_⟩
          rw [nV_length, lc]
          by_cases cn : m = 0
          · -- the values are read
            rw [decide_eq_false (by omega)]
            subst cn
            have e4 : rowX t (pT l i) = (VamvsBase.takeSign 58 (pT l j)).bind fun r => (Vamvsa.takeInt r).bind fun x => (VamvsBase.takeSign 59 x.2).map fun m => ((⟨vs, x.1⟩ : Vamvsa.Row), m) := e3
            rw [pT_cons htk3, ts58 ok3] at e4
            refine ⟨_, rfl, _, _, _, rfl, S3.self, rdF_m (by decide +kernel), R, l, j, t, tk3, ":", [58], rfl, S3, htk3, (by decide), code_colon, fun hs => ?_, fun hs H4 k4 S4 => ?_⟩
            · exact (qE ⟨3, tk3.place⟩ (by rw [e4, hs]; rfl)).mono k3
            · rw [if_pos hs] at e4
              have k34 := k3.trans k4
              have hD4 := k4.at_ dD hD3
              obtain ⟨tk4, htk4⟩ := S4.next
              have ok4 := S4.good.okAt htk4
              -- what follows the sign, at any place behind it
              have rest : ∀ (g : Int) (neg : Bool) (j5 : Nat) (H5 : Hp), i < j5 → (g = if neg = true then -1 else 1) → Keep R H H5 → RdS K H5 R l j5 t → H5 D = some (.lst (nV vs)) →
                  rowX t (pT l i) = ((Vamvsa.takeNat 1000 (pT l j5)).map fun x => (if neg = true then -(x.1 : Int) else (x.1 : Int), x.2)).bind (fun x => (VamvsBase.takeSign 59 x.2).map fun m => ((⟨vs, x.1⟩ : Vamvsa.Row), m)) →
                  tSeq (tDrop (tBM K "list" rAppend (tFld K (tFld K (tVar 0) "table") "rows") (tCons (tTup (tCons (tCB (fun xs H Q => ∃ p ys, xs = [.ref p] ∧ ((SqL K H p ys ∧ ∀ l, H l = none → Q (.ref l) (upd H l (.tup ys))) ∨ (SqT K H p ys ∧ Q (.ref p) H))) (tCons (tVar 1) tNil)) (tCons (tOp (rI CMul fun i j => .int (i * j)) (tVar 2) (tMe (cRd K) "read_number" (spNumber K) E (tVar 0) (tCons (tC (.int 0)) (tCons (tC (.int 1000)) tNil)))) tNil))) tNil)))
                    (tDrop (tMe (cRd K) "must_be" (spMust K) E (tVar 0) (tCons (tC (.str ";")) tNil))) { nx := fun _ H' => Q .non H', rt := Q } [some (.ref R.a), some (.ref D), some (.int g)] H5 := by
                intro g neg j5 H5 h5 hg k5 S5 hD5 e5
                obtain ⟨rs5, hrs5, Pr5⟩ := S5.rows
                obtain ⟨tk5, htk5⟩ := S5.next
                have tn5 := takeNat_is (t := tk5) (L := pT l (j5 + 1)) 1000
                rw [← pT_cons htk5] at tn5
                refine ⟨_, rfl, _, _, _, _, _, rfl, S5.self, T.cl_Reader, T.n_Reader_table, rdF_table R j5, _, _, _, _, _, rfl, S5.tab, T.cl_Table, T.n_Table_rows, tbF_rows _ _ _, .inl ⟨rfl, _, SqL.of hrs5⟩, ?_⟩
                refine ⟨_, rfl, D, _, rfl, .inl ⟨SqL.of hD5, fun t1 n1 => ?_⟩⟩
                have s6 : Same H5 (upd H5 t1 (.tup (nV vs))) := same_new n1
                have S6 := S5.same s6
                refine ⟨_, rfl, _, rfl, _, _, _, rfl, S6.self, rdF_m (by decide +kernel), R, l, j5, t, tk5, 0, 1000, rfl, S6, htk5, fun hk => ?_, fun hk hb => ?_, fun hk hb H7 k7 S7 => ?_⟩
                · exact ((qE ⟨3, tk5.place⟩ (by rw [e5, tn5, if_neg hk]; rfl)).mono k5).mono (.of s6)
                · exact ((qE ⟨7, tk5.place⟩ (by rw [e5, tn5, if_pos hk, if_pos (by omega)]; rfl)).mono k5).mono (.of s6)
                · rw [tn5, if_pos hk, if_neg (by omega)] at e5
                  have h7 := k7.tup S6 (show upd H5 t1 (.tup (nV vs)) t1 = some (.tup (nV vs)) from upd_same)
                  refine ⟨g, _, rfl, rfl, .inl ?_, small_line (by show 2 ≤ 1000; decide), fun t2 n2 => ?_⟩
                  · rw [hg]
                    cases neg <;> exact ⟨by decide, by decide⟩
                  · have s8 := same_new (o := HO.tup [V.ref t1, V.int (g * ((VamvsBase.decimal tk5.wd : Nat) : Int))]) n2
                    have S8 := S7.same s8
                    obtain ⟨rs8, hrs8, Pr8⟩ := S8.rows
                    have ln8 : rs8.length = t.rows.length := paired_len Pr8
                    have hm : g * ((VamvsBase.decimal tk5.wd : Nat) : Int) = if neg = true then -((VamvsBase.decimal tk5.wd : Nat) : Int) else ((VamvsBase.decimal tk5.wd : Nat) : Int) := by
                      rw [hg]
                      cases neg
                      · show 1 * _ = _
                        rw [Int.one_mul]; rfl
                      · show -1 * _ = _
                        rw [Int.neg_mul, Int.one_mul]; rfl
                    refine ⟨R.r, rs8, _, rfl, rfl, hrs8, Nat.lt_of_lt_of_le (show rs8.length < 1000 by omega) (small_line (Nat.le_refl _)), ?_⟩
                    have S9 := S8.addRow (b := ⟨vs, g * ((VamvsBase.decimal tk5.wd : Nat) : Int)⟩) hrs8 ⟨t2, t1, rfl, upd_same, s8 _ _ h7⟩
                    have k9 : Keep R H _ := k5.trans (((Keep.of s6).trans (k7.trans (Keep.of s8))).trans (Keep.upd (o := HO.lst (rs8 ++ [V.ref t2])) (.inr (.inr (.inl rfl))) hrs8))
                    obtain ⟨tk9, htk9⟩ := S9.next
                    have ok9 := S9.good.okAt htk9
                    have e9 : rowX t (pT l i) = if standsM [59] tk9 = true then .ok ((⟨vs, g * ((VamvsBase.decimal tk5.wd : Nat) : Int)⟩ : Vamvsa.Row), pT l (j5 + 1 + 1)) else .error ⟨3, tk9.place⟩ := by
                      rw [e5]
                      show (VamvsBase.takeSign 59 (pT l (j5 + 1))).map _ = _
                      rw [pT_cons htk9, ts59 ok9, hm]
                      by_cases c : standsM [59] tk9 = true
                      · rw [if_pos c, if_pos c]; rfl
                      · rw [if_neg c, if_neg c]; rfl
                    refine ⟨_, rfl, _, _, _, rfl, S9.self, rdF_m (by decide +kernel), R, l, j5 + 1, _, tk9, ";", [59], rfl, S9, htk9, (by decide), code_semi, fun hs9 => ?_, fun hs9 H10 k10 S10 => ?_⟩
                    · exact (qE ⟨3, tk9.place⟩ (by rw [e9, hs9]; rfl)).mono k9
                    · exact qT _ (j5 + 1 + 1) (by omega) (by rw [e9, if_pos hs9]) H10 (k9.trans k10) S10
              have e5 : rowX t (pT l i) = (Vamvsa.takeInt (pT l (j + 1))).bind fun x => (VamvsBase.takeSign 59 x.2).map fun m => ((⟨vs, x.1⟩ : Vamvsa.Row), m) := e4
              have nx : VamvsBase.next (.sign 45) (pT l (j + 1)) = standsM [45] tk4 := by rw [pT_cons htk4, sg45 ok4]
              -- if self.may_be("-")
              refine ⟨_, rfl, _, _, _, rfl, S4.self, rdF_m (by decide +kernel), R, l, j + 1, t, tk4, "-", [45], rfl, S4, htk4, (by decide), code_minus, fun hs5 H5 s5 => ⟨_, rfl, ?_⟩, fun hs5 H5 k5 S5 => ⟨_, rfl, ?_⟩⟩
              · refine rest 1 false (j + 1) H5 (by omega) rfl (k34.trans (Keep.of s5)) (S4.same s5) (s5 _ _ hD4) ?_
                rw [e5]
                unfold Vamvsa.takeInt
                rw [nx, hs5]
                rfl
              · refine ⟨1, rfl, ?_⟩
                refine rest (-1) true (j + 1 + 1) H5 (by omega) rfl (k34.trans k5) S5 (k5.at_ dD hD4) ?_
                rw [e5]
                unfold Vamvsa.takeInt
                rw [nx, hs5, drop_pT htk4]
                rfl
          · -- a further value
            rw [decide_eq_true (by omega)]
            have n1 : m = (m - 1) + 1 := by omega
            have e4 := e3
            rw [n1, takeValues_next (t2 := tk3) hv0 htk3 ok3] at e4
            refine ⟨_, fun _ _ h => h, _, rfl, _, _, _, rfl, S3.self, rdF_m (by decide +kernel), R, l, j, t, tk3, ",", [44], rfl, S3, htk3, (by decide), code_comma, fun hs => ?_, fun hs H4 k4 S4 => ?_⟩
            · exact (qE ⟨3, tk3.place⟩ (by rw [e4, hs]; rfl)).mono k3
            · rw [if_pos hs] at e4
              have k34 := k3.trans k4
              have hD4 := k4.at_ dD hD3
              obtain ⟨tk4, htk4⟩ := S4.next
              have tn4 := takeNat_is (t := tk4) (L := pT l (j + 1 + 1)) 9
              rw [← pT_cons htk4] at tn4
              refine ⟨_, rfl, .inl ⟨rfl, _, SqL.of hD4⟩, _, rfl, _, _, _, rfl, S4.self, rdF_m (by decide +kernel), R, l, j + 1, t, tk4, 0, 9, rfl, S4, htk4, fun hk => ?_, fun hk hb => ?_, fun hk hb H5 k5 S5 => ?_⟩
              · exact (qE ⟨3, tk4.place⟩ (by rw [e4, tn4, if_neg hk]; rfl)).mono k34
              · exact (qE ⟨7, tk4.place⟩ (by rw [e4, tn4, if_pos hk, if_pos (by omega)]; rfl)).mono k34
              · rw [tn4, if_pos hk, if_neg (by omega)] at e4
                have hD5 := k5.at_ dD hD4
                refine ⟨D, _, _, rfl, rfl, hD5, ?_, ?_⟩
                · rw [nV_length]
                  exact Nat.lt_of_lt_of_le (show vs.length < 1000 by omega) (small_line (Nat.le_refl _))
                · refine ⟨m - 1, by omega, j + 1 + 1, vs ++ [VamvsBase.decimal tk4.wd], m - 1, rfl, (k34.trans k5).side nHD, S5.side hD5 dD, ?_, ?_, ?_, by omega, e4, rfl⟩
                  · rw [nV_snoc]
                    exact upd_same
                  · rw [List.length_append]
                    show vs.length + 1 + (m - 1) = _
                    omega
                  · intro z
                    have := congrArg List.length z
                    rw [List.length_append] at this
                    cases this
end Kg
/-! The reader: a question. -/
namespace Kg
open PySem PySem.Spec PyProof.Rows L2
open VamvsBase (Bytes)
variable {P : Program} {w : World} {K : PySem.W.Frag} {mg : Str → Option Value} {base : Heap}
/-! ### bits -/
theorem bits16 : ∀ n : Fin 5, ∀ g : Fin 16, ∀ j : Fin 4, g.val < 2 ^ n.val → j.val < n.val →
    (decide (0 < Builtin.bitAnd (1 * 2 ^ j.val) ((g.val : Nat) : Int)) = decide (g.val / 2 ^ j.val % 2 = 1)) ∧
    (g.val / 2 ^ j.val % 2 ≠ 1 → Builtin.bitOr ((g.val : Nat) : Int) (1 * 2 ^ j.val) = ((g.val + 2 ^ j.val : Nat) : Int) ∧ g.val + 2 ^ j.val < 2 ^ n.val) := by decide +kernel
theorem pow_le16 {n : Nat} (h : n ≤ 4) : 2 ^ n ≤ 16 := by
  match n, h with
  | 0, _ => decide
  | 1, _ => decide
  | 2, _ => decide
  | 3, _ => decide
  | 4, _ => decide
theorem bits_of {n g j : Nat} (hn : n ≤ 4) (hg : g < 2 ^ n) (hj : j < n) :
    (decide (0 < Builtin.bitAnd (1 * 2 ^ j) ((g : Nat) : Int)) = decide (g / 2 ^ j % 2 = 1)) ∧
    (g / 2 ^ j % 2 ≠ 1 → Builtin.bitOr ((g : Nat) : Int) (1 * 2 ^ j) = ((g + 2 ^ j : Nat) : Int) ∧ g + 2 ^ j < 2 ^ n) :=
  bits16 ⟨n, by omega⟩ ⟨g, Nat.lt_of_lt_of_le hg (pow_le16 hn)⟩ ⟨j, by omega⟩ hg hj
/-! ### read_asked -/
def askStep (cs : List Bytes) (g : Nat) (tk : Tk) : Except VamvsBase.Fault Nat :=
  if tk.kd = .name then (match cs.findIdx? (fun c => c == tk.wd) with
    | none => .error ⟨8, tk.place⟩
    | some i => if g / 2 ^ i % 2 = 1 then .error ⟨6, tk.place⟩ else .ok (g + 2 ^ i)) else .error ⟨3, tk.place⟩
def contAsk (n : Nat) (cs : List Bytes) (g : Nat) (L : VamvsBase.Toks) : Except VamvsBase.Fault (Nat × VamvsBase.Toks) :=
  if VamvsBase.next (.sign 44) L = true then Vamvsa.takeAsked cs n g (L.drop 1) else .ok (g, L)
theorem takeAsked_step {n : Nat} {cs : List Bytes} {g : Nat} {tk : Tk} {L : VamvsBase.Toks} (ho : tk.Ok) : Vamvsa.takeAsked cs (n + 1) g (tk.p :: L) = (askStep cs g tk).bind fun g' => contAsk n cs g' L := by
  show ((VamvsBase.takeName (tk.p :: L)).bind fun x => match cs.findIdx? fun c => c == x.1.name with
    | none => .error ⟨8, x.1.place⟩
    | some i => if g / 2 ^ i % 2 = 1 then .error ⟨6, x.1.place⟩ else contAsk n cs (g + 2 ^ i) x.2) = _
  rw [takeName_is ho]
  unfold askStep
  by_cases c : tk.kd = .name
  · rw [if_pos c, if_pos c]
    show (match cs.findIdx? fun c => c == tk.wd with
    | none => (Except.error ⟨8, tk.place⟩ : Except VamvsBase.Fault (Nat × VamvsBase.Toks))
    | some i => if g / 2 ^ i % 2 = 1 then Except.error ⟨6, tk.place⟩ else contAsk n cs (g + 2 ^ i) L) = _
    cases cs.findIdx? (fun c => c == tk.wd) with
    | none => rfl
    | some i =>
      show (if _ then _ else _) = Except.bind (if _ then _ else _) _
      by_cases c2 : g / 2 ^ i % 2 = 1
      · rw [if_pos c2, if_pos c2]; rfl
      · rw [if_neg c2, if_neg c2]; rfl
  · rw [if_neg c, if_neg c]; rfl
theorem find_none {cs : List Bytes} {b : Bytes} (h : cs.findIdx? (fun c => c == b) = none) : cs.contains b = false := by
  rw [List.findIdx?_eq_none_iff] at h
  rw [Bool.eq_false_iff]
  intro z
  rw [List.contains_iff_exists_mem_beq] at z
  obtain ⟨x, hx, e⟩ := z
  have := h x hx
  have e' : x = b := (beq_iff_eq.mp e).symm
  subst e'
  simp at this
theorem find_some {cs : List Bytes} {b : Bytes} {j : Nat} (h : cs.findIdx? (fun c => c == b) = some j) : j < cs.length ∧ cs[j]? = some b ∧ (∀ m z, m < j → cs[m]? = some z → z ≠ b) ∧ cs.contains b = true := by
  rw [List.findIdx?_eq_some_iff_getElem] at h
  obtain ⟨hj, e, hm⟩ := h
  have e' : cs[j] = b := beq_iff_eq.mp e
  refine ⟨hj, by rw [List.getElem?_eq_getElem hj, e'], fun m z hmj hz ez => ?_, ?_⟩
  · have hl := lt_of_at hz
    have := hm m hmj
    rw [List.getElem?_eq_getElem hl] at hz
    rw [Option.some.inj hz, ez] at this
    simp at this
  · rw [List.contains_iff_exists_mem_beq]
    exact ⟨_, List.getElem_mem hj, by rw [e']; simp⟩
def spAsked (K : PySem.W.Frag) : Sp := fun vs H Q E => ∃ R l i t tk g, vs = [.ref R.a, .int ((g : Nat) : Int)] ∧ RdS K H R l i t ∧ l[i]? = some tk ∧ t.cols.length ≤ 4 ∧ g < 2 ^ t.cols.length ∧
  (∀ f, askStep t.cols g tk = .error f → FaultK R (cFlt K) H E f.code f.place) ∧ (∀ g', askStep t.cols g tk = .ok g' → g' < 2 ^ t.cols.length → ∀ H', Keep R H H' → RdS K H' R l (i + 1) t → Q (.int ((g' : Nat) : Int)) H')
theorem m_Reader_read_asked (T : Txt K mg) : MetX P w K mg base (L2.CX P w) 5 (cRd K) "read_asked" (spAsked K) := by
  obtain ⟨fd, F⟩ := T.F_Reader_read_asked
  refine ⟨_, fd, _, T.cl_Reader, T.m_Reader_read_asked, F.okX sc_Reader_read_asked (fun vs H Q E h => ?_) (fun cdv A outer s H vs Q E hr h => ⟨_, (pss_cons (ps_expr (pe_mx0 (m_Reader_ask_name T) hr (by decide) passD (pv 0)))
    (pss_cons (ps_if (pt_cmpR (op_notInD (hu65 hr)) (pe_fld (pe_mx0 (m_Reader_token T) hr (by decide) pass0 (pv 0)) rfl) (pe_fld (pe_fld (pv 0) rfl) rfl) rfl) (pss_one (ps_expr (pe_mx (m_Reader_refuse T) hr (by decide) passD (pv 0) (pa_cons (C8.pe_gc rfl T.c_NO_COLUMN) pa_nil)))) pss_nil)
    (pss_cons (ps_set (i := 2) sc_Reader_read_asked.nd rfl (Or.inl rfl) (pe_op op_shl pe_int (pe_bm PySem.F.plainAttrs_list PySem.F.slot_list_index PySem.F.type_list_index (mt_indexD (hu65 hr)) (pe_fld (pe_fld (pv 0) rfl) rfl) (pa_cons (pe_fld (pe_mx0 (m_Reader_token T) hr (by decide) pass0 (pv 0)) rfl) pa_nil))))
    (pss_cons (ps_if (pt_cmpR op_gt (pe_op op_and (pv 2) (pv 1)) pe_int (nomark _)) (pss_one (ps_expr (pe_mx (m_Reader_refuse T) hr (by decide) passD (pv 0) (pa_cons (C8.pe_gc rfl T.c_TWICE) pa_nil)))) pss_nil)
    (pss_cons (ps_fldaug (pv 0) pe_int in_add)
    (pss_one (ps_ret (pe_op op_or (pv 1) (pv 2))))))))), ?_⟩), b_Reader_read_asked F⟩
  · obtain ⟨R, l, i, t, tk, g, rfl, _⟩ := h
    rfl
  · obtain ⟨R, l, i, t, tk, g, rfl, S, htk, hc4, hg, qE, qT⟩ := h
    have ref : ∀ (c : Nat) (σ : L2.St) (D : Ends), σ[0]? = some (some (.ref R.a)) → FaultE (cFlt K) H E c tk.place → (c : Int) = c → tMe (cRd K) "refuse" (spRefuse K) E (tVar 0) (tCons (tC (.int c)) tNil) σ H (fun _ H1 => D.nx σ H1) := fun c σ D hσ q _ =>
      ⟨_, hσ, _, _, _, rfl, S.self, rdF_m (by decide +kernel), R, l, i, t, tk, c, rfl, S, htk, q⟩
    obtain ⟨cs, hcs, Pr⟩ := S.cols
    refine ⟨_, rfl, _, _, _, rfl, S.self, rdF_m (by decide +kernel), R, l, i, t, tk, rfl, S, htk, fun hk => qE ⟨3, tk.place⟩ (if_neg hk), fun hk => ?_⟩
    refine ⟨_, rfl, _, _, _, rfl, S.self, rdF_m (by decide +kernel), R, l, i, t, tk, rfl, S, htk, fun v hv => ?_⟩
    obtain ⟨a, dx, wd, rfl, h1, h2⟩ := hv
    refine ⟨a, _, dx, _, _, rfl, h1, T.cl_Token, T.n_Token_word, tkF_word tk wd, _, rfl, _, _, _, _, _, rfl, S.self, T.cl_Reader, T.n_Reader_table, rdF_table R i, _, _, _, _, _, rfl, S.tab, T.cl_Table, T.n_Table_columns, tbF_columns _ _ _, ?_⟩
    refine ⟨bD tk.wd, t.cols.map bD, ByAt.dp ⟨wd, rfl, h2⟩, .lst (SqL.of hcs) (bys_dp Pr), bD_shaped _, bDs_shaped _, _, rfl, ?_⟩
    rw [any_bD]
    cases hf : t.cols.findIdx? (fun c => c == tk.wd) with
    | none =>
      rw [find_none hf]
      exact ref 8 _ _ rfl (qE ⟨8, tk.place⟩ (by unfold askStep; rw [if_pos hk, hf])).fe rfl
    | some j =>
      obtain ⟨hj, ej, before, hin⟩ := find_some hf
      rw [hin]
      obtain ⟨b1, b2⟩ := bits_of hc4 hg hj
      -- bit = 1 << self.table.columns.index(self.token().word)
      refine ⟨_, rfl, _, _, _, _, _, rfl, S.self, T.cl_Reader, T.n_Reader_table, rdF_table R i, _, _, _, _, _, rfl, S.tab, T.cl_Table, T.n_Table_columns, tbF_columns _ _ _, .inl ⟨rfl, _, SqL.of hcs⟩, ?_⟩
      refine ⟨_, rfl, _, _, _, rfl, S.self, rdF_m (by decide +kernel), R, l, i, t, tk, rfl, S, htk, fun v hv => ?_⟩
      obtain ⟨a2, dx2, wd2, rfl, k1, k2⟩ := hv
      refine ⟨a2, _, dx2, _, _, rfl, k1, T.cl_Token, T.n_Token_word, tkF_word tk wd2, _, _, bD tk.wd, t.cols.map bD, j, bD tk.wd, rfl, rfl, .lst (SqL.of hcs) (bys_dp Pr), ByAt.dp ⟨wd2, rfl, k2⟩, bDs_shaped _, bD_shaped _, ?_, ?_, ?_, ?_⟩
      · rw [List.getElem?_map, ej]
        rfl
      · rw [bD_eqv]
        exact decide_eq_true rfl
      · intro m z' hm hz
        rw [List.getElem?_map] at hz
        cases ez : t.cols[m]? with
        | none => rw [ez] at hz; cases hz
        | some z =>
          rw [ez] at hz
          cases hz
          rw [bD_eqv]
          exact decide_eq_false (before m z hm ez)
      · refine ⟨_, _, rfl, rfl, ⟨by omega, by omega, by decide⟩, ?_⟩
        refine ⟨_, rfl, _, rfl, _, _, rfl, rfl, _, _, rfl, rfl, _, rfl, ?_⟩
        show if decide (0 < Builtin.bitAnd (1 * 2 ^ j) ((g : Nat) : Int)) = true then _ else _
        rw [b1]
        by_cases c2 : g / 2 ^ j % 2 = 1
        · rw [decide_eq_true c2]
          exact ref 6 _ _ rfl (qE ⟨6, tk.place⟩ (by unfold askStep; rw [if_pos hk, hf]; exact if_pos c2)).fe rfl
        · rw [decide_eq_false c2]
          obtain ⟨b3, b4⟩ := b2 c2
          have ok : askStep t.cols g tk = .ok (g + 2 ^ j) := by unfold askStep; rw [if_pos hk, hf]; exact if_neg c2
          have hm := S.more htk (by rw [hk]; intro z; cases z)
          refine ⟨_, rfl, _, _, _, _, _, rfl, S.self, T.cl_Reader, T.n_Reader_at, rdF_at R i, _, _, rfl, rfl, _, _, S.self, (by show 3 < 1000; decide), ?_⟩
          rw [rdF_put R i _ (i + 1) (by rw [Int.natCast_add]; rfl)]
          refine ⟨_, rfl, _, rfl, _, _, rfl, rfl, ?_⟩
          show Q (.int (Builtin.bitOr ((g : Nat) : Int) (1 * 2 ^ j))) _
          rw [b3]
          exact qT _ ok b4 _ (.upd (.inl rfl) S.self) (S.at_ hm)
end Kg
/-! The reader: a question. -/
namespace Kg
open PySem PySem.Spec PyProof.Rows L2
open VamvsBase (Bytes)
variable {P : Program} {w : World} {K : PySem.W.Frag} {mg : Str → Option Value} {base : Heap}
def numTimes : VamvsBase.Toks → Except VamvsBase.Fault (Nat × VamvsBase.Toks)
  | ⟨q, .num n⟩ :: r => if n < 1 ∨ Vamvsa.TIMES < n then .error ⟨7, q⟩ else .ok (n, r)
  | m => VamvsBase.wrong m
theorem takeTimes_is (L : VamvsBase.Toks) : Vamvsa.takeTimes L = if VamvsBase.nextWord "times" L = true then numTimes (L.drop 1) else .ok (1, L) := by
  unfold Vamvsa.takeTimes
  by_cases c : VamvsBase.nextWord "times" L = true
  · rw [if_pos c, if_pos c]
    generalize L.drop 1 = M
    cases M with
    | nil => rfl
    | cons x r =>
      obtain ⟨q, tk⟩ := x
      cases tk <;> rfl
  · rw [if_neg c, if_neg c]
theorem numTimes_is {t : Tk} {L : VamvsBase.Toks} : numTimes (t.p :: L) = if t.kd = .number then (if VamvsBase.decimal t.wd < 1 ∨ 99 < VamvsBase.decimal t.wd then .error ⟨7, t.place⟩ else .ok (VamvsBase.decimal t.wd, L)) else .error ⟨3, t.place⟩ := by
  obtain ⟨kd, wd, pl⟩ := t
  cases kd <;> rfl
def endAsk (g : Nat) (L : VamvsBase.Toks) : Except VamvsBase.Fault (Vamvsa.Ask × VamvsBase.Toks) := (Vamvsa.takeTimes L).bind fun k => (VamvsBase.takeSign 59 k.2).map fun m => ((⟨g, k.1⟩ : Vamvsa.Ask), m)
def askX (t : Vamvsa.Table) (L : VamvsBase.Toks) : Except VamvsBase.Fault (Vamvsa.Ask × VamvsBase.Toks) :=
  if 8 ≤ t.asks.length then .error ⟨4, VamvsBase.here L⟩ else Vamvsa.takeAsk t.cols (L.drop 1)
theorem takeAsk_is (cs : List Bytes) (L : VamvsBase.Toks) : Vamvsa.takeAsk cs L = (if VamvsBase.nextWord "times" L = true ∨ VamvsBase.next (.sign 59) L = true then .ok (0, L) else Vamvsa.takeAsked cs (L.length + 1) 0 L).bind fun g => endAsk g.1 g.2 := rfl
def spQuestion (K : PySem.W.Frag) : Sp := fun vs H Q E => ∃ R l i t tk, vs = [.ref R.a] ∧ RdS K H R l i t ∧ l[i]? = some tk ∧ standsM (VamvsBase.word "ask") tk = true ∧ t.asks.length ≤ 8 ∧ t.cols.length ≤ 4 ∧
  (∀ f, askX t (pT l i) = .error f → FaultK R (cFlt K) H E f.code f.place) ∧
  (∀ a j, i < j → askX t (pT l i) = .ok (a, pT l j) → ∀ H', Keep R H H' → RdS K H' R l j { t with asks := t.asks ++ [a] } → Q .non H')
theorem m_Reader_read_question (T : Txt K mg) : MetX P w K mg base (L2.CX P w) 6 (cRd K) "read_question" (spQuestion K) := by
  obtain ⟨fd, F⟩ := T.F_Reader_read_question
  refine ⟨_, fd, _, T.cl_Reader, T.m_Reader_read_question, F.okX sc_Reader_read_question (fun vs H Q E h => ?_) (fun cdv A outer s H vs Q E hr h => ⟨_, (pss_cons (ps_if (pt_cmpR op_eq (pe_callB call_len_seq (by rfl) T.f_len (by decide +kernel) (pa_cons (pe_fld (pe_fld (pv 0) rfl) rfl) pa_nil)) (C8.pe_gc rfl T.c_MOST_QUESTIONS) (nomark _)) (pss_one (ps_expr (pe_mx (m_Reader_refuse T) hr (by decide) passD (pv 0) (pa_cons (C8.pe_gc rfl T.c_MANY) pa_nil)))) pss_nil)
    (pss_cons (ps_expr (pe_mx (m_Reader_must_be T) hr (by decide) passD (pv 0) (pa_cons pe_str pa_nil)))
    (pss_cons (ps_set (i := 1) sc_Reader_read_question.nd rfl (Or.inl rfl) pe_int)
    (pss_cons (ps_if (PW.pt (pw_and (pt_not (pt_val (pe_mx (m_Reader_stands T) hr (by decide) pass0 (pv 0) (pa_cons pe_str pa_nil)))) (pw_and1 (pt_not (pt_val (pe_mx (m_Reader_stands T) hr (by decide) pass0 (pv 0) (pa_cons pe_str pa_nil))))))) (pss_cons (ps_set (i := 1) sc_Reader_read_question.nd rfl (Or.inl rfl) (pe_mx (m_Reader_read_asked T) hr (by decide) passD (pv 0) (pa_cons (pv 1) pa_nil)))
    (pss_one (ps_while ownD (pt_val (pe_mx (m_Reader_may_be T) hr (by decide) pass0 (pv 0) (pa_cons pe_str pa_nil))) (pss_one (ps_set (i := 1) sc_Reader_read_question.nd rfl (Or.inl rfl) (pe_mx (m_Reader_read_asked T) hr (by decide) passD (pv 0) (pa_cons (pv 1) pa_nil))))))) pss_nil)
    (pss_cons (ps_set (i := 2) sc_Reader_read_question.nd rfl (Or.inl rfl) pe_int)
    (pss_cons (ps_if (pt_val (pe_mx (m_Reader_may_be T) hr (by decide) pass0 (pv 0) (pa_cons pe_str pa_nil))) (pss_one (ps_set (i := 2) sc_Reader_read_question.nd rfl (Or.inl rfl) (pe_mx (m_Reader_read_number T) hr (by decide) passD (pv 0) (pa_cons pe_int (pa_cons (C8.pe_gc rfl T.c_MOST_TIMES) pa_nil))))) pss_nil)
    (pss_cons (ps_expr (pe_bm PySem.F.plainAttrs_list PySem.F.slot_list_append PySem.F.type_list_append mt_append (pe_fld (pe_fld (pv 0) rfl) rfl) (pa_cons (pe_tup (pa_cons (pv 1) (pa_cons (pv 2) pa_nil))) pa_nil)))
    (pss_one (ps_expr (pe_mx (m_Reader_must_be T) hr (by decide) passD (pv 0) (pa_cons pe_str pa_nil))))))))))), ?_⟩), b_Reader_read_question F⟩
  · obtain ⟨R, l, i, t, tk, rfl, _⟩ := h
    rfl
  · obtain ⟨R, l, i, t, tk, rfl, S, htk, hask, ha8, hc4, qE, qT⟩ := h
    obtain ⟨rs, hrs, Pr⟩ := S.asks
    have ln : rs.length = t.asks.length := paired_len Pr
    refine ⟨_, rfl, _, _, _, _, _, rfl, S.self, T.cl_Reader, T.n_Reader_table, rdF_table R i, _, _, _, _, _, rfl, S.tab, T.cl_Table, T.n_Table_questions, tbF_questions _ _ _, _, _, rfl, .inl (SqL.of hrs), rfl, _, rfl, ?_⟩
    rw [show decide (V.int ((rs.length : Nat) : Int) = V.int 8) = decide (rs.length = 8) from ref_len]
    by_cases c1 : rs.length = 8
    · rw [decide_eq_true c1]
      refine ⟨_, rfl, _, _, _, rfl, S.self, rdF_m (by decide +kernel), R, l, i, t, tk, 4, rfl, S, htk, ?_⟩
      exact (qE ⟨4, tk.place⟩ (by unfold askX; rw [if_pos (by omega), here_pT htk])).fe
    · rw [decide_eq_false c1]
      have e0 : askX t (pT l i) = Vamvsa.takeAsk t.cols (pT l (i + 1)) := by
        unfold askX
        rw [if_neg (by omega), drop_pT htk]
      rw [takeAsk_is] at e0
      -- what follows the columns
      have rest : ∀ (g j5 : Nat) (H5 : Hp), i < j5 → Keep R H H5 → RdS K H5 R l j5 t → askX t (pT l i) = endAsk g (pT l j5) →
          tSeq (tAsg (tC (.int 1)) (gName 2)) (tSeq (tIfS (tB (tMe (cRd K) "may_be" (spMay K) E0 (tVar 0) (tCons (tC (.str "times")) tNil))) (tAsg (tMe (cRd K) "read_number" (spNumber K) E (tVar 0) (tCons (tC (.int 1)) (tCons (tC (.int 99)) tNil))) (gName 2)) tNext)
            (tSeq (tDrop (tBM K "list" rAppend (tFld K (tFld K (tVar 0) "table") "questions") (tCons (tTup (tCons (tVar 1) (tCons (tVar 2) tNil))) tNil)))
              (tDrop (tMe (cRd K) "must_be" (spMust K) E (tVar 0) (tCons (tC (.str ";")) tNil))))) { nx := fun _ H' => Q .non H', rt := Q } [some (.ref R.a), some (.int ((g : Nat) : Int)), none] H5 := by
        intro g j5 H5 hij k5 S5 e5
        obtain ⟨tk5, htk5⟩ := S5.next
        have ok5 := S5.good.okAt htk5
        have nw : VamvsBase.nextWord "times" (pT l j5) = standsM (VamvsBase.word "times") tk5 := by rw [pT_cons htk5, nextWord_is ok5 res_times]
        unfold endAsk at e5
        rw [takeTimes_is, nw] at e5
        -- the end: append, must_be(";")
        have fin : ∀ (n j6 : Nat) (H6 : Hp), i < j6 → Keep R H H6 → RdS K H6 R l j6 t → askX t (pT l i) = (VamvsBase.takeSign 59 (pT l j6)).map (fun m => ((⟨g, n⟩ : Vamvsa.Ask), m)) →
            tSeq (tDrop (tBM K "list" rAppend (tFld K (tFld K (tVar 0) "table") "questions") (tCons (tTup (tCons (tVar 1) (tCons (tVar 2) tNil))) tNil)))
              (tDrop (tMe (cRd K) "must_be" (spMust K) E (tVar 0) (tCons (tC (.str ";")) tNil))) { nx := fun _ H' => Q .non H', rt := Q } [some (.ref R.a), some (.int ((g : Nat) : Int)), some (.int ((n : Nat) : Int))] H6 := by
          intro n j6 H6 hij6 k6 S6 e6
          obtain ⟨rs6, hrs6, Pr6⟩ := S6.asks
          have ln6 : rs6.length = t.asks.length := paired_len Pr6
          refine ⟨_, rfl, _, _, _, _, _, rfl, S6.self, T.cl_Reader, T.n_Reader_table, rdF_table R j6, _, _, _, _, _, rfl, S6.tab, T.cl_Table, T.n_Table_questions, tbF_questions _ _ _, .inl ⟨rfl, _, SqL.of hrs6⟩, ?_⟩
          refine ⟨_, rfl, _, rfl, small_line (by show 2 ≤ 1000; decide), fun t2 n2 => ?_⟩
          have s8 := same_new (o := HO.tup [V.int ((g : Nat) : Int), V.int ((n : Nat) : Int)]) n2
          have S8 := S6.same s8
          refine ⟨R.q, rs6, _, rfl, rfl, s8 _ _ hrs6, Nat.lt_of_lt_of_le (show rs6.length < 1000 by omega) (small_line (Nat.le_refl _)), ?_⟩
          have S9 := S8.addAsk (b := ⟨g, n⟩) (s8 _ _ hrs6) ⟨t2, rfl, upd_same⟩
          have k9 : Keep R H _ := k6.trans ((Keep.of s8).trans (Keep.upd (o := HO.lst (rs6 ++ [V.ref t2])) (.inr (.inr (.inr rfl))) (s8 _ _ hrs6)))
          obtain ⟨tk9, htk9⟩ := S9.next
          have ok9 := S9.good.okAt htk9
          have e9 : askX t (pT l i) = if standsM [59] tk9 = true then .ok ((⟨g, n⟩ : Vamvsa.Ask), pT l (j6 + 1)) else .error ⟨3, tk9.place⟩ := by
            rw [e6, pT_cons htk9, ts59 ok9]
            by_cases c : standsM [59] tk9 = true
            · rw [if_pos c, if_pos c]; rfl
            · rw [if_neg c, if_neg c]; rfl
          refine ⟨_, rfl, _, _, _, rfl, S9.self, rdF_m (by decide +kernel), R, l, j6, _, tk9, ";", [59], rfl, S9, htk9, (by decide), code_semi, fun hs9 => ?_, fun hs9 H10 k10 S10 => ?_⟩
          · exact (qE ⟨3, tk9.place⟩ (by rw [e9, hs9]; rfl)).mono k9
          · exact qT _ (j6 + 1) (by omega) (by rw [e9, if_pos hs9]) H10 (k9.trans k10) S10
        refine ⟨_, rfl, _, _, _, rfl, S5.self, rdF_m (by decide +kernel), R, l, j5, t, tk5, "times", _, rfl, S5, htk5, (by decide), code_times, fun hs H6 s6 => ⟨_, rfl, ?_⟩, fun hs H6 k6 S6 => ⟨_, rfl, ?_⟩⟩
        · rw [hs, if_neg Bool.false_ne_true] at e5
          exact fin 1 j5 H6 hij (k5.trans (Keep.of s6)) (S5.same s6) e5
        · rw [if_pos hs, drop_pT htk5] at e5
          obtain ⟨tk6, htk6⟩ := S6.next
          rw [pT_cons htk6, numTimes_is] at e5
          refine ⟨_, rfl, _, _, _, rfl, S6.self, rdF_m (by decide +kernel), R, l, j5 + 1, t, tk6, 1, 99, rfl, S6, htk6, fun hk => ?_, fun hk hb => ?_, fun hk hb H7 k7 S7 => ?_⟩
          · exact (qE ⟨3, tk6.place⟩ (by rw [e5, if_neg hk]; rfl)).mono (k5.trans k6)
          · exact (qE ⟨7, tk6.place⟩ (by rw [e5, if_pos hk, if_pos (by omega)]; rfl)).mono (k5.trans k6)
          · rw [if_pos hk, if_neg (by omega)] at e5
            exact fin _ (j5 + 1 + 1) H7 (by omega) (k5.trans (k6.trans k7)) S7 e5
      -- self.must_be("ask")
      refine ⟨_, rfl, _, _, _, rfl, S.self, rdF_m (by decide +kernel), R, l, i, t, tk, "ask", _, rfl, S, htk, (by decide), code_ask, fun hs => ?_, fun _ H1 k1 S1 => ?_⟩
      · rw [hask] at hs; cases hs
      · obtain ⟨tk1, htk1⟩ := S1.next
        have ok1 := S1.good.okAt htk1
        have nw : VamvsBase.nextWord "times" (pT l (i + 1)) = standsM (VamvsBase.word "times") tk1 := by rw [pT_cons htk1, nextWord_is ok1 res_times]
        have ns : VamvsBase.next (.sign 59) (pT l (i + 1)) = standsM [59] tk1 := by rw [pT_cons htk1, sg59 ok1]
        rw [nw, ns] at e0
        -- if not self.stands("times") and not self.stands(";")
        refine ⟨_, rfl, _, _, _, rfl, S1.self, rdF_m (by decide +kernel), R, l, i + 1, t, tk1, "times", _, rfl, S1, htk1, (by decide), code_times, fun H2 s2 => ⟨_, rfl, ?_⟩⟩
        have S2 := S1.same s2
        have k2 := k1.trans (Keep.of s2)
        cases h1 : standsM (VamvsBase.word "times") tk1 with
        | true => exact rest 0 (i + 1) H2 (by omega) k2 S2 (by rw [e0, if_pos (Or.inl h1)]; rfl)
        | false =>
          refine ⟨_, rfl, _, _, _, rfl, S2.self, rdF_m (by decide +kernel), R, l, i + 1, t, tk1, ";", [59], rfl, S2, htk1, (by decide), code_semi, fun H3 s3 => ⟨_, rfl, ?_⟩⟩
          have S3 := S2.same s3
          have k3 := k2.trans (Keep.of s3)
          cases h2 : standsM [59] tk1 with
          | true => exact rest 0 (i + 1) H3 (by omega) k3 S3 (by rw [e0, if_pos (Or.inr h2)]; rfl)
          | false =>
            -- grouping = self.read_asked(grouping)
            have e1 : askX t (pT l i) = ((askStep t.cols 0 tk1).bind fun g' => contAsk (pT l (i + 1)).length t.cols g' (pT l (i + 1 + 1))).bind fun g => endAsk g.1 g.2 := by
              rw [e0, if_neg (by rw [h1, h2]; rintro (z | z) <;> cases z)]
              have := takeAsked_step (n := (pT l (i + 1)).length) (cs := t.cols) (g := 0) (L := pT l (i + 1 + 1)) ok1
              rw [← pT_cons htk1] at this
              rw [this]
            refine ⟨_, rfl, _, _, _, rfl, S3.self, rdF_m (by decide +kernel), _, rfl, R, l, i + 1, t, tk1, 0, rfl, S3, htk1, hc4, Nat.pow_pos (by decide), fun f hf => ?_, fun g hg gb H4 k4 S4 => ?_⟩
            · exact (qE f (by rw [e1, hf]; rfl)).mono k3
            · rw [hg] at e1
              refine ⟨fun m σ H' => ∃ j g n, σ = [some (.ref R.a), some (.int ((g : Nat) : Int)), none] ∧ Keep R H H' ∧ RdS K H' R l j t ∧ g < 2 ^ t.cols.length ∧ i < j ∧ (pT l j).length ≤ n ∧ askX t (pT l i) = (contAsk n t.cols g (pT l j)).bind (fun g => endAsk g.1 g.2) ∧ m = l.length - j,
                ⟨_, i + 1 + 1, g, (pT l (i + 1)).length, rfl, k3.trans k4, S4, gb, by omega, by rw [pT_len, pT_len]; omega, e1, rfl⟩, ?_⟩
              rintro m σ H5 ⟨j, g, n, rfl, k5, S5, gb, hij, hn, e5, rfl⟩
              obtain ⟨tk5, htk5⟩ := S5.next
              have ok5 := S5.good.okAt htk5
              have lt5 := S5.lt
              have nc : VamvsBase.next (.sign 44) (pT l j) = standsM [44] tk5 := by rw [pT_cons htk5, sg44 ok5]
              unfold contAsk at e5
              rw [nc] at e5
              refine ⟨_, rfl, _, _, _, rfl, S5.self, rdF_m (by decide +kernel), R, l, j, t, tk5, ",", [44], rfl, S5, htk5, (by decide), code_comma, fun hs H6 s6 => ⟨_, rfl, ?_⟩, fun hs H6 k6 S6 => ⟨_, rfl, _, fun _ _ h => h, ?_⟩⟩
              · rw [hs, if_neg Bool.false_ne_true] at e5
                exact rest g j H6 hij (k5.trans (Keep.of s6)) (S5.same s6) e5
              · rw [if_pos hs, drop_pT htk5] at e5
                obtain ⟨tk6, htk6⟩ := S6.next
                have n1 : n = (n - 1) + 1 := by
                  rw [pT_len] at hn
                  omega
                have e6 : askX t (pT l i) = ((askStep t.cols g tk6).bind fun g' => contAsk (n - 1) t.cols g' (pT l (j + 1 + 1))).bind fun g => endAsk g.1 g.2 := by
                  rw [e5, pT_cons htk6, n1, takeAsked_step (S6.good.okAt htk6)]
                  rfl
                refine ⟨_, rfl, _, _, _, rfl, S6.self, rdF_m (by decide +kernel), _, rfl, R, l, j + 1, t, tk6, g, rfl, S6, htk6, hc4, gb, fun f hf => ?_, fun g7 hg7 gb7 H7 k7 S7 => ?_⟩
                · exact (qE f (by rw [e6, hf]; rfl)).mono (k5.trans k6)
                · rw [hg7] at e6
                  refine ⟨_, ?_, j + 1 + 1, g7, n - 1, rfl, k5.trans (k6.trans k7), S7, gb7, by omega, ?_, e6, rfl⟩
                  · omega
                  · rw [pT_len] at hn ⊢
                    omega
end Kg
/-! The reader: the table; a reader made; the table of a text. -/
namespace Kg
open PySem PySem.Spec PyProof.Rows L2
open VamvsBase (Bytes)
variable {P : Program} {w : World} {K : PySem.W.Frag} {mg : Str → Option Value} {base : Heap}
/-! ### lines -/
theorem bind_assoc {A B C : Type} (x : Except VamvsBase.Fault A) (f : A → Except VamvsBase.Fault B) (g : B → Except VamvsBase.Fault C) : (x.bind f).bind g = x.bind fun a => (f a).bind g := by cases x <;> rfl
theorem map_bind' {A B C : Type} (x : Except VamvsBase.Fault A) (f : A → B) (g : B → Except VamvsBase.Fault C) : (x.map f).bind g = x.bind fun a => g (f a) := by cases x <;> rfl
theorem lines_cases (n : Nat) (t : Vamvsa.Table) (L : VamvsBase.Toks) : Vamvsa.takeLines (n + 1) t L =
    if VamvsBase.next .last L = true then .ok t
    else if VamvsBase.nextWord "row" L = true then (rowX t L).bind fun y => Vamvsa.takeLines n { t with rows := t.rows ++ [y.1] } y.2
    else (VamvsBase.takeWord "ask" L).bind fun r => if Vamvsa.ASKS ≤ t.asks.length then .error ⟨4, VamvsBase.here L⟩ else (Vamvsa.takeAsk t.cols r).bind fun a => Vamvsa.takeLines n { t with asks := t.asks ++ [a.1] } a.2 := by
  show (if VamvsBase.next .last L = true then .ok t
    else if VamvsBase.nextWord "row" L = true then (if Vamvsa.ROWS ≤ t.rows.length then .error ⟨4, VamvsBase.here L⟩ else (Vamvsa.takeValues t.cols.length [] (L.drop 1)).bind fun v => (VamvsBase.takeSign 58 v.2).bind fun r => (Vamvsa.takeInt r).bind fun x => (VamvsBase.takeSign 59 x.2).bind fun m => Vamvsa.takeLines n { t with rows := t.rows ++ [⟨v.1, x.1⟩] } m)
    else _) = _
  by_cases c : VamvsBase.next .last L = true
  · rw [if_pos c, if_pos c]
  · rw [if_neg c, if_neg c]
    by_cases c2 : VamvsBase.nextWord "row" L = true
    · rw [if_pos c2, if_pos c2]
      unfold rowX
      by_cases c3 : 16 ≤ t.rows.length
      · rw [if_pos c3, if_pos (show Vamvsa.ROWS ≤ _ from c3)]; rfl
      · rw [if_neg c3, if_neg (show ¬ Vamvsa.ROWS ≤ _ from c3)]
        simp only [bind_assoc, map_bind']
    · rw [if_neg c2, if_neg c2]
theorem lines_ask {n : Nat} {t : Vamvsa.Table} {tk : Tk} {l : List Tk} {j : Nat} (h : l[j]? = some tk) (ok : tk.Ok) (hs : standsM (VamvsBase.word "ask") tk = true) :
    ((VamvsBase.takeWord "ask" (pT l j)).bind fun r => if Vamvsa.ASKS ≤ t.asks.length then .error ⟨4, VamvsBase.here (pT l j)⟩ else (Vamvsa.takeAsk t.cols r).bind fun a => Vamvsa.takeLines n { t with asks := t.asks ++ [a.1] } a.2) =
      (askX t (pT l j)).bind fun a => Vamvsa.takeLines n { t with asks := t.asks ++ [a.1] } a.2 := by
  unfold askX
  rw [here_pT h, drop_pT h, pT_cons h, takeWord_is ok res_ask, if_pos hs]
  show (if 8 ≤ t.asks.length then _ else _) = _
  by_cases c : 8 ≤ t.asks.length
  · rw [if_pos c, if_pos c]; rfl
  · rw [if_neg c, if_neg c]
def readX (L : VamvsBase.Toks) : Except VamvsBase.Fault Vamvsa.Table := (colsX L).bind fun x => Vamvsa.takeLines (x.2.length + 1) ⟨x.1, [], []⟩ x.2
def spRead (K : PySem.W.Frag) : Sp := fun vs H Q E => ∃ R l i, vs = [.ref R.a] ∧ RdS K H R l i ⟨[], [], []⟩ ∧ (∀ f, readX (pT l i) = .error f → FaultK R (cFlt K) H E f.code f.place) ∧
  (∀ t j, readX (pT l i) = .ok t → ∀ H', Keep R H H' → RdS K H' R l j t → Q (.ref R.p) H')
theorem m_Reader_read_table (T : Txt K mg) : MetX P w K mg base (L2.CX P w) 7 (cRd K) "read_table" (spRead K) := by
  obtain ⟨fd, F⟩ := T.F_Reader_read_table
  refine ⟨_, fd, _, T.cl_Reader, T.m_Reader_read_table, F.okX sc_Reader_read_table (fun vs H Q E h => ?_) (fun cdv A outer s H vs Q E hr h => ⟨_, (pss_cons (ps_expr (pe_mx0 (m_Reader_read_columns T) hr (by decide) passD (pv 0)))
    (pss_cons (ps_while ownD (pt_cmpR op_ne (pe_fld (pe_mx0 (m_Reader_token T) hr (by decide) pass0 (pv 0)) rfl) (C8.pe_gc rfl T.c_END) (nomark _)) (pss_one (ps_if (pt_val (pe_mx (m_Reader_stands T) hr (by decide) pass0 (pv 0) (pa_cons pe_str pa_nil))) (pss_one (ps_expr (pe_mx0 (m_Reader_read_row T) hr (by decide) passD (pv 0)))) (pss_one (ps_if (pt_val (pe_mx (m_Reader_stands T) hr (by decide) pass0 (pv 0) (pa_cons pe_str pa_nil))) (pss_one (ps_expr (pe_mx0 (m_Reader_read_question T) hr (by decide) passD (pv 0)))) (pss_one (ps_expr (pe_mx (m_Reader_refuse T) hr (by decide) passD (pv 0) (pa_cons (C8.pe_gc rfl T.c_NO_PLACE) pa_nil)))))))))
    (pss_one (ps_ret (pe_fld (pv 0) rfl))))), ?_⟩), b_Reader_read_table F⟩
  · obtain ⟨R, l, i, rfl, _⟩ := h
    rfl
  · obtain ⟨R, l, i, rfl, S, qE, qT⟩ := h
    refine ⟨_, rfl, _, _, _, rfl, S.self, rdF_m (by decide +kernel), R, l, i, rfl, S, fun f hf => qE f (by unfold readX; rw [hf]; rfl), fun cs j0 hcn hc4 hcs H1 k1 S1 => ?_⟩
    have e1 : readX (pT l i) = Vamvsa.takeLines ((pT l j0).length + 1) ⟨cs, [], []⟩ (pT l j0) := by
      unfold readX
      rw [hcs]
      rfl
    refine ⟨fun m σ H' => ∃ j t n, σ = [some (.ref R.a)] ∧ Keep R H H' ∧ RdS K H' R l j t ∧ t.cols ≠ [] ∧ t.cols.length ≤ 4 ∧ t.rows.length ≤ 16 ∧ t.asks.length ≤ 8 ∧ (pT l j).length < n ∧ readX (pT l i) = Vamvsa.takeLines n t (pT l j) ∧ m = l.length - j,
      ⟨_, j0, _, (pT l j0).length + 1, rfl, k1, S1, hcn, hc4, Nat.zero_le _, Nat.zero_le _, Nat.lt_succ_self _, e1, rfl⟩, ?_⟩
    rintro m σ H2 ⟨j, t, n, rfl, k2, S2, hcn, hc4, hr, ha, hn, e2, rfl⟩
    obtain ⟨tk, htk⟩ := S2.next
    have ok := S2.good.okAt htk
    have lt2 := S2.lt
    have n1 : n = (n - 1) + 1 := by omega
    have e3 : readX (pT l i) = if tk.kd = .fin then .ok t else if standsM (VamvsBase.word "row") tk = true then (rowX t (pT l j)).bind fun y => Vamvsa.takeLines (n - 1) { t with rows := t.rows ++ [y.1] } y.2
        else (VamvsBase.takeWord "ask" (pT l j)).bind fun r => if Vamvsa.ASKS ≤ t.asks.length then .error ⟨4, VamvsBase.here (pT l j)⟩ else (Vamvsa.takeAsk t.cols r).bind fun a => Vamvsa.takeLines (n - 1) { t with asks := t.asks ++ [a.1] } a.2 := by
      have nl : VamvsBase.next .last (pT l j) = decide (tk.kd = .fin) := by rw [pT_cons htk]; exact next_last
      have nr : VamvsBase.nextWord "row" (pT l j) = standsM (VamvsBase.word "row") tk := by rw [pT_cons htk]; exact nextWord_is ok res_row
      rw [e2, n1, lines_cases, nl, nr]
      by_cases c : tk.kd = .fin
      · rw [if_pos (decide_eq_true c), if_pos c]
      · rw [if_neg (by rw [decide_eq_false c]; exact Bool.false_ne_true), if_neg c]
        rfl
    refine ⟨_, rfl, _, _, _, rfl, S2.self, rdF_m (by decide +kernel), R, l, j, t, tk, rfl, S2, htk, fun v hv => ?_⟩
    obtain ⟨a, dx, wd, rfl, h1, h2⟩ := hv
    refine ⟨a, _, dx, _, _, rfl, h1, T.cl_Token, T.n_Token_kind, tkF_kind tk wd, rfl, _, rfl, ?_⟩
    rw [show decide (V.str (kdS tk.kd) = V.str "end") = decide (tk.kd = .fin) from kind_eq tk.kd .fin]
    by_cases c : tk.kd = .fin
    · rw [decide_eq_true c]
      rw [if_pos c] at e3
      exact ⟨_, rfl, _, _, _, _, _, rfl, S2.self, T.cl_Reader, T.n_Reader_table, rdF_table R j, qT t j e3 H2 k2 S2⟩
    · rw [decide_eq_false c]
      rw [if_neg c] at e3
      refine ⟨_, fun _ _ h => h, _, rfl, _, _, _, rfl, S2.self, rdF_m (by decide +kernel), R, l, j, t, tk, "row", _, rfl, S2, htk, (by decide), code_row, fun H3 s3 => ⟨_, rfl, ?_⟩⟩
      have S3 := S2.same s3
      have k3 := k2.trans (Keep.of s3)
      cases hrow : standsM (VamvsBase.word "row") tk with
      | true =>
        rw [if_pos hrow] at e3
        refine ⟨_, rfl, _, _, _, rfl, S3.self, rdF_m (by decide +kernel), R, l, j, t, tk, rfl, S3, htk, hrow, hr, hcn, hc4, fun f hf => ?_, fun r j' hj' hr' H4 k4 S4 => ?_⟩
        · exact (qE f (by rw [e3, hf]; rfl)).mono k3
        · rw [hr'] at e3
          have r16 : t.rows.length < 16 := by
            unfold rowX at hr'
            by_cases c3 : 16 ≤ t.rows.length
            · rw [if_pos c3] at hr'; cases hr'
            · omega
          have lt4 := S4.lt
          refine ⟨_, ?_, j', { t with rows := t.rows ++ [r] }, n - 1, rfl, k3.trans k4, S4, hcn, hc4, ?_, ha, ?_, e3, rfl⟩
          · omega
          · show (t.rows ++ [r]).length ≤ 16
            rw [List.length_append]
            show t.rows.length + 1 ≤ 16
            omega
          · rw [pT_len] at hn ⊢
            omega
      | false =>
        rw [if_neg (by rw [hrow]; exact Bool.false_ne_true)] at e3
        refine ⟨_, rfl, _, _, _, rfl, S3.self, rdF_m (by decide +kernel), R, l, j, t, tk, "ask", _, rfl, S3, htk, (by decide), code_ask, fun H4 s4 => ⟨_, rfl, ?_⟩⟩
        have S4 := S3.same s4
        have k4 := k3.trans (Keep.of s4)
        cases hask : standsM (VamvsBase.word "ask") tk with
        | true =>
          rw [lines_ask htk ok hask] at e3
          refine ⟨_, rfl, _, _, _, rfl, S4.self, rdF_m (by decide +kernel), R, l, j, t, tk, rfl, S4, htk, hask, ha, hc4, fun f hf => ?_, fun r j' hj' hr' H5 k5 S5 => ?_⟩
          · exact (qE f (by rw [e3, hf]; rfl)).mono k4
          · rw [hr'] at e3
            have a8 : t.asks.length < 8 := by
              unfold askX at hr'
              by_cases c3 : 8 ≤ t.asks.length
              · rw [if_pos c3] at hr'; cases hr'
              · omega
            have lt5 := S5.lt
            refine ⟨_, ?_, j', { t with asks := t.asks ++ [r] }, n - 1, rfl, k4.trans k5, S5, hcn, hc4, hr, ?_, ?_, e3, rfl⟩
            · omega
            · show (t.asks ++ [r]).length ≤ 8
              rw [List.length_append]
              show t.asks.length + 1 ≤ 8
              omega
            · rw [pT_len] at hn ⊢
              omega
        | false =>
          refine ⟨_, rfl, _, _, _, rfl, S4.self, rdF_m (by decide +kernel), R, l, j, t, tk, 3, rfl, S4, htk, ?_⟩
          refine ((qE ⟨3, tk.place⟩ ?_).mono k4).fe
          rw [e3, pT_cons htk, takeWord_is ok res_ask, hask]
          rfl
end Kg
/-! A table, a reader made; the table of a text. -/
namespace Kg
open PySem PySem.Spec PyProof.Rows L2
open VamvsBase (Bytes)
variable {P : Program} {w : World} {K : PySem.W.Frag} {mg : Str → Option Value} {base : Heap}
/-- a table in the heap -/
structure TabAt (C : Addr) (H : Hp) (p : Addr) (t : Vamvsa.Table) : Prop where
  ex : ∃ dx c r q cs rs qs, H p = some (.ins C dx (tbF c r q)) ∧ H c = some (.lst cs) ∧ Paired (ByAt H) cs t.cols ∧ H r = some (.lst rs) ∧ Paired (RowAt H) rs t.rows ∧ H q = some (.lst qs) ∧ Paired (AskAt H) qs t.asks
theorem TabAt.mono {C : Addr} {H H' : Hp} {p : Addr} {t : Vamvsa.Table} (s : Same H H') (h : TabAt C H p t) : TabAt C H' p t := by
  obtain ⟨dx, c, r, q, cs, rs, qs, h1, h2, h3, h4, h5, h6, h7⟩ := h.ex
  exact ⟨dx, c, r, q, cs, rs, qs, s _ _ h1, s _ _ h2, paired_imp (fun _ _ x => x.mono (.of s)) h3, s _ _ h4, paired_imp (fun _ _ x => x.mono (.of s)) h5, s _ _ h6, paired_imp (fun _ _ x => x.mono (.of s)) h7⟩
theorem RdS.table {H : Hp} {R : RA} {l : List Tk} {i : Nat} {t : Vamvsa.Table} (S : RdS K H R l i t) : TabAt (cTab K) H R.p t := by
  obtain ⟨cs, h1, h2⟩ := S.cols
  obtain ⟨rs, h3, h4⟩ := S.rows
  obtain ⟨qs, h5, h6⟩ := S.asks
  exact ⟨_, _, _, _, cs, rs, qs, S.tab, h1, h2, h3, h4, h5, h6⟩
def spTabNew (C : Addr) : Sp := fun vs H Q _ => ∃ p dx, vs = [.ref p] ∧ H p = some (.ins C dx []) ∧ ∀ H' c r q, (∀ b o, H b = some o → b ≠ p → H' b = some o) → H' p = some (.ins C dx (tbF c r q)) → H' c = some (.lst []) → H' r = some (.lst []) → H' q = some (.lst []) →
  H c = none → H r = none → H q = none → c ≠ r → c ≠ q → r ≠ q → Q .non H'
theorem k_Table (T : Txt K mg) : MakX P w K mg base CX0 1 "Table" (cTab K) (spTabNew (cTab K)) := by
  obtain ⟨fd, F⟩ := T.F_Table_init
  refine ⟨_, fd, _, T.mk_Table, F.ok sc_Table_init (fun vs H Q E h => ?_) (fun cdv A outer s H vs Q E hr h => ⟨_, (pss_cons (ps_fld (pv 0) (pe_lst pa_nil) rfl)
    (pss_cons (ps_fld (pv 0) (pe_lst pa_nil) rfl)
    (pss_one (ps_fld (pv 0) (pe_lst pa_nil) rfl)))), ?_⟩), T.g_Table, b_Table_init F⟩
  · obtain ⟨p, dx, rfl, _⟩ := h
    rfl
  · obtain ⟨p, dx, rfl, hp, q⟩ := h
    refine ⟨Nat.zero_le _, fun c nc => ⟨_, rfl, p, _, dx, _, rfl, (by rw [upd_ne (ne_of_none hp nc)]; exact hp), T.cl_Table, T.n_Table_columns, (by show 0 < 1000; decide), ?_⟩⟩
    refine ⟨Nat.zero_le _, fun r nr => ⟨_, rfl, p, _, dx, _, rfl, (by rw [upd_ne (ne_of_none upd_same nr)]; exact upd_same), T.cl_Table, T.n_Table_rows, (by show 1 < 1000; decide), ?_⟩⟩
    refine ⟨Nat.zero_le _, fun u nu => ⟨_, rfl, p, _, dx, _, rfl, (by rw [upd_ne (ne_of_none upd_same nu)]; exact upd_same), T.cl_Table, T.n_Table_questions, (by show 2 < 1000; decide), ?_⟩⟩
    have cp : c ≠ p := Ne.symm (ne_of_none hp nc)
    have rp : r ≠ p := Ne.symm (ne_of_none upd_same nr)
    have up : u ≠ p := Ne.symm (ne_of_none upd_same nu)
    have rc : r ≠ c := by
      intro e
      rw [e, upd_ne cp, upd_same] at nr
      cases nr
    have uc : u ≠ c := by
      intro e
      rw [e, upd_ne cp, upd_ne (Ne.symm rc), upd_ne cp, upd_same] at nu
      cases nu
    have ur : u ≠ r := by
      intro e
      rw [e, upd_ne rp, upd_same] at nu
      cases nu
    have hr0 : H r = none := by
      rw [upd_ne rp, upd_ne rc] at nr
      exact nr
    have hu0 : H u = none := by
      rw [upd_ne up, upd_ne ur, upd_ne up, upd_ne uc] at nu
      exact nu
    refine q _ c r u (fun b o hb hbp => ?_) ?_ ?_ ?_ ?_ nc hr0 hu0 (Ne.symm rc) (Ne.symm uc) (Ne.symm ur)
    · rw [upd_ne hbp, upd_ne (ne_of_none hb hu0), upd_ne hbp, upd_ne (ne_of_none hb hr0), upd_ne hbp, upd_ne (ne_of_none hb nc)]
      exact hb
    · refine Eq.trans upd_same (congrArg (fun z => some (HO.ins _ dx z)) ?_)
      show putF "questions" (.ref u) (putF "rows" (.ref r) [("columns", .ref c)]) = _
      rw [put2 (by decide +kernel), put3 (by decide +kernel) (by decide +kernel)]
    · rw [upd_ne cp, upd_ne (Ne.symm uc), upd_ne cp, upd_ne (Ne.symm rc), upd_ne cp]
      exact upd_same
    · rw [upd_ne rp, upd_ne (Ne.symm ur), upd_ne rp]
      exact upd_same
    · rw [upd_ne up]
      exact upd_same
/-- the tokens of a text that may be too long -/
def toksX (b : Bytes) : Except VamvsBase.Fault (List Tk) := if VamvsBase.TEXT < b.length then .error ⟨1, VamvsBase.TEXT⟩ else toksOf b
theorem tokens_toksX (b : Bytes) : VamvsBase.tokens b = (toksX b).map fun l => l.map Tk.p := by
  unfold toksX
  by_cases c : VamvsBase.TEXT < b.length
  · rw [if_pos c]
    unfold VamvsBase.tokens
    rw [if_pos c]
    rfl
  · rw [if_neg c]
    exact tokens_is (by omega)
def spRdNew (K : PySem.W.Frag) : Sp := fun vs H Q E => ∃ p dx a b, vs = [.ref p, .ref a] ∧ H p = some (.ins (cRd K) dx []) ∧ SqL K H a (bV b) ∧ b.length ≤ 10000 ∧ (∀ f, toksX b = .error f → FaultE (cFlt K) H E f.code f.place) ∧
  (∀ l, toksX b = .ok l → ∀ H' R, R.a = p → (∀ b o, H b = some o → b ≠ p → H' b = some o) → RdS K H' R l 0 ⟨[], [], []⟩ → H R.p = none → H R.c = none → H R.r = none → H R.q = none → Q .non H')
theorem k_Reader (T : Txt K mg) : MakX P w K mg base (L2.CX P w) 7 "Reader" (cRd K) (spRdNew K) := by
  obtain ⟨fd, F⟩ := T.F_Reader_init
  refine ⟨_, fd, _, T.mk_Reader, F.okX sc_Reader_init (fun vs H Q E h => ?_) (fun cdv A outer s H vs Q E hr h => ⟨_, (pss_cons (ps_if (pt_cmpR op_gt (pe_callB call_len_seq (by rfl) T.f_len (by decide +kernel) (pa_cons (pv 1) pa_nil)) (C8.pe_gc rfl T.c_MOST_TEXT) (nomark _)) (pss_one (ps_raise rfl takesD (pr_x (x_Fault T) hr (by decide) rfl (pa_cons (C8.pe_gc rfl T.c_LONG) (pa_cons (C8.pe_gc rfl T.c_MOST_TEXT) pa_nil))))) pss_nil)
    (pss_cons (ps_fld (pv 0) (pe_cx (c_tokens_of T) hr (by decide) passD rfl (pa_cons (pv 1) pa_nil)) rfl)
    (pss_cons (ps_fld (pv 0) pe_int rfl)
    (pss_one (ps_fld (pv 0) (pe_kx0 (k_Table T) hr (by decide) pass0 rfl) rfl))))), ?_⟩), T.g_Reader, b_Reader_init F⟩
  · obtain ⟨p, dx, a, b, rfl, _⟩ := h
    rfl
  · obtain ⟨p, dx, a, b, rfl, hp, hS, hb, qE, qT⟩ := h
    refine ⟨_, rfl, a, _, rfl, .inl hS, _, _, rfl, rfl, _, rfl, ?_⟩
    rw [bV_length]
    by_cases c : VamvsBase.TEXT < b.length
    · rw [decide_eq_true (show (4096 : Int) < ((b.length : Nat) : Int) by unfold VamvsBase.TEXT at c; omega)]
      exact exc_go rfl (by decide) fun d H3 s3 hd hx => qE ⟨1, VamvsBase.TEXT⟩ (if_pos c) d H3 s3 hd hx
    · rw [decide_eq_false (show ¬ (4096 : Int) < ((b.length : Nat) : Int) by unfold VamvsBase.TEXT at c; omega)]
      have e0 : toksX b = toksOf b := if_neg c
      rw [e0] at qE qT
      refine ⟨_, rfl, a, b, rfl, hS, Nat.le_trans hb (by decide), fun l hl hg hlen H1 t s1 nt ht => ?_, qE⟩
      obtain ⟨vs, ht1, ht2⟩ := ht
      refine ⟨_, rfl, p, _, dx, _, rfl, s1 _ _ hp, T.cl_Reader, T.n_Reader_tokens, (by show 0 < 1000; decide), ?_⟩
      refine ⟨_, rfl, p, _, dx, _, rfl, upd_same, T.cl_Reader, T.n_Reader_at, (by show 1 < 1000; decide), ?_⟩
      rw [upd_upd]
      intro x dx2 nx nd ne
      refine ⟨x, dx2, rfl, upd_same, fun H2 c r u kp h1 h2 h3 h4 nc nr nu cr cu ru => ⟨rfl, ?_⟩⟩
      have hpp : upd H1 p (.ins (cRd K) dx (putF "at" (.int 0) (putF "tokens" (.ref t) []))) p = some (.ins (cRd K) dx (putF "at" (.int 0) (putF "tokens" (.ref t) []))) := upd_same
      have px : p ≠ x := ne_of_none hpp nx
      have sm := Same.made nx nd kp
      have hp2 := sm _ _ hpp
      refine ⟨_, rfl, p, _, dx, _, rfl, hp2, T.cl_Reader, T.n_Reader_table, (by show 2 < 1000; decide), ?_⟩
      have keep : ∀ b o, H1 b = some o → b ≠ p → H2 b = some o := fun b o hb hbp => sm _ _ (by rw [upd_ne hbp]; exact hb)
      have tp : t ≠ p := Ne.symm (ne_of_none hp nt)
      have fresh : ∀ {y : Addr}, upd (upd (upd H1 p (.ins (cRd K) dx (putF "at" (.int 0) (putF "tokens" (.ref t) [])))) dx2 (.own x)) x (.ins (cTab K) dx2 []) y = none → y ≠ p ∧ y ≠ x ∧ H1 y = none := fun {y} h => by
        have h1 : y ≠ x := by
          intro e
          rw [e, upd_same] at h
          cases h
        rw [upd_ne h1] at h
        have h2 : y ≠ dx2 := by
          intro e
          rw [e, upd_same] at h
          cases h
        rw [upd_ne h2] at h
        have h3 : y ≠ p := by
          intro e
          rw [e, upd_same] at h
          cases h
        rw [upd_ne h3] at h
        exact ⟨h3, h1, h⟩
      obtain ⟨cp, cx, c1⟩ := fresh nc
      obtain ⟨rp, rx, r1⟩ := fresh nr
      obtain ⟨up, ux, u1⟩ := fresh nu
      have nx1 : H1 x = none := by
        rw [upd_ne (Ne.symm px)] at nx
        exact nx
      have ht2' : H2 t = some (.lst vs) := keep _ _ ht1 tp
      have hfin : upd H2 p (.ins (cRd K) dx (putF "table" (.ref x) (putF "at" (.int 0) (putF "tokens" (.ref t) [])))) p = some (.ins (cRd K) dx (rdF ⟨p, dx, t, x, dx2, c, r, u⟩ 0)) := by
        refine Eq.trans upd_same (congrArg (fun z => some (HO.ins _ dx z)) ?_)
        show putF "table" (.ref x) (putF "at" (.int 0) [("tokens", .ref t)]) = _
        rw [put2 (by decide +kernel), put3 (by decide +kernel) (by decide +kernel)]
        rfl
      have tu : Tups H1 (upd H2 p (.ins (cRd K) dx (putF "table" (.ref x) (putF "at" (.int 0) (putF "tokens" (.ref t) []))))) := fun b xs hb => by
        have hbp : b ≠ p := ne_of hb (s1 _ _ hp) (by intro z; cases z)
        rw [upd_ne hbp]
        exact keep _ _ hb hbp
      have S : RdS K (upd H2 p (.ins (cRd K) dx (putF "table" (.ref x) (putF "at" (.int 0) (putF "tokens" (.ref t) []))))) ⟨p, dx, t, x, dx2, c, r, u⟩ l 0 ⟨[], [], []⟩ :=
        { self := hfin
          toks := by
            refine ⟨vs, by rw [upd_ne tp]; exact ht2', paired_imp (fun v tk y => ?_) ht2⟩
            obtain ⟨ta, tdx, wd, ev, k1, k2⟩ := y
            have tap : ta ≠ p := ne_of k1 (s1 _ _ hp) (by intro z; injection z with _ _ z; cases z)
            exact ⟨ta, tdx, wd, ev, by rw [upd_ne tap]; exact keep _ _ k1 tap, tu _ _ k2⟩
          tab := by rw [upd_ne (Ne.symm px)]; exact h1
          cols := ⟨[], by rw [upd_ne cp]; exact h2, .nil⟩
          rows := ⟨[], by rw [upd_ne rp]; exact h3, .nil⟩
          asks := ⟨[], by rw [upd_ne up]; exact h4, .nil⟩
          cr := cr
          cq := cu
          rq := ru
          tc := ne_of_none ht1 c1
          tr := ne_of_none ht1 r1
          tq := ne_of_none ht1 u1
          good := hg
          lt := by
            obtain ⟨pre, y, e, _⟩ := hg.last
            rw [e, List.length_append]
            show 0 < pre.length + 1
            omega
          size := by omega }
      exact qT l hl _ _ rfl (fun b o hb hbp => by rw [upd_ne hbp]; exact keep _ _ (s1 _ _ hb) hbp) S (s1.free nx1) (s1.free c1) (s1.free r1) (s1.free u1)
/-! ### table_of -/
theorem read_is (b : Bytes) : Vamvsa.read b = (toksX b).bind fun l => readX (pT l 0) := by
  show ((VamvsBase.tokens b).bind fun l => (VamvsBase.takeWord "columns" l).bind fun r => (Vamvsa.takeColumns (r.length + 1) [] r).bind fun x => Vamvsa.takeLines (x.2.length + 1) ⟨x.1, [], []⟩ x.2) = _
  rw [tokens_toksX, map_bind']
  congr 1
  funext l
  unfold readX colsX
  rw [bind_assoc]
  rfl
/-- the table's own lists are new -/
def TabNew (H H' : Hp) (p : Addr) : Prop := ∃ C dx c r q, H' p = some (.ins C dx (tbF c r q)) ∧ H c = none ∧ H r = none ∧ H q = none
def spTableOf (K : PySem.W.Frag) : Sp := fun vs H Q E => ∃ a b, vs = [.ref a] ∧ SqL K H a (bV b) ∧ b.length ≤ 10000 ∧ (∀ f, Vamvsa.read b = .error f → FaultE (cFlt K) H E f.code f.place) ∧
  (∀ t, Vamvsa.read b = .ok t → ∀ H' p, Same H H' → H p = none → TabAt (cTab K) H' p t → TabNew H H' p → Q (.ref p) H')
theorem c_table_of (T : Txt K mg) : CalX P w K mg base (L2.CX P w) 9 "table_of" (spTableOf K) := by
  obtain ⟨fd, F⟩ := T.F_table_of
  refine ⟨_, fd, _, F.okX sc_table_of (fun vs H Q E h => ?_) (fun cdv A outer s H vs Q E hr h => ⟨_, (pss_cons (ps_set (i := 1) sc_table_of.nd rfl (Or.inl rfl) (pe_kx (k_Reader T) hr (by decide) passD rfl (pa_cons (pv 0) pa_nil)))
    (pss_one (ps_ret (pe_mx0 (m_Reader_read_table T) hr (by decide) passD (pv 1))))), ?_⟩), T.g_table_of, T.k_table_of, b_table_of F⟩
  · obtain ⟨a, b, rfl, _⟩ := h
    rfl
  · obtain ⟨a, b, rfl, hS, hb, qE, qT⟩ := h
    rw [read_is] at qE qT
    refine ⟨_, rfl, fun x dx nx nd ne => ?_⟩
    have s0 : Same H (upd (upd H dx (.own x)) x (.ins (cRd K) dx [])) := Same.made nx nd fun b o h _ => h
    refine ⟨x, dx, a, b, rfl, upd_same, s0.seq hS, hb, fun f hf => (qE f (by rw [hf]; rfl)).mono s0, fun l hl H1 R hRa kp S np nc nr nq => ⟨rfl, ?_⟩⟩
    rw [hl] at qE qT
    have s1 : Same H H1 := Same.made nx nd kp
    subst hRa
    have Ra : H R.a = none := nx
    have Rp := s0.free np
    have Rc := s0.free nc
    have Rr := s0.free nr
    have Rq := s0.free nq
    have sk : ∀ H2, Keep R H1 H2 → Same H H2 := fun H2 k b o hb => k.keep b o (s1 _ _ hb) (ne_of_none hb Ra) (ne_of_none hb Rc) (ne_of_none hb Rr) (ne_of_none hb Rq)
    refine ⟨_, rfl, R.a, _, _, rfl, S.self, rdF_m (by decide +kernel), R, l, 0, rfl, S, fun f hf d H3 k3 hd hx => ?_, fun t j ht H3 k3 S3 => ?_⟩
    · exact qE f hf d H3 (sk H3 k3) (s1.free hd) hx
    · exact qT t ht H3 R.p (sk H3 k3) Rp S3.table ⟨_, _, _, _, _, S3.tab, Rc, Rr, Rq⟩
end Kg
/-! Groups: lines put together. -/
namespace Kg
open PySem PySem.Spec PyProof.Rows L2
open VamvsBase (Bytes)
open Vamvsa (Group columnsOf collect lexLess)
variable {P : Program} {w : World} {K : PySem.W.Frag} {mg : Str → Option Value} {base : Heap}
/-! ### columns_in -/
def spCols : Sp := fun vs H Q _ => ∃ g n : Nat, vs = [.int ((g : Nat) : Int), .int ((n : Nat) : Int)] ∧ n ≤ 4 ∧ ∀ H' p, Same H H' → H p = none → H' p = some (.lst (nV (columnsOf n g))) → Q (.ref p) H'
theorem bit_test (g i : Nat) : decide (V.int (((g : Nat) : Int) / 2 ^ (0 + ((i : Nat) : Int)).toNat % 2) = V.int 1) = (g / 2 ^ i % 2 == 1) := by
  have e : ((g : Nat) : Int) / 2 ^ (0 + ((i : Nat) : Int)).toNat % 2 = ((g / 2 ^ i % 2 : Nat) : Int) := by
    rw [Int.zero_add, Int.toNat_natCast]
    push_cast
    rfl
  rw [e, dec_int]
  by_cases h : g / 2 ^ i % 2 = 1
  · rw [h]; rfl
  · have : ((g / 2 ^ i % 2 : Nat) : Int) ≠ 1 := by omega
    rw [beq_eq_false_iff_ne.mpr this, beq_eq_false_iff_ne.mpr h]
theorem c_columns_in (T : Txt K mg) : CalX P w K mg base CX0 1 "columns_in" spCols := by
  obtain ⟨fd, F⟩ := T.F_columns_in
  refine ⟨_, fd, _, F.ok sc_columns_in (fun vs H Q E h => ?_) (fun cdv A outer s H vs Q E hr h => ⟨_, (pss_one (ps_ret (pe_lc (own := [("at", 2)]) (g := gName 2) rfl sc_columns_in.nd (pi_range1 rfl T.f_range (pa_cons (pv 1) pa_nil)) (blkOk_by (N := N_columns_in) (sc := defScope s_columns_in) (by decide +kernel)) (fun _ _ _ _ _ => (pg_name (i := 2) sc_columns_in.nd rfl (Or.inl rfl))) (fun _ _ _ _ _ => (pts_one (pt_cmpR op_eq (pe_op op_mod (pe_op op_shr (pv 0) (pv 2)) pe_int) pe_int (nomark _)))) (fun _ _ _ _ _ => (pv 2))))), ?_⟩), T.g_columns_in, T.k_columns_in, b_columns_in F⟩
  · obtain ⟨g, n, rfl, _⟩ := h
    rfl
  · obtain ⟨g, n, rfl, hn, q⟩ := h
    refine ⟨_, rfl, _, rfl, by omega, by omega, fun D hD => ?_⟩
    rw [Int.toNat_natCast]
    refine lc_it walk_range (LcI H D (fun i _ y => y = V.int ((i : Nat) : Int)) fun i => g / 2 ^ i % 2 == 1) (LcI.start hD) (fun _ _ _ _ => trivial) (fun i x H1 H2 hi I ⟨e, ex⟩ => ?_) fun H1 I => ?_
    · subst e ex
      refine ⟨rfl, _, rfl, _, rfl, _, _, rfl, rfl, by show 0 ≤ 0 + ((i : Nat) : Int); omega, _, _, rfl, rfl, (by show (0 : Int) < 2; decide), rfl, _, rfl, ?_⟩
      show if decide (V.int (((g : Nat) : Int) / 2 ^ (0 + ((i : Nat) : Int)).toNat % 2) = V.int 1) = true then _ else _
      rw [bit_test]
      refine if_b (fun h => ?_) fun h => ?_
      · exact ⟨_, rfl, I.add hD (Same.refl _) (fun _ _ _ _ _ h => h) h (by show V.int (0 + ((i : Nat) : Int)) = _; rw [Int.zero_add]) (by rw [line_eq]; omega)⟩
      · exact I.skip (Same.refl _) (fun _ _ _ _ _ h => h) h
    · obtain ⟨s1, ys, hy, Pr⟩ := I
      have e : ys = nV (columnsOf n g) := map_of Pr
      subst e
      exact q _ D s1 hD hy
/-! ### the dict of sums -/
def keyK (k : List Nat) : List Key := k.map fun n => Sum.inl ((n : Nat) : Int)
theorem keyK_V (k : List Nat) : (keyK k).map kV = nV k := by
  unfold keyK nV
  rw [List.map_map]
  rfl
theorem keyK_inj {a b : List Nat} (h : keyK a = keyK b) : a = b := by
  induction a generalizing b with
  | nil =>
    cases b with
    | nil => rfl
    | cons y s => cases h
  | cons x r ih =>
    cases b with
    | nil => cases h
    | cons y s =>
      unfold keyK at h
      rw [List.map_cons, List.map_cons] at h
      injection h with h1 h2
      injection h1 with h1
      rw [ih h2]
      congr 1
      omega
theorem putK_keys {κ : Type} [DecidableEq κ] (kvs : List (κ × V)) (k : κ) (v : V) : (putK kvs k v).map (·.1) = if (valV kvs k).isSome = true then kvs.map (·.1) else kvs.map (·.1) ++ [k] := by
  unfold putK
  rw [valV_any]
  by_cases h : (valV kvs k).isSome = true
  · rw [if_pos h, if_pos h, List.map_map]
    apply List.map_congr_left
    intro x _
    by_cases e : x.1 = k
    · simp [e]
    · simp [e]
  · rw [if_neg h, if_neg h, List.map_append]
    rfl
theorem valV_mem {κ : Type} [DecidableEq κ] {kvs : List (κ × V)} {k : κ} (h : (valV kvs k).isSome = true) : k ∈ kvs.map (·.1) := by
  rw [← valV_any] at h
  obtain ⟨x, hx, e⟩ := List.any_eq_true.mp h
  exact List.mem_map.mpr ⟨x, hx, by simpa using e⟩
theorem mem_valV {κ : Type} [DecidableEq κ] {kvs : List (κ × V)} {k : κ} (h : k ∈ kvs.map (·.1)) : (valV kvs k).isSome = true := by
  rw [← valV_any]
  obtain ⟨x, hx, e⟩ := List.mem_map.mp h
  exact List.any_eq_true.mpr ⟨x, hx, by simpa using e⟩
/-- the dict at D holds the sums of the lines l -/
structure SumsAt (H : Hp) (D : Addr) (l : List Group) (kvs : List (List Key × V)) : Prop where
  obj : H D = some (.dT kvs)
  nd : (kvs.map (·.1)).Nodup
  old : ∀ kk ∈ kvs.map (·.1), ∃ y ∈ l, kk = keyK y.key
  val : ∀ y ∈ l, ∃ t, valV kvs (keyK y.key) = some (.ref t) ∧ H t = some (.tup [.int (sumOf y.key l), .int (cntOf y.key l : Nat)])
  few : kvs.length ≤ l.length
theorem sums_none {l : List Group} {k : List Nat} (h : ∀ y ∈ l, y.key ≠ k) : sumOf k l = 0 ∧ cntOf k l = 0 := by
  have e : l.filter (fun x => decide (x.key = k)) = [] := by
    rw [List.filter_eq_nil_iff]
    intro y hy
    simpa using h y hy
  unfold sumOf cntOf
  rw [e]
  exact ⟨rfl, rfl⟩
/-- what get gives ahead of a line -/
theorem SumsAt.look {H : Hp} {D : Addr} {l : List Group} {kvs : List (List Key × V)} (S : SumsAt H D l kvs) (k : List Nat) :
    (valV kvs (keyK k) = none ∧ sumOf k l = 0 ∧ cntOf k l = 0) ∨ ∃ t, valV kvs (keyK k) = some (.ref t) ∧ H t = some (.tup [.int (sumOf k l), .int (cntOf k l : Nat)]) := by
  cases e : valV kvs (keyK k) with
  | none =>
    refine .inl ⟨rfl, sums_none fun y hy z => ?_⟩
    obtain ⟨t, ht, _⟩ := S.val y hy
    rw [z, e] at ht
    cases ht
  | some v =>
    obtain ⟨y, hy, ey⟩ := S.old _ (valV_mem (by rw [e]; rfl))
    have ey' := keyK_inj ey
    obtain ⟨t, ht, h2⟩ := S.val y hy
    rw [← ey', e] at ht
    rw [← ey'] at h2
    exact .inr ⟨t, ht, h2⟩
theorem SumsAt.put {H H' : Hp} {D t : Addr} {l : List Group} {kvs : List (List Key × V)} (S : SumsAt H D l kvs) (x : Group) (tu : Tups H H') (hD : H' D = some (.dT (putK kvs (keyK x.key) (.ref t))))
    (ht : H' t = some (.tup [.int (sumOf x.key l + x.sum), .int ((cntOf x.key l + x.n : Nat) : Int)])) : SumsAt H' D (l ++ [x]) (putK kvs (keyK x.key) (.ref t)) where
  obj := hD
  nd := by
    rw [putK_keys]
    by_cases h : (valV kvs (keyK x.key)).isSome = true
    · rw [if_pos h]; exact S.nd
    · rw [if_neg h, List.nodup_append]
      refine ⟨S.nd, List.nodup_cons.mpr ⟨List.not_mem_nil, List.nodup_nil⟩, fun a ha b hb => ?_⟩
      rw [List.mem_singleton.mp hb]
      intro e
      exact h (mem_valV (e ▸ ha))
  old := by
    intro kk hk
    rw [putK_keys] at hk
    by_cases h : (valV kvs (keyK x.key)).isSome = true
    · rw [if_pos h] at hk
      obtain ⟨y, hy, e⟩ := S.old kk hk
      exact ⟨y, List.mem_append_left _ hy, e⟩
    · rw [if_neg h] at hk
      rcases List.mem_append.mp hk with hk | hk
      · obtain ⟨y, hy, e⟩ := S.old kk hk
        exact ⟨y, List.mem_append_left _ hy, e⟩
      · exact ⟨x, by simp, List.mem_singleton.mp hk⟩
  val := by
    intro y hy
    rw [valV_put, sumOf_snoc, cntOf_snoc]
    by_cases e : y.key = x.key
    · rw [if_pos (congrArg keyK e), if_pos e.symm, if_pos e.symm, e]
      exact ⟨t, rfl, ht⟩
    · rw [if_neg (fun z => e (keyK_inj z)), if_neg (fun z => e z.symm), if_neg (fun z => e z.symm)]
      rcases List.mem_append.mp hy with hy | hy
      · obtain ⟨t', h1, h2⟩ := S.val y hy
        exact ⟨t', h1, tu _ _ h2⟩
      · exact absurd (congrArg Group.key (List.mem_singleton.mp hy)) e
  few := by
    have := length_putK kvs (keyK x.key) (.ref t)
    have := S.few
    rw [List.length_append]
    show _ ≤ l.length + 1
    omega
/-! ### keys in order -/
theorem code_lex10 : ∀ {a b : List Nat}, a.length = b.length → (∀ v ∈ a, v ≤ 9) → (∀ v ∈ b, v ≤ 9) → lexLess a b = true → TS.code 10 (a.map fun n => ((n : Nat) : Int)) < TS.code 10 (b.map fun n => ((n : Nat) : Int))
  | [], _, _, _, _, h => by cases h
  | _ :: _, [], h, _, _, _ => by cases h
  | x :: r, y :: s, hl, ha, hb, h => by
    have hl' : r.length = s.length := by simpa using hl
    have bd : ∀ {l : List Nat}, (∀ v ∈ l, v ≤ 9) → TS.Bd 10 (l.map fun n => ((n : Nat) : Int)) := fun {l} h m hm => by
      obtain ⟨v, hv, e⟩ := List.mem_map.mp hm
      have := h v hv
      omega
    rw [lexLess_cons] at h
    simp only [Bool.or_eq_true, decide_eq_true_eq, Bool.and_eq_true, beq_iff_eq] at h
    rcases h with h | ⟨h, h2⟩
    · rw [List.map_cons, List.map_cons]
      exact TS.code_lt (by rw [List.length_map, List.length_map, hl']) (bd fun v hv => ha v (List.mem_cons_of_mem _ hv)) (bd fun v hv => hb v (List.mem_cons_of_mem _ hv)) (by omega)
    · have ih := code_lex10 hl' (fun v hv => ha v (List.mem_cons_of_mem _ hv)) (fun v hv => hb v (List.mem_cons_of_mem _ hv)) h2
      rw [List.map_cons, List.map_cons]
      show (x : Int) * 10 ^ (r.map fun n => ((n : Nat) : Int)).length + _ < (y : Int) * 10 ^ (s.map fun n => ((n : Nat) : Int)).length + _
      rw [List.length_map, List.length_map, hl', h]
      omega
theorem lex_of_code {a b : List Nat} (hl : a.length = b.length) (ha : ∀ v ∈ a, v ≤ 9) (hb : ∀ v ∈ b, v ≤ 9) (hn : a ≠ b) (h : TS.code 10 (a.map fun n => ((n : Nat) : Int)) ≤ TS.code 10 (b.map fun n => ((n : Nat) : Int))) : lexLess a b = true := by
  cases e : lexLess a b with
  | true => rfl
  | false =>
    have := code_lex10 hl.symm hb ha (lexLess_tri hl hn e)
    omega
theorem paired_perm {α β : Type} {F : α → β → Prop} {xs ys : List α} (h : ys.Perm xs) : ∀ {l : List β}, Paired F xs l → ∃ l', Paired F ys l' ∧ l'.Perm l := by
  induction h with
  | nil =>
    intro l h
    exact ⟨l, h, .refl _⟩
  | cons x _ ih =>
    intro l h
    cases h with
    | cons f r =>
      obtain ⟨l', h1, h2⟩ := ih r
      exact ⟨_, .cons f h1, h2.cons _⟩
  | swap x y l0 =>
    intro l h
    cases h with
    | cons f r =>
      cases r with
      | cons g r' => exact ⟨_, .cons g (.cons f r'), .swap ..⟩
  | trans _ _ ih1 ih2 =>
    intro l h
    obtain ⟨l1, h1, h2⟩ := ih2 h
    obtain ⟨l2, h3, h4⟩ := ih1 h1
    exact ⟨l2, h3, h4.trans h2⟩
end Kg
/-! Groups: put_together. -/
namespace Kg
open PySem PySem.Spec PyProof.Rows L2
open VamvsBase (Bytes)
open Vamvsa (Group columnsOf collect lexLess)
variable {P : Program} {w : World} {K : PySem.W.Frag} {mg : Str → Option Value} {base : Heap}
theorem SumsAt.mono {H H' : Hp} {D : Addr} {l : List Group} {kvs : List (List Key × V)} (S : SumsAt H D l kvs) (s : Same H H') : SumsAt H' D l kvs where
  obj := s _ _ S.obj
  nd := S.nd
  old := S.old
  val y hy := by
    obtain ⟨t, h1, h2⟩ := S.val y hy
    exact ⟨t, h1, s _ _ h2⟩
  few := S.few
/-- lines that may be put together: keys of d digits -/
structure Dig (d : Nat) (l : List Group) : Prop where
  few : l.length ≤ 60
  len : ∀ x ∈ l, x.key.length = d
  dig : ∀ x ∈ l, ∀ v ∈ x.key, v ≤ 9
def KeyAt (H : Hp) (v : V) (k : List Nat) : Prop := ∃ b, v = .ref b ∧ H b = some (.tup (nV k))
theorem KeyAt.mono {H H' : Hp} {v : V} {k : List Nat} (s : Tups H H') (h : KeyAt H v k) : KeyAt H' v k := by
  obtain ⟨b, e, h⟩ := h
  exact ⟨b, e, s _ _ h⟩
theorem KeyAt.inj {H : Hp} {v : V} {k k' : List Nat} (h : KeyAt H v k) (h' : KeyAt H v k') : k = k' := by
  obtain ⟨b, e, h⟩ := h
  obtain ⟨b', e', h'⟩ := h'
  rw [e] at e'
  cases e'
  rw [h] at h'
  injection h' with h'
  injection h' with h'
  rw [← keyK_V, ← keyK_V] at h'
  exact keyK_inj (kVs_inj h')
theorem isKeys_keys {H : Hp} : ∀ {kvs : List (List Key × V)} {bs : List Addr} {l : List Group}, IsKeys H kvs bs → (∀ kk ∈ kvs.map (·.1), ∃ y ∈ l, kk = keyK y.key) → ∃ ks : List (List Nat), Paired (KeyAt H) (bs.map V.ref) ks ∧ kvs.map (·.1) = ks.map keyK
  | _, _, _, .nil, _ => ⟨[], .nil, rfl⟩
  | _, _, l, .cons (a := p) (l₁ := r) h hr, ho => by
    obtain ⟨ks, h1, h2⟩ := isKeys_keys (l := l) hr fun kk hk => ho kk (List.mem_cons_of_mem _ hk)
    obtain ⟨y, hy, e⟩ := ho p.1 List.mem_cons_self
    refine ⟨y.key :: ks, .cons ⟨_, rfl, ?_⟩ h1, ?_⟩
    · rw [e, keyK_V] at h
      exact h
    · rw [List.map_cons, List.map_cons, h2, e]
theorem pair_of {α : Type} {F : V → α → Prop} {R : α → α → Prop} : ∀ {ys : List V} {l : List α}, Paired F ys l → ys.Pairwise (fun x y => ∀ a b, F x a → F y b → R a b) → l.Pairwise R
  | _, _, .nil, _ => .nil
  | _, _, .cons h r, p => by
    obtain ⟨p1, p2⟩ := List.pairwise_cons.mp p
    refine List.pairwise_cons.mpr ⟨fun b hb => ?_, pair_of r p2⟩
    obtain ⟨i, hi⟩ := List.getElem?_of_mem hb
    obtain ⟨y, hy, f⟩ := paired_get' r hi
    exact p1 y (List.mem_of_getElem? hy) _ _ h f
def spPut (K : PySem.W.Frag) : Sp := fun vs H Q _ => ∃ a d l us, vs = [.ref a] ∧ SqL K H a us ∧ Paired (LnAt H) us l ∧ Dig d l ∧ ∀ H' p, Same H H' → H p = none → LsAt H' p (collect l) → Q (.ref p) H'
theorem c_put_together (T : Txt K mg) : CalX P w K mg base CX0 1 "put_together" (spPut K) := by
  obtain ⟨fd, F⟩ := T.F_put_together
  refine ⟨_, fd, _, F.ok sc_put_together (fun vs H Q E h => ?_) (fun cdv A outer s H vs Q E hr h => ?_), T.g_put_together, T.k_put_together, b_put_together F⟩
  · obtain ⟨a, d, l, us, rfl, _⟩ := h
    rfl
  · obtain ⟨a, d, l, us, rfl, hS, Pl, hd, q⟩ := h
    have hd1 : 1 ≤ max d 1 := Nat.le_max_right _ _
    refine ⟨_, (pss_cons (ps_set (i := 1) sc_put_together.nd rfl (Or.inr rfl) pe_dnewT)
    (pss_cons (ps_for PassesOwn.never rfl (pi_list (pv 0)) (pg_tup rfl (pgs_cons (pg_name (i := 2) sc_put_together.nd rfl (Or.inl rfl)) (pgs_cons (pg_name (i := 3) sc_put_together.nd rfl (Or.inl rfl)) (pgs_cons (pg_name (i := 4) sc_put_together.nd rfl (Or.inl rfl)) pgs_nil)))) (pss_cons (ps_set (i := 5) sc_put_together.nd rfl (Or.inl rfl) (pe_dget2 (hu_of hr) (pv 1) (pv 2) (pe_tup (pa_cons pe_int (pa_cons pe_int pa_nil))) ⟨rfl, rfl, rfl, rfl⟩))
    (pss_one (ps_dput (hu_of hr) (pv 1) (pv 2) (pe_tup (pa_cons (pe_op op_add (pe_ix ix_tup (pv 5) pe_int (fun _ _ => rfl)) (pv 3)) (pa_cons (pe_op op_add (pe_ix ix_tup (pv 5) pe_int (fun _ _ => rfl)) (pv 4)) pa_nil))) rfl))))
    (pss_one (ps_ret (pe_lc (own := [("numbers", 2)]) (g := gName 2) rfl sc_put_together.nd (pi_list (pe_callB (CallR.or cr_sort1 (cr_sortT (d := max d 1) (B := 10) hd1)) (by rfl) T.f_sorted (by decide +kernel) (pa_cons (pe_callTy (call_list_dT rfl) (by rfl) T.f_list (by decide +kernel) (pa_cons (pv 1) pa_nil)) pa_nil))) (blkOk_by (N := N_put_together) (sc := defScope s_put_together) (by decide +kernel)) (fun _ _ _ _ _ => (pg_name (i := 2) sc_put_together.nd rfl (Or.inl rfl))) (fun _ _ _ _ _ => pts_nil) (fun _ _ _ _ _ => (pe_op (r := rCatT K) op_catT (pe_tup (pa_cons (pv 2) pa_nil)) (pe_dget (hu_of hr) (pv 1) (pv 2) (fun _ _ => rfl))))))))), ?_⟩
    have few := hd.few
    have lu : us.length = l.length := paired_len Pl
    intro D nD
    have s0 : Same H (upd H D (.dT [])) := same_new nD
    refine ⟨_, rfl, a, rfl, ⟨_, s0.seq hS⟩, for_list (K := K) (a := a) (xs := us) (fun i σ H' => ∃ v2 v3 v4 v5 kvs, σ = [some (.ref a), some (.ref D), v2, v3, v4, v5] ∧ Same H H' ∧ SumsAt H' D (l.take i) kvs)
      ⟨none, none, none, none, [], rfl, s0, ⟨upd_same, List.nodup_nil, (fun _ h => by cases h), (fun _ h => by cases h), Nat.le_refl _⟩⟩ (fun i σ H' _ ⟨_, _, _, _, _, _, s, _⟩ => s.seq hS) ?_ ?_⟩
    · rintro i x σ H1 hx ⟨v2, v3, v4, v5, kvs, rfl, s1, S1⟩
      obtain ⟨y, hy, Ly⟩ := paired_get Pl hx
      obtain ⟨t, k, rfl, ht, hk⟩ := Ly.mono (.of s1)
      have hk' : H1 k = some (.tup ((keyK y.key).map kV)) := by rw [keyK_V]; exact hk
      refine ⟨t, _, rfl, SqT.of ht, rfl, _, _, rfl, _, _, rfl, _, _, rfl, rfl, ?_⟩
      -- before = sums.get(numbers, (0, 0))
      refine ⟨_, rfl, D, rfl, .inr ⟨kvs, .inl S1.obj⟩, _, rfl, small_line (by show 2 ≤ 1000; decide), fun z nz => ⟨_, DGet.t (k := keyK y.key) (same_new nz _ _ S1.obj) (same_new nz _ _ hk'), ?_⟩⟩
      have s2 : Same H1 (upd H1 z (.tup [.int 0, .int 0])) := same_new nz
      have S2 := S1.mono s2
      -- whatever it gives: a tuple of the sums ahead
      have go : ∀ tb, upd H1 z (.tup [.int 0, .int 0]) tb = some (.tup [.int (sumOf y.key (l.take i)), .int (cntOf y.key (l.take i) : Nat)]) →
          tSeq (tAsg (tC (.ref tb)) (gName 5)) (sDPut (tVar 1) (tVar 2) (tTup (tCons (tOp (rI0 fun i j => .int (i + j)) (tOp (rIxT K) (tVar 5) (tC (.int 0))) (tVar 3)) (tCons (tOp (rI0 fun i j => .int (i + j)) (tOp (rIxT K) (tVar 5) (tC (.int 1))) (tVar 4)) tNil))))
            { nx := fun σ H' => ∃ v2 v3 v4 v5 kvs, σ = [some (.ref a), some (.ref D), v2, v3, v4, v5] ∧ Same H H' ∧ SumsAt H' D (l.take (i + 1)) kvs, rt := Q } [some (.ref a), some (.ref D), some (.ref k), some (.int y.sum), some (.int (y.n : Nat)), v5] (upd H1 z (.tup [.int 0, .int 0])) := by
        intro tb htb
        refine ⟨_, rfl, tb, _, _, _, rfl, rfl, SqT.of htb, atI_nat (j := 0) rfl, _, rfl, _, _, rfl, rfl, _, rfl, tb, _, _, _, rfl, rfl, SqT.of htb, atI_nat (j := 1) rfl, _, rfl, _, _, rfl, rfl, small_line (by show 2 ≤ 1000; decide), fun t2 n2 => ?_⟩
        have s3 := same_new (o := HO.tup [V.int (sumOf y.key (l.take i) + y.sum), V.int (((cntOf y.key (l.take i) : Nat) : Int) + ((y.n : Nat) : Int))]) n2
        have S3 := S2.mono s3
        refine ⟨_, rfl, _, rfl, D, _, rfl, DPut.t (k := keyK y.key) S3.obj (s3 _ _ (s2 _ _ hk')) (Nat.lt_of_le_of_lt S3.few (Nat.lt_of_lt_of_le (show (l.take i).length < 1000 by rw [List.length_take]; omega) (small_line (Nat.le_refl _)))), ?_⟩
        have tD : t2 ≠ D := Ne.symm (ne_of_none S2.obj n2)
        have tu : Tups (upd (upd H1 z (.tup [.int 0, .int 0])) t2 (.tup [V.int (sumOf y.key (l.take i) + y.sum), V.int (((cntOf y.key (l.take i) : Nat) : Int) + ((y.n : Nat) : Int))])) (upd (upd (upd H1 z (.tup [.int 0, .int 0])) t2 (.tup [V.int (sumOf y.key (l.take i) + y.sum), V.int (((cntOf y.key (l.take i) : Nat) : Int) + ((y.n : Nat) : Int))])) D (.dT (putK kvs (keyK y.key) (.ref t2)))) := fun b xs e => by
          rw [upd_ne (ne_of e S3.obj (by intro z; cases z))]
          exact e
        have S4 := S3.put (t := t2) y tu upd_same (by rw [upd_ne tD, upd_same, Int.natCast_add])
        rw [← take_snoc hy] at S4
        exact ⟨_, _, _, _, _, rfl, same_lst (s1.trans (s2.trans s3)) nD, S4⟩
      rcases S2.look y.key with ⟨e1, e2, e3⟩ | ⟨tb, e1, e2⟩
      · rw [e1]
        refine go z ?_
        rw [e2, e3]
        exact upd_same
      · rw [e1]
        exact go tb e2
    · rintro σ H1 ⟨v2, v3, v4, v5, kvs, rfl, s1, S1⟩
      rw [lu, List.take_length] at S1
      -- list(sums)
      refine ⟨_, rfl, D, kvs, rfl, .inl S1.obj, fun L bs nL hK => ?_⟩
      have s2 : Same H1 (upd H1 L (.lst (bs.map V.ref))) := same_new nL
      have S2 := S1.mono s2
      obtain ⟨ks, Pk, ek⟩ := isKeys_keys hK S1.old
      have Pk2 := paired_imp (fun _ _ y => KeyAt.mono (.of s2) y) Pk
      have lb : (bs.map V.ref).length = kvs.length := by
        rw [paired_len Pk, ← List.length_map (f := (·.1)) (as := kvs), ek, List.length_map]
      have ndk : ks.Nodup := by
        have := S1.nd
        rw [ek] at this
        exact (List.pairwise_map.mp this).imp fun h e => h (by rw [e])
      have kin : ∀ k, k ∈ ks ↔ ∃ y ∈ l, y.key = k := fun k => by
        constructor
        · intro hk
          obtain ⟨y, hy, e⟩ := S1.old (keyK k) (by rw [ek]; exact List.mem_map.mpr ⟨k, hk, rfl⟩)
          exact ⟨y, hy, (keyK_inj e).symm⟩
        · rintro ⟨y, hy, rfl⟩
          obtain ⟨t, e, _⟩ := S1.val y hy
          have := valV_mem (kvs := kvs) (k := keyK y.key) (by rw [e]; rfl)
          rw [ek] at this
          obtain ⟨k', hk', e'⟩ := List.mem_map.mp this
          rw [← keyK_inj e']
          exact hk'
      have klen : ∀ k ∈ ks, k.length = d := fun k hk => by
        obtain ⟨y, hy, e⟩ := (kin k).mp hk
        rw [← e]
        exact hd.len y hy
      have kdig : ∀ k ∈ ks, ∀ v ∈ k, v ≤ 9 := fun k hk => by
        obtain ⟨y, hy, e⟩ := (kin k).mp hk
        rw [← e]
        exact hd.dig y hy
      have sortgo : ∀ QQ : VK, (∀ (ys : List V) (ks' : List (List Nat)) (p : Addr), Paired (KeyAt (upd H1 L (.lst (bs.map V.ref)))) ys ks' → ks'.Perm ks → ks'.Pairwise (fun x y => lexLess x y = true) → upd H1 L (.lst (bs.map V.ref)) p = none → QQ (.ref p) (upd (upd H1 L (.lst (bs.map V.ref))) p (.lst ys))) →
          (rSort1 K [.ref L] (upd H1 L (.lst (bs.map V.ref))) QQ ∨ rSortU K (max d 1) 10 [.ref L] (upd H1 L (.lst (bs.map V.ref))) QQ) := by
        intro QQ fin
        by_cases hlt : (bs.map V.ref).length < 2
        · refine .inl ⟨L, _, rfl, SqL.of upd_same, hlt, fun p np => fin _ ks p Pk2 (.refl _) ?_ np⟩
          match ks, (show ks.length < 2 by rw [← paired_len Pk]; exact hlt) with
          | [], _ => exact .nil
          | [x], _ => exact List.pairwise_singleton _ _
          | _ :: _ :: _, h => exact absurd h (by simp)
        · have d1 : max d 1 = d := by
            rcases Nat.eq_zero_or_pos d with e | e
            · exfalso
              apply hlt
              match ks, ndk, klen, (paired_len Pk) with
              | [], _, _, hlk => rw [hlk]; decide
              | [x], _, _, hlk => rw [hlk]; show 1 < 2; decide
              | x :: y :: r, nd, kl, _ =>
                have ex : x = [] := List.eq_nil_of_length_eq_zero ((kl x (by simp)).trans e)
                have ey : y = [] := List.eq_nil_of_length_eq_zero ((kl y (by simp)).trans e)
                have := (List.nodup_cons.mp nd).1
                rw [ex, ey] at this
                exact absurd List.mem_cons_self this
            · exact Nat.max_eq_left e
          refine .inr ⟨L, _, rfl, SqL.of upd_same, ?_, fun x hx => ?_, fun ys p pm asc np => ?_⟩
          · rw [lb]
            have := S1.few
            omega
          · obtain ⟨i, hi⟩ := List.getElem?_of_mem hx
            obtain ⟨k, hk, b, rfl, hb⟩ := paired_get Pk2 hi
            have hm := List.mem_of_getElem? hk
            refine ⟨k.map fun n => ((n : Nat) : Int), ⟨b, rfl, SqT.of ?_⟩, by rw [List.length_map, klen k hm, d1], fun m hm' => ?_⟩
            · rw [List.map_map]
              exact hb
            · obtain ⟨v, hv, e⟩ := List.mem_map.mp hm'
              have := kdig k hm v hv
              omega
          · obtain ⟨ks', Py, pk⟩ := paired_perm pm Pk2
            refine fin ys ks' p Py pk ?_ np
            have asc2 : ks'.Pairwise fun x y => TS.code 10 (x.map fun n => ((n : Nat) : Int)) ≤ TS.code 10 (y.map fun n => ((n : Nat) : Int)) := by
              refine pair_of Py (asc.imp fun {x y} h a b ha hb => ?_)
              obtain ⟨b1, rfl, hb1⟩ := ha
              obtain ⟨b2, rfl, hb2⟩ := hb
              refine h _ _ ⟨b1, rfl, SqT.of ?_⟩ ⟨b2, rfl, SqT.of ?_⟩
              · rw [List.map_map]; exact hb1
              · rw [List.map_map]; exact hb2
            have nd' : ks'.Nodup := pk.nodup_iff.mpr ndk
            have both : ks'.Pairwise fun x y => x ≠ y ∧ TS.code 10 (x.map fun n => ((n : Nat) : Int)) ≤ TS.code 10 (y.map fun n => ((n : Nat) : Int)) := List.pairwise_and_iff.mpr ⟨nd', asc2⟩
            refine List.Pairwise.imp_of_mem (fun {x y} hx hy h => ?_) both
            have mx := pk.mem_iff.mp hx
            have my := pk.mem_iff.mp hy
            exact lex_of_code (by rw [klen x mx, klen y my]) (kdig x mx) (kdig y my) h.1 h.2
      refine sortgo _ fun ys ks' p Py pm asc np => ?_
      have s3 : Same (upd H1 L (.lst (bs.map V.ref))) (upd (upd H1 L (.lst (bs.map V.ref))) p (.lst ys)) := same_new np
      refine ⟨p, rfl, ⟨_, SqL.of upd_same⟩, fun D2 n2 => ?_⟩
      have hp2 : upd (upd H1 L (.lst (bs.map V.ref))) p (.lst ys) p = some (.lst ys) := upd_same
      refine lc_it walk_list (LcI (upd (upd H1 L (.lst (bs.map V.ref))) p (.lst ys)) D2 (fun i H' y => ∃ k, ks'[i]? = some k ∧ LnAt H' y (lineOf l k)) fun _ => true) (LcI.start n2) (fun i H' _ I => SqL.of (I.1 _ _ hp2)) (fun i x H5 H6 hi I ⟨e1, hx⟩ => ?_) fun H5 I => ?_
      · subst e1
        obtain ⟨k, hk, Kk⟩ := paired_get Py hx
        have sI := I.1
        obtain ⟨b, rfl, hb⟩ := (Kk.mono (.of (s3.trans sI)))
        have hb' : H6 b = some (.tup ((keyK k).map kV)) := by rw [keyK_V]; exact hb
        have S6 := (S2.mono s3).mono sI
        obtain ⟨y, hy, ey⟩ := (kin k).mp (pm.mem_iff.mp (List.mem_of_getElem? hk))
        obtain ⟨t, e4, e5⟩ := S6.val y hy
        rw [ey] at e4 e5
        refine ⟨rfl, _, rfl, small_line (by show 1 ≤ 1000; decide), fun t1 n1 => ?_⟩
        have s7 : Same H6 (upd H6 t1 (.tup [.ref b])) := same_new n1
        have S7 := S6.mono s7
        refine ⟨_, rfl, _, rfl, D, .ref t, rfl, ?_, ?_⟩
        · have g := DGet.t (k := keyK k) S7.obj (s7 _ _ hb')
          rw [e4] at g
          exact g
        · refine ⟨t1, t, _, _, rfl, rfl, SqT.of upd_same, SqT.of (s7 _ _ e5), List.cons_ne_nil _ _, small_line (by show 3 ≤ 1000; decide), (fun z => by cases z), fun _ t3 n3 => ?_⟩
          have s8 : Same (upd H6 t1 (.tup [.ref b])) (upd (upd H6 t1 (.tup [.ref b])) t3 (.tup ([.ref b] ++ [.int (sumOf k l), .int (cntOf k l : Nat)]))) := same_new n3
          refine I.add n2 (s7.trans s8) (fun _ _ _ _ s ⟨k, h1, h2⟩ => ⟨k, h1, h2.mono s⟩) rfl ⟨k, hk, t3, b, rfl, upd_same, s8 _ _ (s7 _ _ hb)⟩ ?_
          have : ks'.length ≤ 60 := by
            rw [pm.length_eq, ← paired_len Pk, lb]
            exact Nat.le_trans S1.few few
          have := lt_of_at hk
          exact Nat.lt_of_lt_of_le (show i < 1000 by omega) (small_line (Nat.le_refl _))
      · obtain ⟨s5, zs, hz, Pz⟩ := I
        rw [all_true] at Pz
        have ly : ys.length = ks'.length := paired_len Py
        rw [ly] at Pz
        have Pz2 : Paired (fun v k => LnAt H5 v (lineOf l k)) zs ks' := paired_of (l := ks') Pz fun y j h => h
        have e : collect l = ks'.map (lineOf l) := collect_of_keys hd.len asc fun k => pm.mem_iff.trans (kin k)
        refine q H5 D2 (s1.trans (s2.trans (s3.trans s5))) (s1.free (s2.free (s3.free n2))) ⟨zs, hz, ?_⟩
        rw [e]
        have mp : ∀ {zs : List V} {ks' : List (List Nat)}, Paired (fun v k => LnAt H5 v (lineOf l k)) zs ks' → Paired (LnAt H5) zs (ks'.map (lineOf l)) := by
          intro zs ks' h
          induction h with
          | nil => exact .nil
          | cons f _ ih => exact .cons f ih
        exact mp Pz2
end Kg
/-! Groups: a grouping's answer, whether it can be worked out, rolled. -/
namespace Kg
open PySem PySem.Spec PyProof.Rows L2
open VamvsBase (Bytes)
open Vamvsa (Group Table columnsOf collect lexLess groupsOf canFrom sizeOf_)
variable {P : Program} {w : World} {K : PySem.W.Frag} {mg : Str → Option Value} {base : Heap}
/-- what reading says of a table -/
structure WF (t : Table) : Prop where
  c0 : t.cols ≠ []
  c4 : t.cols.length ≤ 4
  cn : ∀ c ∈ t.cols, c.length ≤ 16
  r16 : t.rows.length ≤ 16
  rl : ∀ r ∈ t.rows, r.vs.length = t.cols.length
  rv : ∀ r ∈ t.rows, ∀ v ∈ r.vs, v ≤ 9
  rm : ∀ r ∈ t.rows, -1000 ≤ r.m ∧ r.m ≤ 1000
  a8 : t.asks.length ≤ 8
  ag : ∀ a ∈ t.asks, a.g < 2 ^ t.cols.length
  ak : ∀ a ∈ t.asks, 1 ≤ a.k ∧ a.k ≤ 99
theorem cols_lt {n g i : Nat} (h : i ∈ columnsOf n g) : i < n := by
  unfold columnsOf at h
  exact List.mem_range.mp (List.mem_filter.mp h).1
theorem cols_len (n g : Nat) : (columnsOf n g).length ≤ n := by
  unfold columnsOf
  have := List.length_filter_le (fun i => g / 2 ^ i % 2 == 1) (List.range n)
  rw [List.length_range] at this
  exact this
theorem nV_at {vs : List Nat} {j : Nat} (h : j < vs.length) : (nV vs)[j]? = some (.int ((vs.getD j 0 : Nat) : Int)) := by
  unfold nV
  rw [List.getElem?_map, List.getElem?_eq_getElem h, List.getD_eq_getElem?_getD, List.getElem?_eq_getElem h]
  rfl
/-- the places of the columns asked within other numbers -/
theorem getD_le {vs : List Nat} (h : ∀ v ∈ vs, v ≤ 9) (j : Nat) : vs.getD j 0 ≤ 9 := by
  rw [List.getD_eq_getElem?_getD]
  cases e : vs[j]? with
  | none => exact Nat.zero_le _
  | some v => exact h v (List.mem_of_getElem? e)
/-- the lines of a table's rows -/
def rowLines (t : Table) (g : Nat) : List Group := t.rows.map fun r => ⟨Vamvsa.keyOf (Vamvsa.width t) g r.vs, r.m, 1⟩
theorem rowLines_dig {t : Table} (W : WF t) (g : Nat) : Dig (columnsOf t.cols.length g).length (rowLines t g) where
  few := by
    unfold rowLines
    rw [List.length_map]
    have := W.r16
    omega
  len x hx := by
    obtain ⟨r, _, rfl⟩ := List.mem_map.mp hx
    exact List.length_map ..
  dig x hx v hv := by
    obtain ⟨r, hr, rfl⟩ := List.mem_map.mp hx
    obtain ⟨i, _, rfl⟩ := List.mem_map.mp hv
    exact getD_le (W.rv r hr) i
def rTupOf (K : PySem.W.Frag) : List V → Hp → VK → Prop := fun xs H Q => ∃ p ys, xs = [V.ref p] ∧ ((SqL K H p ys ∧ ∀ l : Addr, H l = none → Q (.ref l) (upd H l (.tup ys))) ∨ (SqT K H p ys ∧ Q (.ref p) H))
theorem cr_tupOf {X : Cx} : CallR X (.type "tuple") (rTupOf X.K) := call_tuple_of
/-! ### answer_of -/
def spAns (K : PySem.W.Frag) : Sp := fun vs H Q _ => ∃ p t g, vs = [.ref p, .int ((g : Nat) : Int)] ∧ TabAt (cTab K) H p t ∧ WF t ∧ ∀ H' q, Same H H' → H q = none → LsAt H' q (groupsOf t g) → Q (.ref q) H'
abbrev sc_answer_in : Scope := { kind := .function, names := [(".0", .local), ("row", .cell), ("much", .local), ("tuple", .globalImplicit), ("columns", .free)], isGenerator := false, isCoroutine := false }
theorem c_answer_of (T : Txt K mg) : CalX P w K mg base CX0 2 "answer_of" (spAns K) := by
  obtain ⟨fd, F⟩ := T.F_answer_of
  refine ⟨_, fd, _, F.ok sc_answer_of (fun vs H Q E h => ?_) (fun cdv A outer s H vs Q E hr h => ⟨_, (pss_cons (ps_set (i := 2) sc_answer_of.nd rfl (Or.inr rfl) (pe_cx (c_columns_in T) hr (by decide) pass0 rfl (pa_cons (pv 1) (pa_cons (pe_callB call_len_seq (by rfl) T.f_len (by decide +kernel) (pa_cons (pe_fld (pv 0) rfl) pa_nil)) pa_nil))))
    (pss_one (ps_ret (pe_cx (c_put_together T) hr (by decide) pass0 rfl (pa_cons (pe_lc (own := [("row", 4), ("much", 5)]) (g := gTup K 2 (gCons (gName 4) (gCons (gName 5) gNil))) rfl sc_answer_of.nd (pi_list (pe_fld (pv 0) rfl)) (blkOk_by (N := N_answer_of) (sc := defScope s_answer_of) (by decide +kernel)) (fun _ _ _ _ _ => (pg_tup rfl (pgs_cons (pg_name (i := 4) sc_answer_of.nd rfl (Or.inr rfl)) (pgs_cons (pg_name (i := 5) sc_answer_of.nd rfl (Or.inl rfl)) pgs_nil)))) (fun _ _ _ _ _ => pts_nil) (fun _ _ _ _ _ => (pe_tup (pa_cons (pe_callTy (r := rTupOf K) cr_tupOf (by rfl) T.f_tuple (by decide +kernel) (pa_cons (pe_lc (wi := iList K (tVar 2)) (own := [("at", 3)]) (g := gName 3) rfl sc_answer_of.nd (pi_list (pv 2)) (blkOk_by (N := N_answer_of) (sc := relS sc_answer_in (defScope s_answer_of)) (by decide +kernel)) (fun _ _ _ _ _ => (pg_name (i := 3) sc_answer_of.nd rfl (Or.inl rfl))) (fun _ _ _ _ _ => pts_nil) (fun _ _ _ _ _ => (pe_ix (r := rIxT K) ix_tup (pv 4) (pv 3) (fun _ _ => rfl)))) pa_nil)) (pa_cons (pv 5) (pa_cons pe_int pa_nil)))))) pa_nil))))), ?_⟩), T.g_answer_of, T.k_answer_of, b_answer_of F⟩
  · obtain ⟨p, t, g, rfl, _⟩ := h
    rfl
  · obtain ⟨p, t, g, rfl, hT, W, q⟩ := h
    obtain ⟨dx, c, r, u, cs, rs, us, h1, h2, h3, h4, h5, h6, h7⟩ := hT.ex
    refine ⟨_, rfl, _, rfl, p, _, dx, _, _, rfl, h1, T.cl_Table, T.n_Table_columns, tbF_columns c r u, ?_⟩
    refine ⟨c, cs, rfl, .inl (SqL.of h2), g, cs.length, rfl, ?_, fun H1 C s1 n1 e1 => ?_⟩
    · rw [paired_len h3]; exact W.c4
    refine ⟨_, rfl, p, _, dx, _, _, rfl, s1 _ _ h1, T.cl_Table, T.n_Table_rows, tbF_rows c r u, r, rfl, ⟨_, SqL.of (s1 _ _ h4)⟩, fun D nD => ?_⟩
    rw [paired_len h3] at e1
    have hrs : ∀ {H'}, Same H1 H' → H' r = some (.lst rs) := fun s => s _ _ (s1 _ _ h4)
    have lr : rs.length = t.rows.length := paired_len h5
    refine lc_it walk_list (LcI H1 D (fun i H' y => ∃ x, t.rows[i]? = some x ∧ LnAt H' y ⟨Vamvsa.keyOf t.cols.length g x.vs, x.m, 1⟩) fun _ => true) (LcI.start nD) (fun i H' _ I => SqL.of (hrs I.1)) (fun i x H5 H6 hi I ⟨e, hx⟩ => ?_) fun H5 I => ?_
    · subst e
      obtain ⟨y, hy, Ly⟩ := paired_get h5 hx
      obtain ⟨tr, k, rfl, ht, hk⟩ := Ly.mono (.of (s1.trans I.1))
      refine ⟨tr, _, rfl, SqT.of ht, rfl, ?_⟩
      refine ⟨_, _, rfl, _, _, rfl, rfl, rfl, ?_⟩
      refine ⟨_, rfl, C, rfl, ⟨_, SqL.of (I.1 _ _ e1)⟩, fun D2 n2 => ?_⟩
      have e6 := I.1 _ _ e1
      have s7 : Same H6 (upd H6 D2 (.lst [])) := same_new n2
      have mr := List.mem_of_getElem? hy
      refine lc_it walk_list (LcI H6 D2 (fun i H' y' => ∃ j, (columnsOf t.cols.length g)[i]? = some j ∧ y' = V.int ((y.vs.getD j 0 : Nat) : Int)) fun _ => true) (LcI.start n2) (fun i H' _ J => SqL.of (J.1 _ _ e6)) (fun m z H7 H8 hm J ⟨e, hz⟩ => ?_) fun H7 J => ?_
      · subst e
        obtain ⟨j, hj, rfl⟩ : ∃ j, (columnsOf t.cols.length g)[m]? = some j ∧ z = V.int ((j : Nat) : Int) := by
          unfold nV at hz
          rw [List.getElem?_map] at hz
          cases e : (columnsOf t.cols.length g)[m]? with
          | none => rw [e] at hz; cases hz
          | some j => rw [e] at hz; cases hz; exact ⟨j, rfl, rfl⟩
        have jl : j < y.vs.length := by
          rw [W.rl y mr]
          exact cols_lt (List.mem_of_getElem? hj)
        have ml : m < 1000 := by
          rw [nV_length] at hm
          have := cols_len t.cols.length g
          have := W.c4
          omega
        refine ⟨rfl, _, rfl, _, rfl, k, _, _, _, rfl, rfl, SqT.of (J.1 _ _ hk), atI_nat (nV_at jl), ?_⟩
        exact J.add n2 (Same.refl _) (fun _ _ _ _ _ h => h) rfl ⟨j, hj, rfl⟩ (Nat.lt_of_lt_of_le ml (small_line (Nat.le_refl _)))
      · obtain ⟨s8, zs, hz, Pz⟩ := J
        rw [all_true, nV_length] at Pz
        have ez : zs = nV (Vamvsa.keyOf t.cols.length g y.vs) := by
          have := map_of (g := fun j => V.int ((y.vs.getD j 0 : Nat) : Int)) (paired_of Pz fun v i ⟨j, h1, h2⟩ => ⟨j, h1, h2⟩)
          rw [this]
          unfold nV Vamvsa.keyOf
          rw [List.map_map]
          rfl
        subst ez
        refine ⟨D2, _, rfl, .inl ⟨SqL.of hz, fun l nl => ?_⟩⟩
        have s9 : Same H7 (upd H7 l (.tup (nV (Vamvsa.keyOf t.cols.length g y.vs)))) := same_new nl
        refine ⟨_, rfl, small_line (by show 3 ≤ 1000; decide), fun t3 n3 => ?_⟩
        have sA := same_new (o := HO.tup [V.ref l, V.int y.m, V.int 1]) n3
        refine I.add nD (s8.trans (s9.trans sA)) (fun _ _ _ _ s ⟨x, h1, h2⟩ => ⟨x, h1, h2.mono s⟩) rfl ⟨y, hy, t3, l, rfl, upd_same, sA _ _ upd_same⟩ ?_
        have := W.r16
        exact Nat.lt_of_lt_of_le (show i < 1000 by omega) (small_line (Nat.le_refl _))
    · obtain ⟨s2, ys, hy, Py⟩ := I
      rw [all_true, lr] at Py
      have Pl : Paired (LnAt H5) ys (rowLines t g) := by
        have ll : (rowLines t g).length = t.rows.length := List.length_map ..
        rw [← ll] at Py
        refine paired_of Py fun v i ⟨x, h1, h2⟩ => ⟨_, ?_, h2⟩
        unfold rowLines
        rw [List.getElem?_map, h1]
        rfl
      exact ⟨D, _, _, ys, rfl, SqL.of hy, Pl, rowLines_dig W g, fun H' p' s3 np hL => q H' p' (s1.trans (s2.trans s3)) (s1.free (s2.free np)) hL⟩
/-! ### can_work_out -/
theorem can_all : ((List.range 5).all fun n => (List.range (2 ^ n)).all fun u => (List.range (2 ^ n)).all fun g => decide (Builtin.bitAnd ((u : Nat) : Int) ((g : Nat) : Int) = ((g : Nat) : Int)) == canFrom n u g) = true := by decide +kernel
theorem can_is {n u g : Nat} (hn : n ≤ 4) (hu : u < 2 ^ n) (hg : g < 2 ^ n) : decide (Builtin.bitAnd ((u : Nat) : Int) ((g : Nat) : Int) = ((g : Nat) : Int)) = canFrom n u g := by
  have h1 := List.all_eq_true.mp can_all n (List.mem_range.mpr (by omega))
  have h2 := List.all_eq_true.mp h1 u (List.mem_range.mpr hu)
  have h3 := List.all_eq_true.mp h2 g (List.mem_range.mpr hg)
  exact eq_of_beq h3
def spCan : Sp := fun vs H Q _ => ∃ n u g : Nat, vs = [.int ((u : Nat) : Int), .int ((g : Nat) : Int)] ∧ n ≤ 4 ∧ u < 2 ^ n ∧ g < 2 ^ n ∧ Q (.bl (canFrom n u g)) H
theorem c_can_work_out (T : Txt K mg) : CalX P w K mg base CX0 1 "can_work_out" spCan := by
  obtain ⟨fd, F⟩ := T.F_can_work_out
  refine ⟨_, fd, _, F.ok sc_can_work_out (fun vs H Q E h => ?_) (fun cdv A outer s H vs Q E hr h => ⟨_, (pss_one (ps_ret (pe_cmpR op_eq (pe_op op_and (pv 0) (pv 1)) (pv 1) (nomark _)))), ?_⟩), T.g_can_work_out, T.k_can_work_out, b_can_work_out F⟩
  · obtain ⟨n, u, g, rfl, _⟩ := h
    rfl
  · obtain ⟨n, u, g, rfl, hn, hu, hg, q⟩ := h
    refine ⟨_, rfl, _, rfl, _, _, rfl, rfl, _, rfl, rfl, ?_⟩
    show Q (.bl (decide (V.int (Builtin.bitAnd ((u : Nat) : Int) ((g : Nat) : Int)) = V.int ((g : Nat) : Int)))) H
    have e : decide (V.int (Builtin.bitAnd ((u : Nat) : Int) ((g : Nat) : Int)) = V.int ((g : Nat) : Int)) = canFrom n u g := by
      rw [dec_int, ← can_is hn hu hg]
      exact Bool.eq_iff_iff.mpr (by simp)
    rw [e]
    exact q
/-! ### rolled -/
def rollLines (n u g : Nat) (l : List Group) : List Group := l.map fun x => ⟨(columnsOf n g).map fun i => x.key.getD ((columnsOf n u).findIdx fun c => c == i) 0, x.sum, x.n⟩
theorem rollLines_dig {n u g d : Nat} {l : List Group} (hd : Dig d l) : Dig (columnsOf n g).length (rollLines n u g l) where
  few := by
    unfold rollLines
    rw [List.length_map]
    exact hd.few
  len x hx := by
    obtain ⟨r, _, rfl⟩ := List.mem_map.mp hx
    exact List.length_map ..
  dig x hx v hv := by
    obtain ⟨r, hr, rfl⟩ := List.mem_map.mp hx
    obtain ⟨i, _, rfl⟩ := List.mem_map.mp hv
    exact getD_le (hd.dig r hr) _
def spRolled (K : PySem.W.Frag) : Sp := fun vs H Q _ => ∃ a l n u g, vs = [.ref a, .int ((u : Nat) : Int), .int ((g : Nat) : Int), .int ((n : Nat) : Int)] ∧ LsAt H a l ∧ Dig (columnsOf n u).length l ∧ n ≤ 4 ∧ canFrom n u g = true ∧
  ∀ H' q, Same H H' → H q = none → LsAt H' q (Vamvsa.rolled n u g l) → Q (.ref q) H'
abbrev sc_rolled_in : Scope := { kind := .function, names := [(".0", .local), ("numbers", .cell), ("much", .local), ("rows", .local), ("tuple", .globalImplicit), ("places", .free)], isGenerator := false, isCoroutine := false }
theorem flat_nV (l : List Nat) : (nV l).all flatV = true := by
  unfold nV
  rw [List.all_map]
  exact List.all_eq_true.mpr fun _ _ => rfl
theorem nV_get {l : List Nat} {m : Nat} {z : V} (hz : (nV l)[m]? = some z) : ∃ j, l[m]? = some j ∧ z = V.int ((j : Nat) : Int) := by
  unfold nV at hz
  rw [List.getElem?_map] at hz
  cases e : l[m]? with
  | none => rw [e] at hz; cases hz
  | some j => rw [e] at hz; cases hz; exact ⟨j, rfl, rfl⟩
theorem nV_some {l : List Nat} {m j : Nat} (h : l[m]? = some j) : (nV l)[m]? = some (V.int ((j : Nat) : Int)) := by
  unfold nV
  rw [List.getElem?_map, h]
  rfl
theorem eqV_int (a b : Int) : eqV (.int a) (.int b) = (a == b) := rfl
theorem index_of {l : List Nat} {j : Nat} (h : j ∈ l) : l[l.findIdx fun c => c == j]? = some j ∧ ∀ m i, m < (l.findIdx fun c => c == j) → l[m]? = some i → (i == j) = false := by
  have hx : ∃ x ∈ l, (x == j) = true := ⟨j, h, beq_self_eq_true j⟩
  have hlt := List.findIdx_lt_length_of_exists hx
  refine ⟨?_, fun m i hm hi => ?_⟩
  · rw [List.getElem?_eq_getElem hlt]
    have := List.findIdx_getElem (w := hlt)
    rw [eq_of_beq this]
  · have hl : m < l.length := Nat.lt_trans hm hlt
    have := List.not_of_lt_findIdx hm
    rw [List.getElem?_eq_getElem hl] at hi
    cases hi
    simpa using this
theorem c_rolled (T : Txt K mg) : CalX P w K mg base CX0 2 "rolled" (spRolled K) := by
  obtain ⟨fd, F⟩ := T.F_rolled
  refine ⟨_, fd, _, F.ok sc_rolled (fun vs H Q E h => ?_) (fun cdv A outer s H vs Q E hr h => ⟨_, (pss_cons (ps_set (i := 4) sc_rolled.nd rfl (Or.inr rfl) (pe_cx (c_columns_in T) hr (by decide) pass0 rfl (pa_cons (pv 1) (pa_cons (pv 3) pa_nil))))
    (pss_cons (ps_set (i := 5) sc_rolled.nd rfl (Or.inr rfl) (pe_lc (own := [("at", 6)]) (g := gName 6) (te := tBM K "list" (rIndex K) (tVar 4) (tCons (tVar 6) tNil)) rfl sc_rolled.nd (pi_list (pe_cx (c_columns_in T) hr (by decide) pass0 rfl (pa_cons (pv 2) (pa_cons (pv 3) pa_nil)))) (blkOk_by (N := N_rolled) (sc := defScope s_rolled) (by decide +kernel)) (fun _ _ _ _ _ => (pg_name (i := 6) sc_rolled.nd rfl (Or.inl rfl))) (fun _ _ _ _ _ => pts_nil) (fun _ _ _ _ _ => (pe_bm PySem.F.plainAttrs_list PySem.F.slot_list_index PySem.F.type_list_index (r := rIndex K) mt_index (pv 4) (pa_cons (pv 6) pa_nil)))))
    (pss_one (ps_ret (pe_cx (c_put_together T) hr (by decide) pass0 rfl (pa_cons (pe_lc (own := [("numbers", 7), ("much", 8), ("rows", 9)]) (g := gTup K 3 (gCons (gName 7) (gCons (gName 8) (gCons (gName 9) gNil)))) rfl sc_rolled.nd (pi_list (pv 0)) (blkOk_by (N := N_rolled) (sc := defScope s_rolled) (by decide +kernel)) (fun _ _ _ _ _ => (pg_tup rfl (pgs_cons (pg_name (i := 7) sc_rolled.nd rfl (Or.inr rfl)) (pgs_cons (pg_name (i := 8) sc_rolled.nd rfl (Or.inl rfl)) (pgs_cons (pg_name (i := 9) sc_rolled.nd rfl (Or.inl rfl)) pgs_nil))))) (fun _ _ _ _ _ => pts_nil) (fun _ _ _ _ _ => (pe_tup (pa_cons (pe_callTy (r := rTupOf K) cr_tupOf (by rfl) T.f_tuple (by decide +kernel) (pa_cons (pe_lc (own := [("at", 6)]) (g := gName 6) rfl sc_rolled.nd (wi := iList K (tVar 5)) (pi_list (pv 5)) (blkOk_by (N := N_rolled) (sc := relS sc_rolled_in (defScope s_rolled)) (by decide +kernel)) (fun _ _ _ _ _ => (pg_name (i := 6) sc_rolled.nd rfl (Or.inl rfl))) (fun _ _ _ _ _ => pts_nil) (fun _ _ _ _ _ => (pe_ix (r := rIxT K) ix_tup (pv 7) (pv 6) (fun _ _ => rfl)))) pa_nil)) (pa_cons (pv 8) (pa_cons (pv 9) pa_nil)))))) pa_nil)))))), ?_⟩), T.g_rolled, T.k_rolled, b_rolled F⟩
  · obtain ⟨a, l, n, u, g, rfl, _⟩ := h
    rfl
  · obtain ⟨a, l, n, u, g, rfl, ⟨vs, h1, Pl⟩, hd, hn, hc, q⟩ := h
    refine ⟨_, rfl, _, rfl, u, n, rfl, hn, fun H1 C s1 n1 e1 => ?_⟩
    refine ⟨_, rfl, _, rfl, g, n, rfl, hn, fun H2 C2 s2 n2 e2 => ?_⟩
    refine ⟨C2, rfl, ⟨_, SqL.of e2⟩, fun D nD => ?_⟩
    have e12 := s2 _ _ e1
    have hin : ∀ i ∈ columnsOf n g, i ∈ columnsOf n u := fun i hi => by
      have := List.all_eq_true.mp hc i hi
      simpa using this
    refine lc_it walk_list (LcI H2 D (fun i H' y => ∃ j, (columnsOf n g)[i]? = some j ∧ y = V.int (((columnsOf n u).findIdx fun c => c == j : Nat) : Int)) fun _ => true) (LcI.start nD) (fun i H' _ I => SqL.of (I.1 _ _ e2)) (fun i x H5 H6 hi I ⟨e, hx⟩ => ?_) fun H5 I => ?_
    · subst e
      obtain ⟨j, hj, rfl⟩ := nV_get hx
      obtain ⟨f1, f2⟩ := index_of (hin j (List.mem_of_getElem? hj))
      refine ⟨rfl, _, rfl, .inl ⟨rfl, _, SqL.of (I.1 _ _ e12)⟩, _, rfl, C, _, _, _, _, rfl, rfl, SqL.of (I.1 _ _ e12), rfl, flat_nV _, nV_some f1, beq_self_eq_true _, fun m z hm hz => ?_, ?_⟩
      · obtain ⟨i', hi', rfl⟩ := nV_get hz
        have := f2 m i' hm hi'
        have ne : ¬ i' = j := by simpa using this
        rw [eqV_int]
        exact beq_false_of_ne (by omega)
      · refine I.add nD (Same.refl _) (fun _ _ _ _ _ h => h) rfl ⟨j, hj, rfl⟩ ?_
        have := lt_of_at hj
        have := cols_len n g
        exact Nat.lt_of_lt_of_le (show i < 1000 by omega) (small_line (Nat.le_refl _))
    · obtain ⟨s3, ps, hps, Pp⟩ := I
      rw [all_true, nV_length] at Pp
      have ep : ps = nV ((columnsOf n g).map fun j => (columnsOf n u).findIdx fun c => c == j) := by
        rw [map_of (g := fun j => V.int (((columnsOf n u).findIdx fun c => c == j : Nat) : Int)) (paired_of Pp fun v i ⟨j, h1, h2⟩ => ⟨j, h1, h2⟩)]
        unfold nV
        rw [List.map_map]
        rfl
      subst ep
      have sA := s1.trans (s2.trans s3)
      refine ⟨_, rfl, a, rfl, ⟨_, SqL.of (sA _ _ h1)⟩, fun D2 n2 => ?_⟩
      refine lc_it walk_list (LcI H5 D2 (fun i H' y => ∃ x, (rollLines n u g l)[i]? = some x ∧ LnAt H' y x) fun _ => true) (LcI.start n2) (fun i H' _ I => SqL.of (I.1 _ _ (sA _ _ h1))) (fun i x H6 H7 hi I ⟨e, hx⟩ => ?_) fun H6 I => ?_
      · subst e
        obtain ⟨y, hy, Ly⟩ := paired_get Pl hx
        obtain ⟨tr, k, rfl, ht, hk⟩ := Ly.mono (.of (sA.trans I.1))
        refine ⟨tr, _, rfl, SqT.of ht, rfl, _, _, rfl, _, _, rfl, _, _, rfl, rfl, rfl, ?_⟩
        have ep := I.1 _ _ hps
        refine ⟨_, rfl, D, rfl, ⟨_, SqL.of ep⟩, fun D3 n3 => ?_⟩
        refine lc_it walk_list (LcI H7 D3 (fun i H' y' => ∃ j, (columnsOf n g)[i]? = some j ∧ y' = V.int ((y.key.getD ((columnsOf n u).findIdx fun c => c == j) 0 : Nat) : Int)) fun _ => true) (LcI.start n3) (fun i H' _ J => SqL.of (J.1 _ _ ep)) (fun m z H8 H9 hm J ⟨e, hz⟩ => ?_) fun H8 J => ?_
        · subst e
          obtain ⟨f, hf, rfl⟩ := nV_get hz
          rw [List.getElem?_map] at hf
          obtain ⟨j, hj, ef⟩ := Option.map_eq_some_iff.mp hf
          obtain ⟨f1, _⟩ := index_of (hin j (List.mem_of_getElem? hj))
          have jl : f < y.key.length := by
            rw [hd.len y (List.mem_of_getElem? hy), ← ef]
            exact lt_of_at f1
          refine ⟨rfl, _, rfl, _, rfl, k, _, _, _, rfl, rfl, SqT.of (J.1 _ _ hk), atI_nat (nV_at jl), ?_⟩
          refine J.add n3 (Same.refl _) (fun _ _ _ _ _ h => h) rfl ⟨j, hj, by rw [ef]⟩ ?_
          have := lt_of_at hj
          have := cols_len n g
          exact Nat.lt_of_lt_of_le (show m < 1000 by omega) (small_line (Nat.le_refl _))
        · obtain ⟨s8, zs, hz, Pz⟩ := J
          rw [all_true, nV_length, List.length_map] at Pz
          have ez : zs = nV ((columnsOf n g).map fun j => y.key.getD ((columnsOf n u).findIdx fun c => c == j) 0) := by
            rw [map_of (g := fun j => V.int ((y.key.getD ((columnsOf n u).findIdx fun c => c == j) 0 : Nat) : Int)) (paired_of Pz fun v i ⟨j, h1, h2⟩ => ⟨j, h1, h2⟩)]
            unfold nV
            rw [List.map_map]
            rfl
          subst ez
          refine ⟨D3, _, rfl, .inl ⟨SqL.of hz, fun p np => ?_⟩⟩
          have s9 := same_new (o := HO.tup (nV ((columnsOf n g).map fun j => y.key.getD ((columnsOf n u).findIdx fun c => c == j) 0))) np
          refine ⟨_, rfl, _, rfl, small_line (by show 3 ≤ 1000; decide), fun t3 n3 => ?_⟩
          have sB := same_new (o := HO.tup [V.ref p, V.int y.sum, V.int ((y.n : Nat) : Int)]) n3
          refine I.add n2 (s8.trans (s9.trans sB)) (fun _ _ _ _ s ⟨x, h1, h2⟩ => ⟨x, h1, h2.mono s⟩) rfl ⟨⟨(columnsOf n g).map fun j => y.key.getD ((columnsOf n u).findIdx fun c => c == j) 0, y.sum, y.n⟩, ?_, t3, p, rfl, upd_same, sB _ _ upd_same⟩ ?_
          · unfold rollLines
            rw [List.getElem?_map, hy]
            rfl
          · have := hd.few
            have := lt_of_at hy
            exact Nat.lt_of_lt_of_le (show i < 1000 by omega) (small_line (Nat.le_refl _))
      · obtain ⟨s7, ys, hy, Py⟩ := I
        have lr : vs.length = l.length := paired_len Pl
        have ll : (rollLines n u g l).length = l.length := List.length_map ..
        rw [all_true, lr, ← ll] at Py
        have Pk : Paired (LnAt H6) ys (rollLines n u g l) := paired_of Py fun v i ⟨x, h1, h2⟩ => ⟨x, h1, h2⟩
        exact ⟨D2, _, _, ys, rfl, SqL.of hy, Pk, rollLines_dig hd, fun H' p' s9 np hL => q H' p' (sA.trans (s7.trans s9)) (sA.free (s7.free np)) hL⟩
end Kg
/-! Groups: sizes, what a question reads, what all cost. -/
namespace Kg
open PySem PySem.Spec PyProof.Rows L2
open PySem.W (Datum DatumOrd minOf)
open VamvsBase (Bytes)
open Vamvsa (Group Table columnsOf collect lexLess groupsOf canFrom sizeOf_ reader costOf width)
variable {P : Program} {w : World} {K : PySem.W.Frag} {mg : Str → Option Value} {base : Heap}
def spSize (K : PySem.W.Frag) : Sp := fun vs H Q _ => ∃ p t g, vs = [.ref p, .int ((g : Nat) : Int)] ∧ TabAt (cTab K) H p t ∧ WF t ∧ ∀ H', Same H H' → Q (.int ((sizeOf_ t g : Nat) : Int)) H'
theorem c_size_of (T : Txt K mg) : CalX P w K mg base CX0 3 "size_of" (spSize K) := by
  obtain ⟨fd, F⟩ := T.F_size_of
  refine ⟨_, fd, _, F.ok sc_size_of (fun vs H Q E h => ?_) (fun cdv A outer s H vs Q E hr h => ⟨_, (pss_one (ps_ret (pe_callB call_len_seq (by rfl) T.f_len (by decide +kernel) (pa_cons (pe_cx (c_answer_of T) hr (by decide) pass0 rfl (pa_cons (pv 0) (pa_cons (pv 1) pa_nil))) pa_nil)))), ?_⟩), T.g_size_of, T.k_size_of, b_size_of F⟩
  · obtain ⟨p, t, g, rfl, _⟩ := h
    rfl
  · obtain ⟨p, t, g, rfl, hT, W, q⟩ := h
    refine ⟨_, rfl, _, rfl, p, t, g, rfl, hT, W, fun H1 a s1 n1 ⟨vs, e, Pl⟩ => ⟨a, vs, rfl, .inl (SqL.of e), ?_⟩⟩
    rw [paired_len Pl]
    exact q H1 s1
/-! ### the least pair -/
theorem pair_lt (p q : Int × Int) : DatumOrd.lt p q = if p.1 = q.1 then decide (p.2 < q.2) else decide (p.1 < q.1) := rfl
theorem min_le : ∀ (ps : List (Int × Int)) (p : Int × Int), minOf p ps ∈ p :: ps ∧ ∀ q ∈ p :: ps, (minOf p ps).1 < q.1 ∨ ((minOf p ps).1 = q.1 ∧ (minOf p ps).2 ≤ q.2)
  | [], p => ⟨List.mem_cons_self, fun q hq => by
    rw [List.mem_singleton.mp hq]
    exact .inr ⟨rfl, Int.le_refl _⟩⟩
  | y :: r, p => by
    have e : minOf p (y :: r) = minOf (if DatumOrd.lt y p = true then y else p) r := rfl
    rw [e]
    obtain ⟨h1, h2⟩ := min_le r (if DatumOrd.lt y p = true then y else p)
    by_cases c : DatumOrd.lt y p = true
    · rw [if_pos c] at h1 h2 ⊢
      refine ⟨List.mem_cons_of_mem _ h1, fun q hq => ?_⟩
      rcases List.mem_cons.mp hq with e | hq
      · rw [e]
        have h := h2 y List.mem_cons_self
        rw [pair_lt] at c
        split at c
        · have := of_decide_eq_true c; omega
        · have := of_decide_eq_true c; omega
      · exact h2 q hq
    · rw [if_neg c] at h1 h2 ⊢
      refine ⟨?_, fun q hq => ?_⟩
      · rcases List.mem_cons.mp h1 with e | h1
        · rw [e]; exact List.mem_cons_self
        · exact List.mem_cons_of_mem _ (List.mem_cons_of_mem _ h1)
      · rcases List.mem_cons.mp hq with e | hq
        · rw [e]; exact h2 p List.mem_cons_self
        · rcases List.mem_cons.mp hq with e | hq
          · rw [e]
            have h := h2 p List.mem_cons_self
            rw [pair_lt] at c
            split at c
            · have := of_decide_eq_false (Bool.not_eq_true _ ▸ c); omega
            · have := of_decide_eq_false (Bool.not_eq_true _ ▸ c); omega
          · exact h2 q (List.mem_cons_of_mem _ hq)
def pairOf (t : Table) (u : Nat) : Int × Int := (((sizeOf_ t u : Nat) : Int), ((u : Nat) : Int))
/-- the pairs of what a question may read -/
def pairsOf (t : Table) (k : List Nat) (g : Nat) : List (Int × Int) := (k.filter fun u => canFrom (width t) u g).map (pairOf t)
theorem reader_nil {t : Table} {k : List Nat} {g : Nat} (hk : AllG t k) (h : pairsOf t k g = []) : reader t k g = none := by
  refine reader_of hk fun u hu => ?_
  unfold pairsOf at h
  have h' := List.map_eq_nil_iff.mp h
  have := List.filter_eq_nil_iff.mp h' u hu
  simpa using this
theorem reader_min {t : Table} {k : List Nat} {g : Nat} {p : Int × Int} {ps : List (Int × Int)} (hk : AllG t k) (h : pairsOf t k g = p :: ps) : ∃ v, reader t k g = some v ∧ minOf p ps = pairOf t v ∧ v < 2 ^ width t ∧ canFrom (width t) v g = true := by
  obtain ⟨h1, h2⟩ := min_le ps p
  rw [← h] at h1 h2
  unfold pairsOf at h1 h2
  obtain ⟨v, hv, e⟩ := List.mem_map.mp h1
  obtain ⟨hv1, hv2⟩ := List.mem_filter.mp hv
  refine ⟨v, reader_of hk ⟨hv1, hv2, fun u hu hc => ?_⟩, e.symm, hk v hv1, hv2⟩
  have := h2 (pairOf t u) (List.mem_map.mpr ⟨u, List.mem_filter.mpr ⟨hu, hc⟩, rfl⟩)
  rw [← e] at this
  unfold pairOf at this
  simp only at this
  omega
theorem filter_turns {α : Type} (k : List α) (d : α) (q : α → Bool) : ((List.range k.length).filter fun i => q (k.getD i d)).map (fun i => k.getD i d) = k.filter q := by
  have e : (List.range k.length).map (fun i => k.getD i d) = k := by
    refine List.ext_getElem? fun i => ?_
    rw [List.getElem?_map]
    by_cases h : i < k.length
    · rw [List.getElem?_range h, List.getElem?_eq_getElem h, Option.map_some, List.getD_eq_getElem?_getD, List.getElem?_eq_getElem h]
      rfl
    · rw [List.getElem?_eq_none (by rw [List.length_range]; omega), List.getElem?_eq_none (by omega)]
      rfl
  conv => rhs; rw [← e]
  rw [List.filter_map]
  rfl
theorem paired_map {α β γ : Type} {F : α → γ → Prop} {f : β → γ} : ∀ {l : List α} {m : List β}, Paired (fun a b => F a (f b)) l m → Paired F l (m.map f)
  | _, _, .nil => .nil
  | _, _, .cons h r => .cons h (paired_map r)
theorem pairs_lay : ∀ l : List (Int × Int), PyData.canLayAll0 (l.map Datum.toD) = true
  | [] => rfl
  | b :: r => by
    show (PyData.canLay0 (Datum.toD b) && PyData.canLayAll0 (r.map Datum.toD)) = true
    rw [pairs_lay r]
    rfl
theorem pairs_depth : ∀ l : List (Int × Int), PyData.depthAll (l.map Datum.toD) ≤ 1
  | [] => by simp only [List.map_nil, PyData.depthAll]; omega
  | b :: r => by
    rw [List.map_cons, PyData.depthAll]
    have := pairs_depth r
    have e : (Datum.toD b : PyData).depth = 1 := by
      show (PyData.tuple [.int b.1, .int b.2]).depth = 1
      simp [PyData.depth, PyData.depthAll]
    omega
theorem pairs_shaped (l : List (Int × Int)) : SeqAt.shaped (.list (l.map Datum.toD)) = true := by
  unfold SeqAt.shaped
  have h := pairs_depth l
  have e : (PyData.list (l.map Datum.toD)).canLay0 = true := pairs_lay l
  rw [e, PyData.depth]
  simp only [Bool.true_and, decide_eq_true_eq]
  omega
theorem eqv_nil (l : List (Int × Int)) : PyData.eqv (.list (l.map Datum.toD)) (.list []) = decide (l = []) := by
  cases l with
  | nil => rfl
  | cons a r => rfl
/-! ### reads -/
def rdV : Option Nat → V
  | none => .non
  | some v => .int ((v : Nat) : Int)
def spReads (K : PySem.W.Frag) : Sp := fun vs H Q _ => ∃ p a t k g, vs = [.ref p, .ref a, .int ((g : Nat) : Int)] ∧ TabAt (cTab K) H p t ∧ WF t ∧ SqL K H a (nV k) ∧ k.length ≤ 100 ∧ AllG t k ∧ g < 2 ^ width t ∧
  ∀ H' q, Same H H' → H q = none → H' q = some (.tup [rdV (reader t k g), .int ((costOf t k g : Nat) : Int)]) → Q (.ref q) H'
theorem c_reads (T : Txt K mg) : CalX P w K mg base CX0 4 "reads" (spReads K) := by
  obtain ⟨fd, F⟩ := T.F_reads
  refine ⟨_, fd, _, F.ok sc_reads (fun vs H Q E h => ?_) (fun cdv A outer s H vs Q E hr h => ⟨_, (pss_cons (ps_setLc (i := 3) (own := [("own", 4)]) (g := gName 4) rfl sc_reads.nd rfl rfl (sw_true rfl rfl rfl (by decide +kernel)) (pi_list (pv 1)) (blkOk_by (N := N_reads) (sc := defScope s_reads) (by decide +kernel)) (fun _ _ _ _ _ => (pg_name (i := 4) sc_reads.nd rfl (Or.inl rfl))) (fun _ _ _ _ _ => (pts_one (pt_val (pe_cx (c_can_work_out T) hr (by decide) pass0 rfl (pa_cons (pv 4) (pa_cons (pv 2) pa_nil)))))) (fun _ _ _ _ _ => (pe_tup (pa_cons (pe_cx (c_size_of T) hr (by decide) pass0 rfl (pa_cons (pv 0) (pa_cons (pv 4) pa_nil))) (pa_cons (pv 4) pa_nil)))))
    (pss_cons (ps_if (pt_cmpR (op_eqD (hu64 hr)) (pv 3) (pe_lst pa_nil) (nomark _)) (pss_one (ps_ret (pe_tup (pa_cons pe_non (pa_cons (pe_callB call_len_seq (by rfl) T.f_len (by decide +kernel) (pa_cons (pe_fld (pv 0) rfl) pa_nil)) pa_nil))))) pss_nil)
    (pss_cons (ps_asg (pe_callB (cr_minP rfl (hu100 hr)) (by rfl) T.f_min (by decide +kernel) (pa_cons (pv 3) pa_nil)) (pg_tup rfl (pgs_cons (pg_name (i := 5) sc_reads.nd rfl (Or.inl rfl)) (pgs_cons (pg_name (i := 4) sc_reads.nd rfl (Or.inl rfl)) pgs_nil))))
    (pss_one (ps_ret (pe_tup (pa_cons (pv 4) (pa_cons (pv 5) pa_nil)))))))), ?_⟩), T.g_reads, T.k_reads, b_reads F⟩
  · obtain ⟨p, a, t, k, g, rfl, _⟩ := h
    rfl
  · obtain ⟨p, a, t, k, g, rfl, hT, W, hS, hk, hG, hg, q⟩ := h
    refine ⟨_, rfl, a, rfl, ⟨_, hS⟩, fun D nD => ?_⟩
    refine lc_it walk_list (LcI H D (fun i H' y => ∃ tt, y = .ref tt ∧ H' tt = some (.tup [.int ((sizeOf_ t (k.getD i 0) : Nat) : Int), .int ((k.getD i 0 : Nat) : Int)])) fun i => canFrom (width t) (k.getD i 0) g) (LcI.start nD) (fun i H' _ I => I.1.seq hS) (fun i x H5 H6 hi I ⟨e, hx⟩ => ?_) fun H5 I => ?_
    · subst e
      obtain ⟨u, hu, rfl⟩ := nV_get hx
      have eu : k.getD i 0 = u := by rw [List.getD_eq_getElem?_getD, hu]; rfl
      have hu2 := hG u (List.mem_of_getElem? hu)
      have mono : ∀ (j : Nat) (H H' : Hp) (y : V), Tups H H' → (∃ tt, y = .ref tt ∧ H tt = some (.tup [.int ((sizeOf_ t (k.getD j 0) : Nat) : Int), .int ((k.getD j 0 : Nat) : Int)])) → ∃ tt, y = .ref tt ∧ H' tt = some (.tup [.int ((sizeOf_ t (k.getD j 0) : Nat) : Int), .int ((k.getD j 0 : Nat) : Int)]) := fun j H H' y s ⟨tt, e, h⟩ => ⟨tt, e, s _ _ h⟩
      refine ⟨rfl, _, rfl, _, rfl, width t, u, g, rfl, W.c4, hu2, hg, _, rfl, ?_⟩
      refine if_b (fun c => ?_) fun c => ?_
      · refine ⟨_, rfl, _, rfl, p, t, u, rfl, hT.mono I.1, W, fun H7 s7 => ⟨_, rfl, small_line (by show 2 ≤ 1000; decide), fun tt nt => ?_⟩⟩
        refine I.add nD (s7.trans (same_new nt)) mono (by rw [eu]; exact c) ⟨tt, rfl, by rw [eu]; exact upd_same⟩ ?_
        have := lt_of_at hu
        exact Nat.lt_of_lt_of_le (show i < 1000 by omega) (small_line (Nat.le_refl _))
      · exact I.skip (Same.refl _) mono (by rw [eu]; exact c)
    · obtain ⟨s1, ys, hy, Py⟩ := I
      rw [nV_length] at Py
      have Pp : Paired (PairAt K H5) ys (pairsOf t k g) := by
        unfold pairsOf
        have e := filter_turns k 0 fun u => canFrom (width t) u g
        rw [← e, List.map_map]
        exact paired_map (paired_imp (fun y i ⟨tt, e, h⟩ => ⟨tt, e, SqT.of h⟩) Py)
      refine ⟨_, rfl, Nat.zero_le _, fun c nc => ?_⟩
      have s2 : Same H5 (upd H5 c (.lst [])) := same_new nc
      refine ⟨.list ((pairsOf t k g).map Datum.toD), .list ([].map Datum.toD), ?_, .lst (SqL.of upd_same) .nil, pairs_shaped _, pairs_shaped [], ?_⟩
      · exact .lst (SqL.of (s2 _ _ hy)) (pairs_dp (paired_imp (fun y b ⟨tt, e, h⟩ => ⟨tt, e, seqT_same s2 h⟩) Pp))
      refine ⟨_, rfl, ?_⟩
      rw [show PyData.eqv (.list ((pairsOf t k g).map Datum.toD)) (.list ([].map (Datum.toD : Int × Int → PyData))) = decide (pairsOf t k g = []) from eqv_nil _]
      have s12 : Same H (upd H5 c (.lst [])) := s1.trans s2
      refine if_d (fun c0 => ?_) fun c0 => ?_
      · obtain ⟨dx, cc, r, u, cs, rs, us, h1, h2, h3, h4, h5, h6, h7⟩ := hT.ex
        refine ⟨_, rfl, p, _, dx, _, _, rfl, s12 _ _ h1, T.cl_Table, T.n_Table_rows, tbF_rows cc r u, r, rs, rfl, .inl (SqL.of (s12 _ _ h4)), small_line (by show 2 ≤ 1000; decide), fun tt nt => ?_⟩
        refine q _ tt (s12.trans (same_new nt)) (s12.free nt) ?_
        have e := reader_nil hG c0
        have e2 : costOf t k g = t.rows.length := by unfold costOf; rw [e]
        rw [e, e2, upd_same, paired_len h5]
        rfl
      · obtain ⟨x, xs, ep⟩ : ∃ x xs, pairsOf t k g = x :: xs := by
          cases e : pairsOf t k g with
          | nil => exact absurd e c0
          | cons x xs => exact ⟨x, xs, rfl⟩
        obtain ⟨v, e1, e2, _, _⟩ := reader_min hG ep
        refine ⟨_, rfl, D, ys, x, xs, rfl, SqL.of (s2 _ _ hy), ?_, fun z hz => ?_⟩
        · rw [← ep]
          exact paired_imp (fun y b ⟨tt, e, h⟩ => ⟨tt, e, seqT_same s2 h⟩) Pp
        · obtain ⟨tt, rfl, hz⟩ := hz
          rw [e2] at hz
          refine ⟨tt, _, rfl, hz, rfl, _, _, rfl, _, _, rfl, rfl, ?_⟩
          refine ⟨_, rfl, _, rfl, small_line (by show 2 ≤ 1000; decide), fun t2 n2 => ?_⟩
          refine q _ t2 (s12.trans (same_new n2)) (s12.free n2) ?_
          have e3 : costOf t k g = sizeOf_ t v := by unfold costOf; rw [e1]
          rw [e1, e3, upd_same]
          rfl
/-! ### cost_of -/
def spCost (K : PySem.W.Frag) : Sp := fun vs H Q _ => ∃ p a t k, vs = [.ref p, .ref a] ∧ TabAt (cTab K) H p t ∧ WF t ∧ SqL K H a (nV k) ∧ k.length ≤ 100 ∧ AllG t k ∧ ∀ H', Same H H' → Q (.int ((Vamvsa.total t k : Nat) : Int)) H'
theorem sum_cast : ∀ l : List Nat, (l.map fun n => ((n : Nat) : Int)).sum = ((l.sum : Nat) : Int)
  | [] => rfl
  | a :: r => by
    rw [List.map_cons, List.sum_cons, List.sum_cons, sum_cast r]
    push_cast
    rfl
theorem c_cost_of (T : Txt K mg) : CalX P w K mg base CX0 5 "cost_of" (spCost K) := by
  obtain ⟨fd, F⟩ := T.F_cost_of
  refine ⟨_, fd, _, F.ok sc_cost_of (fun vs H Q E h => ?_) (fun cdv A outer s H vs Q E hr h => ⟨_, (pss_one (ps_ret (pe_callB (cr_sum rfl) (by rfl) T.f_sum (by decide +kernel) (pa_cons (pe_lc (own := [("grouping", 2), ("times", 3)]) (g := gTup K 2 (gCons (gName 2) (gCons (gName 3) gNil))) rfl sc_cost_of.nd (pi_list (pe_fld (pv 0) rfl)) (blkOk_by (N := N_cost_of) (sc := defScope s_cost_of) (by decide +kernel)) (fun _ _ _ _ _ => (pg_tup rfl (pgs_cons (pg_name (i := 2) sc_cost_of.nd rfl (Or.inl rfl)) (pgs_cons (pg_name (i := 3) sc_cost_of.nd rfl (Or.inl rfl)) pgs_nil)))) (fun _ _ _ _ _ => pts_nil) (fun _ _ _ _ _ => (pe_op op_mul (pv 3) (pe_ix (r := rIxT K) ix_tup (pe_cx (c_reads T) hr (by decide) pass0 rfl (pa_cons (pv 0) (pa_cons (pv 1) (pa_cons (pv 2) pa_nil)))) pe_int (fun _ _ => rfl))))) pa_nil)))), ?_⟩), T.g_cost_of, T.k_cost_of, b_cost_of F⟩
  · obtain ⟨p, a, t, k, rfl, _⟩ := h
    rfl
  · obtain ⟨p, a, t, k, rfl, hT, W, hS, hk, hG, q⟩ := h
    obtain ⟨dx, cc, r, u, cs, rs, us, h1, h2, h3, h4, h5, h6, h7⟩ := hT.ex
    refine ⟨_, rfl, p, _, dx, _, _, rfl, h1, T.cl_Table, T.n_Table_questions, tbF_questions cc r u, u, rfl, ⟨_, SqL.of h6⟩, fun D nD => ?_⟩
    refine lc_it walk_list (LcI H D (fun i H' y => ∃ x, t.asks[i]? = some x ∧ y = V.int ((x.k * costOf t k x.g : Nat) : Int)) fun _ => true) (LcI.start nD) (fun i H' _ I => SqL.of (I.1 _ _ h6)) (fun i x H5 H6 hi I ⟨e, hx⟩ => ?_) fun H5 I => ?_
    · subst e
      obtain ⟨y, hy, Ay⟩ := paired_get h7 hx
      obtain ⟨ta, rfl, hta⟩ := Ay.mono (.of I.1)
      have my := List.mem_of_getElem? hy
      refine ⟨ta, _, rfl, SqT.of hta, rfl, _, _, rfl, _, _, rfl, rfl, rfl, _, rfl, _, rfl, _, rfl, _, rfl, p, a, t, k, y.g, rfl, hT.mono I.1, W, I.1.seq hS, hk, hG, W.ag y my, fun H7 tt s7 nt e7 => ?_⟩
      refine ⟨tt, _, _, _, rfl, rfl, SqT.of e7, atI_nat (j := 1) rfl, _, _, rfl, rfl, .inl ?_, ?_⟩
      · have := W.ak y my
        omega
      refine I.add nD s7 (fun _ _ _ _ _ h => h) rfl ⟨y, hy, ?_⟩ ?_
      · rw [Int.natCast_mul]
      · have := W.a8
        have := lt_of_at hy
        exact Nat.lt_of_lt_of_le (show i < 1000 by omega) (small_line (Nat.le_refl _))
    · obtain ⟨s1, ys, hy, Py⟩ := I
      rw [all_true, paired_len h7] at Py
      have e : ys = ((t.asks.map fun x => x.k * costOf t k x.g).map fun n => ((n : Nat) : Int)).map V.int := by
        rw [map_of (g := fun x : Vamvsa.Ask => V.int ((x.k * costOf t k x.g : Nat) : Int)) (paired_of Py fun v i ⟨x, h1, h2⟩ => ⟨x, h1, h2⟩), List.map_map, List.map_map]
        rfl
      subst e
      refine ⟨D, _, rfl, SqL.of hy, ?_⟩
      rw [sum_cast]
      exact q H5 s1
/-! ### worked_out -/
def spWork (K : PySem.W.Frag) : Sp := fun vs H Q _ => ∃ p a t k g, vs = [.ref p, .ref a, .int ((g : Nat) : Int)] ∧ TabAt (cTab K) H p t ∧ WF t ∧ SqL K H a (nV k) ∧ k.length ≤ 100 ∧ AllG t k ∧ g < 2 ^ width t ∧
  ∀ H' q, Same H H' → H q = none → LsAt H' q (Vamvsa.answerOf t k g) → Q (.ref q) H'
theorem reader_good {t : Table} {k : List Nat} {g v : Nat} (h : reader t k g = some v) : v ∈ k ∧ v < 2 ^ width t ∧ canFrom (width t) v g = true := by
  have b := Kg.reader_best t k g
  rw [h] at b
  exact ⟨(Kg.mem_sorted.mp b.1).2, (Kg.mem_sorted.mp b.1).1, b.2.1⟩
theorem putGroup_len (x : Group) : ∀ l : List Group, (Vamvsa.putGroup x l).length ≤ l.length + 1
  | [] => Nat.le_refl _
  | y :: r => by
    unfold Vamvsa.putGroup
    split
    · simp
    · split
      · simp
      · have := putGroup_len x r
        simp only [List.length_cons]
        omega
theorem fold_len : ∀ (l r : List Group), (l.foldl (fun r x => Vamvsa.putGroup x r) r).length ≤ r.length + l.length
  | [], _ => Nat.le_refl _
  | x :: s, r => by
    have := fold_len s (Vamvsa.putGroup x r)
    have := putGroup_len x r
    simp only [List.foldl_cons, List.length_cons]
    omega
theorem collect_len (l : List Group) : (Vamvsa.collect l).length ≤ l.length := by
  have := fold_len l []
  unfold Vamvsa.collect
  simpa using this
theorem collect_keys {d : Nat} {l : List Group} (hd : Dig d l) : Dig d (Vamvsa.collect l) := by
  obtain ⟨h1, h2, h3⟩ := collect_is l hd.len
  refine ⟨Nat.le_trans (collect_len l) hd.few, h2, fun y hy v hv => ?_⟩
  have e := asc_look h1 hy
  rw [h3 y.key] at e
  by_cases c : l.any (fun z => z.key = y.key) = true
  · obtain ⟨z, hz, ez⟩ := List.any_eq_true.mp c
    have ez : z.key = y.key := by simpa using ez
    exact hd.dig z hz v (by rw [ez]; exact hv)
  · rw [if_neg c] at e
    cases e
theorem groups_dig {t : Table} (W : WF t) (g : Nat) : Dig (columnsOf t.cols.length g).length (groupsOf t g) := collect_keys (rowLines_dig W g)
theorem c_worked_out (T : Txt K mg) : CalX P w K mg base CX0 5 "worked_out" (spWork K) := by
  obtain ⟨fd, F⟩ := T.F_worked_out
  refine ⟨_, fd, _, F.ok sc_worked_out (fun vs H Q E h => ?_) (fun cdv A outer s H vs Q E hr h => ⟨_, (pss_cons (ps_asg (pe_cx (c_reads T) hr (by decide) pass0 rfl (pa_cons (pv 0) (pa_cons (pv 1) (pa_cons (pv 2) pa_nil)))) (pg_tup rfl (pgs_cons (pg_name (i := 3) sc_worked_out.nd rfl (Or.inl rfl)) (pgs_cons (pg_name (i := 4) sc_worked_out.nd rfl (Or.inl rfl)) pgs_nil))))
    (pss_cons (ps_if (pt_cmpR op_isN (pv 3) pe_non (nomark _)) (pss_one (ps_ret (pe_cx (c_answer_of T) hr (by decide) pass0 rfl (pa_cons (pv 0) (pa_cons (pv 2) pa_nil))))) pss_nil)
    (pss_one (ps_ret (pe_cx (c_rolled T) hr (by decide) pass0 rfl (pa_cons (pe_cx (c_answer_of T) hr (by decide) pass0 rfl (pa_cons (pv 0) (pa_cons (pv 3) pa_nil))) (pa_cons (pv 3) (pa_cons (pv 2) (pa_cons (pe_callB call_len_seq (by rfl) T.f_len (by decide +kernel) (pa_cons (pe_fld (pv 0) rfl) pa_nil)) pa_nil))))))))), ?_⟩), T.g_worked_out, T.k_worked_out, b_worked_out F⟩
  · obtain ⟨p, a, t, k, g, rfl, _⟩ := h
    rfl
  · obtain ⟨p, a, t, k, g, rfl, hT, W, hS, hk, hG, hg, q⟩ := h
    refine ⟨_, rfl, _, rfl, _, rfl, p, a, t, k, g, rfl, hT, W, hS, hk, hG, hg, fun H1 tt s1 nt e1 => ?_⟩
    refine ⟨tt, _, rfl, SqT.of e1, rfl, _, _, rfl, _, _, rfl, rfl, ?_⟩
    cases e : reader t k g with
    | none =>
      have e2 : Vamvsa.answerOf t k g = groupsOf t g := by unfold Vamvsa.answerOf; rw [e]
      rw [e2] at q
      refine ⟨_, rfl, rfl, _, rfl, ?_⟩
      refine ⟨_, rfl, _, rfl, p, t, g, rfl, hT.mono s1, W, fun H2 r s2 n2 h2 => q H2 r (s1.trans s2) (s1.free n2) h2⟩
    | some v =>
      obtain ⟨_, hv, hc⟩ := reader_good e
      have e2 : Vamvsa.answerOf t k g = Vamvsa.rolled (width t) v g (groupsOf t v) := by unfold Vamvsa.answerOf; rw [e]
      rw [e2] at q
      obtain ⟨dx, cc, r, u, cs, rs, us, h1, h2, h3, h4, h5, h6, h7⟩ := hT.ex
      refine ⟨_, rfl, rfl, _, rfl, ?_⟩
      refine ⟨_, rfl, _, rfl, p, t, v, rfl, hT.mono s1, W, fun H2 r2 s2 n2 hL => ?_⟩
      have s12 := s1.trans s2
      refine ⟨_, rfl, _, rfl, _, rfl, p, _, dx, _, _, rfl, s12 _ _ h1, T.cl_Table, T.n_Table_columns, tbF_columns cc r u, cc, cs, rfl, .inl (SqL.of (s12 _ _ h2)), ?_⟩
      refine ⟨r2, groupsOf t v, width t, v, g, ?_, hL, groups_dig W v, W.c4, hc, fun H3 r3 s3 n3 h3 => q H3 r3 (s12.trans s3) (s12.free n3) h3⟩
      rw [paired_len h3]
      rfl
/-! ### lines_kept -/
def spKept (K : PySem.W.Frag) : Sp := fun vs H Q _ => ∃ p a t k, vs = [.ref p, .ref a] ∧ TabAt (cTab K) H p t ∧ WF t ∧ SqL K H a (nV k) ∧ k.length ≤ 100 ∧ ∀ H', Same H H' → Q (.int (((k.map (sizeOf_ t)).sum : Nat) : Int)) H'
theorem c_lines_kept (T : Txt K mg) : CalX P w K mg base CX0 4 "lines_kept" (spKept K) := by
  obtain ⟨fd, F⟩ := T.F_lines_kept
  refine ⟨_, fd, _, F.ok sc_lines_kept (fun vs H Q E h => ?_) (fun cdv A outer s H vs Q E hr h => ⟨_, (pss_one (ps_ret (pe_callB (cr_sum rfl) (by rfl) T.f_sum (by decide +kernel) (pa_cons (pe_lc (own := [("own", 2)]) (g := gName 2) rfl sc_lines_kept.nd (pi_list (pv 1)) (blkOk_by (N := N_lines_kept) (sc := defScope s_lines_kept) (by decide +kernel)) (fun _ _ _ _ _ => (pg_name (i := 2) sc_lines_kept.nd rfl (Or.inl rfl))) (fun _ _ _ _ _ => pts_nil) (fun _ _ _ _ _ => (pe_cx (c_size_of T) hr (by decide) pass0 rfl (pa_cons (pv 0) (pa_cons (pv 2) pa_nil))))) pa_nil)))), ?_⟩), T.g_lines_kept, T.k_lines_kept, b_lines_kept F⟩
  · obtain ⟨p, a, t, k, rfl, _⟩ := h
    rfl
  · obtain ⟨p, a, t, k, rfl, hT, W, hS, hk, q⟩ := h
    refine ⟨_, rfl, a, rfl, ⟨_, hS⟩, fun D nD => ?_⟩
    refine lc_it walk_list (LcI H D (fun i H' y => ∃ x, k[i]? = some x ∧ y = V.int ((sizeOf_ t x : Nat) : Int)) fun _ => true) (LcI.start nD) (fun i H' _ I => I.1.seq hS) (fun i x H5 H6 hi I ⟨e, hx⟩ => ?_) fun H5 I => ?_
    · subst e
      obtain ⟨u, hu, rfl⟩ := nV_get hx
      refine ⟨rfl, _, rfl, _, rfl, p, t, u, rfl, hT.mono I.1, W, fun H7 s7 => ?_⟩
      refine I.add nD s7 (fun _ _ _ _ _ h => h) rfl ⟨u, hu, rfl⟩ ?_
      have := lt_of_at hu
      exact Nat.lt_of_lt_of_le (show i < 1000 by omega) (small_line (Nat.le_refl _))
    · obtain ⟨s1, ys, hy, Py⟩ := I
      rw [all_true, nV_length] at Py
      have e : ys = ((k.map (sizeOf_ t)).map fun n => ((n : Nat) : Int)).map V.int := by
        rw [map_of (g := fun x => V.int ((sizeOf_ t x : Nat) : Int)) (paired_of Py fun v i ⟨x, h1, h2⟩ => ⟨x, h1, h2⟩), List.map_map, List.map_map]
        rfl
      subst e
      refine ⟨D, _, rfl, SqL.of hy, ?_⟩
      rw [sum_cast]
      exact q H5 s1
end Kg
/-! Texts of numbers. -/
namespace Kg
open PySem PySem.Spec PyProof.Rows L2
open VamvsBase (Bytes joined word showNat showInt)
variable {P : Program} {w : World} {K : PySem.W.Frag} {mg : Str → Option Value} {base : Heap}
/-! ### texts of numbers -/
def codeN (z : Str) : List Int := z.cps.toList.map fun c => ((c : Nat) : Int)
theorem codeN_all : ((List.range 2001).all fun n => decide (codeN (toString (((n : Nat) : Int) - 1000)) = (showInt (((n : Nat) : Int) - 1000)).map fun c => ((c.toNat : Nat) : Int)) && decide ((showInt (((n : Nat) : Int) - 1000)).length ≤ 5)) = true := by decide +kernel
theorem codeV_N (z : Str) : codeV z = (codeN z).map V.int := by
  unfold codeV codeN
  rw [List.map_map]
  rfl
theorem code_num {i : Int} (h1 : -1000 ≤ i) (h2 : i ≤ 1000) : codeV (toString i) = bV (showInt i) ∧ (showInt i).length ≤ 5 := by
  have h := List.all_eq_true.mp codeN_all (i + 1000).toNat (List.mem_range.mpr (by omega))
  have e : (((i + 1000).toNat : Nat) : Int) - 1000 = i := by omega
  rw [e] at h
  simp only [Bool.and_eq_true, decide_eq_true_eq] at h
  refine ⟨?_, h.2⟩
  rw [codeV_N, h.1, List.map_map]
  rfl
theorem code_nat {n : Nat} (h : n ≤ 1000) : codeV (toString ((n : Nat) : Int)) = bV (showNat n) ∧ (showNat n).length ≤ 5 := by
  have := code_num (i := ((n : Nat) : Int)) (by omega) (by omega)
  have e : showInt ((n : Nat) : Int) = showNat n := by
    unfold showInt
    rw [if_neg (by omega), Int.natAbs_natCast]
  rw [e] at this
  exact this
theorem codeV_app (a b : Str) : codeV (a ++ b) = codeV a ++ codeV b := by
  unfold codeV
  rw [← List.map_append]
  congr 1
  show (a.cps ++ b.cps).toList = _
  rw [Array.toList_append]
theorem bV_app (a b : Bytes) : bV (a ++ b) = bV a ++ bV b := List.map_append
theorem len_code {z : Str} {b : Bytes} (h : codeV z = bV b) : z.length = b.length := by
  have e : (codeV z).length = z.length := by
    unfold codeV
    rw [List.length_map]
    rfl
  rw [← e, h, bV_length]
theorem log_few {i : Int} (h1 : -1000 ≤ i) (h2 : i ≤ 1000) : i.natAbs.log2 < 1920 := by
  have := Nat.log2_le_self i.natAbs
  omega
end Kg
/-! A table's one form. -/
namespace Kg
open PySem PySem.Spec PyProof.Rows L2
open VamvsBase (Bytes joined word showNat showInt)
open Vamvsa (Group Table columnsOf commas showRow showAsk shown width)
variable {P : Program} {w : World} {K : PySem.W.Frag} {mg : Str → Option Value} {base : Heap}
/-! ### with_commas -/
theorem joined_snoc (sep : Bytes) (x : Bytes) : ∀ l : List Bytes, joined sep (l ++ [x]) = if l = [] then x else joined sep l ++ (sep ++ x)
  | [] => rfl
  | [a] => by
    show a ++ sep ++ x = a ++ (sep ++ x)
    rw [List.append_assoc]
  | a :: b :: r => by
    have ih := joined_snoc sep x (b :: r)
    rw [if_neg (by simp)] at ih ⊢
    show a ++ sep ++ joined sep (b :: r ++ [x]) = a ++ sep ++ joined sep (b :: r) ++ (sep ++ x)
    rw [ih, List.append_assoc (a ++ sep)]
theorem joined_len {sep : Bytes} {m : Nat} : ∀ {l : List Bytes}, (∀ x ∈ l, x.length ≤ m) → (joined sep l).length ≤ l.length * (m + sep.length)
  | [], _ => Nat.zero_le _
  | [x], h => by
    have := h x (by simp)
    show x.length ≤ 1 * (m + sep.length)
    omega
  | x :: y :: r, h => by
    have ih := joined_len (sep := sep) (m := m) (l := y :: r) fun z hz => h z (List.mem_cons_of_mem _ hz)
    have := h x (by simp)
    show (x ++ sep ++ joined sep (y :: r)).length ≤ ((y :: r).length + 1) * (m + sep.length)
    rw [List.length_append, List.length_append, Nat.succ_mul]
    omega
def spCommas (K : PySem.W.Frag) : Sp := fun vs H Q _ => ∃ a us l, vs = [.ref a] ∧ SqL K H a us ∧ Paired (ByAt H) us l ∧ l.length ≤ 4 ∧ (∀ x ∈ l, x.length ≤ 16) ∧ ∀ H' q, Same H H' → H q = none → H' q = some (.lst (bV (commas l))) → Q (.ref q) H'
theorem commas_len {l : List Bytes} (h4 : l.length ≤ 4) (h : ∀ x ∈ l, x.length ≤ 16) : (commas l).length ≤ 72 := by
  have := joined_len (sep := word ", ") h
  have e : (word ", ").length = 2 := by decide
  rw [e] at this
  unfold commas
  omega
theorem c_with_commas (T : Txt K mg) : CalX P w K mg base CX0 2 "with_commas" (spCommas K) := by
  obtain ⟨fd, F⟩ := T.F_with_commas
  refine ⟨_, fd, _, F.ok sc_with_commas (fun vs H Q E h => ?_) (fun cdv A outer s H vs Q E hr h => ⟨_, (pss_cons (ps_set (i := 1) sc_with_commas.nd rfl (Or.inl rfl) (pe_lst pa_nil))
    (pss_cons (ps_for PassesOwn.never rfl (pi_enum (by rfl) T.f_enumerate (pa_cons (pv 0) pa_nil)) (pg_tup rfl (pgs_cons (pg_name (i := 2) sc_with_commas.nd rfl (Or.inl rfl)) (pgs_cons (pg_name (i := 3) sc_with_commas.nd rfl (Or.inl rfl)) pgs_nil))) (pss_cons (ps_if (pt_cmpR op_gt (pv 2) pe_int (nomark _)) (pss_one (ps_set (i := 1) sc_with_commas.nd rfl (Or.inl rfl) (pe_op op_cat (pv 1) (pe_callTy call_list_of (by rfl) T.f_list (by decide +kernel) (pa_cons (pe_cx (c_bytes_of T) hr (by decide) pass0 rfl (pa_cons pe_str pa_nil)) pa_nil))))) pss_nil)
    (pss_one (ps_set (i := 1) sc_with_commas.nd rfl (Or.inl rfl) (pe_op op_cat (pv 1) (pe_callTy call_list_of (by rfl) T.f_list (by decide +kernel) (pa_cons (pv 3) pa_nil)))))))
    (pss_one (ps_ret (pv 1))))), ?_⟩), T.g_with_commas, T.k_with_commas, b_with_commas F⟩
  · obtain ⟨a, us, l, rfl, _⟩ := h
    rfl
  · obtain ⟨a, us, l, rfl, hS, Pl, h4, h16, q⟩ := h
    refine ⟨Nat.zero_le _, fun f nf => ?_⟩
    have s0 : Same H (upd H f (.lst [])) := same_new nf
    have lu := paired_len Pl
    refine ⟨_, rfl, a, us, rfl, s0.seq hS, for_it walk_enum (fun i σ H' => ∃ f v2 v3, σ = [some (.ref a), some (.ref f), v2, v3] ∧ Same H H' ∧ H f = none ∧ H' f = some (.lst (bV (commas (l.take i)))))
      ⟨f, none, none, rfl, s0, nf, upd_same⟩ (fun i σ H' _ ⟨_, _, _, _, s, _⟩ => s.seq hS) ?_ ?_⟩
    · rintro i x σ H1 H2 hi ⟨f, v2, v3, rfl, s1, nf, hf⟩ ⟨tt, x, y, rfl, nt, rfl, ex, ey⟩
      cases ex
      obtain ⟨b, hb, B⟩ := paired_get Pl ey
      have s2 : Same H1 (upd H1 tt (.tup [.int ((i : Nat) : Int), y])) := same_new nt
      refine ⟨tt, _, rfl, SqT.of upd_same, rfl, _, _, rfl, _, _, rfl, rfl, ?_⟩
      have B2 := B.mono (.of (s1.trans s2))
      have hf2 := s2 _ _ hf
      have sa := s1.trans s2
      have e1 : l.take (i + 1) = l.take i ++ [b] := by rw [List.take_add_one, hb]; rfl
      have ll : (l.take i).length ≤ 4 := Nat.le_trans (List.length_take_le' ..) h4
      have c72 := commas_len ll fun x hx => h16 x (List.mem_of_mem_take hx)
      have hb16 := h16 b (List.mem_of_getElem? hb)
      refine ⟨_, rfl, _, _, rfl, rfl, _, rfl, ?_⟩
      have last : ∀ (H3 : Hp) (f3 : Addr) (o : Bytes), Same H H3 → H f3 = none → H3 f3 = some (.lst (bV o)) → ByAt H3 y b → o.length ≤ 100 → o ++ b = commas (l.take (i + 1)) →
          (tSeq (tAsg (tOp rCat (tVar 1) (tCB (fun xs H Q => ∃ p ys, xs = [.ref p] ∧ (SqL K H p ys ∨ SqT K H p ys) ∧ ∀ l, H l = none → Q (.ref l) (upd H l (.lst ys))) (tCons (tVar 3) tNil))) (gName 1)) (fun D σ H => D.nx σ H))
            { nx := fun σ H' => ∃ f v2 v3, σ = [some (.ref a), some (.ref f), v2, v3] ∧ Same H H' ∧ H f = none ∧ H' f = some (.lst (bV (commas (l.take (i + 1))))), rt := Q } [some (.ref a), some (.ref f3), some (.int ((i : Nat) : Int)), some y] H3 := by
        intro H3 f3 o s3 n3 h3 B3 ho e
        obtain ⟨k, rfl, hk⟩ := B3
        refine ⟨_, rfl, _, rfl, k, _, rfl, .inr (SqT.of hk), fun z nz => ?_⟩
        have s4 : Same H3 (upd H3 z (.lst (bV b))) := same_new nz
        refine ⟨f3, z, _, _, rfl, rfl, s4 _ _ h3, upd_same, ?_, fun p np => ?_⟩
        · rw [bV_length, bV_length]
          exact small_line (by omega)
        · have s5 := s3.trans (s4.trans (same_new (o := HO.lst (bV o ++ bV b)) np))
          refine ⟨p, _, _, rfl, s5, (s3.trans s4).free np, ?_⟩
          rw [upd_same, ← bV_app, e]
      have tk : commas (l.take i ++ [b]) = if l.take i = [] then b else commas (l.take i) ++ (word ", " ++ b) := joined_snoc _ _ _
      rw [← e1] at tk
      refine if_d (fun c => ?_) fun c => ?_
      · have ne : l.take i ≠ [] := by
          intro z
          have := congrArg List.length z
          rw [List.length_take, List.length_nil] at this
          have := lt_of_at hb
          omega
        rw [if_neg ne, ← List.append_assoc] at tk
        refine ⟨_, rfl, ", ", rfl, (by decide), fun H3 k s3 n3 e3 => ⟨k, _, rfl, .inr (SqT.of e3), fun z nz => ?_⟩⟩
        have s4 : Same H3 (upd H3 z (.lst (codeV ", "))) := same_new nz
        refine ⟨f, z, _, _, rfl, rfl, s4 _ _ (s3 _ _ hf2), upd_same, ?_, fun p np => ?_⟩
        · rw [bV_length]
          exact small_line (by show _ + 2 ≤ 1000; omega)
        · have s5 := s3.trans (s4.trans (same_new (o := HO.lst (bV (commas (l.take i)) ++ codeV ", ")) np))
          refine last _ p (commas (l.take i) ++ word ", ") (sa.trans s5) ((sa.trans (s3.trans s4)).free np) ?_ (B2.mono (.of s5)) ?_ tk.symm
          · rw [upd_same, bV_app]
            rfl
          · rw [List.length_append]
            show _ + 2 ≤ 100
            omega
      · have e0 : l.take i = [] := by
          have : i = 0 := by omega
          rw [this]
          rfl
        rw [if_pos e0] at tk
        rw [e0] at hf2
        exact last _ f [] sa nf hf2 B2 (by decide) tk.symm
    · rintro σ H1 ⟨f, v2, v3, rfl, s1, nf, hf⟩
      rw [lu, List.take_length] at hf
      exact ⟨_, rfl, q H1 f s1 nf hf⟩
end Kg
/-! A table's one form. -/
namespace Kg
open PySem PySem.Spec PyProof.Rows L2
open VamvsBase (Bytes joined word showNat showInt)
open Vamvsa (Group Table columnsOf commas showRow showAsk width)
variable {P : Program} {w : World} {K : PySem.W.Frag} {mg : Str → Option Value} {base : Heap}
theorem flat_len {α : Type} {f : α → Bytes} {m : Nat} : ∀ {l : List α}, (∀ x ∈ l, (f x).length ≤ m) → (l.flatMap f).length ≤ l.length * m
  | [], _ => Nat.zero_le _
  | x :: r, h => by
    have ih := flat_len (f := f) (m := m) (l := r) fun y hy => h y (List.mem_cons_of_mem _ hy)
    have := h x (by simp)
    rw [List.flatMap_cons, List.length_append, List.length_cons, Nat.succ_mul]
    omega
theorem flat_snoc {α : Type} {f : α → Bytes} {l : List α} {i : Nat} {x : α} (h : l[i]? = some x) : (l.take (i + 1)).flatMap f = (l.take i).flatMap f ++ f x := by
  rw [List.take_add_one, h, List.flatMap_append]
  simp
theorem nums_good {r : Vamvsa.Row} (hl : r.vs.length ≤ 4) (hv : ∀ v ∈ r.vs, v ≤ 9) : (r.vs.map showNat).length ≤ 4 ∧ ∀ x ∈ r.vs.map showNat, x.length ≤ 16 := by
  refine ⟨by rw [List.length_map]; exact hl, fun x hx => ?_⟩
  obtain ⟨v, hv', rfl⟩ := List.mem_map.mp hx
  have := hv v hv'
  have := (code_nat (n := v) (by omega)).2
  omega
theorem names_good {t : Table} (W : WF t) (g : Nat) : ((columnsOf t.cols.length g).map fun i => t.cols.getD i []).length ≤ 4 ∧ ∀ x ∈ (columnsOf t.cols.length g).map fun i => t.cols.getD i [], x.length ≤ 16 := by
  refine ⟨by rw [List.length_map]; exact Nat.le_trans (cols_len _ _) W.c4, fun x hx => ?_⟩
  obtain ⟨i, hi, rfl⟩ := List.mem_map.mp hx
  rw [List.getD_eq_getElem?_getD, List.getElem?_eq_getElem (cols_lt hi)]
  exact W.cn _ (List.getElem_mem _)
def numText (m : Int) : Bytes := word " : " ++ (showInt m ++ (word " ;" ++ [10]))
theorem showRow_is (r : Vamvsa.Row) : showRow r = word "row " ++ (commas (r.vs.map showNat) ++ numText r.m) := by
  unfold showRow Vamvsa.line numText
  simp only [List.append_assoc]
theorem showRow_len {r : Vamvsa.Row} (hl : r.vs.length ≤ 4) (hv : ∀ v ∈ r.vs, v ≤ 9) (h1 : -1000 ≤ r.m) (h2 : r.m ≤ 1000) : (showRow r).length ≤ 100 := by
  obtain ⟨a, b⟩ := nums_good hl hv
  have := commas_len a b
  have := (code_num h1 h2).2
  rw [showRow_is]
  unfold numText
  simp only [List.length_append]
  have e1 : (word "row ").length = 4 := by decide
  have e2 : (word " : ").length = 3 := by decide
  have e3 : (word " ;").length = 2 := by decide
  rw [e1, e2, e3]
  show 4 + (_ + (3 + (_ + (2 + 1)))) ≤ 100
  omega
theorem cols_zero : ((List.range 5).all fun n => (List.range (2 ^ n)).all fun g => decide (columnsOf n g = []) == decide (g = 0)) = true := by decide +kernel
theorem cols_nil {n g : Nat} (hn : n ≤ 4) (hg : g < 2 ^ n) : columnsOf n g = [] ↔ g = 0 := by
  have h1 := List.all_eq_true.mp cols_zero n (List.mem_range.mpr (by omega))
  have h2 := List.all_eq_true.mp h1 g (List.mem_range.mpr hg)
  have h3 := eq_of_beq h2
  constructor
  · intro h
    rw [decide_eq_true h] at h3
    exact of_decide_eq_true h3.symm
  · intro h
    rw [decide_eq_true h] at h3
    exact of_decide_eq_true h3
theorem eqv_nilB (l : List Bytes) : PyData.eqv (.list (l.map bD)) (.list []) = decide (l = []) := by
  cases l with
  | nil => rfl
  | cons a r => rfl
/-- a question's form, as the program puts it together -/
def askForm (cs : List Bytes) (a : Vamvsa.Ask) : Bytes :=
  word "ask " ++ ((if (columnsOf cs.length a.g).map (fun i => cs.getD i []) = [] then [] else commas ((columnsOf cs.length a.g).map fun i => cs.getD i []) ++ word " ") ++ ((if 1 < a.k then word "times " ++ (showNat a.k ++ word " ") else []) ++ (word ";" ++ [10])))
theorem showAsk_is {cs : List Bytes} {a : Vamvsa.Ask} (hn : cs.length ≤ 4) (hg : a.g < 2 ^ cs.length) (hk : 1 ≤ a.k) : showAsk cs a = askForm cs a := by
  unfold showAsk askForm Vamvsa.line
  have e0 : word "ask " = word "ask" ++ word " " := by decide
  have e1 : word " ;" = word " " ++ word ";" := by decide
  have e2 : word " times " = word " " ++ word "times " := by decide
  rw [e0, e1, e2]
  have c1 : ((columnsOf cs.length a.g).map (fun i => cs.getD i []) = []) ↔ a.g = 0 := by
    rw [List.map_eq_nil_iff]
    exact cols_nil hn hg
  by_cases g0 : a.g = 0
  · rw [if_pos g0, if_pos (c1.mpr g0)]
    by_cases k1 : a.k = 1
    · rw [if_pos k1, if_neg (by omega)]
      simp only [List.append_assoc, List.nil_append]
    · rw [if_neg k1, if_pos (by omega)]
      simp only [List.append_assoc, List.nil_append]
  · rw [if_neg g0, if_neg (fun z => g0 (c1.mp z))]
    by_cases k1 : a.k = 1
    · rw [if_pos k1, if_neg (by omega)]
      simp only [List.append_assoc, List.nil_append]
    · rw [if_neg k1, if_pos (by omega)]
      simp only [List.append_assoc, List.nil_append]
theorem askForm_len {t : Table} (W : WF t) {a : Vamvsa.Ask} (h : a ∈ t.asks) : (askForm t.cols a).length ≤ 100 := by
  obtain ⟨x, y⟩ := names_good W a.g
  have := commas_len x y
  have hk := W.ak a h
  have := (code_nat (n := a.k) (by omega)).2
  unfold askForm
  simp only [List.length_append]
  have e1 : (word "ask ").length = 4 := by decide
  have e2 : (word " ").length = 1 := by decide
  have e3 : (word ";").length = 1 := by decide
  have e4 : (word "times ").length = 6 := by decide
  rw [e1, e3]
  have f1 : (if (columnsOf t.cols.length a.g).map (fun i => t.cols.getD i []) = [] then [] else commas ((columnsOf t.cols.length a.g).map fun i => t.cols.getD i []) ++ word " ").length ≤ 73 := by
    split
    · exact Nat.zero_le _
    · rw [List.length_append, e2]; omega
  have f2 : (if 1 < a.k then word "times " ++ (showNat a.k ++ word " ") else []).length ≤ 12 := by
    split
    · rw [List.length_append, List.length_append, e2, e4]; omega
    · exact Nat.zero_le _
  show 4 + (_ + (_ + (1 + 1))) ≤ 100
  omega
def headForm (t : Table) : Bytes := word "columns " ++ (commas t.cols ++ (word " ;" ++ [10]))
theorem shown_is {t : Table} (W : WF t) : Vamvsa.shown t = headForm t ++ (t.rows.flatMap showRow ++ t.asks.flatMap (askForm t.cols)) := by
  unfold Vamvsa.shown headForm Vamvsa.line
  have e : t.asks.flatMap (showAsk t.cols) = t.asks.flatMap (askForm t.cols) := by
    have : ∀ l : List Vamvsa.Ask, (∀ a ∈ l, a ∈ t.asks) → l.flatMap (showAsk t.cols) = l.flatMap (askForm t.cols) := by
      intro l h
      induction l with
      | nil => rfl
      | cons a r ih =>
        have ha := h a (by simp)
        rw [List.flatMap_cons, List.flatMap_cons, ih fun x hx => h x (List.mem_cons_of_mem _ hx), showAsk_is W.c4 (W.ag a ha) (W.ak a ha).1]
    exact this _ fun a h => h
  rw [e]
  simp only [List.append_assoc]
theorem headForm_len {t : Table} (W : WF t) : (headForm t).length ≤ 100 := by
  have := commas_len W.c4 W.cn
  unfold headForm
  simp only [List.length_append]
  have e1 : (word "columns ").length = 8 := by decide
  have e2 : (word " ;").length = 2 := by decide
  rw [e1, e2]
  show 8 + (_ + (2 + 1)) ≤ 100
  omega
theorem rows_len {t : Table} (W : WF t) (i : Nat) : ((t.rows.take i).flatMap showRow).length ≤ 1600 := by
  have := flat_len (f := showRow) (m := 100) (l := t.rows.take i) fun r hr => by
    have hr := List.mem_of_mem_take hr
    exact showRow_len (by rw [W.rl r hr]; exact W.c4) (W.rv r hr) (W.rm r hr).1 (W.rm r hr).2
  have h16 := W.r16
  have : (t.rows.take i).length ≤ 16 := Nat.le_trans (List.length_take_le' ..) h16
  omega
theorem asks_len {t : Table} (W : WF t) (i : Nat) : ((t.asks.take i).flatMap (askForm t.cols)).length ≤ 800 := by
  have := flat_len (f := askForm t.cols) (m := 100) (l := t.asks.take i) fun r hr => askForm_len W (List.mem_of_mem_take hr)
  have h8 := W.a8
  have : (t.asks.take i).length ≤ 8 := Nat.le_trans (List.length_take_le' ..) h8
  omega
theorem shown_len {t : Table} (W : WF t) : (Vamvsa.shown t).length ≤ 3000 := by
  have h1 := headForm_len W
  have h2 := rows_len W t.rows.length
  have h3 := asks_len W t.asks.length
  rw [List.take_length] at h2 h3
  rw [shown_is W, List.length_append, List.length_append]
  omega
theorem code_end : codeV " ;\n" = bV (word " ;" ++ [10]) := by decide +kernel
theorem code_end1 : codeV ";\n" = bV (word ";" ++ [10]) := by decide +kernel
theorem code_cols : codeV "columns " = bV (word "columns ") := by decide +kernel
theorem code_rowS : codeV "row " = bV (word "row ") := by decide +kernel
theorem code_askS : codeV "ask " = bV (word "ask ") := by decide +kernel
theorem code_colonS : codeV " : " = bV (word " : ") := by decide +kernel
theorem code_tim : codeV "times " = bV (word "times ") := by decide +kernel
theorem code_blank : codeV " " = bV (word " ") := by decide +kernel
theorem code_numText {m : Int} (h1 : -1000 ≤ m) (h2 : m ≤ 1000) : codeV ((" : " ++ toString m : Str) ++ " ;\n") = bV (numText m) := by
  rw [codeV_app, codeV_app, code_colonS, (code_num h1 h2).1, code_end]
  unfold numText
  simp only [bV_app, List.append_assoc]
theorem code_timText {k : Nat} (h : k ≤ 1000) : codeV (("times " ++ toString ((k : Nat) : Int) : Str) ++ " ") = bV (word "times " ++ (showNat k ++ word " ")) := by
  rw [codeV_app, codeV_app, code_tim, (code_nat h).1, code_blank]
  simp only [bV_app, List.append_assoc]
end Kg
/-! A table's one form: the walk. -/
namespace Kg
open PySem PySem.Spec PyProof.Rows L2
open VamvsBase (Bytes joined word showNat showInt)
open Vamvsa (Group Table columnsOf commas showRow showAsk width)
variable {P : Program} {w : World} {K : PySem.W.Frag} {mg : Str → Option Value} {base : Heap}
/-- list(bytes_of(z)) behind a list -/
theorem cat_bytes {H : Hp} {f : Addr} {o b : Bytes} {z : Str} {QQ : VK} (hf : H f = some (.lst (bV o))) (hz : codeV z = bV b) (hl : b.length ≤ 1000) (ho : o.length ≤ 9000)
    (q : ∀ H' p, Same H H' → H p = none → H' p = some (.lst (bV (o ++ b))) → QQ (.ref p) H') :
    spBytes [.str z] H (fun v H1 => ∃ p ys, [v] = [V.ref p] ∧ (SqL K H1 p ys ∨ SqT K H1 p ys) ∧ ∀ l, H1 l = none → rCat (.ref f) (.ref l) (upd H1 l (.lst ys)) QQ) E0 := by
  have e := len_code hz
  refine ⟨z, rfl, by omega, fun H1 p s1 n1 e1 => ⟨p, _, rfl, .inr (SqT.of e1), fun l nl => ?_⟩⟩
  have s2 : Same H1 (upd H1 l (.lst (codeV z))) := same_new nl
  refine ⟨f, l, _, _, rfl, rfl, s2 _ _ (s1 _ _ hf), upd_same, ?_, fun p np => ?_⟩
  · rw [hz, bV_length, bV_length, line_eq]
    omega
  · have s3 := s1.trans (s2.trans (same_new (o := HO.lst (bV o ++ codeV z)) np))
    refine q _ p s3 ((s1.trans s2).free np) ?_
    rw [upd_same, bV_app, hz]
theorem cat_commas {H : Hp} {f a : Addr} {o : Bytes} {us : List V} {l : List Bytes} {QQ : VK} (hf : H f = some (.lst (bV o))) (hS : SqL K H a us) (Pl : Paired (ByAt H) us l) (h4 : l.length ≤ 4) (h16 : ∀ x ∈ l, x.length ≤ 16) (ho : o.length ≤ 9000)
    (q : ∀ H' p, Same H H' → H p = none → H' p = some (.lst (bV (o ++ commas l))) → QQ (.ref p) H') :
    spCommas K [.ref a] H (fun v H1 => rCat (.ref f) v H1 QQ) E0 := by
  refine ⟨a, us, l, rfl, hS, Pl, h4, h16, fun H1 c s1 n1 e1 => ?_⟩
  have c72 := commas_len h4 h16
  refine ⟨f, c, _, _, rfl, rfl, s1 _ _ hf, e1, ?_, fun p np => ?_⟩
  · rw [bV_length, bV_length, line_eq]
    omega
  · refine q _ p (s1.trans (same_new np)) (s1.free np) ?_
    rw [upd_same, bV_app]
theorem turns_map {α β : Type} (k : List α) (d : α) (f : α → β) : (List.range k.length).map (fun i => f (k.getD i d)) = k.map f := by
  have h := filter_turns k d fun _ => true
  rw [all_true] at h
  have e : k.filter (fun _ => true) = k := by simp
  rw [e] at h
  conv => rhs; rw [← h]
  rw [List.map_map]
  rfl
theorem bit_test0 (g i : Nat) : decide (V.int (((g : Nat) : Int) / 2 ^ ((i : Nat) : Int).toNat % 2) = V.int 1) = (g / 2 ^ i % 2 == 1) := by
  have := bit_test g i
  rw [Int.zero_add] at this
  exact this
def spForm (K : PySem.W.Frag) : Sp := fun vs H Q _ => ∃ p t, vs = [.ref p] ∧ TabAt (cTab K) H p t ∧ WF t ∧ ∀ H' q, Same H H' → H q = none → H' q = some (.lst (bV (Vamvsa.shown t))) → Q (.ref q) H'
theorem c_form_of (T : Txt K mg) : CalX P w K mg base CX0 3 "form_of" (spForm K) := by
  obtain ⟨fd, F⟩ := T.F_form_of
  refine ⟨_, fd, _, F.ok sc_form_of (fun vs H Q E h => ?_) (fun cdv A outer s H vs Q E hr h => ⟨_, (pss_cons (ps_set (i := 1) sc_form_of.nd rfl (Or.inl rfl) (pe_op op_cat (pe_op op_cat (pe_callTy call_list_of (by rfl) T.f_list (by decide +kernel) (pa_cons (pe_cx (c_bytes_of T) hr (by decide) pass0 rfl (pa_cons pe_str pa_nil)) pa_nil)) (pe_cx (c_with_commas T) hr (by decide) pass0 rfl (pa_cons (pe_fld (pv 0) rfl) pa_nil))) (pe_callTy call_list_of (by rfl) T.f_list (by decide +kernel) (pa_cons (pe_cx (c_bytes_of T) hr (by decide) pass0 rfl (pa_cons pe_str pa_nil)) pa_nil))))
    (pss_cons (ps_for PassesOwn.never rfl (pi_list (pe_fld (pv 0) rfl)) (pg_tup rfl (pgs_cons (pg_name (i := 2) sc_form_of.nd rfl (Or.inl rfl)) (pgs_cons (pg_name (i := 3) sc_form_of.nd rfl (Or.inl rfl)) pgs_nil))) (pss_cons (ps_setLc (i := 4) (own := [("value", 5)]) (g := gName 5) rfl sc_form_of.nd rfl rfl (sw_true rfl rfl rfl (by decide +kernel)) (pi_tup (pv 2)) (blkOk_by (N := N_form_of) (sc := defScope s_form_of) (by decide +kernel)) (fun _ _ _ _ _ => (pg_name (i := 5) sc_form_of.nd rfl (Or.inl rfl))) (fun _ _ _ _ _ => pts_nil) (fun _ _ _ _ _ => (pe_cx (c_bytes_of T) hr (by decide) pass0 rfl (pa_cons (pe_callTy call_str_int (by rfl) T.f_str (by decide +kernel) (pa_cons (pv 5) pa_nil)) pa_nil))))
    (pss_one (ps_set (i := 1) sc_form_of.nd rfl (Or.inl rfl) (pe_op op_cat (pe_op op_cat (pe_op op_cat (pv 1) (pe_callTy call_list_of (by rfl) T.f_list (by decide +kernel) (pa_cons (pe_cx (c_bytes_of T) hr (by decide) pass0 rfl (pa_cons pe_str pa_nil)) pa_nil))) (pe_cx (c_with_commas T) hr (by decide) pass0 rfl (pa_cons (pv 4) pa_nil))) (pe_callTy call_list_of (by rfl) T.f_list (by decide +kernel) (pa_cons (pe_cx (c_bytes_of T) hr (by decide) pass0 rfl (pa_cons (pe_op op_add_str (pe_op op_add_str pe_str (pe_callTy call_str_int (by rfl) T.f_str (by decide +kernel) (pa_cons (pv 3) pa_nil))) pe_str) pa_nil)) pa_nil)))))))
    (pss_cons (ps_for PassesOwn.never rfl (pi_list (pe_fld (pv 0) rfl)) (pg_tup rfl (pgs_cons (pg_name (i := 6) sc_form_of.nd rfl (Or.inr rfl)) (pgs_cons (pg_name (i := 7) sc_form_of.nd rfl (Or.inl rfl)) pgs_nil))) (pss_cons (ps_setLc (i := 4) (own := [("at", 8), ("name", 9)]) (g := gTup K 2 (gCons (gName 8) (gCons (gName 9) gNil))) rfl sc_form_of.nd rfl rfl (sw_true rfl rfl rfl (by decide +kernel)) (pi_enum (by rfl) T.f_enumerate (pa_cons (pe_fld (pv 0) rfl) pa_nil)) (blkOk_by (N := N_form_of) (sc := defScope s_form_of) (by decide +kernel)) (fun _ _ _ _ _ => (pg_tup rfl (pgs_cons (pg_name (i := 8) sc_form_of.nd rfl (Or.inl rfl)) (pgs_cons (pg_name (i := 9) sc_form_of.nd rfl (Or.inl rfl)) pgs_nil)))) (fun _ _ _ _ _ => (pts_one (pt_cmpR op_eq (pe_op op_mod (pe_op op_shr (pv 6) (pv 8)) pe_int) pe_int (nomark _)))) (fun _ _ _ _ _ => (pv 9)))
    (pss_cons (ps_set (i := 1) sc_form_of.nd rfl (Or.inl rfl) (pe_op op_cat (pv 1) (pe_callTy call_list_of (by rfl) T.f_list (by decide +kernel) (pa_cons (pe_cx (c_bytes_of T) hr (by decide) pass0 rfl (pa_cons pe_str pa_nil)) pa_nil))))
    (pss_cons (ps_if (pt_cmpR (op_neD (hu64 hr)) (pv 4) (pe_lst pa_nil) (nomark _)) (pss_one (ps_set (i := 1) sc_form_of.nd rfl (Or.inl rfl) (pe_op op_cat (pe_op op_cat (pv 1) (pe_cx (c_with_commas T) hr (by decide) pass0 rfl (pa_cons (pv 4) pa_nil))) (pe_callTy call_list_of (by rfl) T.f_list (by decide +kernel) (pa_cons (pe_cx (c_bytes_of T) hr (by decide) pass0 rfl (pa_cons pe_str pa_nil)) pa_nil))))) pss_nil)
    (pss_cons (ps_if (pt_cmpR op_gt (pv 7) pe_int (nomark _)) (pss_one (ps_set (i := 1) sc_form_of.nd rfl (Or.inl rfl) (pe_op op_cat (pv 1) (pe_callTy call_list_of (by rfl) T.f_list (by decide +kernel) (pa_cons (pe_cx (c_bytes_of T) hr (by decide) pass0 rfl (pa_cons (pe_op op_add_str (pe_op op_add_str pe_str (pe_callTy call_str_int (by rfl) T.f_str (by decide +kernel) (pa_cons (pv 7) pa_nil))) pe_str) pa_nil)) pa_nil))))) pss_nil)
    (pss_one (ps_set (i := 1) sc_form_of.nd rfl (Or.inl rfl) (pe_op op_cat (pv 1) (pe_callTy call_list_of (by rfl) T.f_list (by decide +kernel) (pa_cons (pe_cx (c_bytes_of T) hr (by decide) pass0 rfl (pa_cons pe_str pa_nil)) pa_nil))))))))))
    (pss_one (ps_ret (pv 1)))))), ?_⟩), T.g_form_of, T.k_form_of, b_form_of F⟩
  · obtain ⟨p, t, rfl, _⟩ := h
    rfl
  · obtain ⟨p0, t, rfl, hT, W, q⟩ := h
    obtain ⟨dx, c, r, u, cs, rs, us, h1, h2, h3, h4, h5, h6, h7⟩ := hT.ex
    have hl := headForm_len W
    refine ⟨"columns ", rfl, (by decide), fun H1 k1 s1 n1 e1 => ⟨k1, _, rfl, .inr (SqT.of e1), fun l nl => ?_⟩⟩
    have s2 : Same H1 (upd H1 l (.lst (codeV "columns "))) := same_new nl
    have s12 := s1.trans s2
    rw [code_cols] at s12 ⊢
    refine ⟨_, rfl, p0, _, dx, _, _, rfl, s12 _ _ h1, T.cl_Table, T.n_Table_columns, tbF_columns c r u, ?_⟩
    refine cat_commas (o := word "columns ") upd_same (SqL.of (s12 _ _ h2)) (paired_imp (fun _ _ x => x.mono (.of s12)) h3) W.c4 W.cn (by decide) fun H2 f2 s3 n3 e3 => ?_
    have c72 := commas_len W.c4 W.cn
    have w8 : (word "columns ").length = 8 := by decide
    refine cat_bytes e3 code_end (by decide) (by rw [List.length_append, w8]; omega) fun H3 f3 s4 n4 e4 => ?_
    have s04 : Same H H3 := s12.trans (s3.trans s4)
    have nf3 : H f3 = none := (s12.trans s3).free n4
    have eh : word "columns " ++ commas t.cols ++ (word " ;" ++ [10]) = headForm t := by
      unfold headForm
      simp only [List.append_assoc]
    rw [eh] at e4
    refine ⟨_, rfl, p0, _, dx, _, _, rfl, s04 _ _ h1, T.cl_Table, T.n_Table_rows, tbF_rows c r u, r, rfl, ⟨_, SqL.of (s04 _ _ h4)⟩, for_list (K := K) (a := r) (xs := rs) (fun i σ H' => ∃ f v2 v3 v4 v5 v6 v7 v8 v9, σ = [some (.ref p0), some (.ref f), v2, v3, v4, v5, v6, v7, v8, v9] ∧ Same H H' ∧ H f = none ∧ H' f = some (.lst (bV (headForm t ++ (t.rows.take i).flatMap showRow))))
      ⟨f3, none, none, none, none, none, none, none, none, rfl, s04, nf3, by rw [e4]; simp⟩ (fun i σ H' _ ⟨_, _, _, _, _, _, _, _, _, _, s, _⟩ => SqL.of (s _ _ h4)) ?_ ?_⟩
    · rintro i x σ H4 hx ⟨f, v2, v3, v4, v5, v6, v7, v8, v9, rfl, s5, nf, hf⟩
      obtain ⟨y, hy, Ry⟩ := paired_get h5 hx
      obtain ⟨tr, k, rfl, ht, hk⟩ := Ry.mono (.of s5)
      have my := List.mem_of_getElem? hy
      have l4 : y.vs.length ≤ 4 := by rw [W.rl y my]; exact W.c4
      have v9' := W.rv y my
      have hm := W.rm y my
      refine ⟨tr, _, rfl, SqT.of ht, rfl, _, _, rfl, _, _, rfl, rfl, ?_⟩
      refine ⟨_, rfl, k, rfl, ⟨_, SqT.of hk⟩, fun D nD => ?_⟩
      refine lc_it walk_tup (LcI H4 D (fun i H' z => ByAt H' z (showNat (y.vs.getD i 0))) fun _ => true) (LcI.start nD) (fun i H' _ I => SqT.of (I.1 _ _ hk)) (fun j x H5 H6 hj I ⟨e, hx⟩ => ?_) fun H5 I => ?_
      · subst e
        obtain ⟨v, hv, rfl⟩ := nV_get hx
        have ev : y.vs.getD j 0 = v := by rw [List.getD_eq_getElem?_getD, hv]; rfl
        have hv9 := v9' v (List.mem_of_getElem? hv)
        obtain ⟨c1, c2⟩ := code_nat (n := v) (by omega)
        refine ⟨rfl, _, rfl, _, rfl, log_few (by omega) (by omega), _, rfl, (by rw [len_code c1]; omega), fun H7 z s7 n7 e7 => ?_⟩
        refine I.add nD s7 (fun _ _ _ _ s h => h.mono s) rfl ⟨z, rfl, by rw [e7, c1, ev]⟩ ?_
        have := lt_of_at hv
        exact Nat.lt_of_lt_of_le (show j < 1000 by omega) (small_line (Nat.le_refl _))
      · obtain ⟨s6, zs, hz, Pz⟩ := I
        rw [all_true, nV_length] at Pz
        have Pn : Paired (ByAt H5) zs (y.vs.map showNat) := by
          rw [← turns_map y.vs 0 showNat]
          exact paired_map Pz
        obtain ⟨g1, g2⟩ := nums_good l4 v9'
        have c72' := commas_len g1 g2
        have rl := rows_len W i
        have s56 := s5.trans s6
        refine ⟨_, rfl, cat_bytes (s6 _ _ hf) code_rowS (by decide) (by rw [List.length_append]; omega) fun H6 f6 s7 n7 e7 => ?_⟩
        refine ⟨_, rfl, cat_commas e7 (SqL.of (s7 _ _ hz)) (paired_imp (fun _ _ x => x.mono (.of s7)) Pn) g1 g2 (by rw [List.length_append, List.length_append]; show _ + _ + 4 ≤ 9000; omega) fun H7 f8 s8 n8 e8 => ?_⟩
        obtain ⟨m1, m2⟩ := code_num hm.1 hm.2
        have k1 : (toString y.m : Str).length ≤ 5 := by rw [len_code m1]; exact m2
        have k2 : ((" : " : Str) ++ (toString y.m : Str)).length ≤ 8 := by
          have : codeV ((" : " : Str) ++ (toString y.m : Str)) = bV (word " : " ++ showInt y.m) := by rw [codeV_app, code_colonS, m1, bV_app]
          rw [len_code this, List.length_append]
          show 3 + _ ≤ 8
          omega
        have k3 : (" : " : Str).length = 3 := by decide
        have k4 : (" ;\n" : Str).length = 3 := by decide
        have k5 : (numText y.m).length ≤ 11 := by
          unfold numText
          rw [List.length_append, List.length_append]
          show 3 + (_ + 3) ≤ 11
          omega
        refine ⟨_, rfl, _, rfl, log_few hm.1 hm.2, _, _, rfl, rfl, (by rw [k3, line_eq]; omega), _, _, rfl, rfl, (by rw [k4, line_eq]; omega), ?_⟩
        refine cat_bytes e8 (code_numText hm.1 hm.2) (by omega) (by rw [List.length_append, List.length_append, List.length_append]; show _ + _ + 4 + _ ≤ 9000; omega) fun H8 f9 s9 n9 e9 => ?_
        have sall : Same H H8 := s56.trans (s7.trans (s8.trans s9))
        refine ⟨f9, _, _, _, _, _, _, _, _, rfl, sall, (s56.trans (s7.trans s8)).free n9, ?_⟩
        rw [e9, flat_snoc hy, showRow_is]
        simp only [List.append_assoc]
    · rintro σ H4 ⟨f, v2, v3, v4, v5, v6, v7, v8, v9, rfl, s5, nf, hf⟩
      rw [paired_len h5, List.take_length] at hf
      have rl := rows_len W t.rows.length
      rw [List.take_length] at rl
      refine ⟨_, rfl, p0, _, dx, _, _, rfl, s5 _ _ h1, T.cl_Table, T.n_Table_questions, tbF_questions c r u, u, rfl, ⟨_, SqL.of (s5 _ _ h6)⟩, for_list (K := K) (a := u) (xs := us) (fun i σ H' => ∃ f v2 v3 v4 v5 v6 v7 v8 v9, σ = [some (.ref p0), some (.ref f), v2, v3, v4, v5, v6, v7, v8, v9] ∧ Same H H' ∧ H f = none ∧ H' f = some (.lst (bV (headForm t ++ (t.rows.flatMap showRow ++ (t.asks.take i).flatMap (askForm t.cols))))))
        ⟨f, v2, v3, v4, v5, v6, v7, v8, v9, rfl, s5, nf, by rw [hf]; simp⟩ (fun i σ H' _ ⟨_, _, _, _, _, _, _, _, _, _, s, _⟩ => SqL.of (s _ _ h6)) ?_ ?_⟩
      · clear v2 v3 v4 v5 v6 v7 v8 v9 hf nf s5 f
        rintro i x σ H5 hx ⟨f, v2, v3, v4, v5, v6, v7, v8, v9, rfl, s5, nf, hf⟩
        obtain ⟨y, hy, Ay⟩ := paired_get h7 hx
        obtain ⟨ta, rfl, ht⟩ := Ay.mono (.of s5)
        have my := List.mem_of_getElem? hy
        have hk := W.ak y my
        have hg := W.ag y my
        refine ⟨ta, _, rfl, SqT.of ht, rfl, _, _, rfl, _, _, rfl, rfl, ?_⟩
        refine ⟨_, rfl, p0, _, dx, _, _, rfl, s5 _ _ h1, T.cl_Table, T.n_Table_columns, tbF_columns c r u, c, cs, rfl, SqL.of (s5 _ _ h2), fun D nD => ?_⟩
        refine lc_it walk_enum (LcI H5 D (fun i H' z => ByAt H' z (t.cols.getD i [])) fun i => y.g / 2 ^ i % 2 == 1) (LcI.start nD) (fun i H' _ I => SqL.of (I.1 _ _ (s5 _ _ h2))) (fun j x H6 H7 hj I ⟨tt, x0, z, ex, nt, eH, e0, ez⟩ => ?_) fun H6 I => ?_
        · subst ex eH
          cases e0
          obtain ⟨b, hb, B⟩ := paired_get h3 ez
          have s7 : Same H6 (upd H6 tt (.tup [.int ((j : Nat) : Int), z])) := same_new nt
          have eb : t.cols.getD j [] = b := by rw [List.getD_eq_getElem?_getD, hb]; rfl
          refine ⟨tt, _, rfl, SqT.of upd_same, rfl, _, _, rfl, _, _, rfl, rfl, rfl, ?_⟩
          refine ⟨_, rfl, _, rfl, _, _, rfl, rfl, (by show 0 ≤ ((j : Nat) : Int); omega), _, _, rfl, rfl, (by show (0 : Int) < 2; decide), rfl, _, rfl, ?_⟩
          show if decide (V.int (((y.g : Nat) : Int) / 2 ^ ((j : Nat) : Int).toNat % 2) = V.int 1) = true then _ else _
          rw [bit_test0]
          have lj := lt_of_at hb
          have := W.c4
          refine if_b (fun h => ?_) fun h => ?_
          · refine ⟨_, rfl, I.add nD s7 (fun _ _ _ _ s h => h.mono s) h (by rw [eb]; exact B.mono (.of (s5.trans (I.1.trans s7)))) ?_⟩
            exact Nat.lt_of_lt_of_le (show j < 1000 by omega) (small_line (Nat.le_refl _))
          · exact I.skip s7 (fun _ _ _ _ s h => h.mono s) h
        · obtain ⟨s6, zs, hz, Pz⟩ := I
          rw [paired_len h3] at Pz
          have Pn : Paired (ByAt H6) zs ((columnsOf t.cols.length y.g).map fun i => t.cols.getD i []) := paired_map Pz
          obtain ⟨g1, g2⟩ := names_good W y.g
          have c72' := commas_len g1 g2
          have al := asks_len W i
          have s56 := s5.trans s6
          obtain ⟨m1, m2⟩ := code_nat (n := y.k) (by omega)
          have t1 : (toString ((y.k : Nat) : Int) : Str).length ≤ 5 := by rw [len_code m1]; exact m2
          have t2 : (("times " : Str) ++ (toString ((y.k : Nat) : Int) : Str)).length ≤ 11 := by
            have : codeV (("times " : Str) ++ (toString ((y.k : Nat) : Int) : Str)) = bV (word "times " ++ showNat y.k) := by rw [codeV_app, code_tim, m1, bV_app]
            rw [len_code this, List.length_append]
            show 6 + _ ≤ 11
            omega
          have t3 : ("times " : Str).length = 6 := by decide
          have t4 : (" " : Str).length = 1 := by decide
          have wA : (word "ask ").length = 4 := by decide
          have wB : (word " ").length = 1 := by decide
          have wT : (word "times ").length = 6 := by decide
          have t5 : (word "times " ++ (showNat y.k ++ word " ")).length ≤ 12 := by
            simp only [List.length_append, wB, wT]
            omega
          refine ⟨_, rfl, cat_bytes (s6 _ _ hf) code_askS (by decide) (by simp only [List.length_append]; omega) fun H7 f7 s7 n7 e7 => ?_⟩
          refine ⟨_, rfl, Nat.zero_le _, fun cc ncc => ?_⟩
          have s8 : Same H7 (upd H7 cc (.lst [])) := same_new ncc
          have s67 := s7.trans s8
          have s58 : Same H (upd H7 cc (.lst [])) := s56.trans s67
          refine ⟨.list (((columnsOf t.cols.length y.g).map fun i => t.cols.getD i []).map bD), .list (([] : List Bytes).map bD), .lst (SqL.of (s67 _ _ hz)) (bys_dp (paired_imp (fun _ _ x => x.mono (.of s67)) Pn)), .lst (SqL.of upd_same) .nil, bDs_shaped _, bDs_shaped [], _, rfl, ?_⟩
          rw [show PyData.eqv (.list (((columnsOf t.cols.length y.g).map fun i => t.cols.getD i []).map bD)) (.list (([] : List Bytes).map bD)) = decide (((columnsOf t.cols.length y.g).map fun i => t.cols.getD i []) = []) from eqv_nilB _]
          have e8 := s8 _ _ e7
          by_cases c1 : ((columnsOf t.cols.length y.g).map fun i => t.cols.getD i []) = []
          · rw [decide_eq_true c1]
            refine ⟨_, rfl, _, _, rfl, rfl, _, rfl, ?_⟩
            by_cases c2 : 1 < y.k
            · rw [decide_eq_true (show (1 : Int) < ((y.k : Nat) : Int) by omega)]
              refine ⟨_, rfl, _, rfl, _, rfl, log_few (by omega) (by omega), _, _, rfl, rfl, (by rw [t3, line_eq]; omega), _, _, rfl, rfl, (by rw [t4, line_eq]; omega), ?_⟩
              refine cat_bytes e8 (code_timText (by omega)) (by omega) (by simp only [List.length_append, wA, wB, wT]; omega) fun HT ft sT nT eT => ?_
              refine ⟨_, rfl, cat_bytes eT code_end1 (by decide) (by simp only [List.length_append, wA, wB, wT]; omega) fun HZ fz sz nz ez => ?_⟩
              refine ⟨fz, _, _, _, _, _, _, _, _, rfl, (s58.trans sT).trans sz, (s58.trans sT).free nz, ?_⟩
              rw [ez, flat_snoc hy]
              unfold askForm
              rw [if_pos c1, if_pos c2]
              simp only [List.append_assoc, List.nil_append]
            · rw [decide_eq_false (show ¬ (1 : Int) < ((y.k : Nat) : Int) by omega)]
              refine ⟨_, rfl, cat_bytes e8 code_end1 (by decide) (by simp only [List.length_append, wA, wB, wT]; omega) fun HZ fz sz nz ez => ?_⟩
              refine ⟨fz, _, _, _, _, _, _, _, _, rfl, s58.trans sz, s58.free nz, ?_⟩
              rw [ez, flat_snoc hy]
              unfold askForm
              rw [if_pos c1, if_neg c2]
              simp only [List.append_assoc, List.nil_append]
          · rw [decide_eq_false c1]
            refine ⟨_, rfl, _, rfl, cat_commas e8 (SqL.of (s67 _ _ hz)) (paired_imp (fun _ _ x => x.mono (.of s67)) Pn) g1 g2 (by simp only [List.length_append, wA]; omega) fun H9 f9 s9 n9 e9 => ?_⟩
            refine cat_bytes e9 code_blank (by decide) (by simp only [List.length_append, wA]; omega) fun HB fb sb nb eb => ?_
            refine ⟨_, rfl, _, _, rfl, rfl, _, rfl, ?_⟩
            by_cases c2 : 1 < y.k
            · rw [decide_eq_true (show (1 : Int) < ((y.k : Nat) : Int) by omega)]
              refine ⟨_, rfl, _, rfl, _, rfl, log_few (by omega) (by omega), _, _, rfl, rfl, (by rw [t3, line_eq]; omega), _, _, rfl, rfl, (by rw [t4, line_eq]; omega), ?_⟩
              refine cat_bytes eb (code_timText (by omega)) (by omega) (by simp only [List.length_append, wA, wB, wT]; omega) fun HT ft sT nT eT => ?_
              refine ⟨_, rfl, cat_bytes eT code_end1 (by decide) (by simp only [List.length_append, wA, wB, wT]; omega) fun HZ fz sz nz ez => ?_⟩
              refine ⟨fz, _, _, _, _, _, _, _, _, rfl, ((s58.trans (s9.trans sb)).trans sT).trans sz, ((s58.trans (s9.trans sb)).trans sT).free nz, ?_⟩
              rw [ez, flat_snoc hy]
              unfold askForm
              rw [if_neg c1, if_pos c2]
              simp only [List.append_assoc, List.nil_append]
            · rw [decide_eq_false (show ¬ (1 : Int) < ((y.k : Nat) : Int) by omega)]
              refine ⟨_, rfl, cat_bytes eb code_end1 (by decide) (by simp only [List.length_append, wA, wB, wT]; omega) fun HZ fz sz nz ez => ?_⟩
              refine ⟨fz, _, _, _, _, _, _, _, _, rfl, (s58.trans (s9.trans sb)).trans sz, (s58.trans (s9.trans sb)).free nz, ?_⟩
              rw [ez, flat_snoc hy]
              unfold askForm
              rw [if_neg c1, if_neg c2]
              simp only [List.append_assoc, List.nil_append]
      · rintro σ H5 ⟨f, v2, v3, v4, v5, v6, v7, v8, v9, rfl, s5, nf, hf⟩
        rw [paired_len h7, List.take_length, ← shown_is W] at hf
        exact ⟨_, rfl, q H5 f s5 nf hf⟩
end Kg
/-! What reading says of a table. -/
namespace Kg
open VamvsBase Vamvsa
theorem ok_bind {A B : Type} {x : Except Fault A} {f : A → Except Fault B} {b : B} (h : x.bind f = .ok b) : ∃ a, x = .ok a ∧ f a = .ok b := by
  cases x with
  | error e => cases h
  | ok a => exact ⟨a, rfl, h⟩
theorem ok_map {A B : Type} {x : Except Fault A} {f : A → B} {b : B} (h : x.map f = .ok b) : ∃ a, x = .ok a ∧ f a = b := by
  cases x with
  | error e => cases h
  | ok a => exact ⟨a, rfl, Except.ok.inj h⟩
/-- names are short -/
def NmOk (L : Toks) : Prop := ∀ x ∈ L, ∀ n, x.tok = .name n → n.length ≤ 16
theorem NmOk.drop {L : Toks} (h : NmOk L) (i : Nat) : NmOk (L.drop i) := fun x hx => h x (List.mem_of_mem_drop hx)
theorem tk_nm {t : Tk} (h : t.Ok) {n : Bytes} (e : t.tok = .name n) : n.length ≤ 16 := by
  obtain ⟨kd, wd, pl⟩ := t
  cases kd with
  | name =>
    have e' : Tok.name wd = .name n := e
    injection e' with e'
    rw [← e']
    exact h.2
  | word =>
    have e' : Tok.name wd = .name n := e
    injection e' with e'
    have h' : RESERVED.contains wd = true := h
    have hm : wd ∈ RESERVED := by simpa using h'
    have all : ∀ r ∈ RESERVED, r.length ≤ 16 := by decide +kernel
    rw [← e']
    exact all _ hm
  | number => cases e
  | sign => cases e
  | fin => cases e
theorem lexT_nm : ∀ (n pl : Nat) (l : Bytes) (L : List Tk), lexT n pl l = .ok L → NmOk (L.map Tk.p)
  | 0, pl, l, L, h => by
    cases h
    intro x hx n e
    rw [List.mem_singleton.mp hx] at e
    cases e
  | n + 1, pl, [], L, h => by
    cases h
    intro x hx n e
    rw [List.mem_singleton.mp hx] at e
    cases e
  | n + 1, pl, b :: r, L, h => by
    rw [lexT_cons] at h
    by_cases h1 : isBlank b = true
    · rw [if_pos h1] at h
      exact lexT_nm n _ _ _ h
    · rw [if_neg h1] at h
      by_cases h2 : (b == 35) = true
      · rw [if_pos h2] at h
        exact lexT_nm n _ _ _ h
      · rw [if_neg h2] at h
        cases e : tkAt pl (b :: r) with
        | none => rw [e] at h; cases h
        | some t =>
          rw [e] at h
          obtain ⟨l', hl, e'⟩ := ok_map (show (lexT n (pl + t.wd.length) ((b :: r).drop t.wd.length)).map (fun l => t :: l) = .ok L from h)
          subst e'
          have ih := lexT_nm n _ _ _ hl
          intro x hx
          rw [List.map_cons] at hx
          rcases List.mem_cons.mp hx with hx | hx
          · rw [hx]
            exact fun n e2 => tk_nm (tkAt_props e).1 e2
          · exact ih x hx
theorem tokens_nm {b : Bytes} {L : Toks} (h : tokens b = .ok L) : NmOk L := by
  rw [tokens_toksX] at h
  obtain ⟨l, hl, e⟩ := ok_map h
  subst e
  unfold toksX at hl
  by_cases c : TEXT < b.length
  · rw [if_pos c] at hl; cases hl
  · rw [if_neg c] at hl
    exact lexT_nm _ _ _ _ hl
theorem taken_nm {t : Tok} {L R : Toks} (h : taken t L = .ok R) (hn : NmOk L) : NmOk R := by
  unfold taken at h
  by_cases c : next t L = true
  · rw [if_pos c] at h
    cases h
    exact hn.drop 1
  · rw [if_neg c] at h
    cases h
theorem takeName_nm {L : Toks} {x : PName × Toks} (h : takeName L = .ok x) (hn : NmOk L) : x.1.name.length ≤ 16 ∧ NmOk x.2 := by
  unfold takeName at h
  split at h
  · next p b r =>
    split at h
    · cases h
    · cases h
      exact ⟨hn _ List.mem_cons_self _ rfl, fun y hy => hn y (List.mem_cons_of_mem _ hy)⟩
  · cases h
theorem takeColumns_wf : ∀ (n : Nat) (cs : List Bytes) (L : Toks) (y : List Bytes × Toks), takeColumns n cs L = .ok y → NmOk L → cs.length ≤ 4 → (∀ c ∈ cs, c.length ≤ 16) → y.1 ≠ [] ∧ y.1.length ≤ 4 ∧ ∀ c ∈ y.1, c.length ≤ 16
  | 0, cs, L, y, h, _, _, _ => by cases h
  | n + 1, cs, L, y, h, hn, h4, hc => by
    obtain ⟨x, hx, h⟩ := ok_bind (show ((takeName L).bind fun x => if COLUMNS ≤ cs.length then .error ⟨4, x.1.place⟩ else if cs.contains x.1.name = true then .error ⟨5, x.1.place⟩ else if next (.sign 44) x.2 = true then takeColumns n (cs ++ [x.1.name]) (x.2.drop 1) else (takeSign 59 x.2).map fun m => (cs ++ [x.1.name], m)) = .ok y from h)
    obtain ⟨h16, hn2⟩ := takeName_nm hx hn
    by_cases c1 : COLUMNS ≤ cs.length
    · rw [if_pos c1] at h; cases h
    rw [if_neg c1] at h
    have c1' : cs.length < 4 := Nat.lt_of_not_le c1
    by_cases c2 : cs.contains x.1.name = true
    · rw [if_pos c2] at h; cases h
    rw [if_neg c2] at h
    have l4 : (cs ++ [x.1.name]).length ≤ 4 := by rw [List.length_append]; exact c1'
    have lc : ∀ c ∈ cs ++ [x.1.name], c.length ≤ 16 := fun c hm => by
      rcases List.mem_append.mp hm with hm | hm
      · exact hc c hm
      · rw [List.mem_singleton.mp hm]; exact h16
    by_cases c3 : next (.sign 44) x.2 = true
    · rw [if_pos c3] at h
      exact takeColumns_wf n _ _ _ h (hn2.drop 1) l4 lc
    · rw [if_neg c3] at h
      obtain ⟨m, _, e⟩ := ok_map h
      subst e
      exact ⟨by simp, l4, lc⟩
theorem takeNat_wf {most : Nat} {L : Toks} {y : Nat × Toks} (h : takeNat most L = .ok y) : y.1 ≤ most := by
  unfold takeNat at h
  split at h
  · next q n r =>
    by_cases c : most < n
    · rw [if_pos c] at h; cases h
    · rw [if_neg c] at h
      cases h
      exact Nat.le_of_not_lt c
  · cases h
theorem takeValues_wf : ∀ (n : Nat) (vs : List Nat) (L : Toks) (y : List Nat × Toks), takeValues n vs L = .ok y → (∀ v ∈ vs, v ≤ 9) → y.1.length = vs.length + n ∧ ∀ v ∈ y.1, v ≤ 9
  | 0, vs, L, y, h, hv => by
    cases h
    exact ⟨rfl, hv⟩
  | n + 1, vs, L, y, h, hv => by
    obtain ⟨r, hr, h⟩ := ok_bind (show ((if vs.isEmpty = true then .ok L else takeSign 44 L).bind fun r => (takeNat VALUE r).bind fun x => takeValues n (vs ++ [x.1]) x.2) = .ok y from h)
    obtain ⟨x, hx, h⟩ := ok_bind h
    have h9 := takeNat_wf hx
    obtain ⟨h1, h2⟩ := takeValues_wf n _ _ _ h fun v hm => by
      rcases List.mem_append.mp hm with hm | hm
      · exact hv v hm
      · rw [List.mem_singleton.mp hm]; exact h9
    refine ⟨?_, h2⟩
    rw [h1, List.length_append, List.length_singleton]
    omega
theorem takeInt_wf {L : Toks} {y : Int × Toks} (h : takeInt L = .ok y) : -1000 ≤ y.1 ∧ y.1 ≤ 1000 := by
  obtain ⟨x, hx, e⟩ := ok_map (show (takeNat SIZE (if next (.sign 45) L = true then L.drop 1 else L)).map (fun x => (if next (.sign 45) L = true then -(x.1 : Int) else (x.1 : Int), x.2)) = .ok y from h)
  have h1 : x.1 ≤ 1000 := takeNat_wf hx
  subst e
  show -1000 ≤ (if next (.sign 45) L = true then -(x.1 : Int) else (x.1 : Int)) ∧ (if next (.sign 45) L = true then -(x.1 : Int) else (x.1 : Int)) ≤ 1000
  split <;> omega
theorem takeAsked_wf {cs : List Bytes} (h4 : cs.length ≤ 4) : ∀ (n g : Nat) (L : Toks) (y : Nat × Toks), takeAsked cs n g L = .ok y → g < 2 ^ cs.length → y.1 < 2 ^ cs.length
  | 0, g, L, y, h, _ => by cases h
  | n + 1, g, L, y, h, hg => by
    obtain ⟨x, hx, h⟩ := ok_bind (show ((takeName L).bind fun x => match cs.findIdx? fun c => c == x.1.name with
      | none => .error ⟨8, x.1.place⟩
      | some i => if g / 2 ^ i % 2 = 1 then .error ⟨6, x.1.place⟩ else if next (.sign 44) x.2 = true then takeAsked cs n (g + 2 ^ i) (x.2.drop 1) else .ok (g + 2 ^ i, x.2)) = .ok y from h)
    cases e : cs.findIdx? (fun c => c == x.1.name) with
    | none => rw [e] at h; cases h
    | some i =>
      rw [e] at h
      have h : (if g / 2 ^ i % 2 = 1 then .error ⟨6, x.1.place⟩ else if next (.sign 44) x.2 = true then takeAsked cs n (g + 2 ^ i) (x.2.drop 1) else .ok (g + 2 ^ i, x.2)) = (Except.ok y : Except Fault (Grouping × Toks)) := h
      by_cases c : g / 2 ^ i % 2 = 1
      · rw [if_pos c] at h; cases h
      rw [if_neg c] at h
      have hb := ((bits_of h4 hg (find_some e).1).2 c).2
      by_cases c2 : next (.sign 44) x.2 = true
      · rw [if_pos c2] at h
        exact takeAsked_wf h4 n _ _ _ h hb
      · rw [if_neg c2] at h
        cases h
        exact hb
theorem takeTimes_wf {L : Toks} {y : Nat × Toks} (h : takeTimes L = .ok y) : 1 ≤ y.1 ∧ y.1 ≤ 99 := by
  rw [takeTimes_is] at h
  by_cases c : nextWord "times" L = true
  · rw [if_pos c] at h
    cases e : L.drop 1 with
    | nil => rw [e] at h; cases h
    | cons x r =>
      rw [e] at h
      obtain ⟨q, tk⟩ := x
      cases tk with
      | num n =>
        have h : (if n < 1 ∨ TIMES < n then .error ⟨7, q⟩ else .ok (n, r)) = (Except.ok y : Except Fault (Nat × Toks)) := h
        by_cases c2 : n < 1 ∨ TIMES < n
        · rw [if_pos c2] at h; cases h
        · rw [if_neg c2] at h
          cases h
          unfold TIMES at c2
          show 1 ≤ n ∧ n ≤ 99
          omega
      | name _ => cases h
      | sign _ => cases h
      | last => cases h
  · rw [if_neg c] at h
    cases h
    exact ⟨Nat.le_refl 1, (by decide : (1 : Nat) ≤ 99)⟩
theorem takeAsk_wf {cs : List Bytes} (h4 : cs.length ≤ 4) {L : Toks} {y : Ask × Toks} (h : takeAsk cs L = .ok y) : y.1.g < 2 ^ cs.length ∧ 1 ≤ y.1.k ∧ y.1.k ≤ 99 := by
  rw [takeAsk_is] at h
  obtain ⟨g, hg, h⟩ := ok_bind h
  unfold endAsk at h
  obtain ⟨k, hk, h⟩ := ok_bind h
  obtain ⟨m, hm, e⟩ := ok_map h
  subst e
  refine ⟨?_, takeTimes_wf hk⟩
  have z : 0 < 2 ^ cs.length := Nat.two_pow_pos _
  by_cases c : nextWord "times" L = true ∨ next (.sign 59) L = true
  · rw [if_pos c] at hg
    cases hg
    exact z
  · rw [if_neg c] at hg
    exact takeAsked_wf h4 _ _ _ _ hg z
theorem takeLines_wf : ∀ (n : Nat) (t : Table) (L : Toks) (u : Table), takeLines n t L = .ok u → WF t → WF u
  | 0, t, L, u, h, _ => by cases h
  | n + 1, t, L, u, h, W => by
    rw [lines_cases] at h
    by_cases c1 : next .last L = true
    · rw [if_pos c1] at h
      cases h
      exact W
    rw [if_neg c1] at h
    by_cases c2 : nextWord "row" L = true
    · rw [if_pos c2] at h
      obtain ⟨y, hy, h⟩ := ok_bind h
      refine takeLines_wf n _ _ _ h ?_
      unfold rowX at hy
      by_cases c3 : 16 ≤ t.rows.length
      · rw [if_pos c3] at hy; cases hy
      rw [if_neg c3] at hy
      obtain ⟨v, hv, hy⟩ := ok_bind hy
      obtain ⟨r, hr, hy⟩ := ok_bind hy
      obtain ⟨x, hx, hy⟩ := ok_bind hy
      obtain ⟨m, hm, e⟩ := ok_map hy
      subst e
      obtain ⟨v1, v2⟩ := takeValues_wf _ _ _ _ hv fun _ h => by cases h
      have x1 := takeInt_wf hx
      have v1' : v.1.length = t.cols.length := by rw [v1]; simp
      exact
        { c0 := W.c0, c4 := W.c4, cn := W.cn
          r16 := by
            show (t.rows ++ [_]).length ≤ 16
            rw [List.length_append, List.length_singleton]
            omega
          rl := fun r hr => by
            rcases List.mem_append.mp hr with hr | hr
            · exact W.rl r hr
            · rw [List.mem_singleton.mp hr]; exact v1'
          rv := fun r hr => by
            rcases List.mem_append.mp hr with hr | hr
            · exact W.rv r hr
            · rw [List.mem_singleton.mp hr]; exact v2
          rm := fun r hr => by
            rcases List.mem_append.mp hr with hr | hr
            · exact W.rm r hr
            · rw [List.mem_singleton.mp hr]; exact x1
          a8 := W.a8, ag := W.ag, ak := W.ak }
    · rw [if_neg c2] at h
      obtain ⟨r, hr, h⟩ := ok_bind h
      by_cases c3 : ASKS ≤ t.asks.length
      · rw [if_pos c3] at h; cases h
      rw [if_neg c3] at h
      obtain ⟨a, ha, h⟩ := ok_bind h
      refine takeLines_wf n _ _ _ h ?_
      obtain ⟨a1, a2⟩ := takeAsk_wf W.c4 ha
      have c3' : t.asks.length < 8 := Nat.lt_of_not_le c3
      exact
        { c0 := W.c0, c4 := W.c4, cn := W.cn, r16 := W.r16, rl := W.rl, rv := W.rv, rm := W.rm
          a8 := by
            show (t.asks ++ [_]).length ≤ 8
            rw [List.length_append, List.length_singleton]
            omega
          ag := fun r hr => by
            rcases List.mem_append.mp hr with hr | hr
            · exact W.ag r hr
            · rw [List.mem_singleton.mp hr]; exact a1
          ak := fun r hr => by
            rcases List.mem_append.mp hr with hr | hr
            · exact W.ak r hr
            · rw [List.mem_singleton.mp hr]; exact a2 }
theorem read_wf {b : Bytes} {t : Table} (h : Vamvsa.read b = .ok t) : WF t := by
  obtain ⟨L, hL, h⟩ := ok_bind (show ((tokens b).bind fun l => (takeWord "columns" l).bind fun r => (takeColumns (r.length + 1) [] r).bind fun x => takeLines (x.2.length + 1) ⟨x.1, [], []⟩ x.2) = .ok t from h)
  obtain ⟨r, hr, h⟩ := ok_bind h
  obtain ⟨x, hx, h⟩ := ok_bind h
  obtain ⟨x1, x2, x3⟩ := takeColumns_wf _ _ _ _ hx (taken_nm hr (tokens_nm hL)) (Nat.zero_le _) fun _ h => by cases h
  refine takeLines_wf _ _ _ _ h ?_
  exact { c0 := x1, c4 := x2, cn := x3, r16 := Nat.zero_le _, rl := fun _ h => (by cases h), rv := fun _ h => (by cases h), rm := fun _ h => (by cases h), a8 := Nat.zero_le _, ag := fun _ h => (by cases h), ak := fun _ h => (by cases h) }
end Kg
/-! The desk: how it lies in the heap; its small methods; refusals; what is told of lines. -/
namespace Kg
open PySem PySem.Spec PyProof.Rows L2
open VamvsBase (Bytes Answer)
open Vamvsa (Group Table Held width sizeOf_ groupsOf canFrom looked)
variable {P : Program} {w : World} {K : PySem.W.Frag} {mg : Str → Option Value} {base : Heap}
/-! ### heaps but for the desk -/
abbrev cDsk (K : PySem.W.Frag) : Addr := He.ga K "Desk"
abbrev cRef (K : PySem.W.Frag) : Addr := He.ga K "Refused"
structure But (d : Addr) (H H' : Hp) : Prop where
  keep : ∀ b o, H b = some o → b ≠ d → H' b = some o
  dom : ∀ b, H' b = none → H b = none
theorem But.of {d : Addr} {H H' : Hp} (s : Same H H') : But d H H' := ⟨fun b o h _ => s b o h, fun _ h => s.free h⟩
theorem But.refl (d : Addr) (H : Hp) : But d H H := .of (Same.refl H)
theorem But.trans {d : Addr} {H H1 H2 : Hp} (a : But d H H1) (b : But d H1 H2) : But d H H2 := ⟨fun x o h hx => b.keep x o (a.keep x o h hx) hx, fun x h => a.dom x (b.dom x h)⟩
theorem But.upd {d : Addr} {H : Hp} {o u : HO} (h : H d = some u) : But d H (upd H d o) := by
  refine ⟨fun b ob hb hbd => by rw [upd_ne hbd]; exact hb, fun b hb => ?_⟩
  by_cases e : b = d
  · subst e
    rw [upd_same] at hb
    cases hb
  · rw [upd_ne e] at hb
    exact hb
theorem But.same {d : Addr} {H H1 H2 : Hp} (s : Same H H1) (b : But d H1 H2) (h : H d = none) : Same H H2 := fun x o e => b.keep x o (s x o e) (ne_of_none e h)
/-! ### a refusal -/
def RefE (CR : Addr) (H : Hp) (E : XK) (c : Int) : Prop := ∀ d H3, Same H H3 → H d = none → H3 d = some (.xd [("code", .int c)]) → E (.ref CR) (some d) H3
theorem RefE.mono {CR : Addr} {H H' : Hp} {E : XK} {c : Int} (s : Same H H') (q : RefE CR H E c) : RefE CR H' E c := fun d H3 s3 hd hx => q d H3 (s.trans s3) (s.free hd) hx
/-- an answer, or its refusal -/
structure Ans (CR : Addr) (H : Hp) (Q : VK) (E : XK) (A : List Int) : Prop where
  ok : ∀ H' q, Same H H' → H q = none → H' q = some (.lst (iV A)) → Q (.ref q) H'
  no : ∀ c, A = [c] → RefE CR H E c
theorem Ans.mono {CR : Addr} {H H' : Hp} {Q : VK} {E : XK} {A : List Int} (s : Same H H') (q : Ans CR H Q E A) : Ans CR H' Q E A :=
  ⟨fun H2 p s2 n2 h2 => q.ok H2 p (s.trans s2) (s.free n2) h2, fun c e => (q.no c e).mono s⟩
/-! ### the desk -/
abbrev dsF (tv kv : V) : List (Str × V) := [("table", tv), ("kept", kv)]
theorem dsF_table (tv kv : V) : (dsF tv kv).lookup ("table" : Str) = some tv := lk_here
theorem dsF_kept (tv kv : V) : (dsF tv kv).lookup ("kept" : Str) = some kv := (lk_past (by decide +kernel)).trans lk_here
theorem dsF_none {tv kv : V} {m : Str} (h : ((m == ("table" : Str)) || (m == ("kept" : Str))) = false) : (dsF tv kv).lookup m = none := by
  rw [Bool.or_eq_false_iff] at h
  exact (lk_past h.1).trans ((lk_past h.2).trans rfl)
theorem dsF_put_table (tv kv x : V) : putF "table" x (dsF tv kv) = dsF x kv := put_here
theorem dsF_put_kept (tv kv x : V) : putF "kept" x (dsF tv kv) = dsF tv x := (put_past (by decide +kernel)).trans (congrArg _ put_here)
/-- the kept groupings as the program keeps them: the specification's, in another order -/
structure KeptIs (z : Held) (k : List Nat) : Prop where
  mem : ∀ u, u ∈ k ↔ u ∈ z.k
  nd : k.Nodup
  good : AllG z.t k
/-- what is held: no table, or one, and the kept ones -/
def HeldIs (K : PySem.W.Frag) (H : Hp) (tv : V) (k : List Nat) : Vamvsa.Obj → Prop
  | none => tv = .non ∧ k = []
  | some z => ∃ p, tv = .ref p ∧ TabAt (cTab K) H p z.t ∧ WF z.t ∧ KeptIs z k
structure DeskAt (K : PySem.W.Frag) (H : Hp) (d : Addr) (o : Vamvsa.Obj) : Prop where
  ex : ∃ dx tv ka k, H d = some (.ins (cDsk K) dx (dsF tv (.ref ka))) ∧ H ka = some (.lst (nV k)) ∧ HeldIs K H tv k o
/-- a desk with a table -/
structure DeskT (K : PySem.W.Frag) (H : Hp) (d : Addr) (z : Held) (p ka : Addr) (k : List Nat) : Prop where
  self : ∃ dx, H d = some (.ins (cDsk K) dx (dsF (.ref p) (.ref ka)))
  kept : H ka = some (.lst (nV k))
  tab : TabAt (cTab K) H p z.t
  wf : WF z.t
  is : KeptIs z k
theorem HeldIs.mono {H H' : Hp} {tv : V} {k : List Nat} {o : Vamvsa.Obj} (s : Same H H') (h : HeldIs K H tv k o) : HeldIs K H' tv k o := by
  cases o with
  | none => exact h
  | some z =>
    obtain ⟨p, e, h1, h2, h3⟩ := h
    exact ⟨p, e, h1.mono s, h2, h3⟩
theorem DeskAt.mono {H H' : Hp} {d : Addr} {o : Vamvsa.Obj} (s : Same H H') (h : DeskAt K H d o) : DeskAt K H' d o := by
  obtain ⟨dx, tv, ka, k, h1, h2, h3⟩ := h.ex
  exact ⟨dx, tv, ka, k, s _ _ h1, s _ _ h2, h3.mono s⟩
theorem DeskAt.open {H : Hp} {d : Addr} {z : Held} (h : DeskAt K H d (some z)) : ∃ p ka k, DeskT K H d z p ka k := by
  obtain ⟨dx, tv, ka, k, h1, h2, p, rfl, h3, h4, h5⟩ := h.ex
  exact ⟨p, ka, k, ⟨dx, h1⟩, h2, h3, h4, h5⟩
theorem DeskT.close {H : Hp} {d p ka : Addr} {z : Held} {k : List Nat} (h : DeskT K H d z p ka k) : DeskAt K H d (some z) := by
  obtain ⟨dx, h1⟩ := h.self
  exact ⟨dx, _, ka, k, h1, h.kept, p, rfl, h.tab, h.wf, h.is⟩
theorem DeskT.mono {H H' : Hp} {d p ka : Addr} {z : Held} {k : List Nat} (s : Same H H') (h : DeskT K H d z p ka k) : DeskT K H' d z p ka k := by
  obtain ⟨dx, h1⟩ := h.self
  exact ⟨⟨dx, s _ _ h1⟩, s _ _ h.kept, h.tab.mono s, h.wf, h.is⟩
/-! ### the desk's own lists -/
def Foot (H : Hp) (d b : Addr) : Prop := ∃ C dx tv ka, H d = some (.ins C dx (dsF tv (.ref ka))) ∧ (b = ka ∨ ∃ p C' dx' c r q, tv = .ref p ∧ H p = some (.ins C' dx' (tbF c r q)) ∧ (b = c ∨ b = r ∨ b = q))
def FootOk (d : Addr) (H H' : Hp) : Prop := ∀ b, Foot H' d b → Foot H d b ∨ H b = none
theorem foot_cases {H : Hp} {C d b dx ka : Addr} {tv : V} (hd : H d = some (.ins C dx (dsF tv (.ref ka)))) (h : Foot H d b) : b = ka ∨ ∃ p C' dx' c r q, tv = .ref p ∧ H p = some (.ins C' dx' (tbF c r q)) ∧ (b = c ∨ b = r ∨ b = q) := by
  obtain ⟨C2, dx2, tv2, ka2, h1, h2⟩ := h
  rw [hd] at h1
  injection h1 with h1
  injection h1 with _ _ h1
  injection h1 with e1 h1
  injection h1 with e2 _
  injection e1 with _ e1
  injection e2 with _ e2
  injection e2 with e2
  rw [e1, e2]
  exact h2
theorem foot_tab {H : Hp} {p C dx c r q C' dx' c' r' q' b : Addr} (hp : H p = some (.ins C dx (tbF c r q))) (h : H p = some (.ins C' dx' (tbF c' r' q'))) (hb : b = c' ∨ b = r' ∨ b = q') : b = c ∨ b = r ∨ b = q := by
  rw [hp] at h
  injection h with h
  injection h with _ _ h
  injection h with e1 h
  injection h with e2 h
  injection h with e3 _
  injection e1 with _ e1
  injection e1 with e1
  injection e2 with _ e2
  injection e2 with e2
  injection e3 with _ e3
  injection e3 with e3
  rw [e1, e2, e3]
  exact hb
theorem foot_same {H H' : Hp} {d : Addr} {o : Vamvsa.Obj} (D : DeskAt K H d o) (s : Same H H') : FootOk d H H' := fun b h => by
  obtain ⟨dx, tv, ka, k, h1, h2, h3⟩ := D.ex
  left
  rcases foot_cases (s _ _ h1) h with e | ⟨p, C', dx', c, r, q, et, hp, hb⟩
  · exact ⟨_, _, _, _, h1, .inl e⟩
  · cases o with
    | none =>
      obtain ⟨e, _⟩ := h3
      rw [e] at et
      cases et
    | some z =>
      obtain ⟨p', e, hT, _⟩ := h3
      rw [e] at et
      injection et with et
      subst et
      obtain ⟨dy, c2, r2, q2, _, _, _, h4, _⟩ := hT.ex
      exact ⟨_, _, _, _, h1, .inr ⟨_, _, _, c2, r2, q2, e, h4, foot_tab (s _ _ h4) hp hb⟩⟩
theorem Foot.upd {H : Hp} {d f b : Addr} {xs ys : List V} (hf : H f = some (.lst xs)) (h : Foot (upd H f (.lst ys)) d b) : Foot H d b := by
  have go : ∀ {x C dx : Addr} {fs : List (Str × V)}, L2.upd H f (.lst ys) x = some (.ins C dx fs) → H x = some (.ins C dx fs) := fun {x C dx fs} e => by
    have ne : x ≠ f := by
      intro z
      rw [z, upd_same] at e
      cases e
    rw [upd_ne ne] at e
    exact e
  obtain ⟨C, dx, tv, ka, h1, h2⟩ := h
  refine ⟨C, dx, tv, ka, go h1, ?_⟩
  rcases h2 with e | ⟨p, C', dx', c, r, q, et, hp, hb⟩
  · exact .inl e
  · exact .inr ⟨p, C', dx', c, r, q, et, go hp, hb⟩
theorem DeskAt.away {H : Hp} {d f : Addr} {o : Vamvsa.Obj} {xs ys : List V} (D : DeskAt K H d o) (hf : H f = some (.lst xs)) (nf : ¬ Foot H d f) : DeskAt K (upd H f (.lst ys)) d o := by
  obtain ⟨dx, tv, ka, k, h1, h2, h3⟩ := D.ex
  have ins : ∀ {x C dx : Addr} {fs : List (Str × V)}, H x = some (.ins C dx fs) → L2.upd H f (.lst ys) x = some (.ins C dx fs) := fun {x C dx fs} e => by
    rw [upd_ne (ne_of e hf (by intro z; cases z))]
    exact e
  have tu : Tups H (L2.upd H f (.lst ys)) := .lst hf
  have ka_ne : ka ≠ f := fun e => nf ⟨_, _, _, _, h1, .inl e.symm⟩
  refine ⟨dx, tv, ka, k, ins h1, by rw [upd_ne ka_ne]; exact h2, ?_⟩
  cases o with
  | none => exact h3
  | some z =>
    obtain ⟨p, e, hT, W, I⟩ := h3
    obtain ⟨dy, c, r, q, cs, rs, qs, h4, h5, h6, h7, h8, h9, h10⟩ := hT.ex
    have cn : c ≠ f := fun e' => nf ⟨_, _, _, _, h1, .inr ⟨_, _, _, c, r, q, e, h4, .inl e'.symm⟩⟩
    have rn : r ≠ f := fun e' => nf ⟨_, _, _, _, h1, .inr ⟨_, _, _, c, r, q, e, h4, .inr (.inl e'.symm)⟩⟩
    have qn : q ≠ f := fun e' => nf ⟨_, _, _, _, h1, .inr ⟨_, _, _, c, r, q, e, h4, .inr (.inr e'.symm)⟩⟩
    exact ⟨p, e, ⟨dy, c, r, q, cs, rs, qs, ins h4, by rw [upd_ne cn]; exact h5, paired_imp (fun _ _ x => x.mono tu) h6, by rw [upd_ne rn]; exact h7, paired_imp (fun _ _ x => x.mono tu) h8, by rw [upd_ne qn]; exact h9, paired_imp (fun _ _ x => x.mono tu) h10⟩, W, I⟩
theorem pow16 {t : Table} (W : WF t) : 2 ^ width t ≤ 16 := pow_le16 W.c4
theorem filter_len {α : Type} (p : α → Bool) (l : List α) : (l.filter p).length ≤ l.length := List.length_filter_le p l
theorem kept_few {t : Table} (W : WF t) {k : List Nat} (n : k.Nodup) (g : AllG t k) : k.length ≤ 16 := by
  have h := length_same (l := k) (l' := Vamvsa.sortedKept t k) n ((sorted_asc t k).imp fun h => Nat.ne_of_lt h) fun u => (mem_sorted.trans ⟨fun h => h.2, fun h => ⟨g u h, h⟩⟩).symm
  rw [h]
  unfold Vamvsa.sortedKept Vamvsa.groupings
  have := List.length_filter_le (fun g => k.contains g) (List.range (2 ^ width t))
  rw [List.length_range] at this
  exact Nat.le_trans this (pow16 W)
theorem TabAt.insT {H : Hp} {p : Addr} {t : Table} (h : TabAt (cTab K) H p t) : ∃ dx c r q cs rs qs, H p = some (.ins (cTab K) dx (tbF c r q)) ∧ H c = some (.lst cs) ∧ cs.length = t.cols.length ∧ H r = some (.lst rs) ∧ rs.length = t.rows.length ∧ H q = some (.lst qs) ∧ Paired (AskAt H) qs t.asks := by
  obtain ⟨dx, c, r, q, cs, rs, qs, h1, h2, h3, h4, h5, h6, h7⟩ := h.ex
  exact ⟨dx, c, r, q, cs, rs, qs, h1, h2, paired_len h3, h4, paired_len h5, h6, h7⟩
/-! ### a desk made -/
def spDskNew (C : Addr) : Sp := fun vs H Q _ => ∃ p dx, vs = [.ref p] ∧ H p = some (.ins C dx []) ∧ ∀ H' k, (∀ b o, H b = some o → b ≠ p → H' b = some o) → H' p = some (.ins C dx (dsF .non (.ref k))) → H' k = some (.lst []) → Q .non H'
theorem k_Desk (T : Txt K mg) : MakX P w K mg base CX0 1 "Desk" (cDsk K) (spDskNew (cDsk K)) := by
  obtain ⟨fd, F⟩ := T.F_Desk_init
  refine ⟨_, fd, _, T.mk_Desk, F.ok sc_Desk_init (fun vs H Q E h => ?_) (fun cdv A outer s H vs Q E hr h => ⟨_, (pss_cons (ps_fld (pv 0) pe_non rfl)
    (pss_one (ps_fld (pv 0) (pe_lst pa_nil) rfl))), ?_⟩), T.g_Desk, b_Desk_init F⟩
  · obtain ⟨p, dx, rfl, _⟩ := h
    rfl
  · obtain ⟨p, dx, rfl, hp, q⟩ := h
    refine ⟨_, rfl, p, _, dx, _, rfl, hp, T.cl_Desk, T.n_Desk_table, (by show 0 < 1000; decide), ?_⟩
    refine ⟨Nat.zero_le _, fun c nc => ⟨_, rfl, p, _, dx, _, rfl, (by rw [upd_ne (ne_of_none upd_same nc)]; exact upd_same), T.cl_Desk, T.n_Desk_kept, (by show 1 < 1000; decide), ?_⟩⟩
    have cp : c ≠ p := Ne.symm (ne_of_none upd_same nc)
    have hc0 : H c = none := by
      rw [upd_ne cp] at nc
      exact nc
    refine q _ c (fun b o hb hbp => ?_) ?_ ?_
    · rw [upd_ne hbp, upd_ne (ne_of_none hb hc0), upd_ne hbp]
      exact hb
    · refine Eq.trans upd_same (congrArg (fun z => some (HO.ins _ dx z)) ?_)
      show putF "kept" (.ref c) [("table", .non)] = _
      rw [put2 (by decide +kernel)]
    · rw [upd_ne cp]
      exact upd_same
def spSetT (K : PySem.W.Frag) : Sp := fun vs H Q _ => ∃ d p dx tv kv, vs = [.ref d, .ref p] ∧ H d = some (.ins (cDsk K) dx (dsF tv kv)) ∧ ∀ H' k, But d H H' → H' d = some (.ins (cDsk K) dx (dsF (.ref p) (.ref k))) → H' k = some (.lst []) → H k = none → Q .non H'
theorem m_Desk_set_table (T : Txt K mg) : MetX P w K mg base CX0 1 (cDsk K) "set_table" (spSetT K) := by
  obtain ⟨fd, F⟩ := T.F_Desk_set_table
  refine ⟨_, fd, _, T.cl_Desk, T.m_Desk_set_table, F.ok sc_Desk_set_table (fun vs H Q E h => ?_) (fun cdv A outer s H vs Q E hr h => ⟨_, (pss_cons (ps_fld (pv 0) (pv 1) rfl)
    (pss_one (ps_fld (pv 0) (pe_lst pa_nil) rfl))), ?_⟩), b_Desk_set_table F⟩
  · obtain ⟨d, p, dx, tv, kv, rfl, _⟩ := h
    rfl
  · obtain ⟨d, p, dx, tv, kv, rfl, hd, q⟩ := h
    refine ⟨_, rfl, _, rfl, d, _, dx, _, rfl, hd, T.cl_Desk, T.n_Desk_table, (by show 2 < 1000; decide), ?_⟩
    refine ⟨Nat.zero_le _, fun c nc => ⟨_, rfl, d, _, dx, _, rfl, (by rw [upd_ne (ne_of_none upd_same nc)]; exact upd_same), T.cl_Desk, T.n_Desk_kept, (by rw [dsF_put_table]; show 2 < 1000; decide), ?_⟩⟩
    have cd : c ≠ d := Ne.symm (ne_of_none upd_same nc)
    have b1 : But d H (upd H d (.ins (cDsk K) dx (putF "table" (.ref p) (dsF tv kv)))) := .upd hd
    refine q _ c ((b1.trans (.of (same_new nc))).trans (.upd (u := .ins (cDsk K) dx (putF "table" (.ref p) (dsF tv kv))) (by rw [upd_ne (ne_of_none upd_same nc)]; exact upd_same))) ?_ ?_ ?_
    · refine Eq.trans upd_same (congrArg (fun z => some (HO.ins _ dx z)) ?_)
      rw [dsF_put_table, dsF_put_kept]
    · rw [upd_ne cd]
      exact upd_same
    · rw [upd_ne cd] at nc
      exact nc
def spSetK (K : PySem.W.Frag) : Sp := fun vs H Q _ => ∃ d k dx tv kv, vs = [.ref d, .ref k] ∧ H d = some (.ins (cDsk K) dx (dsF tv kv)) ∧ ∀ H', But d H H' → H' d = some (.ins (cDsk K) dx (dsF tv (.ref k))) → Q .non H'
theorem m_Desk_set_kept (T : Txt K mg) : MetX P w K mg base CX0 1 (cDsk K) "set_kept" (spSetK K) := by
  obtain ⟨fd, F⟩ := T.F_Desk_set_kept
  refine ⟨_, fd, _, T.cl_Desk, T.m_Desk_set_kept, F.ok sc_Desk_set_kept (fun vs H Q E h => ?_) (fun cdv A outer s H vs Q E hr h => ⟨_, (pss_one (ps_fld (pv 0) (pv 1) rfl)), ?_⟩), b_Desk_set_kept F⟩
  · obtain ⟨d, k, dx, tv, kv, rfl, _⟩ := h
    rfl
  · obtain ⟨d, k, dx, tv, kv, rfl, hd, q⟩ := h
    refine ⟨_, rfl, _, rfl, d, _, dx, _, rfl, hd, T.cl_Desk, T.n_Desk_kept, (by show 2 < 1000; decide), ?_⟩
    refine q _ (.upd hd) ?_
    refine Eq.trans upd_same (congrArg (fun z => some (HO.ins _ dx z)) ?_)
    rw [dsF_put_kept]
/-! ### ask -/
def spAsk (CR : Addr) : Sp := fun vs H Q E => ∃ b c, vs = [.bl b, .int c] ∧ (b = true → Q .non H) ∧ (b = false → RefE CR H E c)
theorem c_ask (T : Txt K mg) : CalX P w K mg base (L2.CX P w) 3 "ask" (spAsk (cRef K)) := by
  obtain ⟨fd, F⟩ := T.F_ask
  refine ⟨_, fd, _, F.okX sc_ask (fun vs H Q E h => ?_) (fun cdv A outer s H vs Q E hr h => ⟨_, (pss_one (ps_if (pt_not (pt_val (pv 0))) (pss_one (ps_raise rfl takesD (pr_x (x_Refused T) hr (by decide) rfl (pa_cons (pv 1) pa_nil)))) pss_nil)), ?_⟩), T.g_ask, T.k_ask, b_ask F⟩
  · obtain ⟨b, c, rfl, _⟩ := h
    rfl
  · obtain ⟨b, c, rfl, q, qE⟩ := h
    refine ⟨_, rfl, b, rfl, ?_⟩
    cases b with
    | true => exact q rfl
    | false => exact ⟨_, rfl, exc_go rfl (by decide) fun d H3 s3 hd hx => qE rfl d H3 s3 hd hx⟩
/-! ### told -/
theorem iV_app (a b : List Int) : iV (a ++ b) = iV a ++ iV b := List.map_append
theorem nV_iV (l : List Nat) : nV l = iV (Vamvsa.nats l) := by
  unfold nV iV Vamvsa.nats
  rw [List.map_map]
  rfl
theorem row_len (x : Group) : (Vamvsa.groupRow x).length = x.key.length + 2 := by
  unfold Vamvsa.groupRow Vamvsa.nats
  rw [List.length_append, List.length_map]
  rfl
theorem rows_few {l : List Group} (hk : ∀ x ∈ l, x.key.length ≤ 4) : (l.flatMap Vamvsa.groupRow).length ≤ l.length * 6 := by
  induction l with
  | nil => exact Nat.le_refl _
  | cons x r ih =>
    have := ih fun y hy => hk y (List.mem_cons_of_mem _ hy)
    have h4 := hk x (by simp)
    rw [List.flatMap_cons, List.length_append, row_len, List.length_cons]
    omega
def spTold (K : PySem.W.Frag) : Sp := fun vs H Q _ => ∃ a l, vs = [.ref a] ∧ LsAt H a l ∧ l.length ≤ 60 ∧ (∀ x ∈ l, x.key.length ≤ 4) ∧ ∀ H' q, Same H H' → H q = none → H' q = some (.lst (iV (VamvsaNeutral.encode (Vamvsa.groupsAnswer l)))) → Q (.ref q) H'
theorem c_told (T : Txt K mg) : CalX P w K mg base CX0 1 "told" (spTold K) := by
  obtain ⟨fd, F⟩ := T.F_told
  refine ⟨_, fd, _, F.ok sc_told (fun vs H Q E h => ?_) (fun cdv A outer s H vs Q E hr h => ⟨_, (pss_cons (ps_set (i := 1) sc_told.nd rfl (Or.inl rfl) (pe_lst (pa_cons (pe_callB call_len_seq (by rfl) T.f_len (by decide +kernel) (pa_cons (pv 0) pa_nil)) pa_nil)))
    (pss_cons (ps_for PassesOwn.never rfl (pi_list (pv 0)) (pg_tup rfl (pgs_cons (pg_name (i := 2) sc_told.nd rfl (Or.inl rfl)) (pgs_cons (pg_name (i := 3) sc_told.nd rfl (Or.inl rfl)) (pgs_cons (pg_name (i := 4) sc_told.nd rfl (Or.inl rfl)) pgs_nil)))) (pss_one (ps_set (i := 1) sc_told.nd rfl (Or.inl rfl) (pe_op op_cat (pe_op op_cat (pv 1) (pe_callTy call_list_of (by rfl) T.f_list (by decide +kernel) (pa_cons (pv 2) pa_nil))) (pe_lst (pa_cons (pv 3) (pa_cons (pv 4) pa_nil)))))))
    (pss_one (ps_ret (pv 1))))), ?_⟩), T.g_told, T.k_told, b_told F⟩
  · obtain ⟨a, l, rfl, _⟩ := h
    rfl
  · obtain ⟨a, l, rfl, ⟨us, hS, Pl⟩, h60, hk, q⟩ := h
    have lu : us.length = l.length := paired_len Pl
    refine ⟨_, rfl, a, us, rfl, .inl (SqL.of hS), small_line (by show 1 ≤ 1000; decide), fun f nf => ?_⟩
    have s0 : Same H (upd H f (.lst [.int ((us.length : Nat) : Int)])) := same_new nf
    refine ⟨_, rfl, a, rfl, ⟨_, SqL.of (s0 _ _ hS)⟩, for_list (K := K) (a := a) (xs := us) (fun i σ H' => ∃ f v2 v3 v4, σ = [some (.ref a), some (.ref f), v2, v3, v4] ∧ Same H H' ∧ H f = none ∧ H' f = some (.lst (iV (((l.length : Nat) : Int) :: (l.take i).flatMap Vamvsa.groupRow))))
      ⟨f, none, none, none, rfl, s0, nf, by rw [upd_same, lu]; rfl⟩ (fun i σ H' _ ⟨_, _, _, _, _, s, _⟩ => SqL.of (s _ _ hS)) ?_ ?_⟩
    · rintro i x σ H1 hx ⟨f, v2, v3, v4, rfl, s1, nf, hf⟩
      obtain ⟨y, hy, Ly⟩ := paired_get Pl hx
      obtain ⟨t, k, rfl, ht, hk1⟩ := Ly.mono (.of s1)
      have h4 := hk y (List.mem_of_getElem? hy)
      have fl := rows_few (l := l.take i) fun z hz => hk z (List.mem_of_mem_take hz)
      have tl : (l.take i).length ≤ 60 := Nat.le_trans (List.length_take_le' ..) h60
      refine ⟨t, _, rfl, SqT.of ht, rfl, _, _, rfl, _, _, rfl, _, _, rfl, rfl, ?_⟩
      refine ⟨_, rfl, _, rfl, k, _, rfl, .inr (SqT.of hk1), fun z nz => ?_⟩
      have s2 : Same H1 (upd H1 z (.lst (nV y.key))) := same_new nz
      refine ⟨f, z, _, _, rfl, rfl, s2 _ _ hf, upd_same, ?_, fun p np => ?_⟩
      · rw [iV_length, nV_length, line_eq, List.length_cons]
        omega
      have s3 := same_new (o := HO.lst (iV (((l.length : Nat) : Int) :: (l.take i).flatMap Vamvsa.groupRow) ++ nV y.key)) np
      refine ⟨_, rfl, _, rfl, small_line (by show 2 ≤ 1000; decide), fun r nr => ?_⟩
      have s4 := same_new (o := HO.lst [V.int y.sum, V.int ((y.n : Nat) : Int)]) nr
      refine ⟨p, r, _, _, rfl, rfl, s4 _ _ upd_same, upd_same, ?_, fun u nu => ?_⟩
      · rw [List.length_append, iV_length, nV_length, line_eq, List.length_cons]
        show _ + 2 ≤ _
        omega
      have s5 := same_new (o := HO.lst (iV (((l.length : Nat) : Int) :: (l.take i).flatMap Vamvsa.groupRow) ++ nV y.key ++ [V.int y.sum, V.int ((y.n : Nat) : Int)])) nu
      have s04 := s1.trans (s2.trans (s3.trans s4))
      refine ⟨u, _, _, _, rfl, s04.trans s5, s04.free nu, ?_⟩
      rw [upd_same]
      have e1 : (l.take (i + 1)).flatMap Vamvsa.groupRow = (l.take i).flatMap Vamvsa.groupRow ++ Vamvsa.groupRow y := by
        rw [List.take_add_one, hy, List.flatMap_append]
        simp
      rw [e1, ← List.cons_append, iV_app]
      congr 2
      rw [List.append_assoc]
      congr 1
      unfold Vamvsa.groupRow
      rw [iV_app, nV_iV]
      rfl
    · rintro σ H1 ⟨f, v2, v3, v4, rfl, s1, nf, hf⟩
      rw [lu, List.take_length] at hf
      exact ⟨_, rfl, q H1 f s1 nf hf⟩
end Kg
/-! Groupings asked: group, roll, sizes, keep. -/
namespace Kg
open PySem PySem.Spec PyProof.Rows L2
open VamvsBase (Bytes Answer)
open Vamvsa (Group Table Held Kept width sizeOf_ groupsOf canFrom looked columnsOf)
variable {P : Program} {w : World} {K : PySem.W.Frag} {mg : Str → Option Value} {base : Heap}
theorem index_some {g : Int} {n x : Nat} (h : VamvsBase.index g n = some x) : g = ((x : Nat) : Int) ∧ x < n := by
  unfold VamvsBase.index at h
  by_cases c : 0 ≤ g ∧ g < (n : Int)
  · rw [if_pos c] at h
    cases h
    omega
  · rw [if_neg c] at h
    cases h
theorem index_test (g : Int) (n : Nat) : (VamvsBase.index g n).isSome = (decide (0 ≤ g) && decide (g < ((n : Nat) : Int))) := by
  unfold VamvsBase.index
  by_cases c : 0 ≤ g ∧ g < (n : Int)
  · rw [if_pos c, decide_eq_true c.1, decide_eq_true c.2]
    rfl
  · rw [if_neg c]
    by_cases c1 : 0 ≤ g
    · rw [decide_eq_true c1, decide_eq_false (fun z => c ⟨c1, z⟩)]
      rfl
    · rw [decide_eq_false c1]
      rfl
theorem index_is {n x : Nat} (h : x < n) : VamvsBase.index ((x : Nat) : Int) n = some x := by
  unfold VamvsBase.index
  rw [if_pos (by omega), Int.toNat_natCast]
theorem shl_is (n : Nat) : (1 : Int) * 2 ^ ((n : Nat) : Int).toNat = ((2 ^ n : Nat) : Int) := by
  rw [Int.one_mul, Int.toNat_natCast]
  push_cast
  rfl
/-! ### ask_grouping -/
def spAskG (K : PySem.W.Frag) : Sp := fun vs H Q E => ∃ p t g, vs = [.ref p, .int g] ∧ TabAt (cTab K) H p t ∧ WF t ∧ (∀ x, VamvsBase.index g (2 ^ width t) = some x → Q .non H) ∧ (VamvsBase.index g (2 ^ width t) = none → RefE (cRef K) H E (-2))
theorem c_ask_grouping (T : Txt K mg) : CalX P w K mg base (L2.CX P w) 4 "ask_grouping" (spAskG K) := by
  obtain ⟨fd, F⟩ := T.F_ask_grouping
  refine ⟨_, fd, _, F.okX sc_ask_grouping (fun vs H Q E h => ?_) (fun cdv A outer s H vs Q E hr h => ⟨_, (pss_one (ps_expr (pe_cx (c_ask T) hr (by decide) passD rfl (pa_cons (pe_chain op_le op_lt pe_int (pv 1) (pe_op op_shl pe_int (pe_callB call_len_seq (by rfl) T.f_len (by decide +kernel) (pa_cons (pe_fld (pv 0) rfl) pa_nil)))) (pa_cons (C8.pe_gc rfl T.c_NO_GROUPING) pa_nil))))), ?_⟩), T.g_ask_grouping, T.k_ask_grouping, b_ask_grouping F⟩
  · obtain ⟨p, t, g, rfl, _⟩ := h
    rfl
  · obtain ⟨p, t, g, rfl, hT, W, q, qE⟩ := h
    obtain ⟨dx, c, r, u, cs, rs, us, h1, h2, l2, _⟩ := hT.insT
    have fin : ∀ b, b = (VamvsBase.index g (2 ^ width t)).isSome → spAsk (cRef K) [.bl b, .int (-2)] H (fun _ H1 => Q .non H1) E := fun b e => by
      refine ⟨b, -2, rfl, fun hb => ?_, fun hb => qE ?_⟩
      · rw [hb] at e
        obtain ⟨x, hx⟩ := Option.isSome_iff_exists.mp e.symm
        exact q x hx
      · rw [hb] at e
        exact Option.isNone_iff_eq_none.mp (by rw [← Option.not_isSome, ← e]; rfl)
    have it := index_test g (2 ^ width t)
    refine ⟨_, rfl, _, _, rfl, rfl, _, rfl, if_b (fun h => ?_) fun h => ?_⟩
    · refine ⟨_, rfl, p, _, dx, _, _, rfl, h1, T.cl_Table, T.n_Table_columns, tbF_columns c r u, c, cs, rfl, .inl (SqL.of h2), ?_⟩
      refine ⟨_, _, rfl, rfl, ⟨by omega, by have := W.c4; omega, by decide⟩, _, _, rfl, rfl, ?_⟩
      refine fin _ ?_
      rw [it, h, Bool.true_and, l2, shl_is]
      rfl
    · refine fin _ ?_
      rw [it, h, Bool.false_and]
/-! ### group -/
theorem dig_told {d : Nat} {l : List Group} (h : Dig d l) (hd : d ≤ 4) : l.length ≤ 60 ∧ ∀ x ∈ l, x.key.length ≤ 4 := ⟨h.few, fun x hx => by rw [h.len x hx]; exact hd⟩
theorem cols4 {t : Table} (W : WF t) (g : Nat) : (columnsOf t.cols.length g).length ≤ 4 := Nat.le_trans (cols_len _ _) W.c4
theorem rolled_dig {n u g d : Nat} {l : List Group} (hd : Dig d l) : Dig (columnsOf n g).length (Vamvsa.rolled n u g l) := collect_keys (rollLines_dig hd)
def spGroup (K : PySem.W.Frag) : Sp := fun vs H Q E => ∃ p z g, vs = [.ref p, .int g] ∧ TabAt (cTab K) H p z.t ∧ WF z.t ∧ Ans (cRef K) H Q E (VamvsaNeutral.encode (looked z (.group g)))
theorem c_group (T : Txt K mg) : CalX P w K mg base (L2.CX P w) 5 "group" (spGroup K) := by
  obtain ⟨fd, F⟩ := T.F_group
  refine ⟨_, fd, _, F.okX sc_group (fun vs H Q E h => ?_) (fun cdv A outer s H vs Q E hr h => ⟨_, (pss_cons (ps_expr (pe_cx (c_ask_grouping T) hr (by decide) passD rfl (pa_cons (pv 0) (pa_cons (pv 1) pa_nil))))
    (pss_one (ps_ret (pe_cx (c_told T) hr (by decide) pass0 rfl (pa_cons (pe_cx (c_answer_of T) hr (by decide) pass0 rfl (pa_cons (pv 0) (pa_cons (pv 1) pa_nil))) pa_nil))))), ?_⟩), T.g_group, T.k_group, b_group F⟩
  · obtain ⟨p, z, g, rfl, _⟩ := h
    rfl
  · obtain ⟨p, z, g, rfl, hT, W, q⟩ := h
    have e : looked z (.group g) = (match VamvsBase.index g (2 ^ width z.t) with
      | none => VamvsBase.one (-2)
      | some x => Vamvsa.groupsAnswer (groupsOf z.t x)) := rfl
    rw [e] at q
    refine ⟨_, rfl, _, rfl, p, z.t, g, rfl, hT, W, fun x hx => ?_, fun hn => ?_⟩
    · rw [hx] at q
      obtain ⟨rfl, hx2⟩ := index_some hx
      refine ⟨_, rfl, _, rfl, p, z.t, x, rfl, hT, W, fun H1 a s1 n1 hL => ?_⟩
      obtain ⟨d1, d2⟩ := dig_told (groups_dig W x) (cols4 W x)
      exact ⟨a, _, rfl, hL, d1, d2, fun H2 b s2 n2 h2 => q.ok H2 b (s1.trans s2) (s1.free n2) h2⟩
    · rw [hn] at q
      exact q.no (-2) rfl
/-! ### roll -/
def spRoll (K : PySem.W.Frag) : Sp := fun vs H Q E => ∃ p z u g, vs = [.ref p, .int u, .int g] ∧ TabAt (cTab K) H p z.t ∧ WF z.t ∧ Ans (cRef K) H Q E (VamvsaNeutral.encode (looked z (.roll u g)))
theorem c_roll (T : Txt K mg) : CalX P w K mg base (L2.CX P w) 5 "roll" (spRoll K) := by
  obtain ⟨fd, F⟩ := T.F_roll
  refine ⟨_, fd, _, F.okX sc_roll (fun vs H Q E h => ?_) (fun cdv A outer s H vs Q E hr h => ⟨_, (pss_cons (ps_expr (pe_cx (c_ask_grouping T) hr (by decide) passD rfl (pa_cons (pv 0) (pa_cons (pv 1) pa_nil))))
    (pss_cons (ps_expr (pe_cx (c_ask_grouping T) hr (by decide) passD rfl (pa_cons (pv 0) (pa_cons (pv 2) pa_nil))))
    (pss_cons (ps_expr (pe_cx (c_ask T) hr (by decide) passD rfl (pa_cons (pe_cx (c_can_work_out T) hr (by decide) pass0 rfl (pa_cons (pv 1) (pa_cons (pv 2) pa_nil))) (pa_cons (C8.pe_gc rfl T.c_NO_WAY) pa_nil))))
    (pss_one (ps_ret (pe_cx (c_told T) hr (by decide) pass0 rfl (pa_cons (pe_cx (c_rolled T) hr (by decide) pass0 rfl (pa_cons (pe_cx (c_answer_of T) hr (by decide) pass0 rfl (pa_cons (pv 0) (pa_cons (pv 1) pa_nil))) (pa_cons (pv 1) (pa_cons (pv 2) (pa_cons (pe_callB call_len_seq (by rfl) T.f_len (by decide +kernel) (pa_cons (pe_fld (pv 0) rfl) pa_nil)) pa_nil))))) pa_nil))))))), ?_⟩), T.g_roll, T.k_roll, b_roll F⟩
  · obtain ⟨p, z, u, g, rfl, _⟩ := h
    rfl
  · obtain ⟨p, z, u, g, rfl, hT, W, q⟩ := h
    have e : looked z (.roll u g) = (match VamvsBase.index u (2 ^ width z.t) with
      | none => VamvsBase.one (-2)
      | some x => match VamvsBase.index g (2 ^ width z.t) with
        | none => VamvsBase.one (-2)
        | some y => if canFrom (width z.t) x y = false then VamvsBase.one (-5) else Vamvsa.groupsAnswer (Vamvsa.rolled (width z.t) x y (groupsOf z.t x))) := rfl
    rw [e] at q
    refine ⟨_, rfl, _, rfl, p, z.t, u, rfl, hT, W, fun x hx => ?_, fun hn => ?_⟩
    · rw [hx] at q
      obtain ⟨rfl, hx2⟩ := index_some hx
      have q1 : Ans (cRef K) H Q E (VamvsaNeutral.encode (match VamvsBase.index g (2 ^ width z.t) with
        | none => VamvsBase.one (-2)
        | some y => if canFrom (width z.t) x y = false then VamvsBase.one (-5) else Vamvsa.groupsAnswer (Vamvsa.rolled (width z.t) x y (groupsOf z.t x)))) := q
      clear q
      refine ⟨_, rfl, _, rfl, p, z.t, g, rfl, hT, W, fun y hy => ?_, fun hn => ?_⟩
      · rw [hy] at q1
        have q : Ans (cRef K) H Q E (VamvsaNeutral.encode (if canFrom (width z.t) x y = false then VamvsBase.one (-5) else Vamvsa.groupsAnswer (Vamvsa.rolled (width z.t) x y (groupsOf z.t x)))) := q1
        clear q1
        obtain ⟨rfl, hy2⟩ := index_some hy
        refine ⟨_, rfl, _, rfl, width z.t, x, y, rfl, W.c4, hx2, hy2, _, _, rfl, fun hc => ?_, fun hc => ?_⟩
        · rw [if_neg (by rw [hc]; exact Bool.noConfusion)] at q
          obtain ⟨dx, c, r, v, cs, rs, us, h1, h2, l2, _⟩ := hT.insT
          refine ⟨_, rfl, _, rfl, p, z.t, x, rfl, hT, W, fun H1 a s1 n1 hL => ?_⟩
          refine ⟨_, rfl, _, rfl, _, rfl, p, _, dx, _, _, rfl, s1 _ _ h1, T.cl_Table, T.n_Table_columns, tbF_columns c r v, c, cs, rfl, .inl (SqL.of (s1 _ _ h2)), ?_⟩
          refine ⟨a, groupsOf z.t x, width z.t, x, y, by rw [l2]; rfl, hL, groups_dig W x, W.c4, hc, fun H2 b s2 n2 h2' => ?_⟩
          obtain ⟨d1, d2⟩ := dig_told (rolled_dig (n := width z.t) (u := x) (g := y) (groups_dig W x)) (cols4 W y)
          have s12 := s1.trans s2
          exact ⟨b, _, rfl, h2', d1, d2, fun H3 b3 s3 n3 h3 => q.ok H3 b3 (s12.trans s3) (s12.free n3) h3⟩
        · rw [if_pos hc] at q
          exact q.no (-5) rfl
      · rw [hn] at q1
        exact q1.no (-2) rfl
    · rw [hn] at q
      exact q.no (-2) rfl
/-! ### sizes -/
def spSizes (K : PySem.W.Frag) : Sp := fun vs H Q _ => ∃ p z, vs = [.ref p] ∧ TabAt (cTab K) H p z.t ∧ WF z.t ∧ ∀ H' q, Same H H' → H q = none → H' q = some (.lst (iV (VamvsaNeutral.encode (looked z .sizes)))) → Q (.ref q) H'
theorem c_sizes (T : Txt K mg) : CalX P w K mg base CX0 4 "sizes" (spSizes K) := by
  obtain ⟨fd, F⟩ := T.F_sizes
  refine ⟨_, fd, _, F.ok sc_sizes (fun vs H Q E h => ?_) (fun cdv A outer s H vs Q E hr h => ⟨_, (pss_one (ps_ret (pe_op op_cat (pe_lst (pa_cons (pe_callB call_len_seq (by rfl) T.f_len (by decide +kernel) (pa_cons (pe_fld (pv 0) rfl) pa_nil)) pa_nil)) (pe_lc (own := [("own", 1)]) (g := gName 1) rfl sc_sizes.nd (pi_range1 rfl T.f_range (pa_cons (pe_op op_shl pe_int (pe_callB call_len_seq (by rfl) T.f_len (by decide +kernel) (pa_cons (pe_fld (pv 0) rfl) pa_nil))) pa_nil)) (blkOk_by (N := N_sizes) (sc := defScope s_sizes) (by decide +kernel)) (fun _ _ _ _ _ => (pg_name (i := 1) sc_sizes.nd rfl (Or.inl rfl))) (fun _ _ _ _ _ => pts_nil) (fun _ _ _ _ _ => (pe_cx (c_size_of T) hr (by decide) pass0 rfl (pa_cons (pv 0) (pa_cons (pv 1) pa_nil)))))))), ?_⟩), T.g_sizes, T.k_sizes, b_sizes F⟩
  · obtain ⟨p, z, rfl, _⟩ := h
    rfl
  · obtain ⟨p, z, rfl, hT, W, q⟩ := h
    obtain ⟨dx, c, r, u, cs, rs, us, h1, h2, l2, h3, l3, _⟩ := hT.insT
    refine ⟨_, rfl, p, _, dx, _, _, rfl, h1, T.cl_Table, T.n_Table_rows, tbF_rows c r u, r, rs, rfl, .inl (SqL.of h3), small_line (by show 1 ≤ 1000; decide), fun f nf => ?_⟩
    have s0 : Same H (upd H f (.lst [.int ((rs.length : Nat) : Int)])) := same_new nf
    refine ⟨_, rfl, p, _, dx, _, _, rfl, s0 _ _ h1, T.cl_Table, T.n_Table_columns, tbF_columns c r u, c, cs, rfl, .inl (SqL.of (s0 _ _ h2)), ?_⟩
    have p16 := pow16 W
    refine ⟨_, _, rfl, rfl, ⟨by omega, by have := W.c4; omega, by decide⟩, _, rfl, ?_⟩
    rw [shl_is, l2]
    have p16' : 2 ^ z.t.cols.length ≤ 16 := p16
    have gN : Vamvsa.groupings z.t = List.range (2 ^ z.t.cols.length) := rfl
    generalize 2 ^ z.t.cols.length = N at p16' gN
    refine ⟨by omega, by omega, fun D nD => ?_⟩
    rw [Int.toNat_natCast]
    refine lc_it walk_range (LcI (upd H f (.lst [.int ((rs.length : Nat) : Int)])) D (fun i _ y => y = V.int ((sizeOf_ z.t i : Nat) : Int)) fun _ => true) (LcI.start nD) (fun _ _ _ _ => trivial) (fun i x H1 H2 hi I ⟨e, ex⟩ => ?_) fun H1 I => ?_
    · subst e ex
      have ei : [V.ref p, V.int (0 + ((i : Nat) : Int))] = [V.ref p, V.int ((i : Nat) : Int)] := by rw [Int.zero_add]
      refine ⟨rfl, _, rfl, _, rfl, p, z.t, i, ei, hT.mono (s0.trans I.1), W, fun H7 s7 => ?_⟩
      refine I.add nD s7 (fun _ _ _ _ _ h => h) rfl rfl ?_
      exact Nat.lt_of_lt_of_le (show i < 1000 by omega) (small_line (Nat.le_refl _))
    · obtain ⟨s1, ys, hy, Py⟩ := I
      rw [all_true] at Py
      have e : ys = iV (Vamvsa.nats ((Vamvsa.groupings z.t).map (sizeOf_ z.t))) := by
        rw [map_of (g := fun i => V.int ((sizeOf_ z.t i : Nat) : Int)) Py]
        rw [gN]
        unfold iV Vamvsa.nats
        rw [List.map_map, List.map_map]
        rfl
      have ly : ys.length ≤ 16 := by
        rw [paired_len Py, List.length_range]
        exact p16'
      refine ⟨f, D, _, _, rfl, rfl, s1 _ _ upd_same, hy, ?_, fun k nk => ?_⟩
      · exact small_line (by show 1 + ys.length ≤ 1000; omega)
      · have s2 := s0.trans (s1.trans (same_new (o := HO.lst ([V.int ((rs.length : Nat) : Int)] ++ ys)) nk))
        refine q _ k s2 ((s0.trans s1).free nk) ?_
        rw [upd_same, e, l3]
        rfl
end Kg
/-! Kept groupings, questions: keep, cost, answer, total, gain. -/
namespace Kg
open PySem PySem.Spec PyProof.Rows L2
open VamvsBase (Bytes Answer)
open Vamvsa (Group Table Held width sizeOf_ groupsOf canFrom looked columnsOf)
variable {P : Program} {w : World} {K : PySem.W.Frag} {mg : Str → Option Value} {base : Heap}
/-! ### the table stands though the desk changes -/
theorem ds_tb {tv kv : V} {c r q C C' dx dx' : Addr} : HO.ins C dx (dsF tv kv) ≠ HO.ins C' dx' (tbF c r q) := by
  intro z
  injection z with _ _ z
  injection z with z _
  injection z with z _
  revert z
  decide +kernel
theorem TabAt.but {H H' : Hp} {d p C dx : Addr} {tv kv : V} {t : Table} (b : But d H H') (hd : H d = some (.ins C dx (dsF tv kv))) (h : TabAt (cTab K) H p t) : TabAt (cTab K) H' p t := by
  obtain ⟨dx', c, r, q, cs, rs, qs, h1, h2, h3, h4, h5, h6, h7⟩ := h.ex
  have tu : Tups H H' := fun x xs e => b.keep x _ e (ne_of e hd (by intro z; cases z))
  have li : ∀ {x : Addr} {xs : List V}, H x = some (.lst xs) → H' x = some (.lst xs) := fun {x xs} e => b.keep x _ e (ne_of e hd (by intro z; cases z))
  have pd : p ≠ d := ne_of h1 hd (Ne.symm ds_tb)
  exact ⟨dx', c, r, q, cs, rs, qs, b.keep p _ h1 pd, li h2, paired_imp (fun _ _ x => x.mono tu) h3, li h4, paired_imp (fun _ _ x => x.mono tu) h5, li h6, paired_imp (fun _ _ x => x.mono tu) h7⟩
/-! ### keep -/
theorem inV_nat (u : Nat) : ∀ l : List Nat, inV (.int ((u : Nat) : Int)) (nV l) = l.contains u
  | [] => rfl
  | x :: r => by
    have ih := inV_nat u r
    show (eqV (.int ((x : Nat) : Int)) (.int ((u : Nat) : Int)) || inV (.int ((u : Nat) : Int)) (nV r)) = _
    rw [ih, List.contains_cons]
    congr 1
    show (((x : Nat) : Int) == ((u : Nat) : Int)) = (u == x)
    by_cases e : u = x
    · subst e
      exact (beq_self_eq_true _).trans (beq_self_eq_true _).symm
    · have : ((x : Nat) : Int) ≠ ((u : Nat) : Int) := fun z => e (by omega)
      exact (beq_eq_false_iff_ne.mpr this).trans (beq_eq_false_iff_ne.mpr e).symm
theorem iV_get {l : List Int} {m : Nat} {z : V} (hz : (iV l)[m]? = some z) : ∃ j, l[m]? = some j ∧ z = V.int j := by
  unfold iV at hz
  rw [List.getElem?_map] at hz
  cases e : l[m]? with
  | none => rw [e] at hz; cases hz
  | some j => rw [e] at hz; cases hz; exact ⟨j, rfl, rfl⟩
/-- an answer of a call that may change the desk, or its refusal -/
structure AnsD (K : PySem.W.Frag) (d : Addr) (o o' : Vamvsa.Obj) (H : Hp) (Q : VK) (E : XK) (A : List Int) : Prop where
  ok : ∀ H' q, But d H H' → DeskAt K H' d o' → FootOk d H H' → H q = none → H' q = some (.lst (iV A)) → Q (.ref q) H'
  no : ∀ c, o' = o → A = [c] → RefE (cRef K) H E c
/-- the groupings asked to be kept: the good ones in order, each once -/
structure KeepI (N : Nat) (l : List Int) (ks : List Nat) : Prop where
  mem : ∀ u : Nat, u ∈ ks ↔ ((u : Nat) : Int) ∈ l
  nd : ks.Nodup
  good : ∀ u ∈ ks, u < N
def allIx (N : Nat) (l : List Int) : Prop := ∀ g ∈ l, (VamvsBase.index g N).isSome = true
theorem keep_bad {z : Held} {l : List Int} {g : Int} (hg : g ∈ l) (h : VamvsBase.index g (2 ^ width z.t) = none) : Vamvsa.keepCall z l = (some z, VamvsBase.one (-2)) := by
  unfold Vamvsa.keepCall
  rw [if_pos]
  exact List.any_eq_true.mpr ⟨g, hg, by rw [h]; rfl⟩
theorem keep_good {z : Held} {l : List Int} (h : allIx (2 ^ width z.t) l) {ks : List Nat} (I : KeepI (2 ^ width z.t) l ks) :
    ∃ k : Vamvsa.Kept, Vamvsa.keepCall z l = (some { z with k := k }, ⟨1, Vamvsa.nats [ks.length, (ks.map (sizeOf_ z.t)).sum]⟩) ∧ KeptIs { z with k := k } ks := by
  have no : ¬ (l.any (fun g => (VamvsBase.index g (2 ^ width z.t)).isNone) = true) := by
    intro c
    obtain ⟨g, hg, e⟩ := List.any_eq_true.mp c
    have := h g hg
    rw [← Option.not_isSome, this] at e
    cases e
  have hm : ∀ u, u ∈ ks ↔ u ∈ (Vamvsa.groupings z.t).filter fun (g : Nat) => l.contains (g : Int) := fun u => by
    rw [List.mem_filter, I.mem u]
    unfold Vamvsa.groupings
    rw [List.mem_range]
    constructor
    · intro hu
      exact ⟨I.good u ((I.mem u).mpr hu), by simpa using hu⟩
    · rintro ⟨_, hu⟩
      simpa using hu
  have nd2 : ((Vamvsa.groupings z.t).filter fun (g : Nat) => l.contains (g : Int)).Nodup := List.Pairwise.filter _ List.nodup_range
  refine ⟨(Vamvsa.groupings z.t).filter fun (g : Nat) => l.contains (g : Int), ?_, ⟨hm, I.nd, I.good⟩⟩
  unfold Vamvsa.keepCall
  rw [if_neg no]
  have e1 := length_same nd2 I.nd fun u => (hm u).symm
  have e2 : Vamvsa.room z.t ((Vamvsa.groupings z.t).filter fun (g : Nat) => l.contains (g : Int)) = (ks.map (sizeOf_ z.t)).sum := by
    rw [room_eq (k' := ks) fun u => (hm u).symm]
    exact room_is I.nd I.good
  show (some _, Answer.mk 1 (Vamvsa.nats [List.length _, Vamvsa.room z.t _])) = _
  rw [e1, e2]
def spKeep (K : PySem.W.Frag) : Sp := fun vs H Q E => ∃ d z p ka k r row, vs = [.ref d, .ref r] ∧ DeskT K H d z p ka k ∧ SqL K H r (iV row) ∧ row.length ≤ 2000 ∧ AnsD K d (some z) (Vamvsa.keepCall z row).1 H Q E (VamvsaNeutral.encode (Vamvsa.keepCall z row).2)
theorem c_keep (T : Txt K mg) : CalX P w K mg base (L2.CX P w) 5 "keep" (spKeep K) := by
  obtain ⟨fd, F⟩ := T.F_keep
  refine ⟨_, fd, _, F.okX sc_keep (fun vs H Q E h => ?_) (fun cdv A outer s H vs Q E hr h => ⟨_, (pss_cons (ps_for ownD rfl (pi_list (pv 1)) (pg_name (i := 2) sc_keep.nd rfl (Or.inl rfl)) (pss_one (ps_expr (pe_cx (c_ask_grouping T) hr (by decide) passD rfl (pa_cons (pe_fld (pv 0) rfl) (pa_cons (pv 2) pa_nil))))))
    (pss_cons (ps_set (i := 3) sc_keep.nd rfl (Or.inl rfl) (pe_lst pa_nil))
    (pss_cons (ps_for ownD rfl (pi_list (pv 1)) (pg_name (i := 2) sc_keep.nd rfl (Or.inl rfl)) (pss_one (ps_if (pt_cmpR op_notIn_seq (pv 2) (pv 3) rfl) (pss_one (ps_expr (pe_bm PySem.F.plainAttrs_list PySem.F.slot_list_append PySem.F.type_list_append mt_append (pv 3) (pa_cons (pv 2) pa_nil)))) pss_nil)))
    (pss_cons (ps_expr (pe_mx (m_Desk_set_kept T) hr (by decide) pass0 (pv 0) (pa_cons (pv 3) pa_nil)))
    (pss_one (ps_ret (pe_lst (pa_cons pe_int (pa_cons (pe_callB call_len_seq (by rfl) T.f_len (by decide +kernel) (pa_cons (pv 3) pa_nil)) (pa_cons (pe_cx (c_lines_kept T) hr (by decide) pass0 rfl (pa_cons (pe_fld (pv 0) rfl) (pa_cons (pv 3) pa_nil))) pa_nil)))))))))), ?_⟩), T.g_keep, T.k_keep, b_keep F⟩
  · obtain ⟨d, z, p, ka, k, r, row, rfl, _⟩ := h
    rfl
  · obtain ⟨d, z, p, ka, k, r, row, rfl, D, hS, h2000, q⟩ := h
    obtain ⟨dx, hd⟩ := D.self
    have len : (iV row).length = row.length := iV_length row
    have p16 := pow16 D.wf
    -- for grouping in row: ask_grouping(desk.table, grouping)
    refine ⟨_, rfl, r, rfl, ⟨_, hS⟩, for_list (K := K) (a := r) (xs := iV row) (fun i σ H' => ∃ v, σ = [some (.ref d), some (.ref r), v, none] ∧ H' = H ∧ allIx (2 ^ width z.t) (row.take i))
      ⟨none, rfl, rfl, fun _ h => by cases h⟩ (fun i σ H' _ ⟨_, _, e, _⟩ => by rw [e]; exact hS) ?_ ?_⟩
    · rintro i x σ H' hx ⟨v, rfl, rfl, hall⟩
      obtain ⟨g, hg, rfl⟩ := iV_get hx
      refine ⟨_, rfl, d, _, dx, _, _, rfl, hd, T.cl_Desk, T.n_Desk_table, dsF_table _ _, _, rfl, p, z.t, g, rfl, D.tab, D.wf, fun y hy => ?_, fun hn => ?_⟩
      · refine ⟨_, rfl, rfl, fun g' hg' => ?_⟩
        rw [List.take_add_one, hg] at hg'
        rcases List.mem_append.mp hg' with hm | hm
        · exact hall g' hm
        · have : g' = g := by simpa using hm
          rw [this, hy]
          rfl
      · have e := keep_bad (z := z) (List.mem_of_getElem? hg) hn
        rw [e] at q
        exact q.no (-2) rfl rfl
    · rintro σ H' ⟨v, rfl, rfl, hall⟩
      rw [len, List.take_length] at hall
      -- kept = []
      refine ⟨Nat.zero_le _, fun kk nk => ?_⟩
      have s0 : Same H' (upd H' kk (.lst [])) := same_new nk
      refine ⟨_, rfl, r, rfl, ⟨_, s0.seq hS⟩, for_list (K := K) (a := r) (xs := iV row) (fun i σ H2 => ∃ v ks, σ = [some (.ref d), some (.ref r), v, some (.ref kk)] ∧ Same H' H2 ∧ H2 kk = some (.lst (nV ks)) ∧ KeepI (2 ^ width z.t) (row.take i) ks)
        ⟨v, [], rfl, s0, upd_same, ⟨fun u => by simp, List.nodup_nil, fun _ h => by cases h⟩⟩ (fun i σ H2 _ ⟨_, _, _, s, _⟩ => s.seq hS) ?_ ?_⟩
      · rintro i x σ H2 hx ⟨v, ks, rfl, s1, hk, I⟩
        obtain ⟨g, hg, rfl⟩ := iV_get hx
        have hg2 := hall g (List.mem_of_getElem? hg)
        obtain ⟨u, hu⟩ := Option.isSome_iff_exists.mp hg2
        obtain ⟨rfl, hu2⟩ := index_some hu
        have tk : row.take (i + 1) = row.take i ++ [((u : Nat) : Int)] := by
          rw [List.take_add_one, hg]
          rfl
        refine ⟨_, rfl, _, rfl, kk, _, rfl, .inl (SqL.of hk), rfl, flat_nV _, _, rfl, ?_⟩
        show if (!inV (.int ((u : Nat) : Int)) (nV ks)) = true then _ else _
        rw [inV_nat]
        cases hc : ks.contains u with
        | true =>
          have hm : u ∈ ks := by simpa using hc
          refine ⟨_, ks, rfl, s1, hk, ?_⟩
          rw [tk]
          refine ⟨fun x => ?_, I.nd, I.good⟩
          rw [I.mem x, List.mem_append, List.mem_singleton]
          constructor
          · exact fun h => .inl h
          · rintro (h | h)
            · exact h
            · have : x = u := by omega
              rw [this]
              exact (I.mem u).mp hm
        | false =>
          have hm : u ∉ ks := by
            intro h
            have : ks.contains u = true := by simpa using h
            rw [hc] at this
            cases this
          have kl : ks.length ≤ 16 := by
            have : ks.length ≤ 2 ^ width z.t := by
              have h := List.Nodup.length_le_of_subset (l₁ := ks) (l₂ := List.range (2 ^ width z.t)) I.nd fun x hx => List.mem_range.mpr (I.good x hx)
              rwa [List.length_range] at h
            omega
          refine ⟨_, rfl, .inl ⟨rfl, _, SqL.of hk⟩, _, rfl, kk, nV ks, _, rfl, rfl, hk, by rw [nV_length, line_eq]; omega, ?_⟩
          refine ⟨_, ks ++ [u], rfl, same_lst s1 nk, by rw [upd_same, nV_snoc], ?_⟩
          rw [tk]
          refine ⟨fun x => ?_, ?_, fun x hx => ?_⟩
          · rw [List.mem_append, List.mem_append, I.mem x, List.mem_singleton, List.mem_singleton]
            constructor
            · rintro (h | h)
              · exact .inl h
              · exact .inr (by rw [h])
            · rintro (h | h)
              · exact .inl h
              · exact .inr (by omega)
          · rw [List.nodup_append]
            refine ⟨I.nd, by simp, fun a ha b hb e => ?_⟩
            rw [List.mem_singleton.mp hb] at e
            exact hm (e ▸ ha)
          · rcases List.mem_append.mp hx with hx | hx
            · exact I.good x hx
            · rw [List.mem_singleton.mp hx]; exact hu2
      · rintro σ H2 ⟨v, ks, rfl, s1, hk, I⟩
        rw [len, List.take_length] at I
        obtain ⟨k', ek, KI⟩ := keep_good hall I
        rw [ek] at q
        have kl := kept_few D.wf KI.nd KI.good
        -- desk.set_kept(kept)
        have hd2 := s1 _ _ hd
        refine ⟨_, rfl, d, dx, _, rfl, hd2, dsF_none (by decide +kernel), _, rfl, d, kk, dx, _, _, rfl, hd2, fun H3 b3 hd3 => ?_⟩
        have hk3 : H3 kk = some (.lst (nV ks)) := b3.keep kk _ hk (ne_of hk hd2 (by intro z; cases z))
        have T3 : TabAt (cTab K) H3 p z.t := (D.tab.mono s1).but b3 hd2
        have D3 : DeskT K H3 d { z with k := k' } p kk ks := ⟨⟨dx, hd3⟩, hk3, T3, D.wf, KI⟩
        -- return [1, len(kept), lines_kept(desk.table, kept)]
        refine ⟨_, rfl, kk, _, rfl, .inl (SqL.of hk3), _, rfl, d, _, dx, _, _, rfl, hd3, T.cl_Desk, T.n_Desk_table, dsF_table _ _, _, rfl, p, kk, z.t, ks, rfl, T3, D.wf, SqL.of hk3, by omega, fun H4 s4 => ?_⟩
        refine ⟨small_line (by show 3 ≤ 1000; decide), fun y ny => ?_⟩
        have bb : But d H' (upd H4 y (.lst [V.int 1, V.int ((nV ks).length : Nat), V.int (((ks.map (sizeOf_ z.t)).sum : Nat) : Int)])) := (But.of s1).trans (b3.trans (.of (s4.trans (same_new ny))))
        have pd : p ≠ d := by
          obtain ⟨_, _, _, _, _, _, _, hp, _⟩ := D.tab.ex
          exact ne_of hp hd (Ne.symm ds_tb)
        refine q.ok _ y bb (D3.mono (s4.trans (same_new ny))).close (fun b hb => ?_) ?_ ?_
        · rcases foot_cases ((s4.trans (same_new ny)) _ _ hd3) hb with e | ⟨p', C', dx', c, r, u, et, hp, hb⟩
          · rw [e]
            exact .inr nk
          · injection et with et
            subst et
            obtain ⟨dy, c2, r2, q2, _, _, _, h4, _⟩ := D.tab.ex
            have h5 := (s4.trans (same_new (o := HO.lst [V.int 1, V.int ((nV ks).length : Nat), V.int (((ks.map (sizeOf_ z.t)).sum : Nat) : Int)]) ny)) _ _ (b3.keep _ _ (s1 _ _ h4) pd)
            exact .inl ⟨_, _, _, _, hd, .inr ⟨_, _, _, c2, r2, q2, rfl, h4, foot_tab h5 hp hb⟩⟩
        · exact s1.free (b3.dom y (s4.free ny))
        · rw [upd_same, nV_length]
          rfl
/-! ### questions -/
def spAskQ (K : PySem.W.Frag) : Sp := fun vs H Q E => ∃ p t g, vs = [.ref p, .int g] ∧ TabAt (cTab K) H p t ∧ WF t ∧ (∀ x, VamvsBase.index g t.asks.length = some x → Q .non H) ∧ (VamvsBase.index g t.asks.length = none → RefE (cRef K) H E (-3))
theorem c_ask_question (T : Txt K mg) : CalX P w K mg base (L2.CX P w) 4 "ask_question" (spAskQ K) := by
  obtain ⟨fd, F⟩ := T.F_ask_question
  refine ⟨_, fd, _, F.okX sc_ask_question (fun vs H Q E h => ?_) (fun cdv A outer s H vs Q E hr h => ⟨_, (pss_one (ps_expr (pe_cx (c_ask T) hr (by decide) passD rfl (pa_cons (pe_chain op_le op_lt pe_int (pv 1) (pe_callB call_len_seq (by rfl) T.f_len (by decide +kernel) (pa_cons (pe_fld (pv 0) rfl) pa_nil))) (pa_cons (C8.pe_gc rfl T.c_NO_QUESTION) pa_nil))))), ?_⟩), T.g_ask_question, T.k_ask_question, b_ask_question F⟩
  · obtain ⟨p, t, g, rfl, _⟩ := h
    rfl
  · obtain ⟨p, t, g, rfl, hT, W, q, qE⟩ := h
    obtain ⟨dx, c, r, u, cs, rs, us, h1, _, _, _, _, h6, h7⟩ := hT.insT
    have fin : ∀ b, b = (VamvsBase.index g t.asks.length).isSome → spAsk (cRef K) [.bl b, .int (-3)] H (fun _ H1 => Q .non H1) E := fun b e => by
      refine ⟨b, -3, rfl, fun hb => ?_, fun hb => qE ?_⟩
      · rw [hb] at e
        obtain ⟨x, hx⟩ := Option.isSome_iff_exists.mp e.symm
        exact q x hx
      · rw [hb] at e
        exact Option.isNone_iff_eq_none.mp (by rw [← Option.not_isSome, ← e]; rfl)
    have it := index_test g t.asks.length
    refine ⟨_, rfl, _, _, rfl, rfl, _, rfl, if_b (fun h => ?_) fun h => ?_⟩
    · refine ⟨_, rfl, p, _, dx, _, _, rfl, h1, T.cl_Table, T.n_Table_questions, tbF_questions c r u, u, us, rfl, .inl (SqL.of h6), _, _, rfl, rfl, ?_⟩
      refine fin _ ?_
      rw [it, h, Bool.true_and, paired_len h7]
    · refine fin _ ?_
      rw [it, h, Bool.false_and]
theorem ask_of {z : Held} {q : Int} {f : Vamvsa.Ask → Answer} {x : Nat} {a : Vamvsa.Ask} (h : VamvsBase.index q z.t.asks.length = some x) (ha : z.t.asks[x]? = some a) : Vamvsa.withAsk z q f = f a := by
  unfold Vamvsa.withAsk
  rw [h]
  show (match z.t.asks[x]? with
    | none => VamvsBase.one (-3)
    | some a => f a) = _
  rw [ha]
theorem ask_none {z : Held} {q : Int} {f : Vamvsa.Ask → Answer} (h : VamvsBase.index q z.t.asks.length = none) : Vamvsa.withAsk z q f = VamvsBase.one (-3) := by
  unfold Vamvsa.withAsk
  rw [h]
  rfl
/-! ### cost -/
def spDeskQ (K : PySem.W.Frag) (call : Int → Vamvsa.Call) : Sp := fun vs H Q E => ∃ d z p ka k g, vs = [.ref d, .int g] ∧ DeskT K H d z p ka k ∧ Ans (cRef K) H Q E (VamvsaNeutral.encode (looked z (call g)))
theorem c_cost (T : Txt K mg) : CalX P w K mg base (L2.CX P w) 5 "cost" (spDeskQ K .cost) := by
  obtain ⟨fd, F⟩ := T.F_cost
  refine ⟨_, fd, _, F.okX sc_cost (fun vs H Q E h => ?_) (fun cdv A outer s H vs Q E hr h => ⟨_, (pss_cons (ps_expr (pe_cx (c_ask_question T) hr (by decide) passD rfl (pa_cons (pe_fld (pv 0) rfl) (pa_cons (pv 1) pa_nil))))
    (pss_cons (ps_asg (pe_ix ix_list (pe_fld (pe_fld (pv 0) rfl) rfl) (pv 1) (fun _ _ => rfl)) (pg_tup rfl (pgs_cons (pg_name (i := 2) sc_cost.nd rfl (Or.inl rfl)) (pgs_cons (pg_name (i := 3) sc_cost.nd rfl (Or.inl rfl)) pgs_nil))))
    (pss_cons (ps_asg (pe_cx (c_reads T) hr (by decide) pass0 rfl (pa_cons (pe_fld (pv 0) rfl) (pa_cons (pe_fld (pv 0) rfl) (pa_cons (pv 2) pa_nil)))) (pg_tup rfl (pgs_cons (pg_name (i := 4) sc_cost.nd rfl (Or.inl rfl)) (pgs_cons (pg_name (i := 5) sc_cost.nd rfl (Or.inl rfl)) pgs_nil))))
    (pss_cons (ps_if (pt_cmpR op_isN (pv 4) pe_non (nomark _)) (pss_one (ps_ret (pe_lst (pa_cons (pv 5) (pa_cons (C8.pe_gc rfl T.c_OF_TABLE) (pa_cons (pv 3) pa_nil)))))) pss_nil)
    (pss_one (ps_ret (pe_lst (pa_cons (pv 5) (pa_cons (pv 4) (pa_cons (pv 3) pa_nil)))))))))), ?_⟩), T.g_cost, T.k_cost, b_cost F⟩
  · obtain ⟨d, z, p, ka, k, g, rfl, _⟩ := h
    rfl
  · obtain ⟨d, z, p, ka, k, g, rfl, D, q⟩ := h
    obtain ⟨dx, hd⟩ := D.self
    have e : looked z (.cost g) = Vamvsa.withAsk z g fun a => ⟨(Vamvsa.costOf z.t z.k a.g : Int), [Vamvsa.readerNumber z a.g, (a.k : Int)]⟩ := rfl
    rw [e] at q
    refine ⟨_, rfl, d, _, dx, _, _, rfl, hd, T.cl_Desk, T.n_Desk_table, dsF_table _ _, _, rfl, p, z.t, g, rfl, D.tab, D.wf, fun x hx => ?_, fun hn => ?_⟩
    · obtain ⟨rfl, hx2⟩ := index_some hx
      obtain ⟨a, ha⟩ := get_lt hx2
      rw [ask_of hx ha] at q
      obtain ⟨tx, c, r, u, cs, rs, us, h1, _, _, _, _, h6, h7⟩ := D.tab.insT
      obtain ⟨v, hv, t, rfl, ht⟩ := paired_get' h7 ha
      have ma := List.mem_of_getElem? ha
      have kl := kept_few D.wf D.is.nd D.is.good
      refine ⟨_, rfl, d, _, dx, _, _, rfl, hd, T.cl_Desk, T.n_Desk_table, dsF_table _ _, p, _, tx, _, _, rfl, h1, T.cl_Table, T.n_Table_questions, tbF_questions c r u, _, rfl, u, us, _, _, rfl, rfl, SqL.of h6, atI_nat hv, ?_⟩
      refine ⟨t, _, rfl, SqT.of ht, rfl, _, _, rfl, _, _, rfl, rfl, ?_⟩
      refine ⟨_, rfl, d, _, dx, _, _, rfl, hd, T.cl_Desk, T.n_Desk_table, dsF_table _ _, _, rfl, d, _, dx, _, _, rfl, hd, T.cl_Desk, T.n_Desk_kept, dsF_kept _ _, _, rfl, p, ka, z.t, k, a.g, rfl, D.tab, D.wf, SqL.of D.kept, by omega, D.is.good, D.wf.ag a ma, fun H1 tt s1 nt e1 => ?_⟩
      rw [reader_eq D.is.mem, cost_eq D.is.mem] at e1
      refine ⟨tt, _, rfl, SqT.of e1, rfl, _, _, rfl, _, _, rfl, rfl, ?_⟩
      unfold Vamvsa.readerNumber at q
      cases er : Vamvsa.reader z.t z.k a.g with
      | none =>
        rw [er] at q
        refine ⟨_, rfl, rfl, _, rfl, ?_⟩
        refine ⟨_, rfl, _, rfl, small_line (by show 3 ≤ 1000; decide), fun y ny => ?_⟩
        exact q.ok _ y (s1.trans (same_new ny)) (s1.free ny) (by rw [upd_same]; rfl)
      | some b =>
        rw [er] at q
        refine ⟨_, rfl, rfl, _, rfl, ?_⟩
        refine ⟨_, rfl, _, rfl, _, rfl, small_line (by show 3 ≤ 1000; decide), fun y ny => ?_⟩
        exact q.ok _ y (s1.trans (same_new ny)) (s1.free ny) (by rw [upd_same]; rfl)
    · rw [ask_none hn] at q
      exact q.no (-3) rfl
/-! ### answer -/
theorem c_answer (T : Txt K mg) : CalX P w K mg base (L2.CX P w) 6 "answer" (spDeskQ K .answer) := by
  obtain ⟨fd, F⟩ := T.F_answer
  refine ⟨_, fd, _, F.okX sc_answer (fun vs H Q E h => ?_) (fun cdv A outer s H vs Q E hr h => ⟨_, (pss_cons (ps_expr (pe_cx (c_ask_question T) hr (by decide) passD rfl (pa_cons (pe_fld (pv 0) rfl) (pa_cons (pv 1) pa_nil))))
    (pss_one (ps_ret (pe_cx (c_told T) hr (by decide) pass0 rfl (pa_cons (pe_cx (c_worked_out T) hr (by decide) pass0 rfl (pa_cons (pe_fld (pv 0) rfl) (pa_cons (pe_fld (pv 0) rfl) (pa_cons (pe_ix ix_tup (pe_ix ix_list (pe_fld (pe_fld (pv 0) rfl) rfl) (pv 1) (fun _ _ => rfl)) pe_int (fun _ _ => rfl)) pa_nil)))) pa_nil))))), ?_⟩), T.g_answer, T.k_answer, b_answer F⟩
  · obtain ⟨d, z, p, ka, k, g, rfl, _⟩ := h
    rfl
  · obtain ⟨d, z, p, ka, k, g, rfl, D, q⟩ := h
    obtain ⟨dx, hd⟩ := D.self
    have e : looked z (.answer g) = Vamvsa.withAsk z g fun a => Vamvsa.groupsAnswer (Vamvsa.answerOf z.t z.k a.g) := rfl
    rw [e] at q
    refine ⟨_, rfl, d, _, dx, _, _, rfl, hd, T.cl_Desk, T.n_Desk_table, dsF_table _ _, _, rfl, p, z.t, g, rfl, D.tab, D.wf, fun x hx => ?_, fun hn => ?_⟩
    · obtain ⟨rfl, hx2⟩ := index_some hx
      obtain ⟨a, ha⟩ := get_lt hx2
      rw [ask_of hx ha] at q
      obtain ⟨tx, c, r, u, cs, rs, us, h1, _, _, _, _, h6, h7⟩ := D.tab.insT
      obtain ⟨v, hv, t, rfl, ht⟩ := paired_get' h7 ha
      have ma := List.mem_of_getElem? ha
      have kl := kept_few D.wf D.is.nd D.is.good
      refine ⟨_, rfl, d, _, dx, _, _, rfl, hd, T.cl_Desk, T.n_Desk_table, dsF_table _ _, _, rfl, d, _, dx, _, _, rfl, hd, T.cl_Desk, T.n_Desk_kept, dsF_kept _ _, ?_⟩
      refine ⟨_, rfl, d, _, dx, _, _, rfl, hd, T.cl_Desk, T.n_Desk_table, dsF_table _ _, p, _, tx, _, _, rfl, h1, T.cl_Table, T.n_Table_questions, tbF_questions c r u, _, rfl, u, us, _, _, rfl, rfl, SqL.of h6, atI_nat hv, ?_⟩
      refine ⟨t, _, _, _, rfl, rfl, SqT.of ht, atI_nat (j := 0) rfl, ?_⟩
      refine ⟨p, ka, z.t, k, a.g, rfl, D.tab, D.wf, SqL.of D.kept, by omega, D.is.good, D.wf.ag a ma, fun H1 b s1 n1 hL => ?_⟩
      rw [answer_eq D.is.mem] at hL
      have dg : (Vamvsa.answerOf z.t z.k a.g).length ≤ 60 ∧ ∀ x ∈ Vamvsa.answerOf z.t z.k a.g, x.key.length ≤ 4 := by
        unfold Vamvsa.answerOf
        cases Vamvsa.reader z.t z.k a.g with
        | none => exact dig_told (groups_dig D.wf a.g) (cols4 D.wf a.g)
        | some v => exact dig_told (rolled_dig (n := width z.t) (u := v) (g := a.g) (groups_dig D.wf v)) (cols4 D.wf a.g)
      exact ⟨b, _, rfl, hL, dg.1, dg.2, fun H2 b2 s2 n2 h2 => q.ok H2 b2 (s1.trans s2) (s1.free n2) h2⟩
    · rw [ask_none hn] at q
      exact q.no (-3) rfl
/-! ### total -/
def spTotal (K : PySem.W.Frag) : Sp := fun vs H Q _ => ∃ d z p ka k, vs = [.ref d] ∧ DeskT K H d z p ka k ∧ ∀ H' q, Same H H' → H q = none → H' q = some (.lst (iV (VamvsaNeutral.encode (looked z .total)))) → Q (.ref q) H'
theorem c_total (T : Txt K mg) : CalX P w K mg base CX0 6 "total" (spTotal K) := by
  obtain ⟨fd, F⟩ := T.F_total
  refine ⟨_, fd, _, F.ok sc_total (fun vs H Q E h => ?_) (fun cdv A outer s H vs Q E hr h => ⟨_, (pss_cons (ps_set (i := 1) sc_total.nd rfl (Or.inl rfl) (pe_fld (pv 0) rfl))
    (pss_one (ps_ret (pe_lst (pa_cons (pe_cx (c_cost_of T) hr (by decide) pass0 rfl (pa_cons (pv 1) (pa_cons (pe_fld (pv 0) rfl) pa_nil))) (pa_cons (pe_cx (c_cost_of T) hr (by decide) pass0 rfl (pa_cons (pv 1) (pa_cons (pe_lst pa_nil) pa_nil))) (pa_cons (pe_cx (c_lines_kept T) hr (by decide) pass0 rfl (pa_cons (pv 1) (pa_cons (pe_fld (pv 0) rfl) pa_nil))) pa_nil))))))), ?_⟩), T.g_total, T.k_total, b_total F⟩
  · obtain ⟨d, z, p, ka, k, rfl, _⟩ := h
    rfl
  · obtain ⟨d, z, p, ka, k, rfl, D, q⟩ := h
    obtain ⟨dx, hd⟩ := D.self
    have kl := kept_few D.wf D.is.nd D.is.good
    refine ⟨_, rfl, d, _, dx, _, _, rfl, hd, T.cl_Desk, T.n_Desk_table, dsF_table _ _, ?_⟩
    refine ⟨_, rfl, _, rfl, d, _, dx, _, _, rfl, hd, T.cl_Desk, T.n_Desk_kept, dsF_kept _ _, p, ka, z.t, k, rfl, D.tab, D.wf, SqL.of D.kept, by omega, D.is.good, fun H1 s1 => ?_⟩
    refine ⟨_, rfl, Nat.zero_le _, fun e ne => ?_⟩
    have s2 : Same H1 (upd H1 e (.lst [])) := same_new ne
    have D2 := D.mono (s1.trans s2)
    refine ⟨p, e, z.t, [], rfl, D2.tab, D.wf, SqL.of upd_same, by decide, (fun _ h => by cases h), fun H3 s3 => ?_⟩
    have s03 := s1.trans (s2.trans s3)
    have D3 := D.mono s03
    obtain ⟨dx3, hd3⟩ := D3.self
    refine ⟨_, rfl, _, rfl, d, _, _, _, _, rfl, hd3, T.cl_Desk, T.n_Desk_kept, dsF_kept _ _, p, ka, z.t, k, rfl, D3.tab, D.wf, SqL.of D3.kept, by omega, fun H4 s4 => ?_⟩
    refine ⟨small_line (by show 3 ≤ 1000; decide), fun y ny => ?_⟩
    refine q _ y (s03.trans (s4.trans (same_new ny))) ((s03.trans s4).free ny) ?_
    rw [upd_same, total_eq D.is.mem, ← room_is D.is.nd D.is.good, room_eq D.is.mem]
    rfl
/-! ### gain -/
theorem c_gain (T : Txt K mg) : CalX P w K mg base (L2.CX P w) 6 "gain" (spDeskQ K .gain) := by
  obtain ⟨fd, F⟩ := T.F_gain
  refine ⟨_, fd, _, F.okX sc_gain (fun vs H Q E h => ?_) (fun cdv A outer s H vs Q E hr h => ⟨_, (pss_cons (ps_expr (pe_cx (c_ask_grouping T) hr (by decide) passD rfl (pa_cons (pe_fld (pv 0) rfl) (pa_cons (pv 1) pa_nil))))
    (pss_cons (ps_set (i := 2) sc_gain.nd rfl (Or.inl rfl) (pe_op op_cat (pe_fld (pv 0) rfl) (pe_lst (pa_cons (pv 1) pa_nil))))
    (pss_one (ps_ret (pe_lst (pa_cons (pe_op op_sub (pe_cx (c_cost_of T) hr (by decide) pass0 rfl (pa_cons (pe_fld (pv 0) rfl) (pa_cons (pe_fld (pv 0) rfl) pa_nil))) (pe_cx (c_cost_of T) hr (by decide) pass0 rfl (pa_cons (pe_fld (pv 0) rfl) (pa_cons (pv 2) pa_nil)))) (pa_cons (pe_cx (c_size_of T) hr (by decide) pass0 rfl (pa_cons (pe_fld (pv 0) rfl) (pa_cons (pv 1) pa_nil))) pa_nil))))))), ?_⟩), T.g_gain, T.k_gain, b_gain F⟩
  · obtain ⟨d, z, p, ka, k, g, rfl, _⟩ := h
    rfl
  · obtain ⟨d, z, p, ka, k, g, rfl, D, q⟩ := h
    obtain ⟨dx, hd⟩ := D.self
    have e : looked z (.gain g) = (match VamvsBase.index g (2 ^ width z.t) with
      | none => VamvsBase.one (-2)
      | some x => ⟨(Vamvsa.total z.t z.k - Vamvsa.total z.t (x :: z.k) : Int), Vamvsa.nats [sizeOf_ z.t x]⟩) := rfl
    rw [e] at q
    refine ⟨_, rfl, d, _, dx, _, _, rfl, hd, T.cl_Desk, T.n_Desk_table, dsF_table _ _, _, rfl, p, z.t, g, rfl, D.tab, D.wf, fun x hx => ?_, fun hn => ?_⟩
    · rw [hx] at q
      obtain ⟨rfl, hx2⟩ := index_some hx
      have kl := kept_few D.wf D.is.nd D.is.good
      refine ⟨_, rfl, d, _, dx, _, _, rfl, hd, T.cl_Desk, T.n_Desk_kept, dsF_kept _ _, _, rfl, small_line (by show 1 ≤ 1000; decide), fun l nl => ?_⟩
      have s1 : Same H (upd H l (.lst [V.int ((x : Nat) : Int)])) := same_new nl
      refine ⟨ka, l, _, _, rfl, rfl, s1 _ _ D.kept, upd_same, ?_, fun m nm => ?_⟩
      · rw [nV_length]
        exact small_line (by show k.length + 1 ≤ 1000; omega)
      have s2 := same_new (o := HO.lst (nV k ++ [V.int ((x : Nat) : Int)])) nm
      have s12 := s1.trans s2
      have D2 := D.mono s12
      obtain ⟨dx2, hd2⟩ := D2.self
      have hm : upd (upd H l (.lst [V.int ((x : Nat) : Int)])) m (.lst (nV k ++ [V.int ((x : Nat) : Int)])) m = some (.lst (nV (k ++ [x]))) := by rw [upd_same, nV_snoc]
      have gg : AllG z.t (k ++ [x]) := fun u hu => by
        rcases List.mem_append.mp hu with hu | hu
        · exact D.is.good u hu
        · rw [List.mem_singleton.mp hu]; exact hx2
      have mm : ∀ u, u ∈ k ++ [x] ↔ u ∈ x :: z.k := fun u => by
        rw [List.mem_append, List.mem_singleton, List.mem_cons, D.is.mem u]
        exact or_comm
      refine ⟨_, rfl, d, _, _, _, _, rfl, hd2, T.cl_Desk, T.n_Desk_table, dsF_table _ _, _, rfl, d, _, _, _, _, rfl, hd2, T.cl_Desk, T.n_Desk_kept, dsF_kept _ _, p, ka, z.t, k, rfl, D2.tab, D.wf, SqL.of D2.kept, by omega, D.is.good, fun H3 s3 => ?_⟩
      have D3 := D2.mono s3
      obtain ⟨dx3, hd3⟩ := D3.self
      refine ⟨_, rfl, d, _, _, _, _, rfl, hd3, T.cl_Desk, T.n_Desk_table, dsF_table _ _, _, rfl, p, m, z.t, k ++ [x], rfl, D3.tab, D.wf, SqL.of (s3 _ _ hm), by rw [List.length_append]; show k.length + 1 ≤ 100; omega, gg, fun H4 s4 => ?_⟩
      have D4 := D3.mono s4
      obtain ⟨dx4, hd4⟩ := D4.self
      refine ⟨_, _, rfl, rfl, _, rfl, d, _, _, _, _, rfl, hd4, T.cl_Desk, T.n_Desk_table, dsF_table _ _, _, rfl, p, z.t, x, rfl, D4.tab, D.wf, fun H5 s5 => ?_⟩
      refine ⟨small_line (by show 2 ≤ 1000; decide), fun y ny => ?_⟩
      have sall := s12.trans (s3.trans (s4.trans s5))
      refine q.ok _ y (sall.trans (same_new ny)) (sall.free ny) ?_
      rw [upd_same, total_eq D.is.mem, total_eq mm]
      rfl
    · rw [hn] at q
      exact q.no (-2) rfl
end Kg
/-! The calls: load, listed, all but load, an answer or its refusal. -/
namespace Kg
open PySem PySem.Spec PyProof.Rows L2
open VamvsBase (Bytes Answer)
open Vamvsa (Group Table Held width sizeOf_ groupsOf canFrom looked columnsOf)
variable {P : Program} {w : World} {K : PySem.W.Frag} {mg : Str → Option Value} {base : Heap}
/-! ### load -/
theorem step_bad {o : Vamvsa.Obj} {b : Bytes} {f : VamvsBase.Fault} (h : Vamvsa.read b = .error f) : Vamvsa.step o (.load b) = (o, VamvsBase.faulty f) := by
  have e : Vamvsa.step o (.load b) = (match Vamvsa.read b with
    | .ok t => (some ⟨t, []⟩, ⟨1, Vamvsa.nats [width t, t.rows.length, t.asks.length]⟩)
    | .error f => (o, VamvsBase.faulty f)) := by cases o <;> rfl
  rw [e, h]
theorem step_good {o : Vamvsa.Obj} {b : Bytes} {t : Table} (h : Vamvsa.read b = .ok t) : Vamvsa.step o (.load b) = (some ⟨t, []⟩, ⟨1, Vamvsa.nats [width t, t.rows.length, t.asks.length]⟩) := by
  have e : Vamvsa.step o (.load b) = (match Vamvsa.read b with
    | .ok t => (some ⟨t, []⟩, ⟨1, Vamvsa.nats [width t, t.rows.length, t.asks.length]⟩)
    | .error f => (o, VamvsBase.faulty f)) := by cases o <;> rfl
  rw [e, h]
/-- an answer of a call that may change the desk -/
def AnsO (K : PySem.W.Frag) (d : Addr) (o' : Vamvsa.Obj) (H : Hp) (Q : VK) (A : List Int) : Prop := ∀ H' q, But d H H' → DeskAt K H' d o' → FootOk d H H' → H q = none → H' q = some (.lst (iV A)) → Q (.ref q) H'
def spLoad (K : PySem.W.Frag) : Sp := fun vs H Q _ => ∃ d o a b, vs = [.ref d, .ref a] ∧ DeskAt K H d o ∧ SqL K H a (bV b) ∧ b.length ≤ 10000 ∧ AnsO K d (Vamvsa.step o (.load b)).1 H Q (VamvsaNeutral.encode (Vamvsa.step o (.load b)).2)
theorem c_load (T : Txt K mg) : CalX P w K mg base CX0 10 "load" (spLoad K) := by
  obtain ⟨fd, F⟩ := T.F_load
  refine ⟨_, fd, _, F.ok sc_load (fun vs H Q E h => ?_) (fun cdv A outer s H vs Q E hr h => ⟨_, (pss_cons (ps_try_as (i := 3) (tb := fun W => tAsg (tCallS (spTableOf K) (WE W) (tCons (tVar 1) tNil)) (gName 2)) (ts := fun a cls d => tRet (tLst (tCons (tC (.int 0)) (tCons (tXf a cls d (cFlt K) "code" (tVar 3)) (tCons (tXf a cls d (cFlt K) "place" (tVar 3)) tNil))))) (Wout := fun _ _ _ _ => False) rfl rfl sc_load.nd rfl rfl ⟨rfl, by decide, Or.inl T.g_Fault⟩ takes0
      (fun W pn xe tk _ => by exact (pss_one (ps_set (i := 2) sc_load.nd rfl (Or.inl rfl) (pe_cS (c_table_of T) hr (by decide) (fun σ => passAt tk σ) rfl (pa_cons (pv 1) pa_nil)))))
      (fun a oe cls d pn hz hf => by exact (pss_one (ps_ret (pe_lst (pa_cons pe_int (pa_cons (pe_xf T.xf_Fault T.n_Fault_code hz hf (pv 3)) (pa_cons (pe_xf T.xf_Fault T.n_Fault_place hz hf (pv 3)) pa_nil))))))))
    (pss_cons (ps_expr (pe_mx (m_Desk_set_table T) hr (by decide) pass0 (pv 0) (pa_cons (pv 2) pa_nil)))
    (pss_one (ps_ret (pe_lst (pa_cons pe_int (pa_cons (pe_callB call_len_seq (by rfl) T.f_len (by decide +kernel) (pa_cons (pe_fld (pv 2) rfl) pa_nil)) (pa_cons (pe_callB call_len_seq (by rfl) T.f_len (by decide +kernel) (pa_cons (pe_fld (pv 2) rfl) pa_nil)) (pa_cons (pe_callB call_len_seq (by rfl) T.f_len (by decide +kernel) (pa_cons (pe_fld (pv 2) rfl) pa_nil)) pa_nil))))))))), ?_⟩), T.g_load, T.k_load, b_load F⟩
  · obtain ⟨d, o, a, b, rfl, _⟩ := h
    rfl
  · obtain ⟨d, o, a, b, rfl, D, hS, hb, q⟩ := h
    obtain ⟨dx, tv, ka, k, hd, hk, hI⟩ := D.ex
    refine ⟨_, rfl, a, b, rfl, hS, hb, fun f hf e H3 s3 hd3 hx => ?_, fun t ht H1 p s1 np hT hN => ?_⟩
    · rw [step_bad hf] at q
      refine ⟨true, T.em_Fault, fun _ a0 na => ?_, fun q => Bool.noConfusion q⟩
      refine ⟨_, rfl, rfl, rfl, e, _, _, rfl, hx, (lk_past (by decide +kernel)).trans lk_here, _, rfl, rfl, rfl, e, _, _, rfl, hx, lk_here, small_line (by show 3 ≤ 1000; decide), fun y ny => ?_⟩
      exact q _ y (.of (s3.trans (same_new ny))) (D.mono (s3.trans (same_new ny))) (foot_same D (s3.trans (same_new ny))) (s3.free ny) upd_same
    · rw [step_good ht] at q
      have W := read_wf ht
      have hd1 := s1 _ _ hd
      -- desk.set_table(table)
      refine ⟨_, rfl, d, dx, _, rfl, hd1, dsF_none (by decide +kernel), _, rfl, d, p, dx, _, _, rfl, hd1, fun H2 kk b2 hd2 hk2 nkk => ?_⟩
      have T2 : TabAt (cTab K) H2 p t := hT.but b2 hd1
      have D2 : DeskT K H2 d ⟨t, []⟩ p kk [] := ⟨⟨dx, hd2⟩, hk2, T2, W, ⟨fun u => Iff.rfl, List.nodup_nil, fun _ h => by cases h⟩⟩
      obtain ⟨tx, c, r, u, cs, rs, us, h1, h2, l2, h3, l3, h6, h7⟩ := T2.insT
      refine ⟨_, rfl, p, _, tx, _, _, rfl, h1, T.cl_Table, T.n_Table_columns, tbF_columns c r u, c, cs, rfl, .inl (SqL.of h2), ?_⟩
      refine ⟨_, rfl, p, _, tx, _, _, rfl, h1, T.cl_Table, T.n_Table_rows, tbF_rows c r u, r, rs, rfl, .inl (SqL.of h3), ?_⟩
      refine ⟨_, rfl, p, _, tx, _, _, rfl, h1, T.cl_Table, T.n_Table_questions, tbF_questions c r u, u, us, rfl, .inl (SqL.of h6), ?_⟩
      refine ⟨small_line (by show 4 ≤ 1000; decide), fun y ny => ?_⟩
      have s3 := same_new (o := HO.lst [V.int 1, V.int ((cs.length : Nat) : Int), V.int ((rs.length : Nat) : Int), V.int ((us.length : Nat) : Int)]) ny
      refine q _ y ((But.of s1).trans (b2.trans (.of s3))) (D2.mono s3).close (fun x hx => ?_) (s1.free (b2.dom y ny)) ?_
      · right
        rcases foot_cases (s3 _ _ hd2) hx with e | ⟨p', C', dx', c1, r1, u1, et, hp, hb⟩
        · rw [e]
          exact s1.free nkk
        · injection et with et
          subst et
          obtain ⟨_, _, c2, r2, u2, hp2, nc, nr, nu⟩ := hN
          have pd : p ≠ d := by
            obtain ⟨_, _, _, _, _, _, _, hp3, _⟩ := hT.ex
            exact ne_of hp3 hd1 (Ne.symm ds_tb)
          rcases foot_tab (s3 _ _ (b2.keep _ _ hp2 pd)) hp hb with e | e | e <;> rw [e] <;> assumption
      rw [upd_same, l2, l3, paired_len h7]
      rfl
/-! ### listed -/
def spListed (K : PySem.W.Frag) : Sp := fun vs H Q _ => ∃ a l, vs = [.ref a] ∧ H a = some (.lst (iV l)) ∧ l.length ≤ 100000 ∧ ∀ H' q, Same H H' → H q = none → H' q = some (.lst (iV (((l.length : Nat) : Int) :: l))) → Q (.ref q) H'
theorem c_listed (T : Txt K mg) : CalX P w K mg base CX0 1 "listed" (spListed K) := by
  obtain ⟨fd, F⟩ := T.F_listed
  refine ⟨_, fd, _, F.ok sc_listed (fun vs H Q E h => ?_) (fun cdv A outer s H vs Q E hr h => ⟨_, (pss_one (ps_ret (pe_op op_cat (pe_lst (pa_cons (pe_callB call_len_seq (by rfl) T.f_len (by decide +kernel) (pa_cons (pv 0) pa_nil)) pa_nil)) (pe_callTy call_list_of (by rfl) T.f_list (by decide +kernel) (pa_cons (pv 0) pa_nil))))), ?_⟩), T.g_listed, T.k_listed, b_listed F⟩
  · obtain ⟨a, l, rfl, _⟩ := h
    rfl
  · obtain ⟨a, l, rfl, h, hl, q⟩ := h
    refine ⟨_, rfl, a, _, rfl, .inl (SqL.of h), small_line (by show 1 ≤ 1000; decide), fun f nf => ?_⟩
    have s1 : Same H (upd H f (.lst [V.int (((iV l).length : Nat) : Int)])) := same_new nf
    refine ⟨_, rfl, a, _, rfl, .inl (SqL.of (s1 _ _ h)), fun z nz => ?_⟩
    have s2 : Same _ (upd (upd H f (.lst [V.int (((iV l).length : Nat) : Int)])) z (.lst (iV l))) := same_new nz
    refine ⟨f, z, _, _, rfl, rfl, s2 _ _ upd_same, upd_same, ?_, fun y ny => ?_⟩
    · rw [iV_length, line_eq]
      show 1 + l.length ≤ _
      omega
    · refine q _ y (s1.trans (s2.trans (same_new ny))) ((s1.trans s2).free ny) ?_
      rw [upd_same, iV_length]
      rfl
/-! ### all calls but load -/
theorem if_w {m : Nat} (n : Nat) {A B : Prop} (h1 : m = n → A) (h2 : m ≠ n → B) : if decide (V.int ((m : Nat) : Int) = V.int ((n : Nat) : Int)) = true then A else B := by
  rw [ref_len]
  exact if_d h1 h2
theorem bV_iV (b : Bytes) : bV b = iV (b.map fun c => ((c.toNat : Nat) : Int)) := by
  unfold bV iV
  rw [List.map_map]
  rfl
theorem step_none {m : Nat} {xs row : List Int} {c : Vamvsa.Call} (f : Form m xs row c) (hm : m ≠ 0) : Vamvsa.step none c = (none, VamvsBase.one (-1)) := by
  unfold Form at f
  rcases f with ⟨h, _⟩ | ⟨_, _, rfl⟩ | ⟨_, _, _, rfl⟩ | ⟨_, _, _, _, rfl⟩ | ⟨_, _, rfl⟩ | ⟨_, _, _, rfl⟩ | ⟨_, _, _, rfl⟩ | ⟨_, _, _, rfl⟩ | ⟨_, _, rfl⟩ | ⟨_, _, _, rfl⟩
  · exact absurd h hm
  all_goals rfl
section
variable {m : Nat} {xs row : List Int} {c : Vamvsa.Call}
theorem Form.at0 (f : Form m xs row c) (e : m = 0) : (∀ z ∈ row, 0 ≤ z ∧ z ≤ 255) ∧ row.length ≤ 8192 ∧ c = .load (VamvsaNeutral.bytesOf row) := by
  unfold Form at f
  rcases f with ⟨_, _, h1, h2, h3⟩ | ⟨h, _⟩ | ⟨h, _⟩ | ⟨h, _⟩ | ⟨h, _⟩ | ⟨h, _⟩ | ⟨h, _⟩ | ⟨h, _⟩ | ⟨h, _⟩ | ⟨h, _⟩
  · exact ⟨h1, h2, h3⟩
  all_goals omega
theorem Form.at1 (f : Form m xs row c) (e : m = 1) : c = .shown := by
  unfold Form at f
  rcases f with ⟨h, _⟩ | ⟨_, _, h⟩ | ⟨h, _⟩ | ⟨h, _⟩ | ⟨h, _⟩ | ⟨h, _⟩ | ⟨h, _⟩ | ⟨h, _⟩ | ⟨h, _⟩ | ⟨h, _⟩
  · omega
  · exact h
  all_goals omega
theorem Form.at2 (f : Form m xs row c) (e : m = 2) : ∃ g, xs = [g] ∧ c = .group g := by
  unfold Form at f
  rcases f with ⟨h, _⟩ | ⟨h, _⟩ | ⟨_, h⟩ | ⟨h, _⟩ | ⟨h, _⟩ | ⟨h, _⟩ | ⟨h, _⟩ | ⟨h, _⟩ | ⟨h, _⟩ | ⟨h, _⟩
  · omega
  · omega
  · exact h
  all_goals omega
theorem Form.at3 (f : Form m xs row c) (e : m = 3) : ∃ u g, xs = [u, g] ∧ c = .roll u g := by
  unfold Form at f
  rcases f with ⟨h, _⟩ | ⟨h, _⟩ | ⟨h, _⟩ | ⟨_, h⟩ | ⟨h, _⟩ | ⟨h, _⟩ | ⟨h, _⟩ | ⟨h, _⟩ | ⟨h, _⟩ | ⟨h, _⟩
  · omega
  · omega
  · omega
  · exact h
  all_goals omega
theorem Form.at4 (f : Form m xs row c) (e : m = 4) : c = .sizes := by
  unfold Form at f
  rcases f with ⟨h, _⟩ | ⟨h, _⟩ | ⟨h, _⟩ | ⟨h, _⟩ | ⟨_, _, h⟩ | ⟨h, _⟩ | ⟨h, _⟩ | ⟨h, _⟩ | ⟨h, _⟩ | ⟨h, _⟩
  · omega
  · omega
  · omega
  · omega
  · exact h
  all_goals omega
theorem Form.at5 (f : Form m xs row c) (e : m = 5) : row.length ≤ 2000 ∧ c = .keep row := by
  unfold Form at f
  rcases f with ⟨h, _⟩ | ⟨h, _⟩ | ⟨h, _⟩ | ⟨h, _⟩ | ⟨h, _⟩ | ⟨_, _, h⟩ | ⟨h, _⟩ | ⟨h, _⟩ | ⟨h, _⟩ | ⟨h, _⟩
  · omega
  · omega
  · omega
  · omega
  · omega
  · exact h
  all_goals omega
theorem Form.at6 (f : Form m xs row c) (e : m = 6) : ∃ g, xs = [g] ∧ c = .cost g := by
  unfold Form at f
  rcases f with ⟨h, _⟩ | ⟨h, _⟩ | ⟨h, _⟩ | ⟨h, _⟩ | ⟨h, _⟩ | ⟨h, _⟩ | ⟨_, h⟩ | ⟨h, _⟩ | ⟨h, _⟩ | ⟨h, _⟩
  · omega
  · omega
  · omega
  · omega
  · omega
  · omega
  · exact h
  all_goals omega
theorem Form.at7 (f : Form m xs row c) (e : m = 7) : ∃ g, xs = [g] ∧ c = .answer g := by
  unfold Form at f
  rcases f with ⟨h, _⟩ | ⟨h, _⟩ | ⟨h, _⟩ | ⟨h, _⟩ | ⟨h, _⟩ | ⟨h, _⟩ | ⟨h, _⟩ | ⟨_, h⟩ | ⟨h, _⟩ | ⟨h, _⟩
  · omega
  · omega
  · omega
  · omega
  · omega
  · omega
  · omega
  · exact h
  all_goals omega
theorem Form.at8 (f : Form m xs row c) (e : m = 8) : c = .total := by
  unfold Form at f
  rcases f with ⟨h, _⟩ | ⟨h, _⟩ | ⟨h, _⟩ | ⟨h, _⟩ | ⟨h, _⟩ | ⟨h, _⟩ | ⟨h, _⟩ | ⟨h, _⟩ | ⟨_, _, h⟩ | ⟨h, _⟩
  · omega
  · omega
  · omega
  · omega
  · omega
  · omega
  · omega
  · omega
  · exact h
  all_goals omega
theorem Form.at9 (f : Form m xs row c) (h0 : m ≠ 0) (h1 : m ≠ 1) (h2 : m ≠ 2) (h3 : m ≠ 3) (h4 : m ≠ 4) (h5 : m ≠ 5) (h6 : m ≠ 6) (h7 : m ≠ 7) (h8 : m ≠ 8) : ∃ g, xs = [g] ∧ c = .gain g := by
  unfold Form at f
  rcases f with ⟨h, _⟩ | ⟨h, _⟩ | ⟨h, _⟩ | ⟨h, _⟩ | ⟨h, _⟩ | ⟨h, _⟩ | ⟨h, _⟩ | ⟨h, _⟩ | ⟨h, _⟩ | ⟨_, h⟩
  · omega
  · omega
  · omega
  · omega
  · omega
  · omega
  · omega
  · omega
  · omega
  · exact h
end
/-- what is answered to a look, as of a call that might change the desk -/
theorem AnsD.look {H : Hp} {d : Addr} {z : Held} {Q : VK} {E : XK} {A : List Int} (D : DeskAt K H d (some z)) (q : AnsD K d (some z) (some z) H Q E A) : Ans (cRef K) H Q E A :=
  ⟨fun H' p s n h => q.ok H' p (.of s) (D.mono s) (foot_same D s) n h, fun c e => q.no c rfl e⟩
def spOf (K : PySem.W.Frag) : Sp := fun vs H Q E => ∃ d o m xs row c a r, vs = [.ref d, .int ((m : Nat) : Int), .ref a, .ref r] ∧ DeskAt K H d o ∧ SqL K H a (iV xs) ∧ SqL K H r (iV row) ∧ Form m xs row c ∧ m ≠ 0 ∧
  AnsD K d o (Vamvsa.step o c).1 H Q E (VamvsaNeutral.encode (Vamvsa.step o c).2)
theorem c_of_table (T : Txt K mg) : CalX P w K mg base (L2.CX P w) 7 "of_table" (spOf K) := by
  obtain ⟨fd, F⟩ := T.F_of_table
  refine ⟨_, fd, _, F.okX sc_of_table (fun vs H Q E h => ?_) (fun cdv A outer s H vs Q E hr h => ⟨_, (pss_cons (ps_expr (pe_cx (c_ask T) hr (by decide) passD rfl (pa_cons (pe_cmpR op_notN (pe_fld (pv 0) rfl) pe_non (nomark _)) (pa_cons (C8.pe_gc rfl T.c_NO_TABLE) pa_nil))))
    (pss_cons (ps_if (pt_cmpR op_eq (pv 1) pe_int (nomark _)) (pss_one (ps_ret (pe_cx (c_listed T) hr (by decide) pass0 rfl (pa_cons (pe_cx (c_form_of T) hr (by decide) pass0 rfl (pa_cons (pe_fld (pv 0) rfl) pa_nil)) pa_nil)))) pss_nil)
    (pss_cons (ps_if (pt_cmpR op_eq (pv 1) pe_int (nomark _)) (pss_one (ps_ret (pe_cx (c_group T) hr (by decide) passD rfl (pa_cons (pe_fld (pv 0) rfl) (pa_cons (pe_ix ix_list (pv 2) pe_int (fun _ _ => rfl)) pa_nil))))) pss_nil)
    (pss_cons (ps_if (pt_cmpR op_eq (pv 1) pe_int (nomark _)) (pss_one (ps_ret (pe_cx (c_roll T) hr (by decide) passD rfl (pa_cons (pe_fld (pv 0) rfl) (pa_cons (pe_ix ix_list (pv 2) pe_int (fun _ _ => rfl)) (pa_cons (pe_ix ix_list (pv 2) pe_int (fun _ _ => rfl)) pa_nil)))))) pss_nil)
    (pss_cons (ps_if (pt_cmpR op_eq (pv 1) pe_int (nomark _)) (pss_one (ps_ret (pe_cx (c_sizes T) hr (by decide) pass0 rfl (pa_cons (pe_fld (pv 0) rfl) pa_nil)))) pss_nil)
    (pss_cons (ps_if (pt_cmpR op_eq (pv 1) pe_int (nomark _)) (pss_one (ps_ret (pe_cx (c_keep T) hr (by decide) passD rfl (pa_cons (pv 0) (pa_cons (pv 3) pa_nil))))) pss_nil)
    (pss_cons (ps_if (pt_cmpR op_eq (pv 1) pe_int (nomark _)) (pss_one (ps_ret (pe_cx (c_cost T) hr (by decide) passD rfl (pa_cons (pv 0) (pa_cons (pe_ix ix_list (pv 2) pe_int (fun _ _ => rfl)) pa_nil))))) pss_nil)
    (pss_cons (ps_if (pt_cmpR op_eq (pv 1) pe_int (nomark _)) (pss_one (ps_ret (pe_cx (c_answer T) hr (by decide) passD rfl (pa_cons (pv 0) (pa_cons (pe_ix ix_list (pv 2) pe_int (fun _ _ => rfl)) pa_nil))))) pss_nil)
    (pss_cons (ps_if (pt_cmpR op_eq (pv 1) pe_int (nomark _)) (pss_one (ps_ret (pe_cx (c_total T) hr (by decide) pass0 rfl (pa_cons (pv 0) pa_nil)))) pss_nil)
    (pss_one (ps_ret (pe_cx (c_gain T) hr (by decide) passD rfl (pa_cons (pv 0) (pa_cons (pe_ix ix_list (pv 2) pe_int (fun _ _ => rfl)) pa_nil)))))))))))))), ?_⟩), T.g_of_table, T.k_of_table, b_of_table F⟩
  · obtain ⟨d, o, m, xs, row, c, a, r, rfl, _⟩ := h
    rfl
  · obtain ⟨d, o, m, xs, row, c, a, r, rfl, D, hA, hR, f, hm, q⟩ := h
    cases o with
    | none =>
      obtain ⟨dx, tv, ka, k, hd, hk, rfl, rfl⟩ := D.ex
      rw [step_none f hm] at q
      refine ⟨_, rfl, d, _, dx, _, _, rfl, hd, T.cl_Desk, T.n_Desk_table, dsF_table _ _, rfl, false, -1, rfl, (fun h => by cases h), fun _ => q.no (-1) rfl rfl⟩
    | some z =>
      obtain ⟨p, ka, k, DT⟩ := D.open
      obtain ⟨dx, hd⟩ := DT.self
      refine ⟨_, rfl, d, _, dx, _, _, rfl, hd, T.cl_Desk, T.n_Desk_table, dsF_table _ _, rfl, true, -1, rfl, (fun _ => ?_), fun h => by cases h⟩
      -- if what == 1
      refine ⟨_, rfl, rfl, _, rfl, if_w 1 (fun e => ?_) fun n1 => ?_⟩
      · have ec := f.at1 e
        subst ec
        have q1 := AnsD.look D q
        refine ⟨_, rfl, d, _, dx, _, _, rfl, hd, T.cl_Desk, T.n_Desk_table, dsF_table _ _, p, z.t, rfl, DT.tab, DT.wf, fun H1 b s1 n1 h1 => ?_⟩
        rw [bV_iV] at h1
        have sl := shown_len DT.wf
        refine ⟨b, _, rfl, h1, by rw [List.length_map]; omega, fun H2 y s2 n2 h2 => q1.ok H2 y (s1.trans s2) (s1.free n2) ?_⟩
        rw [h2, List.length_map]
        rfl
      refine ⟨_, rfl, rfl, _, rfl, if_w 2 (fun e => ?_) fun n2 => ?_⟩
      · obtain ⟨g, rfl, rfl⟩ := f.at2 e
        exact ⟨_, rfl, d, _, dx, _, _, rfl, hd, T.cl_Desk, T.n_Desk_table, dsF_table _ _, _, rfl, a, _, _, _, rfl, rfl, hA, atI_nat (j := 0) rfl, p, z, g, rfl, DT.tab, DT.wf, AnsD.look D q⟩
      refine ⟨_, rfl, rfl, _, rfl, if_w 3 (fun e => ?_) fun n3 => ?_⟩
      · obtain ⟨u, g, rfl, rfl⟩ := f.at3 e
        exact ⟨_, rfl, d, _, dx, _, _, rfl, hd, T.cl_Desk, T.n_Desk_table, dsF_table _ _, _, rfl, a, _, _, _, rfl, rfl, hA, atI_nat (j := 0) rfl, _, rfl, a, _, _, _, rfl, rfl, hA, atI_nat (j := 1) rfl, p, z, u, g, rfl, DT.tab, DT.wf, AnsD.look D q⟩
      refine ⟨_, rfl, rfl, _, rfl, if_w 4 (fun e => ?_) fun n4 => ?_⟩
      · have ec := f.at4 e
        subst ec
        have q1 := AnsD.look D q
        exact ⟨_, rfl, d, _, dx, _, _, rfl, hd, T.cl_Desk, T.n_Desk_table, dsF_table _ _, p, z, rfl, DT.tab, DT.wf, fun H1 b s1 n1 h1 => q1.ok H1 b s1 n1 h1⟩
      refine ⟨_, rfl, rfl, _, rfl, if_w 5 (fun e => ?_) fun n5 => ?_⟩
      · obtain ⟨h2, ec⟩ := f.at5 e
        subst ec
        exact ⟨_, rfl, _, rfl, d, z, p, ka, k, r, row, rfl, DT, hR, h2, q⟩
      refine ⟨_, rfl, rfl, _, rfl, if_w 6 (fun e => ?_) fun n6 => ?_⟩
      · obtain ⟨g, rfl, rfl⟩ := f.at6 e
        exact ⟨_, rfl, _, rfl, a, _, _, _, rfl, rfl, hA, atI_nat (j := 0) rfl, d, z, p, ka, k, g, rfl, DT, AnsD.look D q⟩
      refine ⟨_, rfl, rfl, _, rfl, if_w 7 (fun e => ?_) fun n7 => ?_⟩
      · obtain ⟨g, rfl, rfl⟩ := f.at7 e
        exact ⟨_, rfl, _, rfl, a, _, _, _, rfl, rfl, hA, atI_nat (j := 0) rfl, d, z, p, ka, k, g, rfl, DT, AnsD.look D q⟩
      refine ⟨_, rfl, rfl, _, rfl, if_w 8 (fun e => ?_) fun n8 => ?_⟩
      · have ec := f.at8 e
        subst ec
        have q1 := AnsD.look D q
        exact ⟨_, rfl, d, z, p, ka, k, rfl, DT, fun H1 b s1 n1 h1 => q1.ok H1 b s1 n1 h1⟩
      · obtain ⟨g, rfl, rfl⟩ := f.at9 hm n1 n2 n3 n4 n5 n6 n7 n8
        exact ⟨_, rfl, _, rfl, a, _, _, _, rfl, rfl, hA, atI_nat (j := 0) rfl, d, z, p, ka, k, g, rfl, DT, AnsD.look D q⟩
/-! ### a call, or its refusal -/
theorem bytes_iV {row : List Int} (h : ∀ z ∈ row, 0 ≤ z ∧ z ≤ 255) : iV row = bV (VamvsaNeutral.bytesOf row) := by
  unfold iV bV VamvsaNeutral.bytesOf
  rw [List.map_map]
  refine List.map_congr_left fun z hz => ?_
  obtain ⟨h1, h2⟩ := h z hz
  show V.int z = V.int (((UInt8.ofNat z.toNat).toNat : Nat) : Int)
  congr 1
  have e : (UInt8.ofNat z.toNat).toNat = z.toNat % 256 := UInt8.toNat_ofNat'
  rw [e]
  omega
def spAnswered (K : PySem.W.Frag) : Sp := fun vs H Q _ => ∃ d o m xs row c a r, vs = [.ref d, .int ((m : Nat) : Int), .ref a, .ref r] ∧ DeskAt K H d o ∧ SqL K H a (iV xs) ∧ SqL K H r (iV row) ∧ Form m xs row c ∧
  AnsO K d (Vamvsa.step o c).1 H Q (VamvsaNeutral.encode (Vamvsa.step o c).2)
theorem c_answered (T : Txt K mg) : CalX P w K mg base CX0 11 "answered" (spAnswered K) := by
  obtain ⟨fd, F⟩ := T.F_answered
  refine ⟨_, fd, _, F.ok sc_answered (fun vs H Q E h => ?_) (fun cdv A outer s H vs Q E hr h => ⟨_, (pss_one (ps_try_as (i := 4) (tb := fun W => tSeq (tIfS (tTest (tOp rEq (tVar 1) (tC (.int 0)))) (tRet (tCl (spLoad K) E0 (tCons (tVar 0) (tCons (tVar 3) tNil)))) tNext) (tRet (tCallS (spOf K) (WE W) (tCons (tVar 0) (tCons (tVar 1) (tCons (tVar 2) (tCons (tVar 3) tNil))))))) (ts := fun a cls d => tRet (tLst (tCons (tXf a cls d (cRef K) "code" (tVar 4)) tNil))) (Wout := fun _ _ _ _ => False) rfl rfl sc_answered.nd rfl rfl ⟨rfl, by decide, Or.inl T.g_Refused⟩ takes0
      (fun W pn xe tk _ => by exact (pss_cons (ps_if (pt_cmpR op_eq (pv 1) pe_int (nomark _)) (pss_one (ps_ret (pe_cx (c_load T) hr (by decide) pass0 rfl (pa_cons (pv 0) (pa_cons (pv 3) pa_nil))))) pss_nil)
    (pss_one (ps_ret (pe_cS (c_of_table T) hr (by decide) (fun σ => passAt tk σ) rfl (pa_cons (pv 0) (pa_cons (pv 1) (pa_cons (pv 2) (pa_cons (pv 3) pa_nil)))))))))
      (fun a oe cls d pn hz hf => by exact (pss_one (ps_ret (pe_lst (pa_cons (pe_xf T.xf_Refused T.n_Refused_code hz hf (pv 4)) pa_nil))))))), ?_⟩), T.g_answered, T.k_answered, b_answered F⟩
  · obtain ⟨d, o, m, xs, row, c, a, r, rfl, _⟩ := h
    rfl
  · obtain ⟨d, o, m, xs, row, c, a, r, rfl, D, hA, hR, f, q⟩ := h
    refine ⟨_, rfl, rfl, _, rfl, if_w 0 (fun e => ?_) fun n0 => ?_⟩
    · obtain ⟨hb, hl, rfl⟩ := f.at0 e
      rw [bytes_iV hb] at hR
      refine ⟨_, rfl, _, rfl, d, o, r, _, rfl, D, hR, ?_, q⟩
      unfold VamvsaNeutral.bytesOf
      rw [List.length_map]
      omega
    · refine ⟨_, rfl, _, rfl, _, rfl, _, rfl, d, o, m, xs, row, c, a, r, rfl, D, hA, hR, f, n0, q, fun v ho hA1 e H3 s3 hd3 hx => ?_⟩
      refine ⟨true, T.em_Refused, fun _ a0 na => ?_, fun q => Bool.noConfusion q⟩
      refine ⟨_, rfl, rfl, rfl, e, _, _, rfl, hx, lk_here, small_line (by show 1 ≤ 1000; decide), fun y ny => ?_⟩
      refine q _ y (.of (s3.trans (same_new ny))) ?_ (foot_same D (s3.trans (same_new ny))) (s3.free ny) ?_
      · rw [ho]
        exact D.mono (s3.trans (same_new ny))
      · rw [hA1]
        exact upd_same
end Kg
/-! The line of calls: answers. -/
namespace Kg
open PySem PySem.Spec PyProof.Rows L2
variable {P : Program} {w : World} {K : PySem.W.Frag} {mg : Str → Option Value} {base : Heap}
/-! ### row_at -/
theorem with_row {m : Nat} (hm : m ≤ 9) : inV (.int ((m : Nat) : Int)) [.int 0, .int 5] = !decide ((shp m).2 = 0) := by
  match m, hm with
  | 0, _ => decide +kernel
  | 1, _ => decide +kernel
  | 2, _ => decide +kernel
  | 3, _ => decide +kernel
  | 4, _ => decide +kernel
  | 5, _ => decide +kernel
  | 6, _ => decide +kernel
  | 7, _ => decide +kernel
  | 8, _ => decide +kernel
  | 9, _ => decide +kernel
theorem iV_at {l : List Int} {i : Nat} {x : Int} (h : l[i]? = some x) : (iV l)[i]? = some (.int x) := by
  unfold iV
  rw [List.getElem?_map, h]
  rfl
theorem cut_iV {l : List Int} {i n : Nat} (h : i + n ≤ l.length) {j : Int} (hj : j = ((i + n : Nat) : Int)) : cutV (iV l) (some (i : Int)) (some j) = iV ((l.drop i).take n) := by
  rw [hj, cut_nat (Nat.le_add_right _ _) (by rw [iV_length]; exact h), Nat.add_sub_cancel_left]
  unfold iV
  rw [← List.map_drop, ← List.map_take]
def spRowAt (K : PySem.W.Frag) : Sp := fun vs H Q _ => ∃ a l m e row j, vs = [.ref a, .int ((m : Nat) : Int), .int ((e : Nat) : Int)] ∧ SqL K H a (iV l) ∧ m ≤ 9 ∧ RowIs l m e row j ∧ j ≤ l.length ∧
  ∀ H' t r, Same H H' → H' t = some (.tup [.ref r, .int ((j : Nat) : Int)]) → H' r = some (.lst (iV row)) → Q (.ref t) H'
theorem c_row_at (T : Txt K mg) : CalX P w K mg base CX0 1 "row_at" (spRowAt K) := by
  obtain ⟨fd, F⟩ := T.F_row_at
  refine ⟨_, fd, _, F.ok sc_row_at (fun vs H Q E h => ?_) (fun cdv A outer s H vs Q E hr h => ⟨_, (pss_cons (ps_if (pt_cmpR op_notIn_seq (pv 1) (pe_glob (v := .ref (He.ga K "WITH_ROW")) rfl T.g_WITH_ROW rfl) rfl) (pss_one (ps_ret (pe_tup (pa_cons (pe_lst pa_nil) (pa_cons (pv 2) pa_nil))))) pss_nil)
    (pss_cons (ps_set (i := 3) sc_row_at.nd rfl (Or.inl rfl) (pe_op op_add (pe_op op_add (pv 2) pe_int) (pe_ix ix_list (pv 0) (pv 2) (fun _ _ => rfl))))
    (pss_one (ps_ret (pe_tup (pa_cons (pe_slice sl_list (pv 0) (po_some (pe_op op_add (pv 2) pe_int)) (po_some (pv 3))) (pa_cons (pv 3) pa_nil))))))), ?_⟩), T.g_row_at, T.k_row_at, b_row_at F⟩
  · obtain ⟨a, l, m, e, row, j, rfl, _⟩ := h
    rfl
  · obtain ⟨a, l, m, e, row, j, rfl, hS, hm, hR, hj, q⟩ := h
    unfold RowIs at hR
    refine ⟨_, rfl, _, _, rfl, .inr (T.T_WITH_ROW H), rfl, rfl, _, rfl, ?_⟩
    show if (!inV (.int ((m : Nat) : Int)) [.int 0, .int 5]) = true then _ else _
    rw [with_row hm, Bool.not_not]
    refine if_d (fun c => ?_) fun c => ?_
    · rw [if_pos c] at hR
      obtain ⟨rfl, rfl⟩ := hR
      refine ⟨Nat.zero_le _, fun z nz => ⟨_, rfl, small_line (by show 2 ≤ 1000; decide), fun t nt => ?_⟩⟩
      have s1 : Same H (upd H z (.lst [])) := same_new nz
      have s2 := same_new (o := HO.tup [V.ref z, V.int ((j : Nat) : Int)]) nt
      exact q _ t z (s1.trans s2) upd_same (s2 _ _ upd_same)
    · rw [if_neg c] at hR
      obtain ⟨w', hw, rfl, rfl⟩ := hR
      -- end = at + 1 + calls[at]
      refine ⟨_, rfl, _, _, rfl, rfl, _, rfl, _, rfl, a, _, _, _, rfl, rfl, hS, atI_nat (iV_at hw), _, _, rfl, rfl, ?_⟩
      -- (calls[at + 1:end], end)
      refine ⟨_, rfl, _, rfl, _, _, rfl, rfl, _, rfl, _, rfl, _, rfl, a, _, rfl, hS, fun z nz => ⟨_, rfl, small_line (by show 2 ≤ 1000; decide), fun t nt => ?_⟩⟩
      have s1 := same_new (o := HO.lst (cutV (iV l) (some (((e : Nat) : Int) + 1)) (some (((e : Nat) : Int) + 1 + ((w' : Nat) : Int))))) nz
      have s2 := same_new (o := HO.tup [V.ref z, V.int (((e : Nat) : Int) + 1 + ((w' : Nat) : Int))]) nt
      refine q _ t z (s1.trans s2) ?_ ?_
      · rw [upd_same, Int.natCast_add, Int.natCast_add]
        rfl
      · refine (s2 _ _ upd_same).trans ?_
        have e1 : ((e : Nat) : Int) + 1 = ((e + 1 : Nat) : Int) := by omega
        rw [e1, cut_iV hj (by omega)]
/-! ### answers -/
theorem nums_at {m : Nat} (hm : m ≤ 9) : ([.int 0, .int 0, .int 1, .int 2, .int 0, .int 0, .int 1, .int 1, .int 0, .int 1] : List V)[m]? = some (.int (((shp m).1 : Nat) : Int)) := by
  match m, hm with
  | 0, _ => rfl
  | 1, _ => rfl
  | 2, _ => rfl
  | 3, _ => rfl
  | 4, _ => rfl
  | 5, _ => rfl
  | 6, _ => rfl
  | 7, _ => rfl
  | 8, _ => rfl
  | 9, _ => rfl
def spAnswers (K : PySem.W.Frag) : Sp := fun vs H Q _ => ∃ a l, vs = [.ref a] ∧ SqL K H a (iV l) ∧ l.length ≤ 17000 ∧ PyVamvsa.answers_asked l = true ∧ ∀ H' p, H' p = some (.lst (iV (PyVamvsa.answers l))) → Q (.ref p) H'
/-- what holds between two calls -/
structure Line (K : PySem.W.Frag) (H0 H : Hp) (l : List Int) (d f : Addr) (i : Nat) (o : Vamvsa.Obj) (cs : List (List (List Int))) (out : List Int) : Prop where
  same : Same H0 H
  nd : H0 d = none
  nf : H0 f = none
  desk : DeskAt K H d o
  found : H f = some (.lst (iV out))
  apart : ¬ Foot H d f
  le : i ≤ l.length
  rest : ∃ fu, PyFlat.calls PyVamvsa.shape fu (l.drop i) = some cs
  ask : ∀ c ∈ cs, VamvsaNeutral.asked1 c = true
  eq : PyVamvsa.answers l = out ++ PyFlat.told (PyFlat.played VamvsaNeutral.step o cs)
theorem ok_answers (T : Txt K mg) {fd : FuncData} (F : Fun K "answers" "answers" s_answers (He.ga K "answers") fd) : FnOk P w K mg base CX0 12 (He.ga K "answers") fd ["calls"] (spAnswers K) := by
  refine F.ok sc_answers (fun vs H Q E h => ?_) (fun cdv A outer s H vs Q E hr h => ⟨_, (pss_cons (ps_set (i := 1) sc_answers.nd rfl (Or.inl rfl) (pe_kx0 (k_Desk T) hr (by decide) pass0 rfl))
    (pss_cons (ps_set (i := 2) sc_answers.nd rfl (Or.inl rfl) (pe_lst pa_nil))
    (pss_cons (ps_set (i := 3) sc_answers.nd rfl (Or.inl rfl) pe_int)
    (pss_cons (ps_while PassesOwn.never (pt_cmpR op_lt (pv 3) (pe_callB call_len_seq (by rfl) T.f_len (by decide +kernel) (pa_cons (pv 0) pa_nil)) (nomark _)) (pss_cons (ps_set (i := 4) sc_answers.nd rfl (Or.inl rfl) (pe_ix ix_list (pv 0) (pv 3) (fun _ _ => rfl)))
    (pss_cons (ps_set (i := 5) sc_answers.nd rfl (Or.inl rfl) (pe_op op_add (pe_op op_add (pv 3) pe_int) (pe_ix ix_tup (pe_glob (v := .ref (He.ga K "NUMBERS")) rfl T.g_NUMBERS rfl) (pv 4) (fun _ _ => rfl))))
    (pss_cons (ps_set (i := 6) sc_answers.nd rfl (Or.inl rfl) (pe_slice sl_list (pv 0) (po_some (pe_op op_add (pv 3) pe_int)) (po_some (pv 5))))
    (pss_cons (ps_asg (pe_cx (c_row_at T) hr (by decide) pass0 rfl (pa_cons (pv 0) (pa_cons (pv 4) (pa_cons (pv 5) pa_nil)))) (pg_tup rfl (pgs_cons (pg_name (i := 7) sc_answers.nd rfl (Or.inl rfl)) (pgs_cons (pg_name (i := 3) sc_answers.nd rfl (Or.inl rfl)) pgs_nil))))
    (pss_cons (ps_set (i := 8) sc_answers.nd rfl (Or.inl rfl) (pe_cx (c_answered T) hr (by decide) pass0 rfl (pa_cons (pv 1) (pa_cons (pv 4) (pa_cons (pv 6) (pa_cons (pv 7) pa_nil))))))
    (pss_cons (ps_expr (pe_bm PySem.F.plainAttrs_list PySem.F.slot_list_append PySem.F.type_list_append mt_append (pv 2) (pa_cons (pe_callB call_len_seq (by rfl) T.f_len (by decide +kernel) (pa_cons (pv 8) pa_nil)) pa_nil)))
    (pss_one (ps_expr (pe_bm PySem.F.plainAttrs_list PySem.F.slot_list_extend PySem.F.type_list_extend mt_extend (pv 2) (pa_cons (pv 8) pa_nil)))))))))))
    (pss_one (ps_ret (pv 2))))))), ?_⟩)
  · obtain ⟨a, l, rfl, _⟩ := h
    rfl
  · obtain ⟨a, l, rfl, hS, hl, hask, q⟩ := h
    obtain ⟨cs0, fu0, hc0, ha0, he0, hs0⟩ := line_start hask
    -- desk = Desk()
    refine fun d dx nd ndx ne => ⟨d, dx, rfl, upd_same, fun H1 kk kp hd1 hk1 => ⟨rfl, ?_⟩⟩
    have s1 : Same H H1 := Same.made nd ndx kp
    have D1 : DeskAt K H1 d none := ⟨dx, _, kk, [], hd1, hk1, rfl, rfl⟩
    -- found = []
    refine ⟨Nat.zero_le _, fun f nf => ?_⟩
    have s2 : Same H1 (upd H1 f (.lst [])) := same_new nf
    have hf0 : H f = none := s1.free nf
    have kf : kk ≠ f := ne_of_none hk1 nf
    have L0 : Line K H (upd H1 f (.lst [])) l d f 0 none cs0 [] :=
      { same := s1.trans s2, nd := nd, nf := hf0, desk := D1.mono s2, found := upd_same
        apart := fun h => by
          rcases foot_cases (s2 _ _ hd1) h with e | ⟨p, _, _, _, _, _, e, _⟩
          · exact kf e.symm
          · cases e
        le := Nat.zero_le _, rest := ⟨fu0, hc0⟩, ask := ha0
        eq := by rw [he0]; rfl }
    refine ⟨fun m σ H' => ∃ i v4 v5 v6 v7 v8 o cs out, σ = [some (.ref a), some (.ref d), some (.ref f), some (.int ((i : Nat) : Int)), v4, v5, v6, v7, v8] ∧ Line K H H' l d f i o cs out ∧ m = l.length - i, ⟨_, 0, none, none, none, none, none, none, cs0, [], rfl, L0, rfl⟩, ?_⟩
    rintro m σ H2 ⟨i, v4, v5, v6, v7, v8, o, cs, out, rfl, L, rfl⟩
    have hS2 := L.same.seq hS
    refine ⟨_, rfl, _, rfl, a, _, rfl, .inl hS2, _, _, rfl, rfl, _, rfl, ?_⟩
    rw [iV_length]
    obtain ⟨fu, hcs⟩ := L.rest
    by_cases c : i < l.length
    · rw [decide_eq_true (show ((i : Nat) : Int) < ((l.length : Nat) : Int) by omega)]
      obtain ⟨n, j, row, cs', fu', hn, hx, h1, hij, hjl, hcs', ecs, hrow⟩ := flat_step c hcs
      subst ecs
      obtain ⟨k, hk, hform⟩ := form_of_asked hn (by rw [List.length_take, List.length_drop]; omega) (L.ask _ List.mem_cons_self)
      have estep := step_is (s := o) hk
      refine ⟨_, fun _ _ h => h, ?_⟩
      -- what = calls[at]
      refine ⟨_, rfl, _, rfl, a, _, _, _, rfl, rfl, hS2, atI_nat (iV_at hx), ?_⟩
      -- end = at + 1 + NUMBERS[what]
      refine ⟨_, rfl, _, _, rfl, rfl, _, rfl, _, _, _, _, rfl, rfl, T.T_NUMBERS _, atI_nat (nums_at hn), _, _, rfl, rfl, ?_⟩
      have e1 : ((i : Nat) : Int) + 1 = ((i + 1 : Nat) : Int) := by omega
      have e2 : ((i : Nat) : Int) + 1 + (((shp n).1 : Nat) : Int) = ((i + 1 + (shp n).1 : Nat) : Int) := by omega
      -- some = calls[at + 1:end]
      refine ⟨_, rfl, _, rfl, _, _, rfl, rfl, _, rfl, _, rfl, _, rfl, a, _, rfl, hS2, fun z nz => ?_⟩
      rw [e2, e1, cut_iV h1 rfl]
      have s3 : Same H2 (upd H2 z (.lst (iV ((l.drop (i + 1)).take (shp n).1)))) := same_new nz
      -- row, at = row_at(calls, what, end)
      refine ⟨_, rfl, _, rfl, _, rfl, a, l, n, _, row, j, rfl, s3.seq hS2, hn, hrow, hjl, fun H3 t r s4 ht hr3 => ?_⟩
      have s34 := s3.trans s4
      refine ⟨t, _, rfl, SqT.of ht, rfl, _, _, rfl, _, _, rfl, rfl, ?_⟩
      -- told_here = answered(desk, what, some, row)
      refine ⟨_, rfl, _, rfl, _, rfl, _, rfl, d, o, n, _, row, k, z, r, rfl, L.desk.mono s34, SqL.of (s4 _ _ upd_same), SqL.of hr3, hform, fun H4 y b4 D4 f4 ny hy => ?_⟩
      have hf3 := s34 _ _ L.found
      have fd : f ≠ d := by
        obtain ⟨_, _, _, _, h, _⟩ := (L.desk.mono s34).ex
        exact ne_of hf3 h (by intro z; cases z)
      have hf4 := b4.keep _ _ hf3 fd
      have yf : y ≠ f := Ne.symm (ne_of_none hf3 ny)
      have ap4 : ¬ Foot H4 d f := fun h => by
        rcases f4 f h with h | h
        · rcases foot_same L.desk s34 f h with h | h
          · exact L.apart h
          · rw [L.found] at h; cases h
        · rw [hf3] at h; cases h
      have s04 : Same H H4 := But.same (L.same.trans s34) b4 L.nd
      have enc : PyVamvsa.answers l = (out ++ (((VamvsaNeutral.encode (Vamvsa.step o k).2).length : Nat) : Int) :: VamvsaNeutral.encode (Vamvsa.step o k).2) ++ PyFlat.told (PyFlat.played VamvsaNeutral.step (Vamvsa.step o k).1 cs') := by
        rw [L.eq]
        show out ++ PyFlat.told ((VamvsaNeutral.step o _).2 :: PyFlat.played VamvsaNeutral.step (VamvsaNeutral.step o _).1 cs') = _
        rw [estep, told_cons, List.append_assoc]
      have big : out.length + (VamvsaNeutral.encode (Vamvsa.step o k).2).length + 1 ≤ 10000000 := by
        have h := hs0
        rw [enc, List.length_append, List.length_append, List.length_cons] at h
        omega
      -- found.append(len(told_here))
      refine ⟨_, rfl, .inl ⟨rfl, _, SqL.of hf4⟩, _, rfl, y, _, rfl, .inl (SqL.of hy), f, _, _, rfl, rfl, hf4, by rw [iV_length, line_eq]; omega, ?_⟩
      have D5 := D4.away (ys := iV out ++ [V.int (((iV (VamvsaNeutral.encode (Vamvsa.step o k).2)).length : Nat) : Int)]) hf4 ap4
      have ap5 : ¬ Foot (upd H4 f (.lst (iV out ++ [V.int (((iV (VamvsaNeutral.encode (Vamvsa.step o k).2)).length : Nat) : Int)]))) d f := fun h => ap4 (h.upd hf4)
      -- found.extend(told_here)
      refine ⟨_, rfl, .inl ⟨rfl, _, SqL.of upd_same⟩, _, rfl, f, y, _, _, rfl, rfl, upd_same, by rw [upd_ne yf]; exact hy, by rw [List.length_append, iV_length, iV_length, line_eq]; show _ + 1 + _ ≤ _; omega, ?_⟩
      refine ⟨l.length - j, by omega, j, _, _, _, _, _, (Vamvsa.step o k).1, cs', out ++ (((VamvsaNeutral.encode (Vamvsa.step o k).2).length : Nat) : Int) :: VamvsaNeutral.encode (Vamvsa.step o k).2, rfl, ?_, rfl⟩
      exact
        { same := same_lst (same_lst s04 L.nf) L.nf, nd := L.nd, nf := L.nf
          desk := D5.away upd_same ap5
          found := by
            rw [upd_same, iV_length, List.append_assoc]
            show some (HO.lst (iV out ++ iV ((((VamvsaNeutral.encode (Vamvsa.step o k).2).length : Nat) : Int) :: VamvsaNeutral.encode (Vamvsa.step o k).2))) = _
            rw [← iV_app]
          apart := fun h => ap5 (h.upd upd_same)
          le := hjl, rest := ⟨fu', hcs'⟩, ask := fun c hc => L.ask c (List.mem_cons_of_mem _ hc)
          eq := enc }
    · rw [decide_eq_false (show ¬ ((i : Nat) : Int) < ((l.length : Nat) : Int) by omega)]
      have ecs := flat_end (by omega) hcs
      subst ecs
      have e := L.eq
      rw [show PyFlat.told (PyFlat.played VamvsaNeutral.step o []) = [] from rfl, List.append_nil] at e
      exact ⟨_, rfl, q H2 f (by rw [e]; exact L.found)⟩
/-! ### the end's parts -/
theorem all_mk {fa : Addr} (T : Txt K mg) (hfa : mg "answers" = some (.ref fa)) :
    ∃ fd : FuncData, (∀ (s : Shared) (us : List Value), us.length = (["calls"] : List Str).length → BindsTo s fd ⟨us, []⟩ ((["calls"] : List Str).zip us)) ∧
      ∀ base : Heap, K.In base → base.Ns mainGlobals mg → FnOk P w K mg base CX0 12 fa fd ["calls"] (spAnswers K) := by
  have e := hfa.symm.trans T.g_answers
  cases e
  obtain ⟨fd, F⟩ := T.F_answers
  refine ⟨fd, fun s us hu => ?_, fun base _ _ => ok_answers T F⟩
  obtain ⟨oc, od, kV, doc, pm, an, cdv, ct, osl, rfl, _, _⟩ := F.ex
  exact match us, hu with | [_], _ => .of_eq rfl
end Kg
open PySem PySem.W PyProof.Rows
set_option maxHeartbeats 0 in
theorem PySem.Challenge.cw_keptgroupings_s01_answers_holds : PySem.Challenge.rw_keptgroupings_s01_answers.Holds := by
  w_on; k_headS
  case hw => exact ⟨[.list [.int 4]], by decide +kernel, by decide +kernel⟩
  refine L2.walk_specK (r := PySem.Challenge.rw_keptgroupings_s01_answers) (k := 12) (CX := L2.CX0) (ps := ["calls"]) (sp := Kg.spAnswers) (by decide +kernel) rfl rfl ⟨rfl, by decide, by decide⟩ (fun w h Y => PySem.W.kIn_of Y) ?F ?S (fun _ _ _ _ z => z)
  case F =>
    intro w mg fa h Y KX G hmg
    have S : He.SaysE Kg.kfa Kg.kfn (PySem.Challenge.cw_keptgroupings_s01_answers_holds.heap_1 w.params) := by
      show He.obsE Kg.kfa Kg.kfn (PySem.Challenge.cw_keptgroupings_s01_answers_holds.heap_1 w.params) = He.valE Kg.kfn
      kernel_rfl
    have M : Kg.More (PySem.Challenge.cw_keptgroupings_s01_answers_holds.heap_1 w.params) := ⟨by kernel_rfl⟩
    exact Kg.all_mk (Kg.txt_of KX G S M) hmg
  case S =>
    intro K H xs a hO hwi hask hx
    cases hx with
    | cons h1 h2 =>
      cases h2
      cases h1 with
      | lst hs ha =>
        have e := L2.ints_dw a.1 _ ha
        subst e
        have q : ((Codec.inLen 0 17000 a.1 && a.1.all (Codec.inInt (-1000000000000000000) 1000000000000000000)) && true) = true := hwi
        rw [Bool.and_eq_true, Bool.and_eq_true] at q
        exact ⟨_, a.1, rfl, hs, (Codec.inNat_iff.mp q.1.1).2, hask, fun H' p hp => .lst (L2.SqL.of hp) (L2.dw_ints _)⟩
#print axioms PySem.Challenge.cw_keptgroupings_s01_answers_holds
