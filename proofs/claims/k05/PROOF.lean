import PyProof.Rows.All
import Wide.All
import OpenK.AllK
import Wide.FinOn
import HandS.ForMost
import KE.KExcSuper
import HandS.Exc
import HandS.TryOnly
import HandS.WordsExc
import HandS.ExcIs
import HandS.ExcField
import KE.KExcIs
import HandS.IsInst
import HandS.FStrTup
import PyProof.ToksMono
import HandS.Comp
import HandS.Replace
import HandS.ReplaceLit
import KE.GoesEnum
import HandS.Walk
import HandS.Words
import HandS.ExcOwn
import HandS.Text
import HandS.Wide
import HandS.Defaults
import HandS.TupAny
import HandS.RaiseMore
import HandS.Dict
import HandS.LawCells
import HandS.NoneIn
import PySem.Challenge.RW_bulkload_k05_whole_shown_shortest
set_option Elab.async false
set_option maxHeartbeats 1000000
namespace K5
open PySem TL NumText

/-! ### digits -/
def zer (n : Nat) : List Nat := List.replicate n 48
theorem zer_len (n : Nat) : (zer n).length = n := by unfold zer; simp
theorem zer_digits (n : Nat) : AllDigits (zer n) := fun c hc => by
  have := List.eq_of_mem_replicate hc
  omega
theorem digits_append {a b : List Nat} (ha : AllDigits a) (hb : AllDigits b) : AllDigits (a ++ b) := fun c hc => by
  rcases List.mem_append.mp hc with h | h
  · exact ha c h
  · exact hb c h
theorem digits_left {a b : List Nat} (h : AllDigits (a ++ b)) : AllDigits a := fun c hc => h c (List.mem_append_left _ hc)
theorem digits_right {a b : List Nat} (h : AllDigits (a ++ b)) : AllDigits b := fun c hc => h c (List.mem_append_right _ hc)
def vacc (a : Nat) (l : List Nat) : Nat := l.foldl (fun acc c => acc * 10 + (c - 48)) a
theorem dv_eq (l : List Nat) : digitsVal l = vacc 0 l := rfl
theorem vacc_eq : ∀ (l : List Nat) (a : Nat), vacc a l = a * 10 ^ l.length + vacc 0 l
  | [], a => by simp [vacc]
  | c :: l, a => by
    have h1 : vacc a (c :: l) = vacc (a * 10 + (c - 48)) l := rfl
    have h2 : vacc 0 (c :: l) = vacc (0 * 10 + (c - 48)) l := rfl
    rw [h1, h2, vacc_eq l (a * 10 + (c - 48)), vacc_eq l (0 * 10 + (c - 48)), List.length_cons, Nat.pow_succ]
    have : (a * 10 + (c - 48)) * 10 ^ l.length = a * (10 ^ l.length * 10) + (c - 48) * 10 ^ l.length := by
      rw [Nat.add_mul, Nat.mul_assoc, Nat.mul_comm 10]
    rw [this]
    simp only [Nat.zero_mul, Nat.zero_add]
    omega
theorem dv_app (a b : List Nat) : digitsVal (a ++ b) = digitsVal a * 10 ^ b.length + digitsVal b := by
  have : digitsVal (a ++ b) = vacc (digitsVal a) b := by
    show (a ++ b).foldl _ 0 = _
    rw [List.foldl_append] <;> rfl
  rw [this, vacc_eq]
  rfl
theorem dv_zer : ∀ n, digitsVal (zer n) = 0
  | 0 => rfl
  | n + 1 => by
    have : zer (n + 1) = [48] ++ zer n := rfl
    rw [this, dv_app, dv_zer n]
    show (0 * 10 + (48 - 48)) * _ + 0 = 0
    simp
theorem dv_lt : ∀ {l : List Nat}, AllDigits l → digitsVal l < 10 ^ l.length
  | [], _ => by decide
  | c :: l, h => by
    have e : digitsVal (c :: l) = digitsVal [c] * 10 ^ l.length + digitsVal l := dv_app [c] l
    have hc := h.head
    have h1 := dv_lt h.tail
    have e1 : digitsVal [c] = c - 48 := by
      show 0 * 10 + (c - 48) = _
      omega
    rw [e, e1, List.length_cons, Nat.pow_succ]
    have : (c - 48) * 10 ^ l.length ≤ 9 * 10 ^ l.length := Nat.mul_le_mul_right _ (by omega)
    omega
/-- digits of one length with one value are the same -/
theorem dv_inj : ∀ {a b : List Nat}, AllDigits a → AllDigits b → a.length = b.length → digitsVal a = digitsVal b → a = b
  | [], [], _, _, _, _ => rfl
  | [], _ :: _, _, _, h, _ => by simp at h
  | _ :: _, [], _, _, h, _ => by simp at h
  | c :: a, d :: b, ha, hb, hl, hv => by
    have hl' : a.length = b.length := by simpa using hl
    have e1 : digitsVal (c :: a) = (c - 48) * 10 ^ a.length + digitsVal a := by
      have := dv_app [c] a
      rw [show digitsVal [c] = c - 48 from by show 0 * 10 + (c - 48) = _; omega] at this
      exact this
    have e2 : digitsVal (d :: b) = (d - 48) * 10 ^ b.length + digitsVal b := by
      have := dv_app [d] b
      rw [show digitsVal [d] = d - 48 from by show 0 * 10 + (d - 48) = _; omega] at this
      exact this
    have l1 := dv_lt ha.tail
    have l2 := dv_lt hb.tail
    rw [e1, e2, ← hl'] at hv
    rw [← hl'] at l2
    have hc := ha.head
    have hd := hb.head
    generalize hP : 10 ^ a.length = P at *
    have hcd : c - 48 = d - 48 := by
      rcases Nat.lt_trichotomy (c - 48) (d - 48) with h | h | h
      · have : (c - 48 + 1) * P ≤ (d - 48) * P := Nat.mul_le_mul_right _ h
        rw [Nat.add_mul] at this
        omega
      · exact h
      · have : (d - 48 + 1) * P ≤ (c - 48) * P := Nat.mul_le_mul_right _ h
        rw [Nat.add_mul] at this
        omega
    rw [hcd] at hv
    have : a = b := dv_inj ha.tail hb.tail hl' (by omega)
    rw [this, show c = d by omega]

/-- the digits of n, filled up to w -/
def padL (w n : Nat) : List Nat := zer (w - (numL n).length) ++ numL n
theorem padL_digits (w n : Nat) : AllDigits (padL w n) := digits_append (zer_digits _) (numL_digits n)
theorem padL_val (w n : Nat) : digitsVal (padL w n) = n := by
  unfold padL
  rw [dv_app, dv_zer, numL_val]
  simp
theorem padL_len (w n : Nat) : (padL w n).length = max w (numL n).length := by
  unfold padL
  rw [List.length_append, zer_len]
  omega
theorem numL_pos (n : Nat) : 0 < (numL n).length := by
  have := numL_ne n
  cases h : numL n with
  | nil => exact absurd h this
  | cons a l => simp
/-- digits with the value n, at least w of them: zeros and padL -/
theorem split_pad {l : List Nat} {w n : Nat} (hl : AllDigits l) (hv : digitsVal l = n) (hw : w ≤ l.length) (h0 : 0 < l.length) :
    (padL w n).length ≤ l.length ∧ l = zer (l.length - (padL w n).length) ++ padL w n := by
  have h1 : (numL n).length ≤ l.length := numL_len h0 (by rw [← hv]; exact dv_lt hl)
  have h2 : (padL w n).length ≤ l.length := by rw [padL_len]; omega
  refine ⟨h2, dv_inj hl (digits_append (zer_digits _) (padL_digits _ _)) ?_ ?_⟩
  · rw [List.length_append, zer_len]
    omega
  · rw [dv_app, dv_zer, padL_val, hv]
    simp

/-! ### zeros at the end -/
def stripR : List Nat → List Nat
  | [] => []
  | c :: l => if c = 48 ∧ stripR l = [] then [] else c :: stripR l
theorem stripR_zer : ∀ k, stripR (zer k) = []
  | 0 => rfl
  | k + 1 => if_pos ⟨rfl, stripR_zer k⟩
theorem stripR_app_zer : ∀ (a : List Nat) (k : Nat), stripR (a ++ zer k) = stripR a
  | [], k => stripR_zer k
  | c :: a, k => by
    show (if c = 48 ∧ stripR (a ++ zer k) = [] then [] else c :: stripR (a ++ zer k)) = _
    rw [stripR_app_zer a k]
    rfl
theorem stripR_split : ∀ l : List Nat, l = stripR l ++ zer (l.length - (stripR l).length)
  | [] => rfl
  | c :: l => by
    have ih := stripR_split l
    by_cases h : c = 48 ∧ stripR l = []
    · have e : stripR (c :: l) = [] := if_pos h
      rw [e]
      rw [h.2] at ih
      simp only [List.nil_append, List.length_nil, Nat.sub_zero, List.length_cons] at ih ⊢
      show c :: l = 48 :: zer l.length
      rw [h.1, ← ih]
    · have e : stripR (c :: l) = c :: stripR l := if_neg h
      rw [e, List.length_cons, List.length_cons]
      show c :: l = c :: (stripR l ++ zer _)
      rw [show l.length + 1 - ((stripR l).length + 1) = l.length - (stripR l).length by omega, ← ih]
theorem stripR_len_le (l : List Nat) : (stripR l).length ≤ l.length := by
  have h := congrArg List.length (stripR_split l)
  rw [List.length_append, zer_len] at h
  omega
theorem stripR_full {l : List Nat} (h : (stripR l).length = l.length) : stripR l = l := by
  have e := stripR_split l
  rw [h, Nat.sub_self] at e
  simpa [zer] using e.symm
/-- the last sign is no zero -/
theorem stripR_last {l : List Nat} {c : Nat} (h : c ≠ 48) : stripR (l ++ [c]) = l ++ [c] := by
  induction l with
  | nil =>
    show (if c = 48 ∧ stripR [] = [] then [] else c :: stripR []) = _
    rw [if_neg (fun z => h z.1)]
    rfl
  | cons d l ih =>
    show (if d = 48 ∧ stripR (l ++ [c]) = [] then [] else d :: stripR (l ++ [c])) = _
    rw [ih, if_neg (fun z => by simp at z)]
    rfl

/-! ### how a number with p places is shown -/
def wholeL (p n : Nat) : List Nat := (padL (p + 1) n).take ((padL (p + 1) n).length - p)
def restL (p n : Nat) : List Nat := (padL (p + 1) n).drop ((padL (p + 1) n).length - p)
def partL (p n : Nat) : List Nat := stripR (restL p n)
def bodyL (p n : Nat) : List Nat := wholeL p n ++ (if partL p n = [] then [] else 46 :: partL p n)
def decL (p : Nat) (v : Int) : List Nat := (if v < 0 then [45] else []) ++ bodyL p v.natAbs
theorem whole_rest (p n : Nat) : wholeL p n ++ restL p n = padL (p + 1) n := List.take_append_drop _ _
theorem pad_ge (p n : Nat) : p + 1 ≤ (padL (p + 1) n).length := by
  rw [padL_len]
  omega
theorem whole_len (p n : Nat) : (wholeL p n).length = (padL (p + 1) n).length - p := by
  unfold wholeL
  rw [List.length_take]
  omega
theorem rest_len (p n : Nat) : (restL p n).length = p := by
  have := pad_ge p n
  unfold restL
  rw [List.length_drop]
  omega
theorem whole_pos (p n : Nat) : 0 < (wholeL p n).length := by
  have := pad_ge p n
  rw [whole_len]
  omega
theorem whole_digits (p n : Nat) : AllDigits (wholeL p n) := digits_left (b := restL p n) (by rw [whole_rest]; exact padL_digits _ _)
theorem rest_digits (p n : Nat) : AllDigits (restL p n) := digits_right (a := wholeL p n) (by rw [whole_rest]; exact padL_digits _ _)
theorem part_split (p n : Nat) : restL p n = partL p n ++ zer (p - (partL p n).length) := by
  have := stripR_split (restL p n)
  rw [rest_len] at this
  exact this
theorem part_len (p n : Nat) : (partL p n).length ≤ p := by
  have := stripR_len_le (restL p n)
  rw [rest_len] at this
  exact this
theorem part_digits (p n : Nat) : AllDigits (partL p n) := digits_left (b := zer (p - (partL p n).length)) (by rw [← part_split]; exact rest_digits p n)
theorem shown_val (p n : Nat) : digitsVal (wholeL p n ++ partL p n ++ zer (p - (partL p n).length)) = n := by
  rw [List.append_assoc, ← part_split, whole_rest, padL_val]
/-- how long a shown number's digits are -/
theorem pad_18 {p n : Nat} (hp : p ≤ 9) (hn : n < 10 ^ 18) : (padL (p + 1) n).length ≤ 18 := by
  have := numL_len (n := n) (k := 18) (by decide) hn
  rw [padL_len]
  omega
theorem shown_18 {p n : Nat} (hp : p ≤ 9) (hn : n < 10 ^ 18) : (wholeL p n).length + (partL p n).length ≤ 18 := by
  have h1 := pad_18 hp hn
  have h2 := whole_len p n
  have h3 := part_len p n
  have h4 := pad_ge p n
  omega

/-! ### how a text is read -/
def isNeg (t : List Nat) : Bool := decide (t.take 1 = [45])
def bodyOf (t : List Nat) : List Nat := if isNeg t = true then t.drop 1 else t
/-- cut at the first point -/
def cutP : List Nat → List Nat × Option (List Nat)
  | [] => ([], none)
  | c :: r => if c = 46 then ([], some r) else (c :: (cutP r).1, (cutP r).2)
theorem cutP_none {l : List Nat} (h : 46 ∉ l) : cutP l = (l, none) := by
  induction l with
  | nil => rfl
  | cons c l ih =>
    have h1 : c ≠ 46 := fun e => h (by rw [e]; exact List.mem_cons_self)
    have h2 := ih fun z => h (List.mem_cons_of_mem _ z)
    show (if c = 46 then ([], some l) else (c :: (cutP l).1, (cutP l).2)) = _
    rw [if_neg h1, h2]
theorem cutP_app {a b : List Nat} (h : 46 ∉ a) : cutP (a ++ 46 :: b) = (a, some b) := by
  induction a with
  | nil => exact if_pos rfl
  | cons c l ih =>
    have h1 : c ≠ 46 := fun e => h (by rw [e]; exact List.mem_cons_self)
    have h2 := ih fun z => h (List.mem_cons_of_mem _ z)
    show (if c = 46 then ([], some (l ++ 46 :: b)) else (c :: (cutP (l ++ 46 :: b)).1, (cutP (l ++ 46 :: b)).2)) = _
    rw [if_neg h1, h2]
/-- the two ways -/
theorem cutP_cases (l : List Nat) : (46 ∉ l ∧ cutP l = (l, none)) ∨ ∃ a b, 46 ∉ a ∧ l = a ++ 46 :: b ∧ cutP l = (a, some b) := by
  induction l with
  | nil => exact .inl ⟨by simp, rfl⟩
  | cons c l ih =>
    by_cases hc : c = 46
    · exact .inr ⟨[], l, by simp, by rw [hc]; rfl, if_pos hc⟩
    · rcases ih with ⟨h1, h2⟩ | ⟨a, b, h1, h2, h3⟩
      · exact .inl ⟨by simp [h1]; exact fun e => hc e.symm, cutP_none (by simp [h1]; exact fun e => hc e.symm)⟩
      · refine .inr ⟨c :: a, b, by simp [h1]; exact fun e => hc e.symm, by rw [h2]; rfl, ?_⟩
        rw [h2]
        exact cutP_app (a := c :: a) (by simp [h1]; exact fun e => hc e.symm)
def digs (l : List Nat) : Bool := decide (l ≠ []) && l.all fun c => decide (48 ≤ c ∧ c ≤ 57)
theorem digs_iff {l : List Nat} : digs l = true ↔ l ≠ [] ∧ AllDigits l := by
  unfold digs AllDigits
  rw [Bool.and_eq_true, decide_eq_true_eq, List.all_eq_true]
  constructor
  · rintro ⟨h1, h2⟩
    exact ⟨h1, fun c hc => of_decide_eq_true (h2 c hc)⟩
  · rintro ⟨h1, h2⟩
    exact ⟨h1, fun c hc => decide_eq_true (h2 c hc)⟩
def sgn (t : List Nat) (n : Nat) : Int := if isNeg t = true then -(n : Int) else (n : Int)
/-- the value of a text of a number with p places, whatever its bounds -/
def parse (p : Nat) (t : List Nat) : Option Int :=
  match cutP (bodyOf t) with
  | (w, none) => if digs w = true ∧ w.length ≤ 18 then some (sgn t (digitsVal (w ++ zer p))) else none
  | (w, some q) => if (digs w = true ∧ p ≠ 0 ∧ digs q = true) ∧ q.length ≤ p ∧ w.length + q.length ≤ 18 then some (sgn t (digitsVal (w ++ q ++ zer (p - q.length)))) else none
theorem isNeg_cons {c : Nat} {l : List Nat} : isNeg (c :: l) = decide (c = 45) := by
  unfold isNeg
  simp
/-- a text made of its parts -/
def made (neg : Bool) (w : List Nat) (q : Option (List Nat)) : List Nat := (if neg = true then [45] else []) ++ (w ++ (match q with | none => [] | some q => 46 :: q))
theorem digits_nopoint {l : List Nat} (h : AllDigits l) : 46 ∉ l := fun hm => by
  have := h 46 hm
  omega
theorem isNeg_digits {l : List Nat} {r : List Nat} (h : AllDigits l) (h0 : l ≠ []) : isNeg (l ++ r) = false := by
  cases l with
  | nil => exact absurd rfl h0
  | cons c l =>
    have := h.head
    show isNeg (c :: (l ++ r)) = false
    rw [isNeg_cons]
    exact decide_eq_false (by omega)
theorem isNeg_made {neg : Bool} {w : List Nat} {q : Option (List Nat)} (h : AllDigits w) (h0 : w ≠ []) : isNeg (made neg w q) = neg := by
  cases neg with
  | true => rfl
  | false => exact isNeg_digits (l := w) h h0
theorem body_made {neg : Bool} {w : List Nat} {q : Option (List Nat)} (h : AllDigits w) (h0 : w ≠ []) : bodyOf (made neg w q) = w ++ (match q with | none => [] | some q => 46 :: q) := by
  unfold bodyOf
  rw [isNeg_made h h0]
  cases neg <;> rfl
theorem parse_made_none {p : Nat} {neg : Bool} {w : List Nat} (h : AllDigits w) (h0 : w ≠ []) (hl : w.length ≤ 18) :
    parse p (made neg w none) = some (if neg = true then -((digitsVal (w ++ zer p) : Nat) : Int) else ((digitsVal (w ++ zer p) : Nat) : Int)) := by
  unfold parse
  rw [body_made h h0]
  show (match cutP (w ++ []) with | (w, none) => _ | (w, some q) => _) = _
  rw [List.append_nil, cutP_none (digits_nopoint h)]
  show (if _ then _ else _) = _
  rw [if_pos ⟨digs_iff.mpr ⟨h0, h⟩, hl⟩]
  unfold sgn
  rw [isNeg_made h h0]
theorem parse_made_some {p : Nat} {neg : Bool} {w q : List Nat} (h : AllDigits w) (h0 : w ≠ []) (hq : AllDigits q) (hq0 : q ≠ []) (hp : p ≠ 0) (hqp : q.length ≤ p) (hl : w.length + q.length ≤ 18) :
    parse p (made neg w (some q)) = some (if neg = true then -((digitsVal (w ++ q ++ zer (p - q.length)) : Nat) : Int) else ((digitsVal (w ++ q ++ zer (p - q.length)) : Nat) : Int)) := by
  unfold parse
  rw [body_made h h0]
  show (match cutP (w ++ 46 :: q) with | (w, none) => _ | (w, some q) => _) = _
  rw [cutP_app (digits_nopoint h)]
  show (if _ then _ else _) = _
  rw [if_pos ⟨⟨digs_iff.mpr ⟨h0, h⟩, hp, digs_iff.mpr ⟨hq0, hq⟩⟩, hqp, hl⟩]
  unfold sgn
  rw [isNeg_made h h0]
/-- a text that is read is made so -/
theorem parse_some {p : Nat} {t : List Nat} {v : Int} (e : parse p t = some v) :
    ∃ (neg : Bool) (w : List Nat) (q : Option (List Nat)), t = made neg w q ∧ AllDigits w ∧ w ≠ [] ∧ (∀ q', q = some q' → AllDigits q' ∧ q' ≠ []) ∧ (q.getD []).length ≤ p ∧ w.length + (q.getD []).length ≤ 18 ∧
      v = if neg = true then -((digitsVal (w ++ q.getD [] ++ zer (p - (q.getD []).length)) : Nat) : Int) else ((digitsVal (w ++ q.getD [] ++ zer (p - (q.getD []).length)) : Nat) : Int) := by
  have et : t = (if isNeg t = true then [45] else []) ++ bodyOf t := by
    unfold bodyOf
    by_cases h : isNeg t = true
    · rw [if_pos h, if_pos h]
      have h1 : t.take 1 = [45] := of_decide_eq_true h
      rw [← h1]
      exact (List.take_append_drop 1 t).symm
    · rw [if_neg h, if_neg h]
      rfl
  unfold parse at e
  rcases cutP_cases (bodyOf t) with ⟨_, h⟩ | ⟨a, b, _, hb, h⟩
  · rw [h] at e
    dsimp only at e
    split at e
    · rename_i hc
      obtain ⟨h0, hd⟩ := digs_iff.mp hc.1
      refine ⟨isNeg t, bodyOf t, none, ?_, hd, h0, fun q' z => (nomatch z), Nat.zero_le _, by simpa using hc.2, ?_⟩
      · unfold made
        rw [List.append_nil]
        exact et
      · have := Option.some.inj e
        rw [← this]
        unfold sgn
        simp
    · cases e
  · rw [h] at e
    dsimp only at e
    split at e
    · rename_i hc
      obtain ⟨⟨hw, hp, hq⟩, hl, h18⟩ := hc
      obtain ⟨h0, hd⟩ := digs_iff.mp hw
      obtain ⟨q0, qd⟩ := digs_iff.mp hq
      refine ⟨isNeg t, a, some b, ?_, hd, h0, fun q' z => ?_, hl, h18, ?_⟩
      · unfold made
        dsimp only
        rw [← hb]
        exact et
      · cases z
        exact ⟨qd, q0⟩
      · have := Option.some.inj e
        rw [← this]
        rfl
    · cases e

/-! ### the laws -/
theorem decL_made (p : Nat) (v : Int) : decL p v = made (decide (v < 0)) (wholeL p v.natAbs) (if partL p v.natAbs = [] then none else some (partL p v.natAbs)) := by
  unfold decL made bodyL
  congr 1
  · by_cases h : v < 0
    · rw [if_pos h, decide_eq_true h, if_pos rfl]
    · rw [if_neg h, decide_eq_false h, if_neg Bool.false_ne_true]
  · congr 1
    by_cases h : partL p v.natAbs = []
    · rw [if_pos h, if_pos h]
    · rw [if_neg h, if_neg h]
theorem whole_ne (p n : Nat) : wholeL p n ≠ [] := fun e => by
  have := whole_pos p n
  rw [e] at this
  simp at this
theorem signed (v : Int) : (if decide (v < 0) = true then -((v.natAbs : Nat) : Int) else ((v.natAbs : Nat) : Int)) = v := by
  by_cases h : v < 0
  · rw [decide_eq_true h, if_pos rfl]
    omega
  · rw [decide_eq_false h, if_neg Bool.false_ne_true]
    omega
/-- what is shown is read back -/
theorem parse_shown {p : Nat} {v : Int} (hp : p ≤ 9) (hv : v.natAbs < 10 ^ 18) : parse p (decL p v) = some v := by
  rw [decL_made]
  have h18 := shown_18 hp hv
  have hval := shown_val p v.natAbs
  by_cases h : partL p v.natAbs = []
  · rw [if_pos h, parse_made_none (whole_digits _ _) (whole_ne _ _) (by omega)]
    rw [h] at hval
    simp only [List.append_nil, List.length_nil, Nat.sub_zero] at hval
    rw [hval, signed]
  · have hp0 : p ≠ 0 := fun e => h (by
      have := part_len p v.natAbs
      exact List.eq_nil_of_length_eq_zero (by omega))
    rw [if_neg h, parse_made_some (whole_digits _ _) (whole_ne _ _) (part_digits _ _) h hp0 (part_len _ _) h18, hval, signed]
/-- the parts of a text against those of the shown one -/
theorem parts_le {p n : Nat} {w q : List Nat} (hw : AllDigits w) (h0 : w ≠ []) (hq : AllDigits q) (hl : q.length ≤ p) (hv : digitsVal (w ++ q ++ zer (p - q.length)) = n) :
    (wholeL p n).length ≤ w.length ∧ ((wholeL p n).length = w.length → wholeL p n = w) ∧ (partL p n).length ≤ q.length ∧ ((partL p n).length = q.length → partL p n = q) := by
  have hwp : 0 < w.length := by
    cases w with
    | nil => exact absurd rfl h0
    | cons c w => simp
  have hD : AllDigits (w ++ q ++ zer (p - q.length)) := digits_append (digits_append hw hq) (zer_digits _)
  have hlen : (w ++ q ++ zer (p - q.length)).length = w.length + p := by
    rw [List.length_append, List.length_append, zer_len]
    omega
  obtain ⟨h1, h2⟩ := split_pad (w := p + 1) hD hv (by omega) (by omega)
  have hge := pad_ge p n
  rw [hlen] at h1 h2
  have e : w ++ (q ++ zer (p - q.length)) = (zer (w.length + p - (padL (p + 1) n).length) ++ wholeL p n) ++ restL p n := by
    rw [List.append_assoc, whole_rest, ← h2, List.append_assoc]
  have hwl : w.length = (zer (w.length + p - (padL (p + 1) n).length) ++ wholeL p n).length := by
    rw [List.length_append, zer_len, whole_len]
    omega
  obtain ⟨ew, eq⟩ := List.append_inj e hwl
  have hk := whole_len p n
  have hpq : partL p n = stripR q := by
    unfold partL
    rw [← eq, stripR_app_zer]
  refine ⟨by omega, fun hh => ?_, by rw [hpq]; exact stripR_len_le q, fun hh => ?_⟩
  · have : w.length + p - (padL (p + 1) n).length = 0 := by omega
    rw [this] at ew
    exact ew.symm
  · rw [hpq] at hh ⊢
    exact stripR_full hh
def ptLen : Option (List Nat) → Nat
  | none => 0
  | some q => q.length + 1
def sgLen (b : Bool) : Nat := if b = true then 1 else 0
theorem made_len (neg : Bool) (w : List Nat) (q : Option (List Nat)) : (made neg w q).length = sgLen neg + w.length + ptLen q := by
  unfold made sgLen ptLen
  cases neg <;> cases q <;> simp <;> omega
/-- no text that is read is shorter than the shown one; one as long is the same -/
theorem shown_best {p : Nat} {t : List Nat} {v : Int} (e : parse p t = some v) : decL p v = t ∨ (decL p v).length < t.length := by
  obtain ⟨neg, w, q, rfl, hw, h0, hq, hl, _, ev⟩ := parse_some e
  have hqd : AllDigits (q.getD []) := by
    cases q with
    | none => exact fun c hc => by simp at hc
    | some q' => exact (hq q' rfl).1
  have hn : digitsVal (w ++ q.getD [] ++ zer (p - (q.getD []).length)) = v.natAbs := by
    rw [ev]
    cases neg
    · rw [if_neg Bool.false_ne_true]
      omega
    · rw [if_pos rfl]
      omega
  obtain ⟨a1, a2, a3, a4⟩ := parts_le hw h0 hqd hl hn
  rw [decL_made, made_len, made_len]
  have hsg : decide (v < 0) = true → neg = true := fun h => by
    have hv : v < 0 := of_decide_eq_true h
    cases neg
    · rw [if_neg Bool.false_ne_true] at ev
      omega
    · rfl
  -- the part behind the point
  have hpt : ptLen (if partL p v.natAbs = [] then none else some (partL p v.natAbs)) ≤ ptLen q ∧
      (ptLen (if partL p v.natAbs = [] then none else some (partL p v.natAbs)) = ptLen q → (if partL p v.natAbs = [] then none else some (partL p v.natAbs)) = q) := by
    cases q with
    | none =>
      have : partL p v.natAbs = [] := List.eq_nil_of_length_eq_zero (by simpa using a3)
      rw [if_pos this]
      exact ⟨Nat.le_refl _, fun _ => rfl⟩
    | some q' =>
      by_cases h : partL p v.natAbs = []
      · rw [if_pos h]
        exact ⟨Nat.zero_le _, fun z => by simp [ptLen] at z⟩
      · rw [if_neg h]
        simp only [Option.getD_some] at a3 a4
        exact ⟨by simpa [ptLen] using a3, fun z => by rw [a4 (by simpa [ptLen] using z)]⟩
  have hsl : sgLen (decide (v < 0)) ≤ sgLen neg ∧ (sgLen (decide (v < 0)) = sgLen neg → decide (v < 0) = neg) := by
    cases hd : decide (v < 0) with
    | true => rw [hsg hd]; exact ⟨Nat.le_refl _, fun _ => rfl⟩
    | false => cases neg with
      | true => exact ⟨by simp [sgLen], fun z => by simp [sgLen] at z⟩
      | false => exact ⟨Nat.le_refl _, fun _ => rfl⟩
  obtain ⟨p1, p2⟩ := hpt
  obtain ⟨s1, s2⟩ := hsl
  by_cases hh : sgLen (decide (v < 0)) + (wholeL p v.natAbs).length + ptLen (if partL p v.natAbs = [] then none else some (partL p v.natAbs)) < sgLen neg + w.length + ptLen q
  · exact .inr hh
  · left
    rw [s2 (by omega), a2 (by omega), p2 (by omega)]
end K5
set_option Elab.async false
set_option maxRecDepth 100000
set_option maxHeartbeats 2000000
/-! own rules, part 1: an exception of an own class whose __init__ says super().__init__(text), then keeps a field -/
namespace K5
open PySem PySem.W PySem.Calls PyProof.Rows PySem.HandSPX
/-! ### the text of such an __init__ -/
def sA (fld : Str) (p1 p2 : Pos) : Arguments := { posonlyargs := [], args := [{ arg := "self", annotation := none, pos := p1 }, { arg := fld, annotation := none, pos := p2 }], vararg := none, kwonlyargs := [], kw_defaults := [], kwarg := none, defaults := [] }
def sB (fld msg : Str) (q1 q2 q3 q4 q5 q6 q7 q8 q9 q0 : Pos) : List Stmt :=
  [.Expr (.Call (.Attribute (.Call (.Name "super" q1) [] [] q2) "__init__" q3) [.Constant (.str msg) 0 q4] [] q5) q6, .Assign [.Attribute (.Name "self" q7) fld q8] (.Name fld q9) q0]
def sS (fld : Str) : Scope := { kind := .function, names := [(PySem.Str.ofString "self", .local), (fld, .local), (PySem.Str.ofString "__class__", .free), (PySem.Str.ofString "super", .globalImplicit)], isGenerator := false, isCoroutine := false, more := [] }
/-- how super().__init__(text) is read, at its places -/
def SupCall (msg : Str) (q1 q2 q3 q4 q5 : Pos) : Prop := ∀ env : Env, ∃ pl : Sem Bool, eval (.Call (.Attribute (.Call (.Name "super" q1) [] [] q2) "__init__" q3) [.Constant (.str msg) 0 q4] [] q5) env = (do
  let ov ← attributeBase (.Call (.Name "super" q1) [] [] q2) "__init__" env (eval (.Call (.Name "super" q1) [] [] q2) env)
  standAt q3.atName
  let (f, first) ← holding [ov] (getMethod ov "__init__" pl)
  callWith q5 f first (backTo q5 (starEach [.Constant (.str msg) 0 q4] env)) [])
/-- what the written part says of the class nm, at C, with its __init__ at fI -/
structure SupC (P : Program) (K : Frag) (mg : Str → Option Value) (nm fld : Str) (C fI : Addr) : Prop where
  gC : mg nm = some (.ref C)
  gS : mg "super" = none
  cls : ∃ n1 q N bs bm sn sub ab col dd k0 k1 k2 k3 k5, K.lookup C = some (excClassObj n1 q C N bs bm true sn sub ab col dd k0 k1 k2 k3 k5 "ValueError.__new__") ∧ refsVE bm = true ∧ alongIn K "__init__" bm = some (some (.builtin "ValueError.__init__"))
  sa : findIn K (.ref C) "__setattr__" = some (some (.builtin "object.__setattr__"))
  ga : findIn K (.ref C) "__getattribute__" = some (some (.builtin "BaseException.__getattribute__"))
  gg : findIn K (.ref C) "__getattr__" = some none
  noN : findIn K (.ref C) fld = some none
  iC : findIn K (.ref C) "__init__" = some (some (.ref fI))
  tC : typeIn K (.ref fI) = some (.type "function")
  kC : keepIn K (.ref C) = true
  exC : subIn K (.ref C) (.type "BaseException") = some true
  exV : subIn K (.ref C) (.type "ValueError") = some true
  slf : mroIn K C (.ref C) = some true
  tyC : typeIn K (.ref C) = some (.type "type")
  hdC : hasDictIn K C = true
  opq : nsIn K cStatics "thirdparty.any" = some none
  fn : ∃ (oc : Value) (od : Option Addr) (kV doc pm : Value) (an : Option Addr) (ct : Value) (osl : Array (Option Value)) (cda cc : Addr) (qual msg : Str) (p1 p2 q1 q2 q3 q4 q5 q6 q7 q8 q9 q0 : Pos),
    K.lookup fI = some ⟨oc, od, .func (ksFn "__init__" qual (sA fld p1 p2) (sB fld msg q1 q2 q3 q4 q5 q6 q7 q8 q9 q0) (sS fld) .none kV doc pm an (.ref cda) ct cc), osl⟩ ∧ codeIn K (.ref cda) qual = true ∧
    (∃ ccl cdd vs ccs file tf, K.lookup cda = some ⟨ccl, cdd, .fields vs, ccs⟩ ∧ vs[2]? = some (.str file tf) ∧ ((P.main.file : Str) == file) = true) ∧
    (∃ cl cld csl, K.lookup cc = some ⟨cl, cld, .cell (some (.ref C)), csl⟩) ∧ SupCall msg q1 q2 q3 q4 q5
  sw : ∀ (o : Expr) (p' p'' pos : Pos) (env : Env), swapsWith (.Name fld p'') (some (.Attribute o fld p')) pos.line env = pure false
  ptop : (P.main.scope.names.lookup ("super" : Str)).isSome = false
/-- what the names of its scope must be -/
structure FldOk (fld : Str) : Prop where
  l1 : (sS fld).names.lookup ("self" : Str) = some .local
  l2 : (sS fld).names.lookup fld = some .local
  l3 : (sS fld).names.lookup ("__class__" : Str) = some .free
  l4 : (sS fld).names.lookup ("super" : Str) = some .globalImplicit
  nc : ∀ x ∈ (sS fld).names, x.2 ≠ .cell
  db : (fld == ("__debug__" : Str)) = false
  ne : (fld == ("self" : Str)) = false
  bd : ∀ (kV doc pm : Value) (an : Option Addr) (cdv ct : Value) (cc : Addr) (qual : Str) (p1 p2 : Pos) (body : List Stmt) (x v : Value),
    bindArgs (ksFn "__init__" qual (sA fld p1 p2) body (sS fld) .none kV doc pm an cdv ct cc) ⟨[x, v], []⟩ = pure [(("self" : Str), x), (fld, v)]
theorem one_fits (v : Value) : [v].length ≤ sizeLine := by
  rw [sizeLine_eq]
  exact (by decide : 1 ≤ 16777216)
/-- what __init__ leaves of a fresh exception at x -/
structure SupEnd (h h' : Heap) (x C dx : Addr) (fld : Str) (v : Value) : Prop where
  keep : ∀ b o, b ≠ x → h.get? b = some o → h'.get? b = some o
  obj : ∃ t1, h'.get? x = some { cls := .ref C, dict := some dx, data := .fields #[.ref t1, .none, .none, .none, .bool false, .none] }
  dbig : h.objs.size ≤ dx
  dne : dx ≠ x
  ns : h'.Ns1 dx (fun y => if y = fld then some v else none)
section
variable {prog : Program} {w : World} {A : Around} {E : Value → Shared → Prop} {R : Result → Shared → Prop} {s : Shared} {K : Frag} {mg : Str → Option Value} {C fI : Addr} {nm fld : Str} {base : Heap}
/-- the bound ValueError.__init__ is called: the args are laid anew -/
theorem call_mw {u e t0 : Addr} {rest : List Value} {Q : Value → Shared → Prop} {h : Heap} {g : Array GenState} {d : Drawn} {t : Nat} {os : OsState} {n1 q : Str} {N : Addr} {bs bm : List Value} {sn : List Str} {sub : List Value} {ab : Bool} {col : Option Bool} {dd : Option Addr} {k0 k1 k2 k3 k5 : Option Value}
    (hC : h.get? C = some (excClassObj n1 q C N bs bm true sn sub ab col dd k0 k1 k2 k3 k5 "ValueError.__new__")) (he : h.get? e = some (excO C t0)) (hu : h.get? u = some (kxs_mw "ValueError.__init__" e)) (hrest : rest.length ≤ sizeLine)
    (hq : ∀ h' t1, (∀ b o, b ≠ e → h.get? b = some o → h'.get? b = some o) → h'.get? e = some (excO C t1) → Q .none ⟨h', g, d, t, os⟩) :
    wpAny (model prog w) A (call (.ref u) rest) Q E ⟨h, g, d, t, os⟩ := by
  have FB := F.excBase_ValueError
  refine wpAny_call (codeAny_of_tree ?_)
  show wpAny _ A.in1 (callAny (.ref u) ⟨rest, []⟩) _ _ _
  simp only [callAny]
  refine wpAny_bind (wpAny_load hu ?_)
  have hty : (Value.type "method-wrapper" == Value.type "method" || Value.type "method-wrapper" == Value.type "builtin_function_or_method" || Value.type "method-wrapper" == Value.type "method-wrapper") = true := by decide
  simp only [kxs_mw, hty, if_true]
  refine KFB.if_so (by decide) ?_
  refine wpAny_bind (check_bound_init FB.toExcCallFacts hC he rfl ?_)
  refine wpAny_bind (wpAny_pure (wpAny_pure ?_))
  refine ⟨plainId_quiet FB.init.plain _, codeAny_builtin FB.initEntry ?_⟩
  exact exc_init_tree (cls := .ref C) (t0 := t0) (dv := none) (c2 := .none) (c3 := .none) (b4 := .bool false) he hrest fun h' k e' _ => hq h' _ k e'

theorem sup_init (T : SupC prog K mg nm fld C fI) (O : FldOk fld) (M : L2.Mod K mg base) (kb : ∀ b o, base.get? b = some o → s.heap.get? b = some o) {x t0 : Addr} {v : Value} (hx : s.heap.get? x = some (excO C t0)) (hnx : K.lookup x = none) (hroom : A.depth < recursionLimit)
    (hq : ∀ h' tk dx, SupEnd s.heap h' x C dx fld v → R (.ok (.ret .none)) { s with heap := h', toks := tk }) :
    codeAny (model prog w) A (.call (.ref fI) ⟨[.ref x, v], []⟩) R s := by
  obtain ⟨oc, od, kV, doc, pm, an, ct, osl, cda, cc, qual, msg, p1, p2, q1, q2, q3, q4, q5, q6, q7, q8, q9, q0, ho, hcd, ⟨ccl, cdd, vs, ccs, file, tf, hco, hvs, hfile⟩, ⟨cl, cld, csl, hcc⟩, hsc⟩ := T.fn
  obtain ⟨n1, q, N, bs, bm, sn, sub, ab, col, dd, k0, k1, k2, k3, k5, hC, hbm, hal⟩ := T.cls
  have hcl : clsIn K C = some { name := n1, bases := bs, mro := .ref C :: bm, ns := N, qualname := q, hasDict := true, slotNames := sn, subclasses := sub, abstract := ab, collection := col, hasDel := false } := by unfold clsIn; rw [hC] <;> rfl
  have X : K.In s.heap := M.kin.keeps kb
  obtain ⟨mb, hmb, hbb⟩ := M.blt
  refine ks_codeAny_call_defAt (binds := [(("self" : Str), .ref x), (fld, v)]) hroom (X _ _ ho) rfl (M.nolimit.keeps kb) (codeRec_of X hcd) rfl (BindsTo.of_eq (O.bd _ _ _ _ _ _ _ _ _ _ _ _ _)) O.nc (fun y hy => ?_) (fun h₁ hns k => ?_)
  · rcases List.mem_cons.mp hy with rfl | hy
    · exact O.l1
    · obtain rfl := List.mem_singleton.mp hy
      exact O.l2
  obtain ⟨hh, g, d, t, os⟩ := s
  dsimp only at k hns hx kb hq X
  have X₁ : K.In h₁ := X.keeps k
  have hx₁ := k _ _ hx
  have kb₁ : ∀ b o, base.get? b = some o → h₁.get? b = some o := fun b o e => k b o (kb b o e)
  have vself : ([(("self" : Str), Value.ref x), (fld, v)] : List (Str × Value)).reverse.lookup ("self" : Str) = some (.ref x) := by
    show List.lookup ("self" : Str) [(fld, v), (("self" : Str), Value.ref x)] = _
    have e : (("self" : Str) == fld) = false := by
      have := O.ne
      rw [beq_eq_false_iff_ne] at this ⊢
      exact fun z => this z.symm
    simp [List.lookup, e]
  have vfld : ([(("self" : Str), Value.ref x), (fld, v)] : List (Str × Value)).reverse.lookup fld = some v := by
    show List.lookup fld [(fld, v), (("self" : Str), Value.ref x)] = _
    simp [List.lookup]
  -- super().__init__(msg)
  obtain ⟨pl, hev⟩ := hsc (callEnv (ksFn "__init__" qual (sA fld p1 p2) (sB fld msg q1 q2 q3 q4 q5 q6 q7 q8 q9 q0) (sS fld) .none kV doc pm an (.ref cda) ct cc) hh.objs.size fI)
  refine ks_wpAt_execs_cons (ks_wpAt_Expr_any (ks_wpAt_MethodCall (pl := pl) ?_ hev))
  refine ks_wpAt_super_base O.l4 O.l3 (by decide +kernel) rfl (X₁ _ _ ho) rfl rfl rfl (X₁ _ _ hco) rfl hvs hfile T.ptop ?_
  refine ks_loadName_global rfl O.l4 (loadGlobal_builtin (M.glob.keeps kb₁) T.gS (hmb.keeps kb₁) ((hbb _ (by decide +kernel)).trans (by first | boot_by_name | rfl | kernel_rfl)) ⟨rfl, ?_⟩)
  refine wpAny_loadName_free rfl O.l3 rfl ⟨_, X₁ _ _ hcc, rfl⟩ ?_
  refine wpAny_loadName_local rfl O.l1 hns vself ?_
  refine ks_wpAny_isType_cls (X₁ _ _ hC) rfl ⟨rfl, ?_⟩
  refine ks_wpAny_call_super (X₁ _ _ hC) rfl hx₁ rfl (fun c z => (nomatch z)) (looks_mroIn X₁ T.slf) (fun h₂ hso k₂ => ?_)
  have X₂ : K.In h₂ := X₁.keeps k₂
  have hx₂ := k₂ _ _ hx₁
  have hxC : x ≠ C := fun z => by
    rw [z, X _ _ hC] at hx
    cases hx
  have LC : Looks (model prog w) h₂ (mroOf (.ref C)) (.ref C :: bm) := (looks_clsIn X₂ hcl).andThen .now
  have hI : Looks (model prog w) h₂ (isInstance (.ref x) (.type "ValueError")) true := Looks.andThen (a := .ref C) (fun A Q E s k q => wpAny_typeOf_ref (k _ _ hx₂) q) (looks_subIn X₂ T.exV)
  refine kxs_getMethod kxs_ValueError hso (looks_opaque X₂ T.opq) LC (l := bm) (by simp [List.dropWhile_cons]) X₂ hal hI hxC (by decide +kernel) ?_
  have k₃ : ∀ b o, h₂.get? b = some o → (h₂.push (kxs_mw "ValueError.__init__" x)).get? b = some o := fun b o e => Heap.get?_push_of_some _ e
  have hu : (h₂.push (kxs_mw "ValueError.__init__" x)).get? h₂.objs.size = some (kxs_mw "ValueError.__init__" x) := Heap.get?_push_at rfl rfl
  refine kxs_callWith (i := "ValueError.__init__") (x := x) rfl (evalArgs_plain ?_)
  refine spliced_cons (wpAny_bind (wpAny_fresh (wpAny_pure (spliced_nil ⟨hu, ?_⟩))))
  refine call_mw (k₃ _ _ (X₂ _ _ hC)) (k₃ _ _ hx₂) hu (one_fits _) fun h₄ t4 k₄ hx₄ => ?_
  have up : ∀ b o, b ≠ x → hh.get? b = some o → h₄.get? b = some o := fun b o hb e => k₄ b o hb (k₃ b o (k₂ b o (k b o e)))
  have X₄ : K.In h₄ := fun b o e => up b o (fun z => by rw [z, hnx] at e; cases e) (X b o e)
  have hLx : hh.objs.size ≠ x := fun z => by
    have := Heap.lt_size hx
    rw [z] at this
    exact absurd this (Nat.lt_irrefl _)
  have hns₄ : h₄.Ns hh.objs.size (fun y => [(("self" : Str), Value.ref x), (fld, v)].reverse.lookup y) := by
    obtain ⟨oL, es, ep, hL, r⟩ := hns
    exact ⟨oL, es, ep, k₄ _ _ hLx (k₃ _ _ (k₂ _ _ hL)), r⟩
  -- self.f = f
  refine wpAt_of_wpAny (wpAny_execs_cons (plainObj_wpAny_Assign_Attribute ?_ ?sw))
  case sw => exact T.sw _ _ _ _ _
  refine wpAny_Name (wpAny_loadName_local rfl O.l2 hns₄ vfld ?_) O.db
  refine wpAny_Name (wpAny_loadName_local rfl O.l1 hns₄ vself ?_) (by decide)
  refine set_plain X₄ (ox := excO C t4) (od := none) ⟨hx₄, rfl, rfl, trivial⟩ T.sa ?_
  refine exc_osa X₄ hx₄ hcl (show refsVE (.ref C :: bm) = true from hbm) rfl T.noN (fun h₅ tk₅ dx k₅ dn dne hx₅ hn₅ => ?_)
  refine wpAny_execs_nil (hq h₅ tk₅ dx ⟨fun b o hb e => k₅ b o hb (up b o hb e), ⟨t4, hx₅⟩, ?_, dne, hn₅⟩)
  refine Nat.le_trans ?_ dn
  have e4 : hh.objs.size < h₄.objs.size := hns₄.lt
  exact Nat.le_of_lt e4
/-- a made exception -/
structure SupMade (h h' : Heap) (e C d : Addr) (fld : Str) (v : Value) : Prop where
  keep : ∀ b o, h.get? b = some o → h'.get? b = some o
  new : h.objs.size ≤ e
  obj : ∃ t1, h'.get? e = some { cls := .ref C, dict := some d, data := .fields #[.ref t1, .none, .none, .none, .bool false, .none] }
  dbig : h.objs.size ≤ d
  dne : d ≠ e
  ns : h'.Ns1 d (fun y => if y = fld then some v else none)
theorem sup_made (T : SupC prog K mg nm fld C fI) (O : FldOk fld) (M : L2.Mod K mg base) (kb : ∀ b o, base.get? b = some o → s.heap.get? b = some o) {v : Value} (hroom : A.depth + 1 < recursionLimit)
    (hq : ∀ h' tk e d, SupMade s.heap h' e C d fld v → R (.ok (.ret (.ref e))) { s with heap := h', toks := tk }) :
    codeAny (model prog w) A (.call (.ref C) ⟨[v], []⟩) R s := by
  obtain ⟨n1, q, N, bs, bm, sn, sub, ab, col, dd, k0, k1, k2, k3, k5, hC, hbm, _⟩ := T.cls
  have X : K.In s.heap := M.kin.keeps kb
  obtain ⟨hp, g, dr, tk, os⟩ := s
  dsimp only at X kb hq
  have k : ∀ b o, hp.get? b = some o → ((hp.push (kdv_tup [v])).push (excO C hp.objs.size)).get? b = some o := fun b o e => Heap.get?_push_of_some _ (Heap.get?_push_of_some _ e)
  have hget : ((hp.push (kdv_tup [v])).push (excO C hp.objs.size)).get? (hp.objs.size + 1) = some (excO C hp.objs.size) := by heap_get
  have hnx : K.lookup (hp.objs.size + 1) = none := by
    cases e : K.lookup (hp.objs.size + 1) with
    | none => rfl
    | some o =>
      have z := Heap.lt_size (X _ _ e)
      exact absurd (Nat.lt_of_succ_lt z) (Nat.lt_irrefl _)
  refine call_own F.excBase_ValueError (fun Y => refsVE_contains Y bm hbm) (X _ _ hC) (looks_findIn X T.iC) (fun self => bind_fn X self T.tC) (one_fits v) ?_
  refine sup_init (s := ⟨(hp.push (kdv_tup [v])).push (excO C hp.objs.size), g, dr, tk, os⟩) T O M (fun b o e => k b o (kb b o e)) hget hnx ?_ fun h' tk' dx ⟨k', hx, dn, dne, hns⟩ => ?_
  · show A.depth + 1 < recursionLimit
    exact hroom
  · have z : hp.objs.size + 1 + 1 ≤ dx := by
      have q := dn
      simp only [Heap.size_push] at q
      exact q
    refine ⟨rfl, hq h' tk' (hp.objs.size + 1) dx ⟨fun b o e => ?_, Nat.le_succ _, hx, Nat.le_trans (Nat.le_trans (Nat.le_succ _) (Nat.le_succ _)) z, dne, hns⟩⟩
    exact k' b o (Nat.ne_of_lt (Nat.lt_succ_of_lt (Heap.lt_size e))) (k b o e)
end
end K5
namespace K5
open PySem PySem.Spec PyProof.Rows L2
theorem relO_fld {v : V} {v' : Value} {fld : Str} (r : RelV v v') (f : Str) : RelO (List.lookup f [(fld, v)]) (if f = fld then some v' else none) := by
  by_cases hw : f = fld
  · rw [if_pos hw, hw]
    have q : List.lookup fld [(fld, v)] = some v := by simp [List.lookup]
    rw [q]
    exact r
  · rw [if_neg hw]
    have qw : (f == fld) = false := by simpa using hw
    have q2 : List.lookup f [(fld, v)] = none := by simp [List.lookup, qw]
    rw [q2]
    trivial
section
variable {X : Cx} {C fI : Addr} {nm fld : Str}
/-- nm(e) -/
def tMkSup (C : Addr) (fld : Str) (ta : TA) : L2.St → Hp → XK → Prop := fun σ H Q => ta σ H fun vs H1 => ∃ v, vs = [v] ∧ ∀ d, H1 d = none → Q (.ref C) (some d) (upd H1 d (.xd [(fld, v)]))
theorem pmk_sup {a : Expr} {ta : TA} {p pos : Pos} {k : Nat} (T : SupC X.prog X.K X.mg nm fld C fI) (O : FldOk fld) (hr : Room k X.A) (ha : PA X [a] ta) (hg : Gl X nm) (hdb : (nm == ("__debug__" : Str)) = false)
    (he : starEach (a :: []) X.env = (false, eval a X.env) :: starEach [] X.env := by rfl) (hpl : (backTo pos (starEach [] X.env)).any (·.1) = false := by rfl) :
    PMk X (.Call (.Name nm p) [a] [] pos) (tMkSup C fld ta) := by
  intro pins s σ H Q I h
  refine wpAny_Call_Name_kw (ld_glob I hg T.gC ?_ hdb)
  refine PySem.W.callWith_K (h₀ := X.base) I.ok.mod.kin T.kC (thn (ha.run pos pins s σ H _ I h) fun us s1 hh => ?_) he hpl
  obtain ⟨vs, H1, I1, r1, v, ev, q1⟩ := hh
  subst ev
  refine ⟨I1.kIn, ?_⟩
  cases r1 with
  | cons rv rn =>
    rename_i v' us'
    cases rn
    show wpAny _ _ (call (.ref C) [v']) _ _ _
    have hkb := I1.bk
    obtain ⟨hp, g, dr, tk, os⟩ := s1
    refine wpAny_call (sup_made T O I1.ok.mod hkb (by have := hr.dp; omega) fun h' tk' e d Md => ?_)
    show MkP X pins σ Q (.ref e) ⟨h', g, dr, tk', os⟩
    obtain ⟨t1, hoe⟩ := Md.obj
    obtain ⟨G', g1, g2⟩ := restrict h' fun b => decide (b ≠ e)
    have gk : ∀ b, b ≠ e → G'.get? b = h'.get? b := fun b hb => g1 b (decide_eq_true hb)
    have ge : G'.get? e = none := g2 e (by simp)
    have old : ∀ b o, hp.get? b = some o → G'.get? b = some o := fun b o q => (gk b (Nat.ne_of_lt (Nat.lt_of_lt_of_le (Heap.lt_size q) Md.new))).trans (Md.keep b o q)
    have ob : ObjOk X.prog X.w (upd H1 d (.xd [(fld, v)])) G' d (.xd [(fld, v)]) :=
      ⟨_, Md.ns.at (fun o q => (gk d Md.dne).trans q), fun f => relO_fld rv f⟩
    have J : Inv X pins σ (upd H1 d (.xd [(fld, v)])) ⟨G', g, dr, tk', os⟩ := I1.laid (t' := tk') old Md.dbig ob
    refine ⟨e, _, _, ⟨G', g, dr, tk', os⟩, _, .ref C, some d, rfl, J, fun b o q => ?_, ge, hoe, ⟨rfl, rfl⟩, rfl, rfl, ?_, rfl, I1.bare, raises_own T.exC T.tyC, q1 d (I1.hok.fresh Md.dbig)⟩
    · by_cases hb : b = e
      · have q' : G'.get? b = some o := q
        rw [hb, ge] at q'
        cases q'
      · exact (gk b hb).symm.trans q
    · rw [upd_ne (Ne.symm Md.dne)]
      exact I1.hok.fresh Md.new
end
theorem fld_value : FldOk "value" := ⟨by decide +kernel, by decide +kernel, by decide +kernel, by decide +kernel, by decide +kernel, by decide +kernel, by decide +kernel, fun _ _ _ _ _ _ _ _ _ _ _ _ _ => by rfl⟩
theorem fld_cause : FldOk "cause" := ⟨by decide +kernel, by decide +kernel, by decide +kernel, by decide +kernel, by decide +kernel, by decide +kernel, by decide +kernel, fun _ _ _ _ _ _ _ _ _ _ _ _ _ => by rfl⟩
theorem sw_value (o : Expr) (p' p'' pos : Pos) (env : Env) : swapsWith (.Name "value" p'') (some (.Attribute o "value" p')) pos.line env = pure false := by rfl
end K5
set_option Elab.async false
set_option maxRecDepth 100000
set_option maxHeartbeats 2000000
/-! own rules, part 2: try .. except X as n, where the suite keeps the exception in another local: it is tracked behind the suite -/
namespace K5
open PySem PySem.Spec PyProof.Rows L2
/-- at a: an exception of the class cls with its own dict d, let go by all suites -/
def exK (cls : Value) (d : Option Addr) (a : Addr) : HO := .ext fun h => ∃ (oe : Obj) (vs : Array Value), h.get? a = some oe ∧ Zc cls d oe ∧ oe.data = .fields vs
theorem exK_ok {P : Program} {w : World} {H : Hp} {h : Heap} {a : Addr} {cls : Value} {d : Option Addr} {oe : Obj} {vs : Array Value} (e : h.get? a = some oe) (z : Zc cls d oe) (f : oe.data = .fields vs) : ObjOk P w H h a (exK cls d a) :=
  ⟨⟨oe, vs, e, z, f⟩, ⟨oe, e⟩, fun _ _ ⟨o, v, q, r⟩ k => ⟨o, v, k o q, r⟩⟩
theorem exK_at {P : Program} {w : World} {H : Hp} {h : Heap} {a : Addr} {cls : Value} {d : Option Addr} (hok : HOk P w H h) (e : H a = some (exK cls d a)) : ∃ (oe : Obj) (vs : Array Value), h.get? a = some oe ∧ Zc cls d oe ∧ oe.data = .fields vs := (hok a _ e).1
section
variable {X : Cx} {pins : List (Addr × Obj)} {σ : List (Option V)} {H : Hp} {s : Shared}
/-- an object that is in the heap, untracked, and was not there at the entry, is tracked from now on -/
theorem keep_exc {a : Addr} {oe : Obj} {vs : Array Value} {cls : Value} {d : Option Addr} (I : Inv X pins σ H s) (ha : s.heap.get? a = some oe) (hz : Zc cls d oe) (hd : oe.data = .fields vs) (na : H a = none) (n0 : X.s_0.heap.get? a = none) (nL : a ≠ X.env.locals)
    (np : ∀ p ∈ X.pn ++ pins, p.1 ≠ a) : Inv X pins σ (upd H a (exK cls d a)) s := by
  have ne0 : ∀ b o, X.s_0.heap.get? b = some o → b ≠ a := fun b o e z => by
    rw [z, n0] at e
    cases e
  have nc : ∀ x c, X.env.cells.lookup x = some c → c ≠ a := fun x c e z => by
    obtain ⟨v, o, ho, hv⟩ := I.cell x c e
    rw [z, ha] at ho
    cases ho
    rw [hd] at hv
    cases hv
  refine ⟨I.ok, I.os, I.bare, ⟨I.base.keep, I.base.slot, fun b o e n hx => ?_, I.base.there, fun b xs e => ?_, fun b o u e => ?_, fun b ps e => ?_⟩, I.loc, I.cell, ?_, fun x c e => ?_, fun p hp => ?_, fun b u e => ?_, I.len⟩
  · rw [upd_ne (ne0 b o e)]
    exact I.base.free b o e n hx
  · have q := I.base.tups b xs e
    rw [upd_ne (ne_of_none q na)]
    exact q
  · have q := I.base.frzs b o u e
    rw [upd_ne (ne_of_none q na)]
    exact q
  · obtain ⟨m, q⟩ := I.base.tbls b ps e
    exact ⟨m, by rw [upd_ne (ne_of_none q na)]; exact q⟩
  · rw [upd_ne (Ne.symm nL)]
    exact I.free
  · rw [upd_ne (nc x c e)]
    exact I.freeC x c e
  · obtain ⟨e, n, ne, nf, dd⟩ := I.pin p hp
    exact ⟨e, by rw [upd_ne (np p hp)]; exact n, ne, nf, dd⟩
  · by_cases hb : b = a
    · subst hb
      rw [upd_same] at e
      cases e
      exact exK_ok ha hz hd
    · rw [upd_ne hb] at e
      exact (I.hok b u e).stay (fun _ _ _ q => q) (fun c q => by rw [upd_ne (ne_of_none q na)]; exact q) fun c xs q => by rw [upd_ne (ne_of_none q na)]; exact q
end

/-- what the clause 'except x as n' wishes where the exception stays tracked behind the suite -/
def wKeep (K : PySem.W.Frag) (c : Value) (i : Nat) (ts : Addr → Value → Option Addr → TS) (D : Ends) : WX := fun cls d σ H =>
  PySem.W.exmOne K cls c = some true ∧ ∀ a, H a = none → ts a cls d { nx := fun σ' H' => D.nx (σ'.set i none) (upd H' a (exK cls d a)), rt := fun v H' => D.rt v (upd H' a (exK cls d a)), bk := fun σ' H' => D.bk (σ'.set i none) (upd H' a (exK cls d a)), ct := fun σ' H' => D.ct (σ'.set i none) (upd H' a (exK cls d a)) } (σ.set i (some (.ref a))) H
section
variable {X : Cx} {x n : Str} {c : Value} {i : Nat} {body suite : List Stmt} {b₀ : Stmt} {np pos pos' : Pos} {tb : WX → TS} {ts : Addr → Value → Option Addr → TS}
theorem ps_try_keep (hs : X.stack = X.env :: X.outer) (hf : X.env.frame = some X.env.locals) (hex : X.ex = []) (hN : X.N.Nodup) (hi : X.N[i]? = some n) (hln : X.env.kindOf n = some .local) (hc : Names X x c)
    (hb : ∀ (W : WX) (pn : List (Addr × Obj)) (xe : Value → Shared → Prop), Takes (X.tr pn xe) W → PassesOwn (model X.prog X.w) X.A X.env xe → PSs (X.tr pn xe) body (tb W))
    (hsu : ∀ (a : Addr) (oe : Obj) (cls : Value) (d : Option Addr) (pn : List (Addr × Obj)), Zc cls d oe → (∃ vs, oe.data = .fields vs) → PSs (X.suite a ((a, oe) :: pn)) (b₀ :: suite) (ts a cls d)) :
    PS X (.Try body [.ExceptHandler (some (.Name x np)) (some n) (b₀ :: suite) pos'] [] [] pos) (fun D σ H => tb (wKeep X.K c i ts D) D σ H) := by
  refine ⟨fun pins s σ H D I h => ?_⟩
  have ok := I.ok
  have hfr : X.A.frames = some (X.env :: X.outer) := by rw [ok.frames, hs]
  refine wpAny_Try_except (wpAny_mono ((hb (wKeep X.K c i ts D) (X.pn ++ pins) _ (fun u s' xx => ?_) PassesOwn.looking).run [] s σ H D (I.toTry _) h) (fun f s1 hsp => ?_) fun e s1 he => he)
  · obtain ⟨a, B, sI, pins', σ', H', cls, d, rfl, J', nb, up, sky, na, os, ag, hb1, hyes⟩ := xx
    have J : Inv X pins σ' H' sI := J'.ofTry ok
    have sky' : Sky B (X.env :: X.outer) a (Zc cls d) X.env.locals s'.heap := hs ▸ sky
    refine Sky.land Zc.steady hfr hf sky' fun h3 fl3 up3 => ?_
    have J3 : Inv X pins σ' H' { s' with heap := h3 } := J.landed nb fl3.1 (up.trans up3) os ag
    obtain ⟨oe3, vs3, he3, hz3, hd3⟩ := fl3.there
    have nfr : a ∉ frs (X.env :: X.outer) := fun hm => by
      obtain ⟨_, o', e', hnf⟩ := fl3.2.2.1.mem hm
      rw [he3] at e'
      cases e'
      exact hnf _ hd3
    have nL : a ≠ X.env.locals := fun z => nfr (List.mem_filterMap.mpr ⟨X.env, List.mem_cons_self, by rw [hf, z]⟩)
    have nF : a ∉ X.fs := fun hm => by
      obtain ⟨e, he, q⟩ := List.mem_filterMap.mp hm
      exact nfr (List.mem_filterMap.mpr ⟨e, List.mem_cons_of_mem _ he, q⟩)
    -- it was not there ahead of the raise
    have nI : sI.heap.get? a = none := by
      cases e : sI.heap.get? a with
      | none => rfl
      | some o =>
        have z := nb a o e (by rw [hs]; exact nfr)
        rw [fl3.2.1] at z
        cases z
    have n0 : X.s_0.heap.get? a = none := by
      cases e : X.s_0.heap.get? a with
      | none => rfl
      | some o =>
        obtain ⟨o', z⟩ := J.base.there a o e (by rw [hex]; exact fun z => nomatch z)
        rw [nI] at z
        cases z
    have npin : ∀ p ∈ X.pn ++ pins, p.1 ≠ a := fun p hp z => by
      have q := (J.pin p hp).1
      rw [z, nI] at q
      cases q
    have S3 := J3.suite he3 hd3 na nL nF
    refine wpAny_handleBy_cons (codeAny_handlers_test ?_) (by intro q; cases q)
    have LT : PySem.W.Looks (model X.prog X.w) h3 (typeOf (.ref a)) cls := fun A Q E s k q => wpAny_typeOf_ref (k _ _ he3) (by rw [hz3.1]; exact q)
    have LM := PySem.W.exm_one (M := model X.prog X.w) (J3.kIn) LT hb1
    have test : ∀ {Q : Value → Shared → Prop} {E : Value → Shared → Prop}, Q c { s' with heap := h3 } → wpAny (model X.prog X.w) (X.A.mark (some (.ref a))) (eval (.Name x np) X.env) Q E { s' with heap := h3 } := fun {Q E} q => by
      obtain ⟨hg, hdbg, hm | ⟨hm, hv, hnn⟩⟩ := hc
      · exact ld_glob (X := X.suite a ((a, oe3) :: (X.pn ++ pins))) S3 hg hm q hdbg
      · exact ld_blt (X := X.suite a ((a, oe3) :: (X.pn ++ pins))) S3 hg hm hv q hnn hdbg
    refine test (LM.here (codeAny_handlers_suite_as (HandSPX.lands_againZ fl3 fun h4 fl4 up4 => ?_)))
    have J4 : Inv X pins σ' H' { s' with heap := h4 } := J.landed nb fl4.1 ((up.trans up3).trans up4) os ag
    obtain ⟨oe4, vs4, he4, hz4, hd4⟩ := fl4.there
    have S4 := J4.suite he4 hd4 na nL nF
    refine store_ok (X := X.suite a ((a, oe4) :: (X.pn ++ pins))) (v := .ref a) S4 hN hi (.inl hln) rfl (fun s5 S5 => ?_) (.inr hln)
    refine wpAny_mono ((hsu a oe4 cls d (X.pn ++ pins) hz4 ⟨_, hd4⟩).run [] s5 _ H' _ S5 (hyes a na)) (fun f s6 hsp => ?_) (fun _ _ z => False.elim z)
    have fin : ∀ {σ6 : List (Option V)} {H6 : Hp} {Q : Shared → Prop}, Inv (X.suite a ((a, oe4) :: (X.pn ++ pins))) [] σ6 H6 s6 → (∀ s7, Inv X pins (σ6.set i none) (upd H6 a (exK cls d a)) s7 → Q s7) →
        wpAny (model X.prog X.w) X.A (do bindName X.env n .none; unbindBehindTheSuite X.env n pos') (fun _ s7 => Q s7) X.xe s6 := fun {σ6 H6 Q} S6 hq =>
      gone_ok (X := X.suite a ((a, oe4) :: (X.pn ++ pins))) S6 hN hi hln fun s7 S7 => hq s7 (by
        obtain ⟨e7, n7, _⟩ := S7.pin (a, oe4) (List.mem_append_left _ List.mem_cons_self)
        exact keep_exc (S7.unsuite ok) e7 hz4 hd4 n7 n0 nL npin)
    cases f with
    | next =>
      obtain ⟨σ6, H6, S6, q6⟩ := hsp
      exact fin S6 fun s7 J7 => ⟨_, _, J7, q6⟩
    | brk =>
      obtain ⟨σ6, H6, S6, q6⟩ := hsp
      exact fin S6 fun s7 J7 => ⟨_, _, J7, q6⟩
    | cont =>
      obtain ⟨σ6, H6, S6, q6⟩ := hsp
      exact fin S6 fun s7 J7 => ⟨_, _, J7, q6⟩
    | ret u =>
      obtain ⟨v6, σ6, H6, S6, r6, q6⟩ := hsp
      exact fin S6 fun s7 J7 => ⟨_, _, _, J7, r6, q6⟩
  · cases f with
    | next =>
      obtain ⟨σ', H', J', q⟩ := hsp
      exact wpAny_execs_nil ⟨σ', H', J'.ofTry ok, q⟩
    | brk =>
      obtain ⟨σ', H', J', q⟩ := hsp
      exact ⟨σ', H', J'.ofTry ok, q⟩
    | cont =>
      obtain ⟨σ', H', J', q⟩ := hsp
      exact ⟨σ', H', J'.ofTry ok, q⟩
    | ret u =>
      obtain ⟨v, σ', H', J', r, q⟩ := hsp
      exact ⟨v, σ', H', J'.ofTry ok, r, q⟩
end
end K5
set_option Elab.async false
set_option maxRecDepth 100000
set_option maxHeartbeats 2000000
/-! own rules, part 3: a kept exception asked; repr against repr; str(value) -/
namespace K5
open PySem PySem.Spec PyProof.Rows L2
/-! ### a kept exception: isinstance, a field -/
section
variable {X : Cx}
/-- isinstance(e, C), e of the class at C -/
theorem call_isK {C : Addr} (T : ExcC X.K C) : CallR X (.builtin "isinstance") (fun xs H Q => ∃ (a dd : Addr) (fs : List (Str × V)), xs = [.ref a, .ref C] ∧ H a = some (exK (.ref C) (some dd) a) ∧ H dd = some (.xd fs) ∧ Q (.bl true) H) := by
  intro pins s σ H xs us Q I r h
  obtain ⟨a, dd, fs, rfl, ha, hd, q⟩ := h
  obtain ⟨u1, u2, rfl, r1, r2⟩ := vals2 r
  cases (show u1 = Value.ref a from r1)
  cases (show u2 = Value.ref C from r2)
  obtain ⟨oe, vs, ho, hz, hf⟩ := exK_at I.hok ha
  obtain ⟨mA, ⟨od, es, ep, hod, _⟩, _⟩ := (show ObjOk X.prog X.w H s.heap dd (.xd fs) from I.hok dd _ hd)
  have J : PySem.W.InstAt s.heap a oe C (some od) := ⟨ho, hz.1, by unfold PySem.W.notCls; rw [hf] <;> rfl, by rw [hz.2]; exact hod⟩
  have hcl : (PySem.W.clsIn X.K C).isSome = true := by
    obtain ⟨cd, hc, _⟩ := PySem.W.any_some T.hd
    rw [hc] <;> rfl
  exact PySem.W.kia_one (PySem.W.kitx_exc hcl T.hg T.hk T.hs T.ha T.hn T.ht T.hm) I.kIn J (b := true) (by unfold PySem.W.kitOne; rw [if_pos (by simp)]) (fun z => nomatch z) fun tk => ⟨.bl true, H, I.tok tk, rfl, q⟩
/-- e.f -/
def tKf (C : Addr) (f : Str) (te : TE) : TE := fun σ H Q => te σ H fun x H1 => ∃ (a dd : Addr) (fs : List (Str × V)) (v : V), x = .ref a ∧ H1 a = some (exK (.ref C) (some dd) a) ∧ H1 dd = some (.xd fs) ∧ fs.lookup f = some v ∧ Q v H1
theorem pe_kf {C : Addr} {e : Expr} {te : TE} {pos : Pos} {n : Str} (T : ExcC X.K C) (hno : PySem.W.findIn X.K (.ref C) n = some none) (he : PE X e te) (hb : attributeBase e n X.env (eval e X.env) = eval e X.env := by rfl) :
    PE X (.Attribute e n pos) (tKf C n te) := by
  refine ⟨fun pins s σ H Q I h => ?_⟩
  refine attr_of hb (thn (he.run pins s σ H _ I h) fun u s1 hh => ?_)
  obtain ⟨x, H1, I1, rx, a, dd, fs, v, ex, ea, ed, l, q⟩ := hh
  subst ex
  obtain rfl : u = Value.ref a := rx
  obtain ⟨oe, vs, ho, hz, hf⟩ := exK_at I1.hok ea
  obtain ⟨mA, hns, hr⟩ := (show ObjOk X.prog X.w H1 s1.heap dd (.xd fs) from I1.hok dd _ ed)
  obtain ⟨od, hod, hl⟩ := lookIn_ns hns
  obtain ⟨u, hu, ru⟩ := RelO.some_of (v := v) (o := mA n) (by rw [← l]; exact hr n)
  have J : PySem.W.InstAt s1.heap a oe C (some od) := ⟨ho, hz.1, by unfold PySem.W.notCls; rw [hf] <;> rfl, by rw [hz.2]; exact hod⟩
  exact HandSPX.exc_get I1.kIn J T.hg T.hk T.hs (PySem.W.findObj_own T.hd hno rfl (by rw [hl, hu])) (handed_of ru) ⟨v, H1, I1.tok _, ru, q⟩
end
/-! ### the guards around, whatever they are, may be known -/
theorem wpAny_gd {α : Type} {M : Model} {A : Around} {t : Sem α} {Q : α → Shared → Prop} {E : Value → Shared → Prop} {s : Shared} (h : ∀ g, wpAny M { A with guards := some g } t Q E s) : wpAny M A t Q E s := fun Γ p hΓ =>
  h (Γ.code.guards ++ guardsOf Γ.below) Γ p ⟨hΓ.1, hΓ.2.1, hΓ.2.2.1, fun g e => (Option.some.inj e).symm ▸ rfl, hΓ.2.2.2.2⟩
abbrev gdX (X : Cx) (g : List Code) : Cx := { X with A := { X.A with guards := some g } }
section
variable {X : Cx} {g : List Code} {pins : List (Addr × Obj)} {σ : List (Option V)} {H : Hp} {s : Shared}
theorem Ok.gd (o : X.Ok) : (gdX X g).Ok := ⟨o.mod, o.kind, o.glob, o.blt, o.above, o.inj, o.has, o.cab, o.hd, o.frames, o.stk, o.exf, o.bs, o.bsz, o.noex, o.exfs, o.funs, o.frf⟩
theorem Ok.ungd (o : (gdX X g).Ok) : X.Ok := ⟨o.mod, o.kind, o.glob, o.blt, o.above, o.inj, o.has, o.cab, o.hd, o.frames, o.stk, o.exf, o.bs, o.bsz, o.noex, o.exfs, o.funs, o.frf⟩
theorem Inv.gd (I : Inv X pins σ H s) : Inv (gdX X g) pins σ H s := ⟨Ok.gd I.ok, I.os, I.bare, I.base, I.loc, I.cell, I.free, I.freeC, I.pin, I.hok, I.len⟩
theorem Inv.ungd (I : Inv (gdX X g) pins σ H s) : Inv X pins σ H s := ⟨Ok.ungd I.ok, I.os, I.bare, I.base, I.loc, I.cell, I.free, I.freeC, I.pin, I.hok, I.len⟩
theorem PE.gd {e : Expr} {t : TE} (h : ∀ g, PE (gdX X g) e t) : PE X e t := ⟨fun pins s σ H Q I q => wpAny_gd fun g => thn ((h g).run pins s σ H Q (Inv.gd I) q) fun _ _ ⟨v, H', J, r⟩ => ⟨v, H', Inv.ungd J, r⟩⟩
theorem PE.imp {e : Expr} {t t' : TE} (h : PE X e t) (i : ∀ σ H Q, t' σ H Q → t σ H Q) : PE X e t' := ⟨fun pins s σ H Q I q => h.run pins s σ H Q I (i σ H Q q)⟩
end
/-! ### repr -/
/-- the text of a flat value -/
inductive RpF : V → Str → Prop
  | non : RpF .non "None"
  | bl (b : Bool) : RpF (.bl b) (if b then ("True" : Str) else "False")
  | int (i : Int) (h : i.natAbs.log2 < 1920) : RpF (.int i) (toString i)
  | str (x : Str) (h : (reprText x).length ≤ sizeLine) : RpF (.str x) (reprText x)
theorem RpF.one {v : V} {a b : Str} (h : RpF v a) (h' : RpF v b) : a = b := by
  cases h <;> cases h' <;> rfl
def wayT (g : List Code) (a : Addr) : Bool := g.any fun c => tupGuardF (.ref a) (c, default)
def wayD (g : List Code) (a : Addr) : Bool := g.any fun c => dictGuardF (.ref a) (c, default)
/-- the text of a value: flat, an empty list, an empty dict, a tuple of one flat value -/
inductive RpV (g : List Code) (H : Hp) : V → Str → Prop
  | flat {v : V} {t : Str} (h : RpF v t) : RpV g H v t
  | lst {a : Addr} (e : H a = some (.lst [])) : RpV g H (.ref a) "[]"
  | dct {a : Addr} (e : H a = some (.dK [])) : RpV g H (.ref a) (if wayD g a = true then "{...}" else "{}")
  | tup {a : Addr} {v : V} {t : Str} (e : H a = some (.tup [v])) (h : RpF v t) (z : (tupleText [t]).length ≤ sizeLine) : RpV g H (.ref a) (if wayT g a = true then "(...)" else tupleText [t])
theorem RpV.one {g : List Code} {H H' : Hp} {v : V} {a b : Str} (h : RpV g H v a) (h' : RpV g H' v b) (same : ∀ p o, H p = some o → H' p = some o) : a = b := by
  cases h with
  | flat h =>
    cases h' with
    | flat h' => exact h.one h'
    | lst e => cases h
    | dct e => cases h
    | tup e h1 z => cases h
  | lst e =>
    cases h' with
    | flat h' => cases h'
    | lst e' => rfl
    | dct e' => rw [same _ _ e] at e'; cases e'
    | tup e' h1 z => rw [same _ _ e] at e'; cases e'
  | dct e =>
    cases h' with
    | flat h' => cases h'
    | lst e' => rw [same _ _ e] at e'; cases e'
    | dct e' => rfl
    | tup e' h1 z => rw [same _ _ e] at e'; cases e'
  | tup e h z =>
    cases h' with
    | flat h' => cases h'
    | lst e' => rw [same _ _ e] at e'; cases e'
    | dct e' => rw [same _ _ e] at e'; cases e'
    | tup e' h1 z' =>
      rw [same _ _ e] at e'
      cases e'
      rw [h.one h1]
section
variable {prog : Program} {w : World} {A : Around} {E : Value → Shared → Prop} {s : Shared} {g : List Code}
theorem rp_is {v : V} {t : Str} {u : Value} (h : RpF v t) (r : RelV v u) : ReprIs prog w u t := by
  cases h with
  | non => cases (show u = Value.none from r); exact ReprIs.none
  | bl b => cases (show u = Value.bool b from r); exact ReprIs.bool b
  | int i h => obtain ⟨k, e⟩ := (show ∃ t, u = Value.int i t from r); subst e; exact ReprIs.int k h
  | str x h => obtain ⟨k, e⟩ := (show ∃ t, u = Value.str x t from r); subst e; exact ReprIs.str x k h
theorem rp_tuple {a : Addr} {o : Obj} {items : Array Value} {n : Nat} {ts : List Str} {Q : Value → Shared → Prop} (hg : A.guards = some g) (ha : s.heap.get? a = some o) (hc : o.cls = .type "tuple") (hd : o.data = .seq items n) (hT : ReprAll prog w items.toList ts) (hsz : (tupleText ts).length ≤ sizeLine)
    (h : ∀ u tk, Q (.str (if wayT g a = true then "(...)" else tupleText ts) u) { s with toks := tk }) : wpAny (model prog w) A (call (.builtin "tuple.__repr__") [.ref a]) Q E s := by
  refine wpAny_call (codeAny_call_builtin_own (Code.quiet_builtin _ (by decide +kernel)) F.entry_tuple_repr (F.slot_tuple_repr.check _ _ _ _ _ _ _ _ ⟨o, ha, hc⟩ (F.args_tuple_repr_1 _) ?_))
  show wpOwn _ _ _ (Builtin.tupleReprAt 0 ⟨[.ref a], []⟩) _ _ s
  rw [tuple_repr_tree, tupleReprUnderWay_eq]
  refine wpOwn_bind (wpOwn_stackTailAny hg (tupGuardF_off _) (tupGuardF_pos _) ?_)
  show wpOwn _ _ _ (if wayT g a = true then _ else _) _ _ s
  cases hb : wayT g a with
  | true =>
    rw [hb] at h
    refine wpOwn_of_wpAny (PySem.W.KFB.if_so rfl ?_)
    refine wpAny_bind (wpAny_rule ?_)
    refine wpAny_bind (wpAny_mkStr (wpAny_pure ?_) (by decide +kernel))
    exact h _ _
  | false =>
    rw [hb] at h
    refine wpOwn_of_wpAny (PySem.W.KFB.if_not rfl ?_)
    exact wpAny_tupleReprRest ha hd hT (fun u tk => h u tk) (by omega)
theorem rp_dict0 {a : Addr} {o : Obj} {n : Nat} {Q : Value → Shared → Prop} (hg : A.guards = some g) (ha : s.heap.get? a = some o) (hc : o.cls = .type "dict") (hd : o.data = .dict #[] n) (hsys : (a == sysModules) = false)
    (h : ∀ u tk, Q (.str (if wayD g a = true then "{...}" else "{}") u) { s with toks := tk }) : wpAny (model prog w) A (call (.builtin "dict.__repr__") [.ref a]) Q E s := by
  have hTy : s.TypeIs (.ref a) "dict" := ⟨o, ha, hc⟩
  refine wpAny_call (codeAny_call_builtin_own (Code.quiet_builtin _ (by decide +kernel)) F.entry_dict_repr (F.slot_dict_repr.check _ _ _ _ _ _ _ _ hTy (F.args_dict_repr_1 _) ?_))
  show wpOwn _ _ _ (Builtin.dictReprAt 0 ⟨[.ref a], []⟩) _ _ s
  unfold Builtin.dictReprAt
  refine wpOwn_bind (wpOwn_of_wpAny ?_)
  unfold Builtin.Dict.dictSlotNone
  refine wpAny_bind (wpAny_notOrdered_dict hTy ?_)
  show wpAny _ _ (pure (Value.ref a)) _ _ s
  refine wpAny_pure ?_
  rw [dictReprRunning_eq]
  refine wpOwn_bind (wpOwn_stackTailAny hg (dictGuardF_off _) (dictGuardF_pos _) ?_)
  show wpOwn _ _ _ (if wayD g a = true then _ else _) _ _ s
  cases hb : wayD g a with
  | true =>
    rw [hb] at h
    refine wpOwn_of_wpAny (PySem.W.KFB.if_so rfl ?_)
    refine wpAny_bind (wpAny_rule ?_)
    refine wpAny_bind (wpAny_mkStr (wpAny_pure ?_) (by decide +kernel))
    exact h _ _
  | false =>
    rw [hb] at h
    refine wpOwn_of_wpAny (PySem.W.KFB.if_not rfl ?_)
    refine wpAny_bind (wpAny_pure ?_)
    show wpAny _ _ (Builtin.Dict.showsAll a >>= _) _ _ s
    unfold Builtin.Dict.showsAll
    rw [if_neg (by rw [hsys]; exact Bool.false_ne_true)]
    refine wpAny_bind (wpAny_pure ?_)
    refine wpAny_bind (wpAny_dictEpoch ha hd ?_)
    refine wpAny_bind (wpAny_dictEntries ha hd ?_)
    refine wpAny_bind ?_
    rw [Std.Legacy.Range.forIn_eq_forIn_range']
    simp only [Std.Legacy.Range.size, Nat.sub_zero, Nat.add_sub_cancel, Nat.div_one, Array.size_empty, List.range'_zero, List.forIn_nil]
    refine wpAny_pure ?_
    refine wpAny_bind (wpAny_mkStr (wpAny_pure ?_) (by decide +kernel))
    exact h _ _
end
section
variable {X : Cx} {g : List Code}
theorem call_repr {k : Nat} (hg : X.A.guards = some g) (hr : Room k X.A) : CallR X (.builtin "repr") (fun xs H Q => ∃ (x : V) (t : Str), xs = [x] ∧ RpV g H x t ∧ Q (.str t) H) := by
  intro pins s σ H xs us Q I r h
  obtain ⟨x, t, rfl, hx, q⟩ := h
  obtain ⟨u, rfl, ru⟩ := vals1 r
  have hu := hr.units
  cases hx with
  | flat h =>
    cases h with
    | non =>
      cases (show u = Value.none from ru)
      exact PySem.P.repr_of_none ⟨.str _, H, I.tok _, ⟨_, rfl⟩, q⟩
    | bl b =>
      cases (show u = Value.bool b from ru)
      exact PySem.P.repr_of_bool ⟨.str _, H, I.tok _, ⟨_, rfl⟩, q⟩
    | int i h =>
      obtain ⟨k, rfl⟩ := ru
      exact PySem.P.repr_of_int h ⟨.str _, H, I.tok _, ⟨_, rfl⟩, q⟩
    | str z h =>
      obtain ⟨k, rfl⟩ := ru
      exact PySem.P.repr_of_str ⟨.str _, H, I.tok _, ⟨_, rfl⟩, q⟩ h
  | @lst a e =>
    cases (show u = Value.ref a from ru)
    obtain ⟨_, its, n, rv, ho⟩ := (show ObjOk X.prog X.w H s.heap a (.lst []) from I.hok a _ e)
    cases rv
    refine call_repr_slot (by omega) ⟨_, ho, rfl⟩ F.slot_list_repr.toG (call_list_repr_empty ⟨_, ho, rfl⟩ ho rfl ⟨_, _, rfl, ?_⟩)
    exact ⟨.str _, H, I.tok _, ⟨_, rfl⟩, q⟩
  | @dct a e =>
    cases (show u = Value.ref a from ru)
    obtain ⟨_, hs, vs, rv, o, es, ep, ho, hex, hd, hes⟩ := (show ObjOk X.prog X.w H s.heap a (.dK []) from I.hok a _ e)
    cases rv
    have e0 : es = #[] := by
      have z := hes.2.1
      obtain ⟨l⟩ := es
      cases l with
      | nil => rfl
      | cons e l => cases z
    subst e0
    exact call_repr_slot (by omega) ⟨_, ho, hex.1⟩ F.slot_dict_repr (rp_dict0 (A := X.A.in1) hg ho hex.1 hd hs fun u tk => ⟨_, _, rfl, .str _, H, I.tok _, ⟨_, rfl⟩, q⟩)
  | @tup a v t e h z =>
    cases (show u = Value.ref a from ru)
    obtain ⟨_, its, rv, o, ho, hc, n, hd⟩ := (show ObjOk X.prog X.w H s.heap a (.tup [v]) from I.hok a _ e)
    cases rv with
    | cons rv1 rv2 =>
      cases rv2
      refine call_repr_slot (by omega) ⟨_, ho, hc⟩ F.slot_tuple_repr (rp_tuple (A := X.A.in1) hg ho hc hd (ts := [t]) (.cons (rp_is h rv1) .nil) z fun u tk => ⟨_, _, rfl, ?_⟩)
      exact ⟨.str _, H, I.tok _, ⟨_, rfl⟩, q⟩
def rRepr (g : List Code) : List V → Hp → VK → Prop := fun xs H Q => ∃ (x : V) (t : Str), xs = [x] ∧ RpV g H x t ∧ Q (.str t) H
/-- repr(e1) == repr(e2) -/
def tReprEq (t1 t2 : TE) : TE := fun σ H Q => ∀ g, tOp rEq (tCB (rRepr g) (tCons t1 tNil)) (tCB (rRepr g) (tCons t2 tNil)) σ H Q
theorem pe_reprEq {e1 e2 : Expr} {t1 t2 : TE} {p1 p2 q1 q2 pos : Pos} {k : Nat} (hr : Room k X.A) (hgl : Gl X "repr") (hm : X.mg "repr" = none) (h1 : ∀ g, PE (gdX X g) e1 t1) (h2 : ∀ g, PE (gdX X g) e2 t2)
    (s1 : ∀ g, starEach [e1] (gdX X g).env = (false, eval e1 (gdX X g).env) :: starEach [] (gdX X g).env := by intro _; rfl) (s2 : ∀ g, starEach [e2] (gdX X g).env = (false, eval e2 (gdX X g).env) :: starEach [] (gdX X g).env := by intro _; rfl) :
    PE X (.Compare (.Call (.Name "repr" p1) [e1] [] q1) [.Eq] [.Call (.Name "repr" p2) [e2] [] q2] pos) (tReprEq t1 t2) := by
  refine ⟨fun pins s σ H Q I q => wpAny_gd fun g => ?_⟩
  have hr' : Room k (gdX X g).A := ⟨hr.hd, hr.dp, hr.un⟩
  have A := pe_cmpR (pos := pos) op_eq (pe_callB (X := gdX X g) (p := p1) (pos := q1) (call_repr (g := g) rfl hr') hgl hm boot_repr (pa_cons (h1 g) pa_nil (s1 g)) (he := s1 g))
    (pe_callB (X := gdX X g) (p := p2) (pos := q2) (call_repr (g := g) rfl hr') hgl hm boot_repr (pa_cons (h2 g) pa_nil (s2 g)) (he := s2 g)) (nomark _)
  exact thn (A.run pins s σ H Q (Inv.gd I) (q g)) fun _ _ ⟨v, H', J, r⟩ => ⟨v, H', Inv.ungd J, r⟩
/-- .. and != -/
def tReprNe (t1 t2 : TE) : TT := fun σ H Q => ∀ g, tTest (tOp rNe (tCB (rRepr g) (tCons t1 tNil)) (tCB (rRepr g) (tCons t2 tNil))) σ H Q
theorem pt_reprNe {e1 e2 : Expr} {t1 t2 : TE} {p1 p2 q1 q2 pos : Pos} {k : Nat} (hr : Room k X.A) (hgl : Gl X "repr") (hm : X.mg "repr" = none) (h1 : ∀ g, PE (gdX X g) e1 t1) (h2 : ∀ g, PE (gdX X g) e2 t2)
    (s1 : ∀ g, starEach [e1] (gdX X g).env = (false, eval e1 (gdX X g).env) :: starEach [] (gdX X g).env := by intro _; rfl) (s2 : ∀ g, starEach [e2] (gdX X g).env = (false, eval e2 (gdX X g).env) :: starEach [] (gdX X g).env := by intro _; rfl) :
    PT X (.Compare (.Call (.Name "repr" p1) [e1] [] q1) [.NotEq] [.Call (.Name "repr" p2) [e2] [] q2] pos) (tReprNe t1 t2) := by
  refine ⟨fun pins s σ H Q I q => wpAny_gd fun g => ?_⟩
  have hr' : Room k (gdX X g).A := ⟨hr.hd, hr.dp, hr.un⟩
  have A := pt_cmpR (pos := pos) op_ne (pe_callB (X := gdX X g) (p := p1) (pos := q1) (call_repr (g := g) rfl hr') hgl hm boot_repr (pa_cons (h1 g) pa_nil (s1 g)) (he := s1 g))
    (pe_callB (X := gdX X g) (p := p2) (pos := q2) (call_repr (g := g) rfl hr') hgl hm boot_repr (pa_cons (h2 g) pa_nil (s2 g)) (he := s2 g)) (nomark _)
  exact thn (A.run pins s σ H Q (Inv.gd I) (q g)) fun _ _ ⟨H', J, r⟩ => ⟨H', Inv.ungd J, r⟩
end
end K5
set_option Elab.async false
set_option maxRecDepth 100000
set_option maxHeartbeats 2000000
/-! own rules, part 5: a list comprehension whose test wants a token given out -/
namespace K5
open PySem PySem.Spec PyProof.Rows L2
/-- a test, one token out -/
def PTk (X : Cx) (e : Expr) (t : TT) : Prop := ∀ (pins : List (Addr × Obj)) (s : Shared) (σ : L2.St) (H : Hp) (Q : Bool → Hp → Prop), 1 ≤ s.toks → Inv X pins σ H s → t σ H Q →
  wpAny (model X.prog X.w) X.A (isTrue e X.env (eval e X.env)) (TP X pins σ Q) X.xe s
section
variable {X : Cx} {a b o : Expr} {ta tb to : TE}
/-- f(o) of a built-in, o wants the token -/
theorem pet_callB {id : String} {r : List V → Hp → VK → Prop} {x : Str} {p pos : Pos} (hc : CallR X (.builtin id) r) (hg : Gl X x) (hm : X.mg x = none) (hv : bootBuiltins x = some (.builtin id)) (ho : PET X o to) (hn : x ≠ "__name__" := by decide) (hdb : (x == ("__debug__" : Str)) = false := by decide)
    (hst : starEach [o] X.env = [(false, eval o X.env)] := by rfl) : PET X (.Call (.Name x p) [o] [] pos) (tCB r (tCons to tNil)) := by
  intro pins s σ H Q h0 I h
  refine wpAny_Call_Name_kw (ld_blt I hg hm hv ?_ hn hdb)
  exact PyProof.Rows.callWith_builtin1 (thn (pat_cons ho pat_nil hst pos pins s σ H _ h0 I h) fun us s1 ⟨vs, H1, I1, r1, q1⟩ => hc pins s1 σ H1 vs us Q I1 r1 q1) hst rfl
theorem ptk_cmp {op : CmpOp} {r : R2} {pos : Pos} (ho : OpR X (compareOp op) r) (ha : PET X a ta) (hb : PE X b tb) (hm : behindInMarks op b = false) : PTk X (.Compare a [op] [b] pos) (tTest (tOp r ta tb)) := by
  intro pins s σ H Q h0 I h
  refine wpAny_isTrue_Compare1 (thn (ha pins s σ H _ h0 I h) fun v s1 h1 => ?_) hm
  obtain ⟨x, H1, I1, rx, q1⟩ := h1
  refine thn (hb.run pins s1 σ H1 _ I1 q1) fun u s2 h2 => ?_
  obtain ⟨y, H2, I2, ry, q2⟩ := h2
  refine thn (ho pins s2 σ H2 x y v u _ I2 rx ry q2) fun c s3 h3 => ?_
  obtain ⟨z, H3, I3, rz, k, ez, q3⟩ := h3
  subst ez
  cases rz
  exact wpAny_truthy_bool ⟨H3, I3, q3⟩
end
section
variable {X : Cx} {elt tg iter cnd : Expr} {scope : Scope} {own : List (Str × Nat)} {wi : TI} {g : TG} {tt : TT} {te : TE}
/-- a step, the token kept in sight -/
theorem thk {α : Type} {M : Model} {A : Around} {t : Sem α} {Q Q' : α → Shared → Prop} {E : Value → Shared → Prop} {s : Shared} (k : 1 ≤ s.toks) (h : wpAny M A t Q E s) (q : ∀ a s1, Q a s1 → 1 ≤ s1.toks → Q' a s1) : wpAny M A t Q' E s :=
  wpAny_mono (PySem.wpAny_toks_of k h) (fun a s1 z => q a s1 z.2 z.1) fun _ _ z => z.2
theorem thkF {α : Type} {M : Model} {A : Around} {t : Sem α} {Q Q' : α → Shared → Prop} {E : Value → Shared → Prop} {s : Shared} (k : 1 ≤ s.toks) (h : wpAny M A t Q (fun _ _ => False) s) (q : ∀ a s1, Q a s1 → 1 ≤ s1.toks → Q' a s1) : wpAny M A t Q' E s :=
  wpAny_mono (PySem.wpAny_toks_of k h) (fun a s1 z => q a s1 z.2 z.1) fun _ _ z => z.2.elim
/-- the walk of the block: lc_core's, a token out from its start on -/
theorem lcK_core {pins : List (Addr × Obj)} {s : Shared} {σ : L2.St} {H : Hp} {Q : VK} {pos pos' : Pos} {use : Option (Value → Sem Unit)} {Qf : Value → Shared → Prop}
    (calm : X.calm = true) (nod : X.N.Nodup) (tok : 1 ≤ s.toks) (I : Inv X pins σ H s) (pit : PI X tg iter wi) (blk : BlkOk X.N X.env.scope scope own)
    (ptg : ∀ s0 H0 C cl fp, PG (X.blk s0 H0 scope (compEnvC scope cl C X.env) fp) tg g) (ptt : ∀ s0 H0 C cl fp, PTk (X.blk s0 H0 scope (compEnvC scope cl C X.env) fp) cnd tt)
    (pelt : ∀ s0 H0 C cl fp, PE (X.blk s0 H0 scope (compEnvC scope cl C X.env) fp) elt te) (fold : ∀ x, foldedSetIterable iter X.env x = pure x)
    (wish : tLc wi g tt te (own.map (·.2)) σ H Q)
    (back : ∀ D C s' m H', 1 ≤ s'.toks → Inv X pins σ H' s' → Q (.ref D) H' → s'.heap.Ns C m → FpOk X pins H' C → compPost (model X.prog X.w) X.A X.xe use Qf (.ref D) C (.ok .next) s') :
    wpAny (model X.prog X.w) X.A (comprehension (.ListComp elt [⟨tg, iter, [cnd], 0⟩] scope pos) scope X.env pos' (newList []) false (eval iter X.env) use) Qf X.xe s := by
  have clo : closureFor scope X.env = pure (cloFrom X.env.cells scope.names []) := closure_ok fun y hy e => (blk.free y hy e).elim (fun k => I.ok.has _ (.inl k)) fun k => I.ok.has _ (.inr k)
  refine wpAny_comprehension_free (use := use) rfl fold clo blk.kind (fun y hy e => (blk.uniq y hy).trans (by rw [e])) ?_
  refine thk tok (pit.run _ s σ H _ I wish) fun xv s1 hx t1 => thk t1 hx fun itv s2 h2 t2 => ?_
  rcases h2 with ⟨it, fp, tn, J, H2, rfl, I2, T, st2, f2, q⟩
  refine wpAny_newObj_type (newEnv_comp ?_) (by show 0 ≤ sizeLine; decide)
  obtain ⟨D, hD⟩ : ∃ D, D = s2.heap.objs.size := ⟨_, rfl⟩
  rw [← hD]
  have fresh : H2 D = none := I2.hok.fresh (Nat.le_of_eq hD.symm)
  obtain ⟨W, ⟨m0, w0⟩, turn⟩ := q D fresh
  have lay : ∀ h3, h3 = s2.heap.push { cls := .type "list", data := .seq ([] : List Value).toArray } → ∀ tk, tk = s2.toks → 1 ≤ tk → codeAny (model X.prog X.w) X.A (.compStart (.ListComp elt [⟨tg, iter, [cnd], 0⟩] scope pos) 0 (.ref it) (.ref D) (compEnvC scope (cellsFrom (h3.objs.size + 1) scope.names (cloFrom X.env.cells scope.names [])) h3.objs.size X.env)) (compPost (model X.prog X.w) X.A X.xe use Qf (.ref D) h3.objs.size) { s2 with heap := pushCells (h3.push { cls := .type "dict", data := .dict #[] }) scope.names, toks := tk } := by
    intro h3 eh tk etk htk
    have I3 : Inv X pins σ (upd H2 D (.lst [])) { s2 with heap := h3, toks := tk } :=
      I2.laid (fun b o e => by rw [eh]; exact Heap.get?_push_of_some _ e) (Nat.le_of_eq hD.symm) ⟨Nat.zero_le _, [], 0, .nil, by rw [eh, hD]; exact Heap.get?_push_size _ rfl⟩
    have f3 : ∀ b ∈ fp, FpOk X pins (upd H2 D (.lst [])) b ∧ b < h3.objs.size := by
      intro b hb
      have hlt : b < s2.heap.objs.size := by
        obtain ⟨o, e, _⟩ := T.obj _ _ st2 b hb
        exact Heap.lt_size e
      exact ⟨⟨(upd_ne (by rw [hD]; exact Nat.ne_of_lt hlt)).trans (f2 b hb).1, (f2 b hb).2⟩, by rw [eh, Heap.size_push]; exact Nat.lt_succ_of_lt hlt⟩
    have I4 := block_start I3 blk nod f3
    have st4 : tn 0 (pushCells (h3.push { cls := .type "dict", data := .dict #[] }) scope.names) := T.keep _ _ _ st2 fun b _ o e => pushCells_keeps _ _ _ _ (Heap.get?_push_of_some _ (by rw [eh]; exact Heap.get?_push_of_some _ e))
    have pg := ptg { s2 with heap := h3, toks := tk } (upd H2 D (.lst [])) h3.objs.size (cellsFrom (h3.objs.size + 1) scope.names (cloFrom X.env.cells scope.names [])) fp
    have pt := ptt { s2 with heap := h3, toks := tk } (upd H2 D (.lst [])) h3.objs.size (cellsFrom (h3.objs.size + 1) scope.names (cloFrom X.env.cells scope.names [])) fp
    have pe := pelt { s2 with heap := h3, toks := tk } (upd H2 D (.lst [])) h3.objs.size (cellsFrom (h3.objs.size + 1) scope.names (cloFrom X.env.cells scope.names [])) fp
    have none3 : ∀ b ∈ fp, (upd H2 D (.lst [])) b = none := fun b hb => (f3 b hb).1.1
    obtain ⟨ce, hce⟩ : ∃ ce, ce = compEnvC scope (cellsFrom (h3.objs.size + 1) scope.names (cloFrom X.env.cells scope.names [])) h3.objs.size X.env := ⟨_, rfl⟩
    have cL : ce.locals = h3.objs.size := by rw [hce]; rfl
    obtain ⟨H3, hH3⟩ : ∃ H3, H3 = upd H2 D (.lst []) := ⟨_, rfl⟩
    obtain ⟨s3, hs3⟩ : ∃ s3 : Shared, s3 = { s2 with heap := h3, toks := tk } := ⟨_, rfl⟩
    obtain ⟨s4, hs4⟩ : ∃ s4 : Shared, s4 = { s2 with heap := pushCells (h3.push { cls := .type "dict", data := .dict #[] }) scope.names, toks := tk } := ⟨_, rfl⟩
    have t4 : 1 ≤ s4.toks := by rw [hs4]; exact htk
    have sh : s3.heap.objs.size = h3.objs.size := by rw [hs3]
    have I4' : Inv (X.blk s3 H3 scope ce fp) [] (wipe σ (own.map (·.2))) H3 s4 := by rw [hs3, hH3, hce, hs4]; exact I4
    rw [← hs4, ← hce]
    rw [← hce, ← hs3, ← hH3] at pg pt pe
    rw [← hH3] at w0 none3 f3 I3
    rw [← hs3] at I3
    have st4' : tn 0 s4.heap := by rw [hs4]; exact st4
    clear I4 st4
    have stat : ∀ {σ' : L2.St} {H' : Hp} {s' : Shared}, Inv (X.blk s3 H3 scope ce fp) [] σ' H' s' → (∀ b ∈ fp, H' b = none) → ∀ b ∈ fp, FpOk (X.blk s3 H3 scope ce fp) [] H' b := by
      intro σ' H' s' I' hn b hb
      refine ⟨hn b hb, (I'.ok.exf b hb).1, I'.ok.exfs b hb, .inl hb, fun x c e => (I'.ok.exf b hb).2 x c e, ?_⟩
      exact fun p hp => absurd (show p ∈ ([] : List (Addr × Obj)) ++ [] from hp) (by simp)
    have loop : codeAny (model X.prog X.w) X.A (.compLoop (.ListComp elt [⟨tg, iter, [cnd], 0⟩] scope pos) 0 (.ref it) (.ref D) ce) (compPost (model X.prog X.w) X.A X.xe use Qf (.ref D) h3.objs.size) s4 := by
      refine compLoop_any (fun n s' => 1 ≤ s'.toks ∧ ∃ i H', Inv (X.blk s3 H3 scope ce fp) [] (wipe σ (own.map (·.2))) H' s' ∧ tn i s'.heap ∧ (∀ b ∈ fp, H' b = none) ∧ W i n H') ?_ m0 ⟨t4, 0, H3, I4', st4', none3, w0⟩
      rintro n s5 ⟨t5, i, H5, I5, st5, n5, w5⟩
      rcases turn i n H5 w5 with ⟨stop, qq⟩ | ⟨go, Nx, hNx, step⟩
      · refine (thkF t5 (T.done (X.blk s3 H3 scope ce fp) rfl rfl rfl calm i [] s5 _ H5 (fun _ _ => False) I5 (stat I5 n5) st5 stop) fun r s6 hh t6 => ?_)
        obtain ⟨rfl, I6⟩ := hh
        have I7 : Inv X pins σ H5 s6 := I3.call' (ch := fp) I6.os I6.base I6.hok I6.bare fun b hb => ⟨(f3 b hb).1.2.2.2.1, (f3 b hb).1.2.1, (f3 b hb).1.2.2.2.2.1, (f3 b hb).1.2.2.2.2.2⟩
        have nC : H5 h3.objs.size = none := cL ▸ (show H5 ce.locals = none from I6.free)
        obtain ⟨m, hn, _⟩ := I6.loc
        refine back D h3.objs.size s6 m H5 t6 I7 qq (cL ▸ (show s6.heap.Ns ce.locals m from hn)) ?_
        exact I3.fpOk (Nat.le_of_eq sh) nC
      · refine (thkF t5 (T.item (X.blk s3 H3 scope ce fp) rfl rfl rfl calm i [] s5 _ H5 (fun _ _ => False) I5 (stat I5 n5) st5 go) fun r s6 hh t6 => ?_)
        obtain ⟨u, rfl, h6⟩ := hh
        refine (thkF t6 h6 fun _ s7 hh t7 => ?_)
        obtain ⟨x, H7, I7, r7, y7, st7, n7⟩ := hh
        have I7p := I7.pinned (stat I7 n7) (T.obj _ _ st7)
        refine (thkF t7 (pg.run _ s7 _ H7 x u _ I7p r7 (step x H7 y7)) fun _ s8 hh t8 => ?_)
        obtain ⟨σ8, H8, I8, hw8, q8⟩ := hh
        have next : ∀ {s' : Shared} {H' : Hp}, 1 ≤ s'.toks → Inv (X.blk s3 H3 scope ce fp) ([] ++ pinsAt fp s7.heap) σ8 H' s' → Nx H' → ∃ m, m < n ∧ 1 ≤ s'.toks ∧ ∃ i H', Inv (X.blk s3 H3 scope ce fp) [] (wipe σ (own.map (·.2))) H' s' ∧ tn i s'.heap ∧ (∀ b ∈ fp, H' b = none) ∧ W i m H' := by
          intro s' H' t' I' nx
          obtain ⟨m', hm, w'⟩ := hNx H' nx
          have pin : ∀ b ∈ fp, ∀ o, s7.heap.get? b = some o → s'.heap.get? b = some o ∧ H' b = none := fun b hb o e => by
            have z := I'.pin (b, o) (List.mem_append_right _ (List.mem_append_right _ (mem_pinsAt hb e)))
            exact ⟨z.1, z.2.1⟩
          have hl : (wipe σ (own.map (·.2))).length = σ8.length := (wipe_length _ _).symm.trans (congrArg List.length hw8) |> fun e => by rw [← hw8, wipe_length]
          refine ⟨m', hm, t', i + 1, H', (I'.unpinned (pins := [])).weak hl (fun j v e => (wipe_some (by rw [hw8]; exact e)).1), T.keep _ _ _ st7 fun b hb o e => (pin b hb o e).1, fun b hb => ?_, w'⟩
          obtain ⟨o, e, _⟩ := T.obj _ _ st7 b hb
          exact (pin b hb o e).2
        refine (thkF t8 (wpAny_tests_one (pt _ s8 σ8 H8 _ t8 I8 q8)) fun c s9 hh t9 => ?_)
        obtain ⟨H9, I9, q9⟩ := hh
        cases c with
        | false => exact next t9 I9 q9
        | true =>
          refine (thkF t9 (pe.run _ s9 σ8 H9 _ I9 q9) fun z s10 hh t10 => ?_)
          obtain ⟨yv, H10, I10, r10, acc, hD10, hz10, nx⟩ := hh
          exact thk t10 (app_ok (X := X.blk s3 H3 scope ce fp) (Q := fun _ s11 => Inv (X.blk s3 H3 scope ce fp) ([] ++ pinsAt fp s7.heap) σ8 (upd H10 D (.lst (acc ++ [yv]))) s11) I10 hD10 hz10 r10 fun s11 I11 => I11) fun _ s11 I11 t11 => next t11 I11 nx
    exact codeAny_compStart_list loop (T.self X.A 0 _ _ _ st4' loop)
  exact lay _ rfl _ rfl t2
/-- name = [..], name a local: the written list kept -/
theorem pst_setLcK {i : Nat} {y : Str} {py : Pos} {pos spos : Pos} (calm : X.calm = true) (nod : X.N.Nodup) (at_i : X.N[i]? = some y) (loc : X.env.scope.names.lookup y = some .local)
    (sw : swapsWith (.ListComp elt [⟨tg, iter, [cnd], 0⟩] scope pos) (some (.Name y py)) spos.line X.env = pure true) (pit : PI X tg iter wi) (blk : BlkOk X.N X.env.scope scope own)
    (ptg : ∀ s0 H0 C cl fp, PG (X.blk s0 H0 scope (compEnvC scope cl C X.env) fp) tg g) (ptt : ∀ s0 H0 C cl fp, PTk (X.blk s0 H0 scope (compEnvC scope cl C X.env) fp) cnd tt)
    (pelt : ∀ s0 H0 C cl fp, PE (X.blk s0 H0 scope (compEnvC scope cl C X.env) fp) elt te) (fold : ∀ x, foldedSetIterable iter X.env x = pure x := by intro _; rfl) :
    PST X (.Assign [.Name y py] (.ListComp elt [⟨tg, iter, [cnd], 0⟩] scope pos) spos) (tAsg (tLc wi g tt te (own.map (·.2))) (gName i)) := by
  intro pins s σ H D tok I wish
  rw [exec_Assign_Name_used _ _ _ _ sw]
  refine wpAny_bind (wpAny_standAt (wpAny_bind ?_))
  show wpAny _ X.A (do let _ ← comprehension (.ListComp elt [⟨tg, iter, [cnd], 0⟩] scope pos) scope X.env (firstIterPos [⟨tg, iter, [cnd], 0⟩] pos) (newList []) false (eval iter X.env) (some (assign (.Name y py) X.env))) _ _ s
  have wish' : tLc wi g tt te (own.map (·.2)) σ H (fun x H1 => gName i x σ H1 D.nx) := wish
  refine wpAny_bind (thn (lcK_core (Qf := fun _ s' => SP X pins D .next s') calm nod tok I pit blk ptg ptt pelt fold wish' fun L C s' m H' _ I' q hn f => ?_) fun _ _ z => wpAny_pure (wpAny_pure z))
  refine wpAny_assign_Name (store_ok2 (v := V.ref L) I' nod at_i (Or.inl loc) rfl (fun s2 I2 hh => ?_) (Or.inr loc))
  obtain ⟨a, sb, ha⟩ := hh
  have ne : C ≠ a := ha.elim (fun z => z ▸ f.2.1) fun z e => f.2.2.2.2.1 y a z e.symm
  refine ⟨m, hn.sameBut sb ne, fun h3 sb3 => ⟨_, H', I2.turned (t' := s2.toks) (fun b o hb e => (sb3.2 b hb).trans e) f.1 f.2.1 f.2.2.2.1 f.2.2.2.2.1 f.2.2.2.2.2, q⟩⟩
end
section
variable {X : Cx} {a : Expr} {ta : TE} {body rest : List Stmt} {t u : TS}
/-- if a == 'text': .. : behind it a token is out -/
theorem pss_ifLit {r : R2} {c : Str} {j : Nat} {cp pos spos : Pos} (ho : OpR X (compareOp .Eq) r) (ha : PE X a ta) (hb : PSs X body t) (hr : PSsT X rest u) :
    PSs X (.If (.Compare a [.Eq] [.Constant (.str c) j cp] pos) body [] spos :: rest) (tSeq (tIfS (tTest (tOp r ta (tC (.str c)))) t tNext) u) := by
  refine ⟨fun pins s σ H D I h => ?_⟩
  refine wpAny_execs_cons (wpAny_If (wpAny_isTrue_Compare1 (thn (ha.run pins s σ H _ I h) fun v s1 hh => Calls.Constant_str ?_) (nomark _)))
  obtain ⟨x, H1, I1, rx, q1⟩ := hh
  have k2 : 1 ≤ ({ s1 with toks := s1.toks + 1 } : Shared).toks := Nat.le_add_left 1 _
  refine thk k2 (ho pins _ σ H1 x (.str c) v (.str c s1.toks) _ (I1.tok _) rx ⟨_, rfl⟩ q1) fun w s3 hh k3 => ?_
  obtain ⟨z, H3, I3, rz, k, ez, q3⟩ := hh
  subst ez
  cases rz
  refine wpAny_truthy_bool ?_
  cases k with
  | true =>
    refine thk k3 (hb.run pins s3 σ H3 { D with nx := u D } I3 q3) fun f s4 q k4 => ?_
    cases f with
    | next => obtain ⟨σ', H', I', q⟩ := q; exact hr pins s4 σ' H' D k4 I' q
    | ret v => exact q
    | brk => exact q
    | cont => exact q
  | false => exact wpAny_execs_nil (hr pins s3 σ H3 D k3 I3 q3)
end
end K5
set_option Elab.async false
set_option maxRecDepth 100000
set_option maxHeartbeats 2000000
/-! own rules, part 4: enumerate(text), enumerate(tuple), text * number -/
namespace PySem
open Sem (wp)
open AutoSeq1 (wpAny_loadPart')
theorem k5_enum_new {v : Value} {o : Obj} {H : Heap → Prop} (B : Begins v o H) :
    Meets (Builtin.«enumerate.__new__» ⟨[.type "enumerate", v], []⟩) (fun _ R s => H s.heap ∧
      R (.ok (.ret (.ref (s.heap.push o).objs.size))) { s with heap := (s.heap.push o).push { cls := .type "enumerate", data := .fields #[.none, .bool false, .ref s.heap.objs.size, rawInt 0, .none, .none] } }) :=
  .of_wp fun prog w A R s h => by
    obtain ⟨hp, g, d, tk, os⟩ := s
    obtain ⟨h1, h⟩ := h
    have hsub := sub_enumerate
    have q1 : ∀ {A' : Around} {E : Value → Shared → Prop} {Q : Value → Shared → Prop}, Q (.ref hp.objs.size) ⟨hp.push o, g, d, tk, os⟩ → wpAny (model prog w) A' (pyIter v) Q E ⟨hp, g, d, tk, os⟩ :=
      fun q => B.iter prog w _ _ ⟨hp, g, d, tk, os⟩ _ h1 q
    wp_walk using q1
    refine wpAny_stack_any fun st => wpAny_pure ?_
    split
    · rename_i c _ _ _ _ _
      cases (c == Value.type "enumerate") <;> (wp_walk using q1; exact ⟨_, rfl, h⟩)
    · wp_walk using q1
      exact ⟨_, rfl, h⟩
section
variable {prog : Program} {w : World} {A : Around} {E : Value → Shared → Prop} {s : Shared}
/-- enumerate(v): its two new cells -/
theorem k5_enum {v : Value} {o : Obj} {H : Heap → Prop} {Q : Value → Shared → Prop} (B : Begins v o H) (h1 : H s.heap)
    (h : ∀ h', IsEnum h' (s.heap.objs.size + 1) s.heap.objs.size 0 .none → h'.get? s.heap.objs.size = some o → h'.objs.size = s.heap.objs.size + 2 →
      (∀ b o, s.heap.get? b = some o → h'.get? b = some o) → Q (.ref (s.heap.objs.size + 1)) { s with heap := h' }) :
    wpAny (model prog w) A (call (.type "enumerate") [v]) Q E s := by
  refine callType_new F.called_enumerate (by decide) (F.typeCall_enumerate_1 _) (F.newCall_enumerate_1 _) (fun obj => F.args_object_init_2 obj _) F.entry_enumerate_new (k5_enum_new B) ⟨h1, ?_⟩
  have hz : (s.heap.push o).objs.size = s.heap.objs.size + 1 := Heap.size_push ..
  show _ ∧ _
  rw [hz]
  have he : IsEnum ((s.heap.push o).push { cls := .type "enumerate", data := .fields #[.none, .bool false, .ref s.heap.objs.size, rawInt 0, .none, .none] }) (s.heap.objs.size + 1) s.heap.objs.size 0 .none := by
    have q := Heap.get?_push_size (s.heap.push o) (o := { cls := .type "enumerate", data := .fields #[.none, .bool false, .ref s.heap.objs.size, rawInt 0, .none, .none] }) rfl
    rw [hz] at q
    exact q
  exact ⟨⟨_, he, rfl⟩, h _ he (Heap.get?_push_of_some _ (Heap.get?_push_size _ B.free)) (by rw [Heap.size_push, hz]) fun b o x => Heap.get?_push_of_some _ (Heap.get?_push_of_some _ x)⟩
end
end PySem
namespace K5
open PySem PySem.Spec PyProof.Rows L2
/-- the signs of a text with their places, in new pairs -/
def IteS (z : Str) : It := ⟨fun i _ => i < z.cps.size, fun i H v H' => ∃ T c, v = .ref T ∧ H T = none ∧ H' = upd H T (.tup [.int (i : Nat), .str ⟨#[c]⟩]) ∧ z.cps[i]? = some c, fun i _ => i = z.cps.size⟩
/-- the items of the tuple at a with their places -/
def IteT (a : Addr) (xs : List V) : It := ⟨fun i H => H a = some (.tup xs) ∧ i < xs.length, fun i H v H' => ∃ T x, v = .ref T ∧ H T = none ∧ H' = upd H T (.tup [.int (i : Nat), x]) ∧ xs[i]? = some x, fun i H => H a = some (.tup xs) ∧ i = xs.length⟩
section
variable {X : Cx} {pins : List (Addr × Obj)} {σ : List (Option V)} {H : Hp} {s : Shared}
/-- a pair is handed out: the state behind it -/
theorem enum_out {e it : Addr} {i : Nat} {x : V} {u old : Value} {h' : Heap} {tk : Nat} {tg : List Expr} {kk : Nat} {tpos : Pos} {E : Value → Shared → Prop} {R : Hp → Heap → Prop} (I : Inv X pins σ H s) (hf : ∀ b ∈ [e, it], FpOk X pins H b) (he : IsEnum s.heap e it (i : Int) old) (hil : it < s.heap.objs.size) (hne : e ≠ it) (ru : RelV x u)
    (ho : IsEnumOut h' e it ((i : Int) + 1) u s.heap.objs.size) (hT : h'.get? s.heap.objs.size = some { cls := .type "tuple", data := .seq #[.int i tk, u] }) (hk : ∀ b o, b ≠ e → b ≠ it → s.heap.get? b = some o → h'.get? b = some o)
    (fin : ∀ h'', IsEnum h'' e it (((i + 1 : Nat) : Nat) : Int) u → Heap.SameBut e h' h'' → R (upd H s.heap.objs.size (.tup [.int (i : Nat), x])) h'') :
    wpAny (model X.prog X.w) X.A (letOwnedTupleGo (.Tuple tg kk tpos) (.ref e) (.ref s.heap.objs.size)) (fun _ s2 => ∃ H', Inv X pins σ H' s2 ∧ H' = upd H s.heap.objs.size (.tup [.int (i : Nat), x]) ∧ R H' s2.heap ∧ ∀ b ∈ [e, it], H' b = none) E { s with heap := h', toks := tk + 1 } := by
  have hel : e < s.heap.objs.size := Heap.lt_size he
  refine wpAny_letOwnedTupleGo_enum (s := { s with heap := h', toks := tk + 1 }) ho fun h'' he' sb => ?_
  have hT2 : h''.get? s.heap.objs.size = some { cls := .type "tuple", data := .seq #[.int i tk, u] } := (sb.2 _ (Nat.ne_of_gt hel)).trans hT
  have new : ObjOk X.prog X.w (upd H s.heap.objs.size (.tup [.int (i : Nat), x])) h'' s.heap.objs.size (.tup [.int (i : Nat), x]) :=
    ⟨by show 2 ≤ sizeLine; decide, [.int i tk, u], .cons ⟨_, rfl⟩ (.cons ru .nil), ⟨_, hT2, rfl, _, rfl⟩⟩
  have I1 : Inv X pins σ (upd H s.heap.objs.size (.tup [.int (i : Nat), x])) { s with heap := h'', toks := tk + 1 } :=
    I.turnedNew (ch := [e, it]) (fun b ob hb q => (sb.2 b (fun z => hb (by simp [z]))).trans (hk b ob (fun z => hb (by simp [z])) (fun z => hb (by simp [z])) q)) hf (Nat.le_refl _) new
  refine ⟨_, I1, rfl, fin h'' ?_ sb, fun b hb => ?_⟩
  · have e1 : ((i + 1 : Nat) : Int) = (i : Int) + 1 := by omega
    rw [e1]
    exact he'
  · have hb' : b < s.heap.objs.size := by
      have z : b = e ∨ b = it := by simpa using hb
      rcases z with z | z
      · rw [z]; exact hel
      · rw [z]; exact hil
    rw [upd_ne (Nat.ne_of_lt hb')]
    exact (hf b hb).1
end
theorem turn_enumS {P : Program} {w : World} {K : PySem.W.Frag} {elts : List Expr} {kk : Nat} {tpos : Pos} (z : Str) (t : Tok) (e it : Addr) :
    Turn P w K (.Tuple elts kk tpos) (IteS z) [e, it] e (fun i h => (∃ old, IsEnum h e it ((i : Nat) : Int) old) ∧ h.IsStrIter it (strIterType z) z t i ∧ e ≠ it) where
  mem := by simp
  obj := fun i h st b hb => by
    obtain ⟨⟨old, he⟩, ⟨o, ho, hc, hd⟩, _⟩ := st
    have e' : b = e ∨ b = it := by simpa using hb
    rcases e' with q | q
    · rw [q]; exact ⟨_, he, fun v q => nomatch q⟩
    · rw [q]; exact ⟨o, ho, fun v q => by rw [hd] at q; cases q⟩
  keep := fun i h h' st k => let ⟨⟨old, he⟩, ⟨o, ho, r⟩, hne⟩ := st; ⟨⟨old, k e (by simp) _ he⟩, ⟨o, k it (by simp) o ho, r⟩, hne⟩
  item := by
    intro X hP hw hK hc i pins s σ H E I hf st hg
    subst hP hw hK
    obtain ⟨⟨old, he⟩, hit, hne⟩ := st
    have hil : it < s.heap.objs.size := by obtain ⟨_, q, _⟩ := hit; exact Heap.lt_size q
    refine wpAny_pyNext_enum_itemD (Draws.text (show X.A.in1.handled = none from I.ok.hd hc) it z t) he hit hg hne (by simp [hne]) fun u h' tk hu ho hit' hT hsz hk => ⟨_, rfl, ?_⟩
    obtain ⟨c, v, hcz, rfl⟩ := hu
    refine wpAny_mono (enum_out (R := fun _ h'' => (∃ old, IsEnum h'' e it ((i + 1 : Nat) : Int) old) ∧ h''.IsStrIter it (strIterType z) z t (i + 1) ∧ e ≠ it) (x := .str ⟨#[c]⟩) I hf he hil hne ⟨_, rfl⟩ ho hT hk fun h'' he'' sb => ⟨⟨_, he''⟩, ?_, hne⟩) (fun _ s2 ⟨H', J, eH, r, z'⟩ => ⟨.ref s.heap.objs.size, H', J, rfl, ⟨_, c, rfl, I.hok.fresh (Nat.le_refl _), eH, hcz⟩, r, z'⟩) fun _ _ q => q
    obtain ⟨o, ho', r⟩ := hit'
    exact ⟨o, (sb.2 it (Ne.symm hne)).trans ho', r⟩
  done := by
    intro X hP hw hK hc i pins s σ H E I hf st hg
    subst hP hw hK
    obtain ⟨⟨old, he⟩, hit, hne⟩ := st
    obtain ⟨f0, f1, f2, f3, f4, f5⟩ := hf it (by simp)
    subst hg
    exact wpAny_pyNext_enum_endD (Draws.text (show X.A.in1.handled = none from I.ok.hd hc) it z t) he hit fun h' eb => ⟨rfl, I.turned (t' := s.toks) (fun b o hb q => eb b o hb q) f0 f1 f3 f4 f5⟩
  self := fun A i s Q E st h => let ⟨⟨_, he⟩, _⟩ := st; wpAny_pyIter_enum he h
theorem turn_enumT {P : Program} {w : World} {K : PySem.W.Frag} {elts : List Expr} {kk : Nat} {tpos : Pos} (a : Addr) (xs : List V) (e it : Addr) :
    Turn P w K (.Tuple elts kk tpos) (IteT a xs) [e, it] e (fun i h => (∃ old, IsEnum h e it ((i : Nat) : Int) old) ∧ h.IsTupleIter it a i ∧ e ≠ it) where
  mem := by simp
  obj := fun i h st b hb => by
    obtain ⟨⟨old, he⟩, ⟨o, ho, hc, hd⟩, _⟩ := st
    have e' : b = e ∨ b = it := by simpa using hb
    rcases e' with q | q
    · rw [q]; exact ⟨_, he, fun v q => nomatch q⟩
    · rw [q]; exact ⟨o, ho, fun v q => by rw [hd] at q; cases q⟩
  keep := fun i h h' st k => let ⟨⟨old, he⟩, ⟨o, ho, r⟩, hne⟩ := st; ⟨⟨old, k e (by simp) _ he⟩, ⟨o, k it (by simp) o ho, r⟩, hne⟩
  item := by
    intro X hP hw hK hc i pins s σ H E I hf st hg
    subst hP hw hK
    obtain ⟨⟨old, he⟩, hit, hne⟩ := st
    obtain ⟨ha, hlt⟩ := hg
    have hil : it < s.heap.objs.size := by obtain ⟨_, q, _⟩ := hit; exact Heap.lt_size q
    obtain ⟨its, rv, p, hz⟩ := I.tuple (.inl (.inl ha))
    have hl := rv.length
    have na : ∀ b ∈ [e, it], a ≠ b := fun b hb q => by
      have := (hf b hb).1
      rw [← q, ha] at this
      cases this
    refine wpAny_pyNext_enum_itemD (Draws.tuple (show X.A.in1.handled = none from I.ok.hd hc) it a (na it (by simp)) its.toArray) he ⟨hit, p⟩ (by simp; omega) hne (by simp [hne]; exact Ne.symm (na e (by simp))) fun u h' tk hu ho hit' hT hsz hk => ⟨_, rfl, ?_⟩
    have hu' : its[i]? = some u := by simpa using hu
    obtain ⟨x, hx, rx⟩ : ∃ x, xs[i]? = some x ∧ RelV x u := by
      obtain ⟨u', e1, r1⟩ := rv.get (i := i) (x := xs[i]'hlt) (by simp [hlt])
      rw [hu'] at e1
      cases e1
      exact ⟨_, by simp [hlt], r1⟩
    refine wpAny_mono (enum_out (R := fun _ h'' => (∃ old, IsEnum h'' e it ((i + 1 : Nat) : Int) old) ∧ h''.IsTupleIter it a (i + 1) ∧ e ≠ it) (x := x) I hf he hil hne rx ho hT hk fun h'' he'' sb => ⟨⟨_, he''⟩, ?_, hne⟩) (fun _ s2 ⟨H', J, eH, r, z'⟩ => ⟨.ref s.heap.objs.size, H', J, rfl, ⟨_, x, rfl, I.hok.fresh (Nat.le_refl _), eH, hx⟩, r, z'⟩) fun _ _ q => q
    obtain ⟨o, ho', r⟩ := hit'.1
    exact ⟨o, (sb.2 it (Ne.symm hne)).trans ho', r⟩
  done := by
    intro X hP hw hK hc i pins s σ H E I hf st hg
    subst hP hw hK
    obtain ⟨⟨old, he⟩, hit, hne⟩ := st
    obtain ⟨ha, rfl⟩ := hg
    obtain ⟨its, rv, p, hz⟩ := I.tuple (.inl (.inl ha))
    have hl := rv.length
    have na : ∀ b ∈ [e, it], a ≠ b := fun b hb q => by
      have := (hf b hb).1
      rw [← q, ha] at this
      cases this
    obtain ⟨f0, f1, f2, f3, f4, f5⟩ := hf it (by simp)
    exact wpAny_pyNext_enum_endD (n := its.toArray.size) (Draws.tuple (show X.A.in1.handled = none from I.ok.hd hc) it a (na it (by simp)) its.toArray) he ⟨by simpa [← hl] using hit, p⟩ fun h' eb => ⟨rfl, I.turned (t' := s.toks) (fun b o hb q => eb b o hb q) f0 f1 f3 f4 f5⟩
  self := fun A i s Q E st h => let ⟨⟨_, he⟩, _⟩ := st; wpAny_pyIter_enum he h
section
variable {X : Cx}
theorem fp_two {pins : List (Addr × Obj)} {σ : List (Option V)} {H : Hp} {s : Shared} (I : Inv X pins σ H s) : ∀ b ∈ [s.heap.objs.size + 1, s.heap.objs.size], FpOk X pins H b := fun b hb => by
  have e' : b = s.heap.objs.size + 1 ∨ b = s.heap.objs.size := by simpa using hb
  have hle : s.heap.objs.size ≤ b := by
    rcases e' with z | z
    · rw [z]; exact Nat.le_add_right _ _
    · rw [z]; exact Nat.le_refl _
  exact I.fpOk hle (I.hok.fresh hle)
/-- enumerate(text) -/
def iEnumS (ta : TA) : TI := fun σ H R => ta σ H fun vs H1 => ∃ z, vs = [.str z] ∧ R (IteS z) H1
theorem pi_enumS {e : Expr} {ta : TA} {p pos tpos : Pos} {elts : List Expr} {kk : Nat} (hg : Gl X "enumerate") (hm : X.mg "enumerate" = none) (ha : PA X [e] ta) (hs : starEach [e] X.env = [(false, eval e X.env)] := by rfl) :
    PI X (.Tuple elts kk tpos) (.Call (.Name "enumerate" p) [e] [] pos) (iEnumS ta) := by
  refine ⟨fun pins s σ H R I h => ?_⟩
  refine Call_ (ld_blt I hg hm boot_enumerate (PyProof.Rows.callWith_type1 (thn (ha.run pos pins s σ H _ I h) fun us s1 ⟨vs, H1, I1, r1, z, ex, q⟩ => ?_) hs rfl))
  subst ex
  obtain ⟨u, rfl, t, rfl⟩ := vals1 r1
  refine k5_enum (begins_text z t) trivial fun h' he hit hsz hk => wpAny_pyIter_enum he ?_
  have I2 : Inv X pins σ H1 { s1 with heap := h' } := I1.kept (t' := s1.toks) hk
  exact ⟨s1.heap.objs.size + 1, [s1.heap.objs.size + 1, s1.heap.objs.size], _, _, H1, rfl, I2, turn_enumS z t (s1.heap.objs.size + 1) s1.heap.objs.size, ⟨⟨.none, he⟩, ⟨_, hit, rfl, rfl⟩, Nat.succ_ne_self _⟩, fp_two I1, q⟩
/-- enumerate(tuple) -/
def iEnumT (ta : TA) : TI := fun σ H R => ta σ H fun vs H1 => ∃ a xs, vs = [.ref a] ∧ H1 a = some (.tup xs) ∧ R (IteT a xs) H1
theorem pi_enumT {e : Expr} {ta : TA} {p pos tpos : Pos} {elts : List Expr} {kk : Nat} (hg : Gl X "enumerate") (hm : X.mg "enumerate" = none) (ha : PA X [e] ta) (hs : starEach [e] X.env = [(false, eval e X.env)] := by rfl) :
    PI X (.Tuple elts kk tpos) (.Call (.Name "enumerate" p) [e] [] pos) (iEnumT ta) := by
  refine ⟨fun pins s σ H R I h => ?_⟩
  refine Call_ (ld_blt I hg hm boot_enumerate (PyProof.Rows.callWith_type1 (thn (ha.run pos pins s σ H _ I h) fun us s1 ⟨vs, H1, I1, r1, a, xs, ex, hq, q⟩ => ?_) hs rfl))
  subst ex
  obtain ⟨u, rfl, r⟩ := vals1 r1
  cases (show u = Value.ref a from r)
  obtain ⟨its, rv, p', hz⟩ := I1.tuple (.inl (.inl hq))
  refine k5_enum (begins_tuple a its.toArray) p' fun h' he hit hsz hk => wpAny_pyIter_enum he ?_
  have I2 : Inv X pins σ H1 { s1 with heap := h' } := I1.kept (t' := s1.toks) hk
  exact ⟨s1.heap.objs.size + 1, [s1.heap.objs.size + 1, s1.heap.objs.size], _, _, H1, rfl, I2, turn_enumT a xs (s1.heap.objs.size + 1) s1.heap.objs.size, ⟨⟨.none, he⟩, ⟨_, hit, rfl, rfl⟩, Nat.succ_ne_self _⟩, fp_two I1, q⟩
/-- sign * number -/
theorem mul_one (c : Nat) (n : Int) : Txt.mul ⟨#[c]⟩ n = ⟨(List.replicate n.toNat c).toArray⟩ := by
  unfold Txt.mul
  by_cases h : n < 1
  · rw [if_pos h, show n.toNat = 0 by omega]
    rfl
  · rw [if_neg h]
    by_cases h1 : n = 1
    · subst h1
      rfl
    · have e : (n == 1 || (Str.mk #[c]).length == 0) = false := by
        rw [beq_eq_false_iff_ne.mpr h1]
        rfl
      rw [e, if_neg Bool.false_ne_true]
      refine Str.ext' ?_
      have all : ∀ (k : Nat) (acc : Array Nat), (List.replicate k (#[c] : Array Nat)).foldl (· ++ ·) acc = acc ++ (List.replicate k c).toArray := by
        intro k
        induction k with
        | zero => intro acc; simp
        | succ k ih =>
          intro acc
          rw [List.replicate_succ, List.foldl_cons, ih, List.replicate_succ]
          apply Array.toList_inj.mp
          simp
      show (List.replicate n.toNat (#[c] : Array Nat)).foldl (· ++ ·) #[] = _
      rw [all]
      simp
theorem op_mul_sign : OpR X (binaryOp .Mult) (fun x y H Q => ∃ (c : Nat) (n : Int), x = .str ⟨#[c]⟩ ∧ y = .int n ∧ (-1000000 ≤ n ∧ n ≤ 1000000) ∧ Q (.str ⟨(List.replicate n.toNat c).toArray⟩) H) := by
  intro pins s σ H x y v u Q I rx ry h
  obtain ⟨c, n, rfl, rfl, ⟨h1, h2⟩, q⟩ := h
  obtain ⟨t, rfl⟩ := rx
  obtain ⟨t2, rfl⟩ := ry
  refine SB.mul (x := ⟨#[c]⟩) ⟨?_, fun h3 _ => ?_, fun h3 _ => ?_⟩ fun t' k => ⟨.str _, H, I.tok _, ⟨t', rfl⟩, by rw [mul_one]; exact q⟩
  · rw [Bool.or_eq_false_iff]
    exact ⟨decide_eq_false (by omega), decide_eq_false (by omega)⟩
  · show ¬ ((1 : Nat) : Int) > (2 ^ 63 - 1) / n
    have : (1 : Int) ≤ (2 ^ 63 - 1) / n := by
      rw [Int.le_ediv_iff_mul_le (by omega)]
      omega
    omega
  · show Builtin.Str.tooLong (1 * n.toNat) = false
    unfold Builtin.Str.tooLong
    exact decide_eq_false (by rw [sizeLine_eq]; omega)
end
end K5
set_option Elab.async false
set_option maxRecDepth 100000
set_option maxHeartbeats 2000000
/-! the promises -/
namespace K5
open PySem PySem.Spec PyProof.Rows L2
def top (i : Nat) : Stmt := PySem.Challenge.pw_bulkload_k05_whole_shown_shortest.main.body.getD i (.Pass ⟨0, 0, 0, 0⟩)
theorem iT {b : Bool} {A B : Prop} (h : b = true) (a : A) : if b = true then A else B := by
  rw [if_pos h]
  exact a
theorem iF {b : Bool} {A B : Prop} (h : b = false) (a : B) : if b = true then A else B := by
  rw [if_neg (by rw [h]; exact Bool.false_ne_true)]
  exact a
abbrev sIsInt : Stmt := top 7
abbrev sIsBtw : Stmt := top 20
abbrev sIsSign : Stmt := top 21
abbrev sIsText : Stmt := top 22
abbrev sChkText : Stmt := top 23
abbrev sBounds : Stmt := top 24
abbrev sWords : Stmt := top 25
abbrev sIsKind : Stmt := top 26
abbrev sChkKind : Stmt := top 27
abbrev sIsValue : Stmt := top 28
abbrev sDigits : Stmt := top 29
abbrev sNumber : Stmt := top 30
abbrev sDaysB : Stmt := top 31
abbrev sDaysIn : Stmt := top 32
abbrev sDayOf : Stmt := top 33
abbrev sFilled : Stmt := top 34
abbrev sDayText : Stmt := top 35
abbrev sDecText : Stmt := top 36
abbrev sConvert : Stmt := top 37
abbrev sShow : Stmt := top 38
abbrev sBegun : Stmt := top 40
abbrev sNext : Stmt := top 41
abbrev sOf : Stmt := top 42
abbrev sKindM : Stmt := top 43
abbrev sValueM : Stmt := top 44
abbrev sBig : Stmt := top 45
abbrev sNumText : Stmt := top 46
abbrev sSameT : Stmt := top 47
abbrev sValueR : Stmt := top 48
abbrev sTextR : Stmt := top 49
abbrev sRefused : Stmt := top 50
abbrev sLaw : Stmt := top 51
/-! ### a def that stands; a def that keeps its promise -/
structure Fd (K : PySem.W.Frag) (mg : Str → Option Value) (nm : Str) (st : Stmt) (ps : List Str) : Prop where
  ex : ∃ f fd dvs, FunD K nm nm (defArgs st) (defBody st) (defScope st) dvs [] f fd ∧ mg nm = some (.ref f) ∧ Binds K fd ps []
structure Df (P : Program) (w : World) (K : PySem.W.Frag) (mg : Str → Option Value) (base : Heap) (CX : CXT) (k : Nat) (nm : Str) (ps : List Str) (sp : Sp) : Prop where
  ex : ∃ f fd, FnOk P w K mg base CX k f fd ps sp ∧ mg nm = some (.ref f) ∧ PySem.W.keepIn K (.ref f) = true ∧ Binds K fd ps []
section
variable {P : Program} {w : World} {K : PySem.W.Frag} {mg : Str → Option Value} {base : Heap}
theorem Fd.ok {nm : Str} {st : Stmt} {N ps : List Str} {k : Nat} {sp : Sp} (F : Fd K mg nm st ps) (S : FnScope N ps (defScope st)) (len : ∀ vs H Q E, sp vs H Q E → vs.length = ps.length)
    (body : ∀ (f : Addr) (cdv : Value) (A : Around) (outer : List Env) (s : Shared) (H : Hp) (vs : List V) (Q : VK) (E : XK), Room k (A.deeper (envOfC nm (defScope st) s.heap.objs.size f cdv)) → sp vs H Q E →
      ∃ t, PSs (cxOf CX0 P w K mg base N nm (defScope st) f cdv A outer s H E).nox (defBody st) t ∧ t { nx := fun _ H' => Q .non H', rt := Q } (start N vs) H) : Df P w K mg base CX0 (k + 1) nm ps sp := by
  obtain ⟨f, fd, dvs, G, hm, hb⟩ := F.ex
  refine ⟨f, fd, G.ok S len (fun cdv A outer s H vs Q E hr hsp => ?_), hm, G.kp, hb⟩
  obtain ⟨t, h, q⟩ := body f cdv A outer s H vs Q E hr hsp
  exact ⟨t, h.nox, q⟩
theorem Fd.okX {nm : Str} {st : Stmt} {N ps : List Str} {k : Nat} {sp : Sp} (F : Fd K mg nm st ps) (S : FnScope N ps (defScope st)) (len : ∀ vs H Q E, sp vs H Q E → vs.length = ps.length)
    (body : ∀ (f : Addr) (cdv : Value) (A : Around) (outer : List Env) (s : Shared) (H : Hp) (vs : List V) (Q : VK) (E : XK), Room k (A.deeper (envOfC nm (defScope st) s.heap.objs.size f cdv)) → sp vs H Q E →
      ∃ t, PSs (cxOf (L2.CX P w) P w K mg base N nm (defScope st) f cdv A outer s H E) (defBody st) t ∧ t { nx := fun _ H' => Q .non H', rt := Q } (start N vs) H) : Df P w K mg base (L2.CX P w) (k + 1) nm ps sp := by
  obtain ⟨f, fd, dvs, G, hm, hb⟩ := F.ex
  exact ⟨f, fd, G.ok S len (body f), hm, G.kp, hb⟩
end
section
variable {X : Cx} {e : Expr} {es : List Expr} {t : TA} {p pos : Pos} {k j : Nat} {nm : Str} {ps : List Str} {sp : Sp}
theorem pe_dX {CX : CXT} {E : L2.St → XK} (D : Df X.prog X.w X.K X.mg X.base CX k nm ps sp) (hr : Room j X.A) (hg : Gl X nm) (hx : ∀ σ, PassesAt CX X σ (E σ)) (hj : k ≤ j) (ha : PA X (e :: es) t) (hdb : (nm == ("__debug__" : Str)) = false := by decide)
    (he : starEach (e :: es) X.env = (false, eval e X.env) :: starEach es X.env := by rfl) (hpl : (backTo pos (starEach es X.env)).any (·.1) = false := by rfl) : PE X (.Call (.Name nm p) (e :: es) [] pos) (tCallS sp E t) := by
  obtain ⟨f, fd, F, hm, hk, hb⟩ := D.ex
  exact pe_callS F (hr.mono hj) hg hm hk hb hx ha hdb he hpl
/-- a def that lets nothing out -/
theorem pe_d0 (D : Df X.prog X.w X.K X.mg X.base CX0 k nm ps sp) (hr : Room j X.A) (hg : Gl X nm) (hj : k ≤ j) (ha : PA X (e :: es) t) (hdb : (nm == ("__debug__" : Str)) = false := by decide)
    (he : starEach (e :: es) X.env = (false, eval e X.env) :: starEach es X.env := by rfl) (hpl : (backTo pos (starEach es X.env)).any (·.1) = false := by rfl) : PE X (.Call (.Name nm p) (e :: es) [] pos) (tCallS sp (fun _ => E0) t) :=
  pe_dX D hr hg (fun σ pins H s e s' I h => pass0 pins σ H s e s' I h) hj ha hdb he hpl
/-- a def that may raise and does not here -/
theorem pe_dL (D : Df X.prog X.w X.K X.mg X.base (L2.CX X.prog X.w) k nm ps sp) (hr : Room j X.A) (hg : Gl X nm) (hj : k ≤ j) (ha : PA X (e :: es) t) (hdb : (nm == ("__debug__" : Str)) = false := by decide)
    (he : starEach (e :: es) X.env = (false, eval e X.env) :: starEach es X.env := by rfl) (hpl : (backTo pos (starEach es X.env)).any (·.1) = false := by rfl) : PE X (.Call (.Name nm p) (e :: es) [] pos) (tCallS sp (fun _ => E0) t) :=
  pe_dX D hr hg (fun σ pins H s e s' I h => passL pins σ H s e s' I h) hj ha hdb he hpl
/-! constants of the top -/
theorem pe_gI {x : Str} {n : Int} (hg : Gl X x) (h : ∃ t, X.mg x = some (.int n t)) (hd : (x == ("__debug__" : Str)) = false := by decide) : PE X (.Name x pos) (tC (.int n)) := by
  obtain ⟨t, h⟩ := h
  exact pe_glob hg h ⟨t, rfl⟩ hd
theorem pe_gS {x n : Str} (hg : Gl X x) (h : ∃ t, X.mg x = some (.str n t)) (hd : (x == ("__debug__" : Str)) = false := by decide) : PE X (.Name x pos) (tC (.str n)) := by
  obtain ⟨t, h⟩ := h
  exact pe_glob hg h ⟨t, rfl⟩ hd
theorem pe_gR {x : Str} {a : Addr} (hg : Gl X x) (h : X.mg x = some (.ref a)) (hd : (x == ("__debug__" : Str)) = false := by decide) : PE X (.Name x pos) (tC (.ref a)) := pe_glob hg h rfl hd
/-- isinstance(e, T), T a built-in type -/
def rIsB (K : PySem.W.Frag) : List V → Hp → VK → Prop := fun xs H Q => ∃ (v : V) (T t : String) (b : Bool), xs = [v, .ty T] ∧ TyX K H v (.type t) ∧ kitB t T = some b ∧ Q (.bl b) H
theorem call_isB : CallR X (.builtin "isinstance") (rIsB X.K) := by
  intro pins s σ H xs us Q I r h
  obtain ⟨v, T, t, b, rfl, ty, hk, q⟩ := h
  exact call_isi pins s σ H _ us Q I r ⟨v, .ty T, .type t, .type T, b, rfl, .ty T, ty, kit_ty hk, q⟩
end
/-! ### things that may be asked for their type -/
def Tk (H : Hp) : V → Prop
  | .non | .bl _ | .int _ | .str _ => True
  | .ref a => (∃ xs, H a = some (.lst xs)) ∨ (∃ xs, H a = some (.tup xs)) ∨ ∃ kv, H a = some (.dK kv)
  | _ => False
def isI : V → Bool
  | .int _ => true
  | _ => false
def isB : V → Bool
  | .bl _ => true
  | _ => false
def isS : V → Bool
  | .str _ => true
  | _ => false
section
variable {K : PySem.W.Frag} {H : Hp} {v : V} {Q : VK}
theorem tk_int (h : Tk H v) (q : Q (.bl (isI v || isB v)) H) : rIsB K [v, .ty "int"] H Q := by
  cases v with
  | non => exact ⟨_, _, "NoneType", false, rfl, .base .non, by decide +kernel, q⟩
  | bl b => exact ⟨_, _, "bool", true, rfl, .base (.bl b), by decide +kernel, q⟩
  | int i => exact ⟨_, _, "int", true, rfl, .base (.int i), by decide +kernel, q⟩
  | str z => exact ⟨_, _, "str", false, rfl, .base (.str z), by decide +kernel, q⟩
  | ref a =>
    rcases (show (∃ xs, H a = some (.lst xs)) ∨ (∃ xs, H a = some (.tup xs)) ∨ ∃ kv, H a = some (.dK kv) from h) with ⟨xs, e⟩ | ⟨xs, e⟩ | ⟨xs, e⟩
    · exact ⟨_, _, "list", false, rfl, .base (.lst e), by decide +kernel, q⟩
    · exact ⟨_, _, "tuple", false, rfl, .base (.tup e), by decide +kernel, q⟩
    · exact ⟨_, _, "dict", false, rfl, .base (.dK e), by decide +kernel, q⟩
  | _ => exact h.elim
theorem tk_bool (h : Tk H v) (q : Q (.bl (isB v)) H) : rIsB K [v, .ty "bool"] H Q := by
  cases v with
  | non => exact ⟨_, _, "NoneType", false, rfl, .base .non, by decide +kernel, q⟩
  | bl b => exact ⟨_, _, "bool", true, rfl, .base (.bl b), by decide +kernel, q⟩
  | int i => exact ⟨_, _, "int", false, rfl, .base (.int i), by decide +kernel, q⟩
  | str z => exact ⟨_, _, "str", false, rfl, .base (.str z), by decide +kernel, q⟩
  | ref a =>
    rcases (show (∃ xs, H a = some (.lst xs)) ∨ (∃ xs, H a = some (.tup xs)) ∨ ∃ kv, H a = some (.dK kv) from h) with ⟨xs, e⟩ | ⟨xs, e⟩ | ⟨xs, e⟩
    · exact ⟨_, _, "list", false, rfl, .base (.lst e), by decide +kernel, q⟩
    · exact ⟨_, _, "tuple", false, rfl, .base (.tup e), by decide +kernel, q⟩
    · exact ⟨_, _, "dict", false, rfl, .base (.dK e), by decide +kernel, q⟩
  | _ => exact h.elim
theorem tk_str (h : Tk H v) (q : Q (.bl (isS v)) H) : rIsB K [v, .ty "str"] H Q := by
  cases v with
  | non => exact ⟨_, _, "NoneType", false, rfl, .base .non, by decide +kernel, q⟩
  | bl b => exact ⟨_, _, "bool", false, rfl, .base (.bl b), by decide +kernel, q⟩
  | int i => exact ⟨_, _, "int", false, rfl, .base (.int i), by decide +kernel, q⟩
  | str z => exact ⟨_, _, "str", true, rfl, .base (.str z), by decide +kernel, q⟩
  | ref a =>
    rcases (show (∃ xs, H a = some (.lst xs)) ∨ (∃ xs, H a = some (.tup xs)) ∨ ∃ kv, H a = some (.dK kv) from h) with ⟨xs, e⟩ | ⟨xs, e⟩ | ⟨xs, e⟩
    · exact ⟨_, _, "list", false, rfl, .base (.lst e), by decide +kernel, q⟩
    · exact ⟨_, _, "tuple", false, rfl, .base (.tup e), by decide +kernel, q⟩
    · exact ⟨_, _, "dict", false, rfl, .base (.dK e), by decide +kernel, q⟩
  | _ => exact h.elim
theorem tup_tup {a : Addr} {xs : List V} (e : H a = some (.tup xs)) (q : Q (.bl true) H) : rIsB K [.ref a, .ty "tuple"] H Q := ⟨_, _, "tuple", true, rfl, .base (.tup e), by decide +kernel, q⟩
end
theorem Tk.same {H H' : Hp} {v : V} (h : Tk H v) (s : Same H H') : Tk H' v := by
  cases v with
  | ref a =>
    rcases (show (∃ xs, H a = some (.lst xs)) ∨ (∃ xs, H a = some (.tup xs)) ∨ ∃ kv, H a = some (.dK kv) from h) with ⟨xs, e⟩ | ⟨xs, e⟩ | ⟨xs, e⟩
    · exact .inl ⟨xs, s _ _ e⟩
    · exact .inr (.inl ⟨xs, s _ _ e⟩)
    · exact .inr (.inr ⟨xs, s _ _ e⟩)
  | _ => exact h
/-! ### kinds and values -/
inductive Kd where
  | int (lo hi : Int)
  | dec (lo hi : Int) (p : Nat)
  | text (n : Int)
  | choice (ws : List Str)
  | truth
  | date
def goodC (c : Nat) : Bool := decide (c = 10) || (decide (32 ≤ c) && decide (c ≤ 126) && decide (c ≠ 37))
def good (z : Str) : Bool := z.cps.toList.all goodC
def Kd.At (H : Hp) (a : Addr) : Kd → Prop
  | .int lo hi => H a = some (.tup [.str "int", .int lo, .int hi])
  | .dec lo hi p => H a = some (.tup [.str "decimal", .int lo, .int hi, .int (p : Nat)])
  | .text n => H a = some (.tup [.str "text", .int n])
  | .choice ws => ∃ b, H a = some (.tup [.str "choice", .ref b]) ∧ H b = some (.tup (ws.map .str))
  | .truth => H a = some (.tup [.str "truth"])
  | .date => H a = some (.tup [.str "date"])
def Kd.Ok : Kd → Prop
  | .int lo hi => -999999999999999999 ≤ lo ∧ lo ≤ hi ∧ hi ≤ 999999999999999999
  | .dec lo hi p => (-999999999999999999 ≤ lo ∧ lo ≤ hi ∧ hi ≤ 999999999999999999) ∧ 1 ≤ p ∧ p ≤ 9
  | .text n => 1 ≤ n ∧ n ≤ 1000
  | .choice ws => 1 ≤ ws.length ∧ ws.length ≤ 20 ∧ ws.Nodup ∧ ∀ x ∈ ws, 1 ≤ x.length ∧ x.length ≤ 20 ∧ good x = true
  | .truth => True
  | .date => True
theorem Kd.At.same {H H' : Hp} {a : Addr} (s : Same H H') : ∀ {k : Kd}, k.At H a → k.At H' a
  | .int _ _, h => s _ _ h
  | .dec _ _ _, h => s _ _ h
  | .text _, h => s _ _ h
  | .choice _, ⟨b, h1, h2⟩ => ⟨b, s _ _ h1, s _ _ h2⟩
  | .truth, h => s _ _ h
  | .date, h => s _ _ h
def btw (v : V) (lo hi : Int) : Bool := match v with
  | .int n => decide (lo ≤ n) && decide (n ≤ hi)
  | _ => false
def txtOk (v : V) (lo hi : Int) : Bool := match v with
  | .str z => decide (lo ≤ (z.length : Int)) && decide ((z.length : Int) ≤ hi) && good z
  | _ => false
def isVal : Kd → V → Bool
  | .int lo hi, v => btw v lo hi
  | .dec lo hi _, v => btw v lo hi
  | .text n, v => txtOk v 0 n
  | .choice ws, .str z => decide (z ∈ ws)
  | .choice _, _ => false
  | .truth, v => isB v
  | .date, v => btw v 1 3652059
def ofL (l : List Nat) : Str := ⟨l.toArray⟩
theorem ofL_len (l : List Nat) : (ofL l).length = l.length := by unfold ofL; exact List.size_toArray ..
/-! dates -/
def leapY (y : Int) : Int := if y % 4 = 0 ∧ (y % 100 > 0 ∨ y % 400 = 0) then 1 else 0
def monL : List Int := [31, 28, 31, 30, 31, 30, 31, 31, 30, 31, 30, 31]
def dim (y : Int) (m : Int) : Int := monL.getD (m - 1).toNat 0 + (if m = 2 then leapY y else 0)
def dbef (y : Int) : Int := 365 * (y - 1) + (y - 1) / 4 - (y - 1) / 100 + (y - 1) / 400
def cum (y : Int) : Nat → Int
  | 0 => 0
  | n + 1 => cum y n + dim y ((n : Nat) + 1)
structure Dt (n y m d : Int) : Prop where
  y1 : 1 ≤ y
  y2 : y ≤ 9999
  m1 : 1 ≤ m
  m2 : m ≤ 12
  d1 : 1 ≤ d
  d2 : d ≤ dim y m
  no : n = dbef y + cum y (m - 1).toNat + d
def dtext (y m d : Int) : Str := ofL (padL 4 y.toNat ++ (45 :: (padL 2 m.toNat ++ (45 :: padL 2 d.toNat))))
/-- the text t shows the value v -/
def Shown : Kd → V → Str → Prop
  | .int _ _, v, t => ∃ n, v = .int n ∧ t = ofL (decL 0 n)
  | .dec _ _ p, v, t => ∃ n, v = .int n ∧ t = ofL (decL p n)
  | .text _, v, t => v = .str t
  | .choice _, v, t => v = .str t
  | .truth, v, t => ∃ b, v = .bl b ∧ t = (if b = true then ("yes" : Str) else "no")
  | .date, v, t => ∃ n y m d, v = .int n ∧ Dt n y m d ∧ t = dtext y m d
def Kd.lo : Kd → Int
  | .int lo _ => lo
  | .dec lo _ _ => lo
  | _ => 0
def Kd.hi : Kd → Int
  | .int _ hi => hi
  | .dec _ hi _ => hi
  | _ => 0
def Kd.pl : Kd → Nat
  | .dec _ _ p => p
  | _ => 0
def Kd.num : Kd → Bool
  | .int _ _ => true
  | .dec _ _ _ => true
  | _ => false
/-! ### the promises -/
def spIsInt : Sp := fun vs H Q _ => ∃ v, vs = [v] ∧ Tk H v ∧ Q (.bl (isI v)) H
def spBetween : Sp := fun vs H Q _ => ∃ v lo hi, vs = [v, .int lo, .int hi] ∧ Tk H v ∧ Q (.bl (btw v lo hi)) H
def spSign : Sp := fun vs H Q _ => ∃ c : Nat, vs = [.str ⟨#[c]⟩] ∧ Q (.bl (goodC c)) H
def spText : Sp := fun vs H Q _ => ∃ v lo hi, vs = [v, .int lo, .int hi] ∧ Tk H v ∧ (∀ z, v = .str z → z.length ≤ 100000) ∧ ∀ H', Same H H' → Q (.bl (txtOk v lo hi)) H'
def spCheckText : Sp := fun vs H Q _ => ∃ z : Str, vs = [.str z] ∧ z.length ≤ 20000 ∧ good z = true ∧ ∀ H', Same H H' → Q .non H'
def spBounds : Sp := fun vs H Q _ => ∃ lo hi : Int, vs = [.int lo, .int hi] ∧ -999999999999999999 ≤ lo ∧ lo ≤ hi ∧ hi ≤ 999999999999999999 ∧ Q (.bl true) H
def spWords : Sp := fun vs H Q _ => ∃ (b : Addr) (ws : List Str), vs = [.ref b] ∧ H b = some (.tup (ws.map .str)) ∧ (Kd.choice ws).Ok ∧ ∀ H', Same H H' → Q (.bl true) H'
def spKind : Sp := fun vs H Q _ => ∃ (a : Addr) (k : Kd), vs = [.ref a] ∧ k.At H a ∧ k.Ok ∧ ∀ H', Same H H' → Q (.bl true) H'
def spCheckKind : Sp := fun vs H Q _ => ∃ (a : Addr) (k : Kd), vs = [.ref a] ∧ k.At H a ∧ k.Ok ∧ ∀ H', Same H H' → Q .non H'
def spValue : Sp := fun vs H Q _ => ∃ (a : Addr) (k : Kd) (v : V), vs = [.ref a, v] ∧ k.At H a ∧ k.Ok ∧ Tk H v ∧ (∀ z, v = .str z → z.length ≤ 100000) ∧ ∀ H', Same H H' → Q (.bl (isVal k v)) H'
def spDigits : Sp := fun vs H Q _ => ∃ z : Str, vs = [.str z] ∧ z.length ≤ 100000 ∧ ∀ H', Same H H' → Q (.bl (digs z.cps.toList)) H'
/-- number_of: CU is Unfit -/
def numRes (CU : Addr) (k : Kd) (t : Str) (H : Hp) (Q : VK) (E : XK) : Prop :=
  (∀ n, parse k.pl t.cps.toList = some n → k.lo ≤ n → n ≤ k.hi → ∀ H', Same H H' → Q (.int n) H') ∧ ∀ d H', Same H H' → E (.ref CU) (some d) H'
def spNumber (CU : Addr) : Sp := fun vs H Q E => ∃ (a : Addr) (k : Kd) (t : Str), vs = [.ref a, .str t] ∧ k.num = true ∧ k.At H a ∧ k.Ok ∧ t.length ≤ 20000 ∧
  (∀ n, parse k.pl t.cps.toList = some n → k.lo ≤ n → n ≤ k.hi → ∀ H', Same H H' → Q (.int n) H') ∧ ((∀ n, parse k.pl t.cps.toList = some n → ¬ (k.lo ≤ n ∧ n ≤ k.hi)) → ∀ d H', Same H H' → E (.ref CU) (some d) H')
def spDaysBefore : Sp := fun vs H Q _ => ∃ y : Int, vs = [.int y] ∧ -100000 ≤ y ∧ y ≤ 100000 ∧ Q (.int (dbef y)) H
def spDaysIn : Sp := fun vs H Q _ => ∃ y m : Int, vs = [.int y, .int m] ∧ 1 ≤ m ∧ m ≤ 12 ∧ Q (.int (dim y m)) H
def spDayOf : Sp := fun vs H Q _ => ∃ n y m d : Int, vs = [.str (dtext y m d)] ∧ Dt n y m d ∧ ∀ H', Same H H' → Q (.int n) H'
def spFilled : Sp := fun vs H Q _ => ∃ n w : Nat, vs = [.int (n : Nat), .int (w : Nat)] ∧ n < 10 ^ 18 ∧ w ≤ 20 ∧ Q (.str (ofL (padL w n))) H
def spDayText : Sp := fun vs H Q _ => ∃ n : Int, vs = [.int n] ∧ 1 ≤ n ∧ n ≤ 3652059 ∧ ∀ y m d, Dt n y m d → Q (.str (dtext y m d)) H
def spDecText : Sp := fun vs H Q _ => ∃ (v : Int) (p : Nat), vs = [.int v, .int (p : Nat)] ∧ v.natAbs < 10 ^ 18 ∧ 1 ≤ p ∧ p ≤ 9 ∧ Q (.str (ofL (decL p v))) H
def spConvert (CU : Addr) : Sp := fun vs H Q E => ∃ (a : Addr) (k : Kd) (t : Str), vs = [.ref a, .str t] ∧ k.At H a ∧ k.Ok ∧ t.length ≤ 20000 ∧ good t = true ∧
  if k.num = true then (∀ n, parse k.pl t.cps.toList = some n → k.lo ≤ n → n ≤ k.hi → ∀ H', Same H H' → Q (.int n) H') ∧ ((∀ n, parse k.pl t.cps.toList = some n → ¬ (k.lo ≤ n ∧ n ≤ k.hi)) → ∀ d H', Same H H' → E (.ref CU) (some d) H')
  else ∃ v, isVal k v = true ∧ Shown k v t ∧ ∀ H', Same H H' → Q v H'
def spShow (CV : Addr) : Sp := fun vs H Q E => ∃ (a : Addr) (k : Kd) (v : V), vs = [.ref a, v] ∧ k.At H a ∧ k.Ok ∧ Tk H v ∧ (∀ z, v = .str z → z.length ≤ 100000) ∧
  (isVal k v = true → ∀ t H', Same H H' → Shown k v t → Q (.str t) H') ∧ (isVal k v = false → ∀ d H', Same H H' → H' d = some (.xd [("value", v)]) → E (.ref CV) (some d) H')
/-! the law's own machine -/
/-- a list that no change of m can reach -/
def SqC (K : PySem.W.Frag) (H : Hp) (m sc : Addr) (xs : List V) : Prop := (Rd H sc (.lst xs) ∧ sc ≠ m) ∨ SqL K (fun _ => none) sc xs
theorem SqC.sq {K : PySem.W.Frag} {H : Hp} {m sc : Addr} {xs : List V} (h : SqC K H m sc xs) : SqL K H sc xs := by
  rcases h with h | h | h
  · exact .inl h.1
  · rcases h with h | ⟨o, h⟩ <;> cases h
  · exact .inr h
theorem SqC.of {K : PySem.W.Frag} {H : Hp} {m sc : Addr} {xs : List V} (h : SqL K H sc xs) (hm : H m = none) : SqC K H m sc xs := by
  rcases h with h | h
  · refine .inl ⟨h, fun q => ?_⟩
    rw [q] at h
    rcases h with h | ⟨o, h⟩ <;> (rw [hm] at h; cases h)
  · exact .inr (.inr h)
theorem SqC.keep {K : PySem.W.Frag} {H H' : Hp} {m sc : Addr} {xs : List V} (h : SqC K H m sc xs) (c : ∀ b o, b ≠ m → H b = some o → H' b = some o) : SqC K H' m sc xs := by
  rcases h with ⟨h, n⟩ | h
  · refine .inl ⟨?_, n⟩
    rcases h with h | ⟨o, h⟩
    · exact .inl (c _ _ n h)
    · exact .inr ⟨o, c _ _ n h⟩
  · exact .inr h
def MAt (K : PySem.W.Frag) (sc : Addr) (H : Hp) (m : Addr) (n : Int) : Prop := ∃ (ns : List Int) (a l : Int), H m = some (.dK [(.inr "cells", .ref sc), (.inr "at", .int a), (.inr "left", .int l)]) ∧ SqC K H m sc (ns.map V.int) ∧ ns.length ≤ 63 ∧ 0 ≤ a ∧ a ≤ n ∧ 0 ≤ l
/-- all but m is kept -/
def Ch (m : Addr) (H H' : Hp) : Prop := ∀ b o, b ≠ m → H b = some o → H' b = some o
theorem Ch.refl {m : Addr} (H : Hp) : Ch m H H := fun _ _ _ h => h
theorem Ch.trans {m : Addr} {H H1 H2 : Hp} (a : Ch m H H1) (b : Ch m H1 H2) : Ch m H H2 := fun c o n h => b c o n (a c o n h)
theorem Ch.of {m : Addr} {H H' : Hp} (s : Same H H') : Ch m H H' := fun b o _ h => s b o h
theorem MAt.same {K : PySem.W.Frag} {sc : Addr} {H H' : Hp} {m : Addr} {n : Int} (h : MAt K sc H m n) (s : Same H H') : MAt K sc H' m n := by
  obtain ⟨ns, a, l, h1, h2, h3⟩ := h
  exact ⟨ns, a, l, s _ _ h1, h2.keep fun b o _ e => s b o e, h3⟩
theorem MAt.up {K : PySem.W.Frag} {sc : Addr} {H : Hp} {m : Addr} {n n' : Int} (h : MAt K sc H m n) (u : n ≤ n') : MAt K sc H m n' := by
  obtain ⟨ns, a, l, h1, h2, h3, h4, h5, h6⟩ := h
  exact ⟨ns, a, l, h1, h2, h3, h4, Int.le_trans h5 u, h6⟩
theorem MAt.ne {K : PySem.W.Frag} {sc : Addr} {H : Hp} {m : Addr} {n : Int} {b : Addr} {xs : List V} (h : MAt K sc H m n) (e : H b = some (.tup xs)) : b ≠ m := by
  obtain ⟨ns, a, l, h1, _⟩ := h
  intro q
  rw [q, h1] at e
  cases e
theorem MAt.neL {K : PySem.W.Frag} {sc : Addr} {H : Hp} {m : Addr} {n : Int} {b : Addr} {xs : List V} (h : MAt K sc H m n) (e : H b = some (.lst xs)) : b ≠ m := by
  obtain ⟨ns, a, l, h1, _⟩ := h
  intro q
  rw [q, h1] at e
  cases e
theorem Kd.At.ch {K : PySem.W.Frag} {sc : Addr} {H H' : Hp} {a m : Addr} {n : Int} (M : MAt K sc H m n) (s : Ch m H H') : ∀ {k : Kd}, k.At H a → k.At H' a
  | .int _ _, h => s _ _ (M.ne h) h
  | .dec _ _ _, h => s _ _ (M.ne h) h
  | .text _, h => s _ _ (M.ne h) h
  | .choice _, ⟨b, h1, h2⟩ => ⟨b, s _ _ (M.ne h1) h1, s _ _ (M.ne h2) h2⟩
  | .truth, h => s _ _ (M.ne h) h
  | .date, h => s _ _ (M.ne h) h
/-- a list, tuple or text whose items are xs -/
def Its (H : Hp) (v : V) (xs : List V) : Prop := (∃ b, v = .ref b ∧ (H b = some (.lst xs) ∨ H b = some (.tup xs))) ∨ ∃ z : Str, v = .str z ∧ xs = z.cps.toList.map (fun c => V.str ⟨#[c]⟩)
def spBegun (K : PySem.W.Frag) (sc : Addr) : Sp := fun vs H Q _ => ∃ (ns : List Int), vs = [.ref sc] ∧ SqL K H sc (ns.map V.int) ∧ ns.length ≤ 63 ∧ ∀ m H', Same H H' → MAt K sc H' m 0 → Q (.ref m) H'
def spNext (K : PySem.W.Frag) (sc : Addr) : Sp := fun vs H Q _ => ∃ (m : Addr) (tot n : Int), vs = [.ref m, .int tot] ∧ 1 ≤ tot ∧ tot ≤ 4000000000000000000 ∧ MAt K sc H m n ∧ n ≤ 1000000000 ∧ ∀ r H', 0 ≤ r → r < tot → Ch m H H' → MAt K sc H' m (n + 1) → Q (.int r) H'
def spOf (K : PySem.W.Frag) (sc : Addr) : Sp := fun vs H Q _ => ∃ (m : Addr) (v : V) (xs : List V) (n : Int), vs = [.ref m, v] ∧ Its H v xs ∧ 1 ≤ xs.length ∧ xs.length ≤ 1000 ∧ MAt K sc H m n ∧ n ≤ 1000000000 ∧ ∀ x H', x ∈ xs → Ch m H H' → MAt K sc H' m (n + 1) → Q x H'
def spKindM (K : PySem.W.Frag) (sc : Addr) : Sp := fun vs H Q _ => ∃ (m : Addr) (n : Int), vs = [.ref m] ∧ MAt K sc H m n ∧ n ≤ 900000000 ∧ ∀ k a H', Kd.Ok k → k.At H' a → Ch m H H' → MAt K sc H' m (n + 50) → Q (.ref a) H'
def spValueM (K : PySem.W.Frag) (sc : Addr) : Sp := fun vs H Q _ => ∃ (m a : Addr) (k : Kd) (n : Int), vs = [.ref m, .ref a] ∧ k.At H a ∧ k.Ok ∧ MAt K sc H m n ∧ n ≤ 900000000 ∧ ∀ v H', isVal k v = true → Ch m H H' → MAt K sc H' m (n + 50) → Q v H'
def spBig (K : PySem.W.Frag) (sc : Addr) : Sp := fun vs H Q _ => ∃ (m : Addr) (n : Int), vs = [.ref m] ∧ MAt K sc H m n ∧ n ≤ 900000000 ∧ ∀ k a H', Kd.num k = true → Kd.Ok k → k.At H' a → Ch m H H' → MAt K sc H' m (n + 50) → Q (.ref a) H'
def spNumText (K : PySem.W.Frag) (sc : Addr) : Sp := fun vs H Q _ => ∃ (m : Addr) (n : Int), vs = [.ref m] ∧ MAt K sc H m n ∧ n ≤ 900000000 ∧ ∀ t H', t.length ≤ 200 → good t = true → Ch m H H' → MAt K sc H' m (n + 50) → Q (.str t) H'
def spSame : Sp := fun vs H Q _ => ∃ (a : Addr) (k : Kd) (v : Int), vs = [.ref a, .str (ofL (decL k.pl v))] ∧ k.num = true ∧ k.At H a ∧ k.Ok ∧ v.natAbs < 10 ^ 18 ∧
  ∀ (L : Addr) (ts : List Str) (H' : Hp), Same H H' → H' L = some (.lst (ts.map .str)) → (∀ u ∈ ts, parse k.pl u.cps.toList = some v ∧ (decL k.pl v).length < u.length ∧ u.length ≤ 200 ∧ good u = true) → ts.length ≤ 10 → Q (.ref L) H'
def spValueRight : Sp := fun vs H Q _ => ∃ (a : Addr) (k : Kd) (v : V), vs = [.ref a, v] ∧ k.At H a ∧ k.Ok ∧ isVal k v = true ∧ ∀ H', Same H H' → Q (.bl true) H'
def spTextRight : Sp := fun vs H Q _ => ∃ (a : Addr) (k : Kd) (t : Str), vs = [.ref a, .str t] ∧ k.num = true ∧ k.At H a ∧ k.Ok ∧ t.length ≤ 200 ∧ good t = true ∧ ∀ H', Same H H' → Q (.bl true) H'
def spRefused (K : PySem.W.Frag) (sc : Addr) : Sp := fun vs H Q _ => ∃ (m a : Addr) (k : Kd) (v : V) (n : Int), vs = [.ref m, .ref a, v] ∧ k.At H a ∧ k.Ok ∧ isVal k v = true ∧ MAt K sc H m n ∧ n ≤ 900000000 ∧ ∀ H', Ch m H H' → MAt K sc H' m (n + 50) → Q (.bl true) H'
def spLaw (K : PySem.W.Frag) : Sp := fun vs H Q _ => ∃ (a : Addr) (ns : List Int), vs = [.ref a] ∧ SqL K H a (ns.map V.int) ∧ ns.length ≤ 63 ∧ ∀ H', Q (.bl true) H'
/-! ### what the top's names are -/
theorem bo_isinstance : bootBuiltins "isinstance" = some (.builtin "isinstance") := by decide +kernel
theorem bo_int : bootBuiltins "int" = some (.type "int") := by decide +kernel
theorem bo_bool : bootBuiltins "bool" = some (.type "bool") := by decide +kernel
theorem bo_str : bootBuiltins "str" = some (.type "str") := by decide +kernel
theorem bo_tuple : bootBuiltins "tuple" = some (.type "tuple") := by decide +kernel
theorem bo_len : bootBuiltins "len" = some (.builtin "len") := by decide +kernel
theorem bo_ord : bootBuiltins "ord" = some (.builtin "ord") := by decide +kernel
theorem bo_all : bootBuiltins "all" = some (.builtin "all") := by decide +kernel
theorem bo_sum : bootBuiltins "sum" = some (.builtin "sum") := by decide +kernel
theorem bo_sorted : bootBuiltins "sorted" = some (.builtin "sorted") := by decide +kernel
theorem bo_max : bootBuiltins "max" = some (.builtin "max") := by decide +kernel
theorem bo_min : bootBuiltins "min" = some (.builtin "min") := by decide +kernel
theorem bo_repr : bootBuiltins "repr" = some (.builtin "repr") := by decide +kernel
structure Blt (mg : Str → Option Value) : Prop where
  isinstance_ : mg "isinstance" = none
  int_ : mg "int" = none
  bool_ : mg "bool" = none
  str_ : mg "str" = none
  tuple_ : mg "tuple" = none
  len_ : mg "len" = none
  ord_ : mg "ord" = none
  all_ : mg "all" = none
  sum_ : mg "sum" = none
  sorted_ : mg "sorted" = none
  max_ : mg "max" = none
  min_ : mg "min" = none
  range_ : mg "range" = none
  enumerate_ : mg "enumerate" = none
  repr_ : mg "repr" = none
  MOST_DIGITS : ∃ t, mg "MOST_DIGITS" = some (.int 18 t)
  MOST_NUMBER : ∃ t, mg "MOST_NUMBER" = some (.int 999999999999999999 t)
  MOST_PLACES : ∃ t, mg "MOST_PLACES" = some (.int 9 t)
  MOST_LETTERS : ∃ t, mg "MOST_LETTERS" = some (.int 1000 t)
  MOST_WORDS : ∃ t, mg "MOST_WORDS" = some (.int 20 t)
  MOST_WORD : ∃ t, mg "MOST_WORD" = some (.int 20 t)
  MOST_TEXT : ∃ t, mg "MOST_TEXT" = some (.int 20000 t)
  BARRED : ∃ t, mg "BARRED" = some (.int 37 t)
  LAST_DAY : ∃ t, mg "LAST_DAY" = some (.int 3652059 t)
  DIGITS : ∃ t, mg "DIGITS" = some (.str "0123456789" t)
structure Mon (K : PySem.W.Frag) (mg : Str → Option Value) (aM : Addr) : Prop where
  g : mg "MONTHS" = some (.ref aM)
  s : ∀ H : Hp, SqT K H aM (monL.map V.int)
end K5
set_option Elab.async false
set_option maxRecDepth 100000
set_option maxHeartbeats 2000000
/-! the small tests: is_integer, is_between, is_sign, is_text, check_text, are_bounds, check_kind, are_digits -/
namespace K5
open PySem PySem.Spec PyProof.Rows L2
section
variable {P : Program} {w : World} {K : PySem.W.Frag} {mg : Str → Option Value} {base : Heap}
theorem sc_IsInt : FnScope ["value"] ["value"] (defScope sIsInt) := ⟨rfl, rfl, rfl, by decide +kernel, rfl, by decide +kernel, by decide +kernel⟩
theorem ok_is_integer (B : Blt mg) (F : Fd K mg "is_integer" sIsInt ["value"])  : Df P w K mg base CX0 1 "is_integer" ["value"] spIsInt := by
  refine F.ok sc_IsInt (fun vs H Q E h => ?_) (fun f cdv A outer s H vs Q E hr h => ?_)
  · obtain ⟨v, rfl, _⟩ := h
    rfl
  · obtain ⟨v, rfl, ht, k⟩ := h
    have sc := sc_IsInt
    refine ⟨_, (pss_one (ps_ret (pe_and (pe_callB call_isB rfl B.isinstance_ bo_isinstance (pa_cons (pv 0) (pa_cons (pe_bltn (v := .ty "int") rfl B.int_ bo_int rfl) pa_nil))) (pe_one (pe_not (pe_callB call_isB rfl B.isinstance_ bo_isinstance (pa_cons (pv 0) (pa_cons (pe_bltn (v := .ty "bool") rfl B.bool_ bo_bool rfl) pa_nil)))))))), ?_⟩
    dsimp only [tRet, tAndV, tOrV, tNotV, tNot, tAnd, tOr, tCB, tCons, tNil, tC, tVar, tOp, tUn, tTest, tB, tIfS, tSeq, tNext, tDrop, tAsg, gName, tIf, tChain, tCallS, tTup, tLst, rI0, rI, rU, rEq, rNe, tSl, tPart, tNoPart, rIxT, rIxS, rSlS, rIn, tIf, tPar, tM1, tMkSup, tDGet, sDPut, rIxL, tDisp, tPairs, rIx]
    refine ⟨_, rfl, tk_int ht ⟨_, rfl, ?_⟩⟩
    split
    · refine ⟨_, rfl, tk_bool ht ⟨_, rfl, ?_⟩⟩
      cases v <;> first | exact k | contradiction
    · cases v <;> first | exact k | contradiction
theorem sc_IsBtw : FnScope ["value", "least", "most"] ["value", "least", "most"] (defScope sIsBtw) := ⟨rfl, rfl, rfl, by decide +kernel, rfl, by decide +kernel, by decide +kernel⟩
theorem ok_is_between (B : Blt mg) (F : Fd K mg "is_between" sIsBtw ["value", "least", "most"]) (d_is_integer : Df P w K mg base CX0 1 "is_integer" ["value"] spIsInt) : Df P w K mg base CX0 2 "is_between" ["value", "least", "most"] spBetween := by
  refine F.ok sc_IsBtw (fun vs H Q E h => ?_) (fun f cdv A outer s H vs Q E hr h => ?_)
  · obtain ⟨v, lo, hi, rfl, _⟩ := h
    rfl
  · obtain ⟨v, lo, hi, rfl, ht, k⟩ := h
    have sc := sc_IsBtw
    refine ⟨_, (pss_one (ps_ret (pe_and (pe_d0 d_is_integer hr rfl (by decide) (pa_cons (pv 0) pa_nil)) (pe_one (pe_chain op_le op_le (pv 1) (pv 0) (pv 2)))))), ?_⟩
    dsimp only [tRet, tAndV, tOrV, tNotV, tNot, tAnd, tOr, tCB, tCons, tNil, tC, tVar, tOp, tUn, tTest, tB, tIfS, tSeq, tNext, tDrop, tAsg, gName, tIf, tChain, tCallS, tTup, tLst, rI0, rI, rU, rEq, rNe, tSl, tPart, tNoPart, rIxT, rIxS, rSlS, rIn, tIf, tPar, tM1, tMkSup, tDGet, sDPut, rIxL, tDisp, tPairs, rIx]
    refine ⟨_, rfl, _, rfl, ht, _, rfl, ?_⟩
    cases v with
    | int n =>
      refine ⟨_, rfl, _, rfl, _, _, rfl, rfl, _, rfl, ?_⟩
      by_cases h1 : lo ≤ n
      · rw [decide_eq_true h1]
        refine ⟨_, rfl, _, _, rfl, rfl, ?_⟩
        have : btw (.int n) lo hi = decide (n ≤ hi) := by unfold btw; simp [h1]
        rw [← this]
        exact k
      · rw [decide_eq_false h1]
        have : btw (.int n) lo hi = false := by unfold btw; simp [h1]
        rw [this] at k
        exact k
    | _ => exact k
theorem sc_IsSign : FnScope ["sign"] ["sign"] (defScope sIsSign) := ⟨rfl, rfl, rfl, by decide +kernel, rfl, by decide +kernel, by decide +kernel⟩
theorem code_lt (a c : Nat) : (!decide ([c] < [a])) = decide (a ≤ c) := by
  by_cases h : a ≤ c
  · rw [decide_eq_true h]
    simp only [Bool.not_eq_true', decide_eq_false_iff_not, List.cons_lt_cons_iff, not_or]
    exact ⟨by omega, fun z => by simp at z⟩
  · rw [decide_eq_false h]
    simp only [Bool.not_eq_false', decide_eq_true_eq, List.cons_lt_cons_iff]
    exact .inl (by omega)
theorem ok_is_sign (B : Blt mg) (F : Fd K mg "is_sign" sIsSign ["sign"])  : Df P w K mg base CX0 1 "is_sign" ["sign"] spSign := by
  refine F.ok sc_IsSign (fun vs H Q E h => ?_) (fun f cdv A outer s H vs Q E hr h => ?_)
  · obtain ⟨c, rfl, _⟩ := h
    rfl
  · obtain ⟨c, rfl, k⟩ := h
    have sc := sc_IsSign
    refine ⟨_, (pss_one (ps_ret (pe_or (pe_cmpR op_eq (pv 0) pe_str (nomark _)) (pe_one (pe_and (pe_chain op_le_str op_le_str pe_str (pv 0) pe_str) (pe_one (pe_cmpR op_ne (pe_callB call_ord rfl B.ord_ bo_ord (pa_cons (pv 0) pa_nil)) (pe_gI rfl B.BARRED) (nomark _)))))))), ?_⟩
    dsimp only [tRet, tAndV, tOrV, tNotV, tNot, tAnd, tOr, tCB, tCons, tNil, tC, tVar, tOp, tUn, tTest, tB, tIfS, tSeq, tNext, tDrop, tAsg, gName, tIf, tChain, tCallS, tTup, tLst, rI0, rI, rU, rEq, rNe, tSl, tPart, tNoPart, rIxT, rIxS, rSlS, rIn, tIf, tPar, tM1, tMkSup, tDGet, sDPut, rIxL, tDisp, tPairs, rIx]
    refine ⟨_, rfl, rfl, _, rfl, ?_⟩
    have e10 : decide (V.str ⟨#[c]⟩ = V.str "\n") = decide (c = 10) := by
      rw [dec_str, Bool.eq_iff_iff]
      simp only [beq_iff_eq, decide_eq_true_eq]
      constructor
      · intro z
        have := congrArg Str.cps z
        have h2 : (#[c] : Array Nat) = #[10] := this
        simpa using h2
      · rintro rfl
        rfl
    rw [e10]
    by_cases h1 : c = 10
    · subst h1
      exact k
    · rw [decide_eq_false h1]
      refine ⟨_, rfl, _, _, rfl, rfl, _, rfl, ?_⟩
      have e2 : (!decide ((⟨#[c]⟩ : Str).cps.toList < (" " : Str).cps.toList)) = decide (32 ≤ c) := code_lt 32 c
      rw [e2]
      by_cases h2 : 32 ≤ c
      · rw [decide_eq_true h2]
        refine ⟨_, _, rfl, rfl, ?_⟩
        have e3 : (!decide (("~" : Str).cps.toList < (⟨#[c]⟩ : Str).cps.toList)) = decide (c ≤ 126) := code_lt c 126
        rw [e3]
        by_cases h3 : c ≤ 126
        · rw [decide_eq_true h3]
          refine ⟨true, rfl, _, rfl, _, rfl, rfl, rfl, ?_⟩
          have e4 : (!decide (V.int ((((⟨#[c]⟩ : Str).cps.getD 0 0 : Nat)) : Int) = V.int 37)) = goodC c := by
            unfold goodC
            show (!decide (V.int (c : Int) = V.int 37)) = _
            rw [decide_eq_false h1, decide_eq_true h2, decide_eq_true h3, dec_int]
            by_cases h4 : c = 37
            · subst h4
              rfl
            · rw [decide_eq_true (show c ≠ 37 from h4)]
              have : ((c : Int) == 37) = false := by rw [beq_eq_false_iff_ne]; omega
              rw [this]
              rfl
          rw [e4]
          exact k
        · rw [decide_eq_false h3]
          have : goodC c = false := by unfold goodC; simp [h1, h2, h3]
          rw [this] at k
          exact ⟨false, rfl, k⟩
      · rw [decide_eq_false h2]
        have : goodC c = false := by unfold goodC; simp [h1, h2]
        rw [this] at k
        exact ⟨false, rfl, k⟩
/-- [f(c) for c in text], f by p -/
theorem lc_text {z : Str} {te : TE} {i j : Nat} {σ : L2.St} {H : Hp} {Q : VK} (p : Nat → Bool) (hi : σ[i]? = some (some (.str z))) (hj : j < σ.length) (hz : z.length ≤ 100000)
    (hte : ∀ c σ' H' Q', c ∈ z.cps.toList → σ'[j]? = some (some (.str ⟨#[c]⟩)) → Q' (.bl (p c)) H' → te σ' H' Q')
    (k : ∀ H' L, Same H H' → H' L = some (.lst ((z.cps.toList.map p).map V.bl)) → Q (.ref L) H') : tLc (iStr (tVar i)) (gName j) tYes te [j] σ H Q := by
  refine ⟨_, hi, z, rfl, fun D hD => ?_⟩
  refine lc_it walk_str (fun i' H' => Same H H' ∧ H' D = some (.lst (((z.cps.toList.take i').map p).map V.bl))) ⟨fun b o e => ?_, upd_same⟩ (fun _ _ _ _ => trivial) ?_ ?_
  · rw [upd_ne (ne_of_none e hD)]
    exact e
  · rintro i' x H1 H1' hi' ⟨s1, hD1⟩ ⟨rfl, c, hc, rfl⟩
    have hlen : (wipe σ [j]).length = σ.length := wipe_length _ _
    have hc' : z.cps.toList[i']? = some c := by simpa using hc
    have hm : c ∈ z.cps.toList := List.mem_of_getElem? hc'
    refine ⟨?_, ?_⟩
    · show ((wipe σ [j]).set j _).set j none = wipe σ [j]
      show (((wipe σ []).set j none).set j _).set j none = (wipe σ []).set j none
      rw [List.set_set, List.set_set]
    · dsimp only [tYes]
      rw [if_pos rfl]
      refine hte c _ _ _ hm ?_ ⟨_, hD1, ?_, ?_, ?_⟩
      · rw [List.getElem?_set_self (by rw [hlen]; exact hj)]
      · rw [List.length_map, List.length_map, List.length_take, sizeLine_eq]
        have : z.cps.toList.length = z.length := by simp [Str.length]
        omega
      · intro b o e
        have : b ≠ D := fun q => by
          rw [q, hD] at e
          cases e
        exact (upd_ne this).trans (s1 _ _ e)
      · rw [upd_same]
        have : z.cps.toList.take (i' + 1) = z.cps.toList.take i' ++ [c] := by
          rw [List.take_succ, hc']
          rfl
        rw [this]
        simp
  · rintro H1 ⟨s1, hD1⟩
    refine k H1 D s1 ?_
    have : z.cps.toList.take z.cps.size = z.cps.toList := by
      apply List.take_of_length_le
      simp
    rw [hD1, this]
theorem all_map {l : List Nat} {p : Nat → Bool} : ((l.map p).all id) = l.all p := by
  rw [List.all_map]
  rfl
theorem sc_IsText : FnScope ["value", "least", "most", "sign"] ["value", "least", "most"] (defScope sIsText) := ⟨rfl, rfl, rfl, by decide +kernel, rfl, by decide +kernel, by decide +kernel⟩
theorem ok_is_text (B : Blt mg) (F : Fd K mg "is_text" sIsText ["value", "least", "most"]) (d_is_sign : Df P w K mg base CX0 1 "is_sign" ["sign"] spSign) : Df P w K mg base CX0 2 "is_text" ["value", "least", "most"] spText := by
  refine F.ok sc_IsText (fun vs H Q E h => ?_) (fun f cdv A outer s H vs Q E hr h => ?_)
  · obtain ⟨v, lo, hi, rfl, _⟩ := h
    rfl
  · obtain ⟨v, lo, hi, rfl, ht, hz, k⟩ := h
    have sc := sc_IsText
    refine ⟨_, (pss_one (ps_ret (pe_and (pe_callB call_isB rfl B.isinstance_ bo_isinstance (pa_cons (pv 0) (pa_cons (pe_bltn (v := .ty "str") rfl B.str_ bo_str rfl) pa_nil))) (pe_and (pe_chain op_le op_le (pv 1) (pe_callB call_len rfl B.len_ bo_len (pa_cons (pv 0) pa_nil)) (pv 2)) (pe_one (pe_callB (cr_all rfl) rfl B.all_ bo_all (pa_cons (pe_lc (own := [("sign", 3)]) (tt := tYes) rfl sc.nd (pi_str (pv 0)) (blkOk_by (N := ["value", "least", "most", "sign"]) (sc := defScope sIsText) (by decide +kernel)) (fun _ _ _ _ _ => (pg_name (i := 3) sc.nd rfl (Or.inl rfl))) (fun _ _ _ _ _ => pts_nil) (fun _ _ _ _ _ => (pe_d0 d_is_sign hr rfl (by decide) (pa_cons (pv 3) pa_nil)))) pa_nil))))))), ?_⟩
    dsimp only [tRet, tAndV, tOrV, tNotV, tNot, tAnd, tOr, tCB, tCons, tNil, tC, tVar, tOp, tUn, tTest, tB, tIfS, tSeq, tNext, tDrop, tAsg, gName, tIf, tChain, tCallS, tTup, tLst, rI0, rI, rU, rEq, rNe, tSl, tPart, tNoPart, rIxT, rIxS, rSlS, rIn, tIf, tPar, tM1, tMkSup, tDGet, sDPut, rIxL, tDisp, tPairs, rIx]
    refine ⟨_, rfl, tk_str ht ⟨_, rfl, ?_⟩⟩
    cases v with
    | str z =>
      have hz := hz z rfl
      have hs : z.length ≤ sizeLine := by rw [sizeLine_eq]; omega
      refine ⟨_, rfl, _, rfl, _, _, rfl, ⟨hs, rfl⟩, _, _, rfl, rfl, _, rfl, ?_⟩
      by_cases h1 : lo ≤ (z.length : Int)
      · rw [decide_eq_true h1]
        refine ⟨_, rfl, _, _, rfl, rfl, _, rfl, ?_⟩
        by_cases h2 : (z.length : Int) ≤ hi
        · rw [decide_eq_true h2]
          refine iT rfl ?_
          refine lc_text (i := 0) (j := 3) goodC rfl (by show 3 < 4; decide) hz (fun c σ' H' Q' _ hc q => ⟨_, hc, c, rfl, q⟩) fun H' L s1 hL => ⟨_, _, rfl, SqL.of hL, ?_⟩
          have e : txtOk (.str z) lo hi = (z.cps.toList.map goodC).all id := by
            rw [all_map]
            unfold txtOk good
            simp [h1, h2]
          rw [← e]
          exact k _ s1
        · rw [decide_eq_false h2]
          have e : txtOk (.str z) lo hi = false := by
            unfold txtOk
            simp [h2]
          rw [e] at k
          exact k _ (Same.refl _)
      · rw [decide_eq_false h1]
        have e : txtOk (.str z) lo hi = false := by
          unfold txtOk
          simp [h1]
        rw [e] at k
        exact ⟨_, rfl, k _ (Same.refl _)⟩
    | _ => exact k _ (Same.refl _)
theorem sc_Digits : FnScope ["text", "sign"] ["text"] (defScope sDigits) := ⟨rfl, rfl, rfl, by decide +kernel, rfl, by decide +kernel, by decide +kernel⟩
theorem sign_eq {c : Nat} : decide (c ∈ ("0123456789" : Str).cps.toList) = decide (48 ≤ c ∧ c ≤ 57) := by
  show decide (c ∈ [48, 49, 50, 51, 52, 53, 54, 55, 56, 57]) = _
  rw [Bool.eq_iff_iff, decide_eq_true_eq, decide_eq_true_eq]
  simp only [List.mem_cons, List.not_mem_nil, or_false]
  omega
theorem ok_are_digits (B : Blt mg) (F : Fd K mg "are_digits" sDigits ["text"])  : Df P w K mg base CX0 1 "are_digits" ["text"] spDigits := by
  refine F.ok sc_Digits (fun vs H Q E h => ?_) (fun f cdv A outer s H vs Q E hr h => ?_)
  · obtain ⟨v, rfl, _⟩ := h
    rfl
  · obtain ⟨z, rfl, hz, k⟩ := h
    have sc := sc_Digits
    refine ⟨_, (pss_one (ps_ret (pe_and (pe_cmpR op_ne (pv 0) pe_str (nomark _)) (pe_one (pe_callB (cr_all rfl) rfl B.all_ bo_all (pa_cons (pe_lc (own := [("sign", 1)]) (tt := tYes) rfl sc.nd (pi_str (pv 0)) (blkOk_by (N := ["text", "sign"]) (sc := defScope sDigits) (by decide +kernel)) (fun _ _ _ _ _ => (pg_name (i := 1) sc.nd rfl (Or.inl rfl))) (fun _ _ _ _ _ => pts_nil) (fun _ _ _ _ _ => (pe_cmpR op_in_sign (pv 1) (pe_gS rfl B.DIGITS) (by with_unfolding_all rfl)))) pa_nil)))))), ?_⟩
    dsimp only [tRet, tAndV, tOrV, tNotV, tNot, tAnd, tOr, tCB, tCons, tNil, tC, tVar, tOp, tUn, tTest, tB, tIfS, tSeq, tNext, tDrop, tAsg, gName, tIf, tChain, tCallS, tTup, tLst, rI0, rI, rU, rEq, rNe, tSl, tPart, tNoPart, rIxT, rIxS, rSlS, rIn, tIf, tPar, tM1, tMkSup, tDGet, sDPut, rIxL, tDisp, tPairs, rIx]
    refine ⟨_, rfl, rfl, _, rfl, ?_⟩
    rw [dec_str]
    by_cases h1 : z = ("" : Str)
    · subst h1
      have e : digs (("" : Str).cps.toList) = false := rfl
      rw [e] at k
      exact k _ (Same.refl _)
    · have e0 : (z == ("" : Str)) = false := by rw [beq_eq_false_iff_ne]; exact h1
      rw [e0]
      refine iT rfl ?_
      refine lc_text (i := 0) (j := 1) (fun c => decide (48 ≤ c ∧ c ≤ 57)) rfl (by show 1 < 2; decide) hz (fun c σ' H' Q' _ hc q => ⟨_, hc, c, _, rfl, rfl, by rw [sign_eq]; exact q⟩) fun H' L s1 hL => ⟨_, _, rfl, SqL.of hL, ?_⟩
      have e : digs z.cps.toList = (z.cps.toList.map fun c => decide (48 ≤ c ∧ c ≤ 57)).all id := by
        rw [all_map]
        unfold digs
        have : z.cps.toList ≠ [] := fun q => h1 (Str.ext' (show z.cps = #[] by simpa using q))
        rw [decide_eq_true this, Bool.true_and]
      rw [← e]
      exact k _ s1
theorem sc_ChkKind : FnScope ["value"] ["value"] (defScope sChkKind) := ⟨rfl, rfl, rfl, by decide +kernel, rfl, by decide +kernel, by decide +kernel⟩
theorem ok_check_kind (B : Blt mg) (F : Fd K mg "check_kind" sChkKind ["value"]) (d_is_kind : Df P w K mg base CX0 4 "is_kind" ["value"] spKind) : Df P w K mg base CX0 5 "check_kind" ["value"] spCheckKind := by
  refine F.ok sc_ChkKind (fun vs H Q E h => ?_) (fun f cdv A outer s H vs Q E hr h => ?_)
  · obtain ⟨a, kd, rfl, _⟩ := h
    rfl
  · obtain ⟨a, kd, rfl, hk, ho, k⟩ := h
    have sc := sc_ChkKind
    refine ⟨_, (pss_one (ps_if (pt_not (pt_val (pe_d0 d_is_kind hr rfl (by decide) (pa_cons (pv 0) pa_nil)))) (pss_one ps_never) pss_nil)), ?_⟩
    dsimp only [tRet, tAndV, tOrV, tNotV, tNot, tAnd, tOr, tCB, tCons, tNil, tC, tVar, tOp, tUn, tTest, tB, tIfS, tSeq, tNext, tDrop, tAsg, gName, tIf, tChain, tCallS, tTup, tLst, rI0, rI, rU, rEq, rNe, tSl, tPart, tNoPart, rIxT, rIxS, rSlS, rIn, tIf, tPar, tM1, tMkSup, tDGet, sDPut, rIxL, tDisp, tPairs, rIx]
    exact ⟨_, rfl, a, kd, rfl, hk, ho, fun H' s1 => ⟨_, rfl, k H' s1⟩⟩
theorem sc_Bounds : FnScope ["low", "high"] ["low", "high"] (defScope sBounds) := ⟨rfl, rfl, rfl, by decide +kernel, rfl, by decide +kernel, by decide +kernel⟩
theorem ok_are_bounds (B : Blt mg) (F : Fd K mg "are_bounds" sBounds ["low", "high"]) (d_is_between : Df P w K mg base CX0 2 "is_between" ["value", "least", "most"] spBetween) : Df P w K mg base CX0 3 "are_bounds" ["low", "high"] spBounds := by
  refine F.ok sc_Bounds (fun vs H Q E h => ?_) (fun f cdv A outer s H vs Q E hr h => ?_)
  · obtain ⟨a, kd, rfl, _⟩ := h
    rfl
  · obtain ⟨lo, hi, rfl, h1, h2, h3, k⟩ := h
    have sc := sc_Bounds
    refine ⟨_, (pss_one (ps_ret (pe_and (pe_d0 d_is_between hr rfl (by decide) (pa_cons (pv 0) (pa_cons (pe_un un_neg (pe_gI rfl B.MOST_NUMBER)) (pa_cons (pe_gI rfl B.MOST_NUMBER) pa_nil)))) (pe_one (pe_d0 d_is_between hr rfl (by decide) (pa_cons (pv 1) (pa_cons (pv 0) (pa_cons (pe_gI rfl B.MOST_NUMBER) pa_nil)))))))), ?_⟩
    dsimp only [tRet, tAndV, tOrV, tNotV, tNot, tAnd, tOr, tCB, tCons, tNil, tC, tVar, tOp, tUn, tTest, tB, tIfS, tSeq, tNext, tDrop, tAsg, gName, tIf, tChain, tCallS, tTup, tLst, rI0, rI, rU, rEq, rNe, tSl, tPart, tNoPart, rIxT, rIxS, rSlS, rIn, tIf, tPar, tM1, tMkSup, tDGet, sDPut, rIxL, tDisp, tPairs, rIx]
    have e1 : btw (.int lo) (-999999999999999999) 999999999999999999 = true := by
      unfold btw
      simp only [Bool.and_eq_true, decide_eq_true_eq]
      omega
    have e2 : btw (.int hi) lo 999999999999999999 = true := by
      unfold btw
      simp only [Bool.and_eq_true, decide_eq_true_eq]
      omega
    refine ⟨_, rfl, _, rfl, _, _, _, rfl, trivial, _, rfl, ?_⟩
    rw [e1]
    refine ⟨_, rfl, _, rfl, _, _, _, rfl, trivial, ?_⟩
    rw [e2]
    exact k
theorem walk_enumS {z : Str} : Walk (IteS z) z.cps.size (fun _ => True) (fun i H v H' => ∃ T c, v = .ref T ∧ H T = none ∧ H' = upd H T (.tup [.int (i : Nat), .str ⟨#[c]⟩]) ∧ z.cps[i]? = some c) :=
  ⟨fun _ _ hi _ => hi, fun _ _ => rfl, fun _ _ _ _ _ _ y => y⟩
theorem sc_ChkText : FnScope ["value", "index", "sign"] ["value"] (defScope sChkText) := ⟨rfl, rfl, rfl, by decide +kernel, rfl, by decide +kernel, by decide +kernel⟩
theorem ok_check_text (B : Blt mg) (F : Fd K mg "check_text" sChkText ["value"]) (d_is_sign : Df P w K mg base CX0 1 "is_sign" ["sign"] spSign) : Df P w K mg base CX0 2 "check_text" ["value"] spCheckText := by
  refine F.ok sc_ChkText (fun vs H Q E h => ?_) (fun f cdv A outer s H vs Q E hr h => ?_)
  · obtain ⟨a, rfl, _⟩ := h
    rfl
  · obtain ⟨z, rfl, hz, hg, k⟩ := h
    have sc := sc_ChkText
    refine ⟨_, (pss_cons (ps_if (pt_not (pt_val (pe_callB call_isB rfl B.isinstance_ bo_isinstance (pa_cons (pv 0) (pa_cons (pe_bltn (v := .ty "str") rfl B.str_ bo_str rfl) pa_nil))))) (pss_one ps_never) pss_nil)
      (pss_one (ps_for PassesOwn.never rfl (pi_enumS rfl B.enumerate_ (pa_cons (pv 0) pa_nil)) (pg_tup rfl (pgs_cons (pg_name (i := 1) sc.nd rfl (Or.inl rfl)) (pgs_cons (pg_name (i := 2) sc.nd rfl (Or.inl rfl)) pgs_nil))) (pss_one (ps_if (PW.pt (pw_or (pt_cmpR op_eq (pv 1) (pe_gI rfl B.MOST_TEXT) (nomark _)) (pw_or1 (pt_not (pt_val (pe_d0 d_is_sign hr rfl (by decide) (pa_cons (pv 2) pa_nil))))))) (pss_one ps_never) pss_nil))))), ?_⟩
    dsimp only [tRet, tAndV, tOrV, tNotV, tNot, tAnd, tOr, tCB, tCons, tNil, tC, tVar, tOp, tUn, tTest, tB, tIfS, tSeq, tNext, tDrop, tAsg, gName, tIf, tChain, tCallS, tTup, tLst, rI0, rI, rU, rEq, rNe, tSl, tPart, tNoPart, rIxT, rIxS, rSlS, rIn, tIf, tPar, tM1, tMkSup, tDGet, sDPut, rIxL, tDisp, tPairs, rIx]
    refine ⟨_, rfl, tk_str trivial ⟨_, rfl, ?_⟩⟩
    refine iF rfl ?_
    refine ⟨_, rfl, z, rfl, ?_⟩
    refine for_it walk_enumS (fun i σ H' => Same H H' ∧ ∃ b c, σ = [some (.str z), b, c]) ⟨Same.refl _, none, none, rfl⟩ (fun _ _ _ _ _ => trivial) ?_ ?_
    · rintro i x σ H1 H1' hi ⟨s1, b, c, rfl⟩ ⟨T, d, rfl, hT, rfl, hd⟩
      have hd' : z.cps.toList[i]? = some d := by simpa using hd
      have gd : goodC d = true := List.all_eq_true.mp hg d (List.mem_of_getElem? hd')
      have li : i < 20000 := by
        have : z.cps.size = z.length := rfl
        omega
      refine ⟨T, _, rfl, SqT.of upd_same, rfl, _, _, rfl, _, _, rfl, rfl, ?_⟩
      dsimp only [tRet, tAndV, tOrV, tNotV, tNot, tAnd, tOr, tCB, tCons, tNil, tC, tVar, tOp, tUn, tTest, tB, tIfS, tSeq, tNext, tDrop, tAsg, gName, tIf, tChain, tCallS, tTup, tLst, rI0, rI, rU, rEq, rNe, tSl, tPart, tNoPart, rIxT, rIxS, rSlS, rIn, tIf, tPar, tM1, tMkSup, tDGet, sDPut, rIxL, tDisp, tPairs, rIx]
      refine ⟨_, rfl, rfl, _, rfl, ?_⟩
      have ne : decide (V.int (i : Int) = V.int 20000) = false := by
        rw [dec_int, beq_eq_false_iff_ne]
        omega
      rw [ne]
      refine ⟨_, rfl, d, rfl, _, rfl, ?_⟩
      rw [gd]
      refine ⟨s1.trans fun b o e => ?_, _, _, rfl⟩
      exact (upd_ne (ne_of_none e hT)).trans e
    · rintro σ H1 ⟨s1, _⟩
      exact k _ s1
end
end K5
set_option Elab.async false
set_option maxRecDepth 100000
set_option maxHeartbeats 2000000
/-! are_words, is_kind, is_value -/
namespace K5
open PySem PySem.Spec PyProof.Rows L2
section
variable {P : Program} {w : World} {K : PySem.W.Frag} {mg : Str → Option Value} {base : Heap}
theorem good_ok {z : Str} (h : good z = true) : PyData.strOk z = true := by
  have h' : z.cps.toList.all goodC = true := h
  unfold PyData.strOk
  rw [← Array.all_toList, List.all_eq_true]
  intro c hc
  have g := List.all_eq_true.mp h' c hc
  unfold goodC at g
  simp only [Bool.or_eq_true, Bool.and_eq_true, decide_eq_true_eq] at g
  exact decide_eq_true (by omega)
theorem strs_lay : ∀ {ws : List Str}, (∀ x ∈ ws, good x = true) → PyData.canLayAll0 (ws.map PyData.str) = true ∧ PyData.depthAll (ws.map PyData.str) = 0
  | [], _ => ⟨rfl, rfl⟩
  | x :: ws, h => by
    obtain ⟨h1, h2⟩ := strs_lay (ws := ws) fun y hy => h y (List.mem_cons_of_mem _ hy)
    have h0 := good_ok (h x List.mem_cons_self)
    constructor
    · show (PyData.canLay0 (.str x) && _) = true
      rw [h1, Bool.and_true]
      simpa [PyData.canLay0] using h0
    · show max (PyData.depth (.str x)) _ = 0
      rw [h2]
      rfl
theorem strs_dp {H : Hp} : ∀ {ws : List Str}, DpAll K H (ws.map V.str) (ws.map PyData.str)
  | [] => .nil
  | x :: ws => .cons (.str x) strs_dp
theorem kd_sq {H : Hp} {a : Addr} : ∀ {k : Kd}, k.At H a → k.Ok → ∃ nm rest d ds, H a = some (.tup (.str nm :: rest)) ∧ Dp K H (.ref a) (.tuple (d :: ds)) ∧ SeqAt.shaped (.tuple (d :: ds)) = true
  | .int lo hi, h, _ => ⟨_, _, _, _, h, .tup (SqT.of h) (.cons (.str _) (.cons (.int _) (.cons (.int _) .nil))), by unfold SeqAt.shaped; simp [PyData.canLay0, PyData.canLayAll0, PyData.depth, PyData.depthAll]; decide +kernel⟩
  | .dec lo hi p, h, _ => ⟨_, _, _, _, h, .tup (SqT.of h) (.cons (.str _) (.cons (.int _) (.cons (.int _) (.cons (.int _) .nil)))), by unfold SeqAt.shaped; simp [PyData.canLay0, PyData.canLayAll0, PyData.depth, PyData.depthAll]; decide +kernel⟩
  | .text n, h, _ => ⟨_, _, _, _, h, .tup (SqT.of h) (.cons (.str _) (.cons (.int _) .nil)), by unfold SeqAt.shaped; simp [PyData.canLay0, PyData.canLayAll0, PyData.depth, PyData.depthAll]; decide +kernel⟩
  | .choice ws, ⟨b, h, h2⟩, o => ⟨_, _, _, _, h, .tup (SqT.of h) (.cons (.str _) (.cons (.tup (SqT.of h2) strs_dp) .nil)), by
      obtain ⟨e1, e2⟩ := strs_lay fun x hx => (o.2.2.2 x hx).2.2
      unfold SeqAt.shaped
      rw [Bool.and_eq_true]
      constructor
      · simp [PyData.canLay0, PyData.canLayAll0, e1]
        decide +kernel
      · simp [PyData.depth, PyData.depthAll, e2]⟩
  | .truth, h, _ => ⟨_, _, _, _, h, .tup (SqT.of h) (.cons (.str _) .nil), by unfold SeqAt.shaped; simp [PyData.canLay0, PyData.canLayAll0, PyData.depth, PyData.depthAll]; decide +kernel⟩
  | .date, h, _ => ⟨_, _, _, _, h, .tup (SqT.of h) (.cons (.str _) .nil), by unfold SeqAt.shaped; simp [PyData.canLay0, PyData.canLayAll0, PyData.depth, PyData.depthAll]; decide +kernel⟩
theorem Same.put {H : Hp} {t : Addr} {o : HO} (ht : H t = none) : Same H (upd H t o) := fun b u e => (upd_ne (ne_of_none e ht)).trans e
theorem strs_flat : ∀ {ws : List Str}, (ws.map V.str).all flatV = true
  | [] => rfl
  | _ :: ws => strs_flat (ws := ws)
theorem strs_in {z : Str} {ws : List Str} : inV (.str z) (ws.map V.str) = decide (z ∈ ws) := by
  unfold inV
  rw [Bool.eq_iff_iff, List.any_eq_true, decide_eq_true_eq]
  constructor
  · rintro ⟨y, hy, e⟩
    obtain ⟨u, hu, rfl⟩ := List.mem_map.mp hy
    have e' : (u == z) = true := e
    rw [beq_iff_eq] at e'
    rw [← e']
    exact hu
  · intro h
    exact ⟨.str z, List.mem_map_of_mem h, by show (z == z) = true; simp⟩
theorem sc_IsKind : FnScope ["value"] ["value"] (defScope sIsKind) := ⟨rfl, rfl, rfl, by decide +kernel, rfl, by decide +kernel, by decide +kernel⟩
theorem ok_is_kind (B : Blt mg) (F : Fd K mg "is_kind" sIsKind ["value"]) (d_is_between : Df P w K mg base CX0 2 "is_between" ["value", "least", "most"] spBetween) (d_are_bounds : Df P w K mg base CX0 3 "are_bounds" ["low", "high"] spBounds) (d_are_words : Df P w K mg base CX0 3 "are_words" ["value"] spWords) : Df P w K mg base CX0 4 "is_kind" ["value"] spKind := by
  refine F.ok sc_IsKind (fun vs H Q E h => ?_) (fun f cdv A outer s H vs Q E hr h => ?_)
  · obtain ⟨a, kd, rfl, _⟩ := h
    rfl
  · obtain ⟨a, kd, rfl, hk, ho, k⟩ := h
    have sc := sc_IsKind
    have hu : (cxOf CX0 P w K mg base ["value"] "is_kind" (defScope sIsKind) f cdv A outer s H E).nox.A.units + 64 < cLine := by have := hr.un; show (A.deeper _).units + 64 < _; omega
    refine ⟨_, (pss_cons (ps_if (PW.pt (pw_or (pt_not (pt_val (pe_callB call_isB rfl B.isinstance_ bo_isinstance (pa_cons (pv 0) (pa_cons (pe_bltn (v := .ty "tuple") rfl B.tuple_ bo_tuple rfl) pa_nil))))) (pw_or (pt_cmpR (op_eqD hu) (pv 0) (pe_tup pa_nil) (nomark _)) (pw_or1 (pt_not (pt_val (pe_callB call_isB rfl B.isinstance_ bo_isinstance (pa_cons (pe_ix ix_tup (pv 0) pe_int (fun _ _ => rfl)) (pa_cons (pe_bltn (v := .ty "str") rfl B.str_ bo_str rfl) pa_nil))))))))) (pss_one (ps_ret pe_bl)) pss_nil)
      (pss_cons (ps_if (pt_cmpR op_eq (pe_ix ix_tup (pv 0) pe_int (fun _ _ => rfl)) pe_str (nomark _)) (pss_one (ps_ret (pe_and (pe_cmpR op_eq (pe_callB call_len rfl B.len_ bo_len (pa_cons (pv 0) pa_nil)) pe_int (nomark _)) (pe_one (pe_d0 d_are_bounds hr rfl (by decide) (pa_cons (pe_ix ix_tup (pv 0) pe_int (fun _ _ => rfl)) (pa_cons (pe_ix ix_tup (pv 0) pe_int (fun _ _ => rfl)) pa_nil))))))) pss_nil)
      (pss_cons (ps_if (pt_cmpR op_eq (pe_ix ix_tup (pv 0) pe_int (fun _ _ => rfl)) pe_str (nomark _)) (pss_one (ps_ret (pe_and (pe_cmpR op_eq (pe_callB call_len rfl B.len_ bo_len (pa_cons (pv 0) pa_nil)) pe_int (nomark _)) (pe_and (pe_d0 d_are_bounds hr rfl (by decide) (pa_cons (pe_ix ix_tup (pv 0) pe_int (fun _ _ => rfl)) (pa_cons (pe_ix ix_tup (pv 0) pe_int (fun _ _ => rfl)) pa_nil))) (pe_one (pe_d0 d_is_between hr rfl (by decide) (pa_cons (pe_ix ix_tup (pv 0) pe_int (fun _ _ => rfl)) (pa_cons pe_int (pa_cons (pe_gI rfl B.MOST_PLACES) pa_nil))))))))) pss_nil)
      (pss_cons (ps_if (pt_cmpR op_eq (pe_ix ix_tup (pv 0) pe_int (fun _ _ => rfl)) pe_str (nomark _)) (pss_one (ps_ret (pe_and (pe_cmpR op_eq (pe_callB call_len rfl B.len_ bo_len (pa_cons (pv 0) pa_nil)) pe_int (nomark _)) (pe_one (pe_d0 d_is_between hr rfl (by decide) (pa_cons (pe_ix ix_tup (pv 0) pe_int (fun _ _ => rfl)) (pa_cons pe_int (pa_cons (pe_gI rfl B.MOST_LETTERS) pa_nil)))))))) pss_nil)
      (pss_cons (ps_if (pt_cmpR op_eq (pe_ix ix_tup (pv 0) pe_int (fun _ _ => rfl)) pe_str (nomark _)) (pss_one (ps_ret (pe_and (pe_cmpR op_eq (pe_callB call_len rfl B.len_ bo_len (pa_cons (pv 0) pa_nil)) pe_int (nomark _)) (pe_one (pe_d0 d_are_words hr rfl (by decide) (pa_cons (pe_ix ix_tup (pv 0) pe_int (fun _ _ => rfl)) pa_nil)))))) pss_nil)
      (pss_one (ps_ret (pe_and (pe_cmpR op_in_seq (pe_ix ix_tup (pv 0) pe_int (fun _ _ => rfl)) (pe_tup (pa_cons pe_str (pa_cons pe_str pa_nil))) (by with_unfolding_all rfl)) (pe_one (pe_cmpR op_eq (pe_callB call_len rfl B.len_ bo_len (pa_cons (pv 0) pa_nil)) pe_int (nomark _))))))))))), ?_⟩
    dsimp only [tRet, tAndV, tOrV, tNotV, tNot, tAnd, tOr, tCB, tCons, tNil, tC, tVar, tOp, tUn, tTest, tB, tIfS, tSeq, tNext, tDrop, tAsg, gName, tIf, tChain, tCallS, tTup, tLst, rI0, rI, rU, rEq, rNe, tSl, tPart, tNoPart, rIxT, rIxS, rSlS, rIn, tIf, tPar, tM1, tMkSup, tDGet, sDPut, rIxL, tDisp, tPairs, rIx]
    obtain ⟨nm, rest, d, ds, ha, hd, hs⟩ := kd_sq (K := K) hk ho
    refine ⟨_, rfl, tup_tup ha ⟨_, rfl, iF rfl ⟨_, rfl, Nat.zero_le _, fun t ht => ?_⟩⟩⟩
    have s1 : Same H (upd H t (.tup [])) := Same.put ht
    obtain ⟨nm', rest', d', ds', ha', hd', hs'⟩ := kd_sq (K := K) (hk.same s1) ho
    refine ⟨_, _, hd', .tup (SqT.of upd_same) .nil, hs', rfl, _, rfl, iF rfl ?_⟩
    refine ⟨_, rfl, _, _, _, _, rfl, rfl, SqT.of ha', atI_nat (j := 0) rfl, tk_str (v := .str nm') trivial ⟨_, rfl, iF rfl ?_⟩⟩
    have k' : ∀ H', Same (upd H t (.tup [])) H' → Q (.bl true) H' := fun H' s2 => k H' (s1.trans s2)
    have hk' := hk.same s1
    clear hk ha hd hs ha' hd' hs' k s1 ht
    generalize upd H t (.tup []) = H1 at *
    cases kd with
    | int lo hi =>
      have hk : H1 a = some (.tup [.str "int", .int lo, .int hi]) := hk'
      obtain ⟨h1, h2, h3⟩ := ho
      refine ⟨_, rfl, _, _, _, _, rfl, rfl, SqT.of hk, rfl, rfl, _, rfl, iT (by decide +kernel) ?_⟩
      refine ⟨_, rfl, _, _, rfl, .inr ⟨_, SqT.of hk, rfl⟩, rfl, _, rfl, iT (by rw [dec_int]; rfl) ?_⟩
      exact ⟨_, rfl, _, _, _, _, rfl, rfl, SqT.of hk, rfl, _, rfl, _, _, _, _, rfl, rfl, SqT.of hk, rfl, _, _, rfl, h1, h2, h3, k' _ (Same.refl _)⟩
    | dec lo hi p =>
      have hk : H1 a = some (.tup [.str "decimal", .int lo, .int hi, .int (p : Nat)]) := hk'
      obtain ⟨⟨h1, h2, h3⟩, h4, h5⟩ := ho
      refine ⟨_, rfl, _, _, _, _, rfl, rfl, SqT.of hk, rfl, rfl, _, rfl, iF (by decide +kernel) ?_⟩
      refine ⟨_, rfl, _, _, _, _, rfl, rfl, SqT.of hk, rfl, rfl, _, rfl, iT (by decide +kernel) ?_⟩
      refine ⟨_, rfl, _, _, rfl, .inr ⟨_, SqT.of hk, rfl⟩, rfl, _, rfl, iT (by rw [dec_int]; rfl) ?_⟩
      refine ⟨_, rfl, _, _, _, _, rfl, rfl, SqT.of hk, rfl, _, rfl, _, _, _, _, rfl, rfl, SqT.of hk, rfl, _, _, rfl, h1, h2, h3, _, rfl, iT rfl ?_⟩
      refine ⟨_, rfl, _, _, _, _, rfl, rfl, SqT.of hk, rfl, _, _, _, rfl, trivial, ?_⟩
      have e : btw (.int (p : Nat)) 1 9 = true := by
        unfold btw
        simp only [Bool.and_eq_true, decide_eq_true_eq]
        omega
      rw [e]
      exact k' _ (Same.refl _)
    | text n =>
      have hk : H1 a = some (.tup [.str "text", .int n]) := hk'
      obtain ⟨h1, h2⟩ := ho
      refine ⟨_, rfl, _, _, _, _, rfl, rfl, SqT.of hk, rfl, rfl, _, rfl, iF (by decide +kernel) ?_⟩
      refine ⟨_, rfl, _, _, _, _, rfl, rfl, SqT.of hk, rfl, rfl, _, rfl, iF (by decide +kernel) ?_⟩
      refine ⟨_, rfl, _, _, _, _, rfl, rfl, SqT.of hk, rfl, rfl, _, rfl, iT (by decide +kernel) ?_⟩
      refine ⟨_, rfl, _, _, rfl, .inr ⟨_, SqT.of hk, rfl⟩, rfl, _, rfl, iT (by rw [dec_int]; rfl) ?_⟩
      refine ⟨_, rfl, _, _, _, _, rfl, rfl, SqT.of hk, rfl, _, _, _, rfl, trivial, ?_⟩
      have e : btw (.int n) 1 1000 = true := by
        unfold btw
        simp only [Bool.and_eq_true, decide_eq_true_eq]
        omega
      rw [e]
      exact k' _ (Same.refl _)
    | choice ws =>
      obtain ⟨b, hk, hb⟩ := hk'
      refine ⟨_, rfl, _, _, _, _, rfl, rfl, SqT.of hk, rfl, rfl, _, rfl, iF (by decide +kernel) ?_⟩
      refine ⟨_, rfl, _, _, _, _, rfl, rfl, SqT.of hk, rfl, rfl, _, rfl, iF (by decide +kernel) ?_⟩
      refine ⟨_, rfl, _, _, _, _, rfl, rfl, SqT.of hk, rfl, rfl, _, rfl, iF (by decide +kernel) ?_⟩
      refine ⟨_, rfl, _, _, _, _, rfl, rfl, SqT.of hk, rfl, rfl, _, rfl, iT (by decide +kernel) ?_⟩
      refine ⟨_, rfl, _, _, rfl, .inr ⟨_, SqT.of hk, rfl⟩, rfl, _, rfl, iT (by rw [dec_int]; rfl) ?_⟩
      exact ⟨_, rfl, _, _, _, _, rfl, rfl, SqT.of hk, rfl, b, ws, rfl, hb, ho, k'⟩
    | truth =>
      have hk : H1 a = some (.tup [.str "truth"]) := hk'
      refine ⟨_, rfl, _, _, _, _, rfl, rfl, SqT.of hk, rfl, rfl, _, rfl, iF (by decide +kernel) ?_⟩
      refine ⟨_, rfl, _, _, _, _, rfl, rfl, SqT.of hk, rfl, rfl, _, rfl, iF (by decide +kernel) ?_⟩
      refine ⟨_, rfl, _, _, _, _, rfl, rfl, SqT.of hk, rfl, rfl, _, rfl, iF (by decide +kernel) ?_⟩
      refine ⟨_, rfl, _, _, _, _, rfl, rfl, SqT.of hk, rfl, rfl, _, rfl, iF (by decide +kernel) ?_⟩
      refine ⟨_, rfl, _, _, _, _, rfl, rfl, SqT.of hk, rfl, (by show 2 ≤ sizeLine; decide), fun u hu' => ?_⟩
      refine ⟨u, _, rfl, .inr (SqT.of upd_same), rfl, rfl, _, rfl, iT (by decide +kernel) ?_⟩
      refine ⟨_, rfl, _, _, rfl, .inr ⟨_, SqT.of ((upd_ne (ne_of_none hk hu')).trans hk), rfl⟩, rfl, ?_⟩
      exact k' _ (Same.put hu')
    | date =>
      have hk : H1 a = some (.tup [.str "date"]) := hk'
      refine ⟨_, rfl, _, _, _, _, rfl, rfl, SqT.of hk, rfl, rfl, _, rfl, iF (by decide +kernel) ?_⟩
      refine ⟨_, rfl, _, _, _, _, rfl, rfl, SqT.of hk, rfl, rfl, _, rfl, iF (by decide +kernel) ?_⟩
      refine ⟨_, rfl, _, _, _, _, rfl, rfl, SqT.of hk, rfl, rfl, _, rfl, iF (by decide +kernel) ?_⟩
      refine ⟨_, rfl, _, _, _, _, rfl, rfl, SqT.of hk, rfl, rfl, _, rfl, iF (by decide +kernel) ?_⟩
      refine ⟨_, rfl, _, _, _, _, rfl, rfl, SqT.of hk, rfl, (by show 2 ≤ sizeLine; decide), fun u hu' => ?_⟩
      refine ⟨u, _, rfl, .inr (SqT.of upd_same), rfl, rfl, _, rfl, iT (by decide +kernel) ?_⟩
      refine ⟨_, rfl, _, _, rfl, .inr ⟨_, SqT.of ((upd_ne (ne_of_none hk hu')).trans hk), rfl⟩, rfl, ?_⟩
      exact k' _ (Same.put hu')
theorem nodup_take {u : Str} : ∀ {ws : List Str} {i : Nat}, ws.Nodup → ws[i]? = some u → u ∉ ws.take i
  | [], i, _, h => by simp at h
  | x :: ws, 0, _, _ => by simp
  | x :: ws, i + 1, n, h => by
    obtain ⟨n1, n2⟩ := List.nodup_cons.mp n
    have h' : ws[i]? = some u := by simpa using h
    rw [List.take_succ_cons, List.mem_cons, not_or]
    exact ⟨fun e => n1 (e ▸ List.mem_of_getElem? h'), nodup_take n2 h'⟩
theorem sc_IsValue : FnScope ["kind", "value"] ["kind", "value"] (defScope sIsValue) := ⟨rfl, rfl, rfl, by decide +kernel, rfl, by decide +kernel, by decide +kernel⟩
theorem ok_is_value (B : Blt mg) (F : Fd K mg "is_value" sIsValue ["kind", "value"]) (d_is_between : Df P w K mg base CX0 2 "is_between" ["value", "least", "most"] spBetween) (d_is_text : Df P w K mg base CX0 2 "is_text" ["value", "least", "most"] spText) (d_check_kind : Df P w K mg base CX0 5 "check_kind" ["value"] spCheckKind) : Df P w K mg base CX0 6 "is_value" ["kind", "value"] spValue := by
  refine F.ok sc_IsValue (fun vs H Q E h => ?_) (fun f cdv A outer s H vs Q E hr h => ?_)
  · obtain ⟨a, kd, v, rfl, _⟩ := h
    rfl
  · obtain ⟨a, kd, v, rfl, hk, ho, ht, hz, k⟩ := h
    have sc := sc_IsValue
    refine ⟨_, (pss_cons (ps_expr (pe_d0 d_check_kind hr rfl (by decide) (pa_cons (pv 0) pa_nil)))
      (pss_cons (ps_if (PW.pt (pw_or (pt_cmpR op_eq (pe_ix ix_tup (pv 0) pe_int (fun _ _ => rfl)) pe_str (nomark _)) (pw_or1 (pt_cmpR op_eq (pe_ix ix_tup (pv 0) pe_int (fun _ _ => rfl)) pe_str (nomark _))))) (pss_one (ps_ret (pe_d0 d_is_between hr rfl (by decide) (pa_cons (pv 1) (pa_cons (pe_ix ix_tup (pv 0) pe_int (fun _ _ => rfl)) (pa_cons (pe_ix ix_tup (pv 0) pe_int (fun _ _ => rfl)) pa_nil)))))) pss_nil)
      (pss_cons (ps_if (pt_cmpR op_eq (pe_ix ix_tup (pv 0) pe_int (fun _ _ => rfl)) pe_str (nomark _)) (pss_one (ps_ret (pe_d0 d_is_text hr rfl (by decide) (pa_cons (pv 1) (pa_cons pe_int (pa_cons (pe_ix ix_tup (pv 0) pe_int (fun _ _ => rfl)) pa_nil)))))) pss_nil)
      (pss_cons (ps_if (pt_cmpR op_eq (pe_ix ix_tup (pv 0) pe_int (fun _ _ => rfl)) pe_str (nomark _)) (pss_one (ps_ret (pe_and (pe_callB call_isB rfl B.isinstance_ bo_isinstance (pa_cons (pv 1) (pa_cons (pe_bltn (v := .ty "str") rfl B.str_ bo_str rfl) pa_nil))) (pe_one (pe_cmpR op_in_seq (pv 1) (pe_ix ix_tup (pv 0) pe_int (fun _ _ => rfl)) (by with_unfolding_all rfl)))))) pss_nil)
      (pss_one (ps_ret (pe_ifExp (pt_cmpR op_eq (pe_ix ix_tup (pv 0) pe_int (fun _ _ => rfl)) pe_str (nomark _)) (pe_callB call_isB rfl B.isinstance_ bo_isinstance (pa_cons (pv 1) (pa_cons (pe_bltn (v := .ty "bool") rfl B.bool_ bo_bool rfl) pa_nil))) (pe_d0 d_is_between hr rfl (by decide) (pa_cons (pv 1) (pa_cons pe_int (pa_cons (pe_gI rfl B.LAST_DAY) pa_nil))))))))))), ?_⟩
    dsimp only [tRet, tAndV, tOrV, tNotV, tNot, tAnd, tOr, tCB, tCons, tNil, tC, tVar, tOp, tUn, tTest, tB, tIfS, tSeq, tNext, tDrop, tAsg, gName, tIf, tChain, tCallS, tTup, tLst, rI0, rI, rU, rEq, rNe, tSl, tPart, tNoPart, rIxT, rIxS, rSlS, rIn, tIf, tPar, tM1, tMkSup, tDGet, sDPut, rIxL, tDisp, tPairs, rIx]
    refine ⟨_, rfl, a, kd, rfl, hk, ho, fun H1 s1 => ?_⟩
    have hk' := hk.same s1
    have ht' := ht.same s1
    have k' : ∀ H', Same H1 H' → Q (.bl (isVal kd v)) H' := fun H' s2 => k H' (s1.trans s2)
    cases kd with
    | int lo hi =>
      have hk : H1 a = some (.tup [.str "int", .int lo, .int hi]) := hk'
      refine ⟨_, rfl, _, _, _, _, rfl, rfl, SqT.of hk, rfl, rfl, _, rfl, iT (by decide +kernel) ?_⟩
      exact ⟨_, rfl, _, rfl, _, _, _, _, rfl, rfl, SqT.of hk, rfl, _, rfl, _, _, _, _, rfl, rfl, SqT.of hk, rfl, _, _, _, rfl, ht', k' _ (Same.refl _)⟩
    | dec lo hi p =>
      have hk : H1 a = some (.tup [.str "decimal", .int lo, .int hi, .int (p : Nat)]) := hk'
      refine ⟨_, rfl, _, _, _, _, rfl, rfl, SqT.of hk, rfl, rfl, _, rfl, iF (by decide +kernel) ?_⟩
      refine ⟨_, rfl, _, _, _, _, rfl, rfl, SqT.of hk, rfl, rfl, _, rfl, iT (by decide +kernel) ?_⟩
      exact ⟨_, rfl, _, rfl, _, _, _, _, rfl, rfl, SqT.of hk, rfl, _, rfl, _, _, _, _, rfl, rfl, SqT.of hk, rfl, _, _, _, rfl, ht', k' _ (Same.refl _)⟩
    | text n =>
      have hk : H1 a = some (.tup [.str "text", .int n]) := hk'
      refine ⟨_, rfl, _, _, _, _, rfl, rfl, SqT.of hk, rfl, rfl, _, rfl, iF (by decide +kernel) ?_⟩
      refine ⟨_, rfl, _, _, _, _, rfl, rfl, SqT.of hk, rfl, rfl, _, rfl, iF (by decide +kernel) ?_⟩
      refine ⟨_, rfl, _, _, _, _, rfl, rfl, SqT.of hk, rfl, rfl, _, rfl, iT (by decide +kernel) ?_⟩
      exact ⟨_, rfl, _, rfl, _, _, _, _, rfl, rfl, SqT.of hk, rfl, _, _, _, rfl, ht', hz, k'⟩
    | choice ws =>
      obtain ⟨b, hk, hb⟩ := hk'
      refine ⟨_, rfl, _, _, _, _, rfl, rfl, SqT.of hk, rfl, rfl, _, rfl, iF (by decide +kernel) ?_⟩
      refine ⟨_, rfl, _, _, _, _, rfl, rfl, SqT.of hk, rfl, rfl, _, rfl, iF (by decide +kernel) ?_⟩
      refine ⟨_, rfl, _, _, _, _, rfl, rfl, SqT.of hk, rfl, rfl, _, rfl, iF (by decide +kernel) ?_⟩
      refine ⟨_, rfl, _, _, _, _, rfl, rfl, SqT.of hk, rfl, rfl, _, rfl, iT (by decide +kernel) ?_⟩
      refine ⟨_, rfl, tk_str ht' ⟨_, rfl, ?_⟩⟩
      cases v with
      | str z =>
        refine iT rfl ⟨_, rfl, _, rfl, _, _, _, _, rfl, rfl, SqT.of hk, rfl, _, _, rfl, .inr (SqT.of hb), rfl, strs_flat, ?_⟩
        have e : inV (.str z) (ws.map V.str) = isVal (.choice ws) (.str z) := strs_in
        show Q (.bl (inV (.str z) (ws.map V.str))) H1
        rw [e]
        exact k' _ (Same.refl _)
      | _ => exact k' _ (Same.refl _)
    | truth =>
      have hk : H1 a = some (.tup [.str "truth"]) := hk'
      refine ⟨_, rfl, _, _, _, _, rfl, rfl, SqT.of hk, rfl, rfl, _, rfl, iF (by decide +kernel) ?_⟩
      refine ⟨_, rfl, _, _, _, _, rfl, rfl, SqT.of hk, rfl, rfl, _, rfl, iF (by decide +kernel) ?_⟩
      refine ⟨_, rfl, _, _, _, _, rfl, rfl, SqT.of hk, rfl, rfl, _, rfl, iF (by decide +kernel) ?_⟩
      refine ⟨_, rfl, _, _, _, _, rfl, rfl, SqT.of hk, rfl, rfl, _, rfl, iF (by decide +kernel) ?_⟩
      refine ⟨_, rfl, _, _, _, _, rfl, rfl, SqT.of hk, rfl, rfl, _, rfl, iT (by decide +kernel) ?_⟩
      exact ⟨_, rfl, tk_bool ht' (k' _ (Same.refl _))⟩
    | date =>
      have hk : H1 a = some (.tup [.str "date"]) := hk'
      refine ⟨_, rfl, _, _, _, _, rfl, rfl, SqT.of hk, rfl, rfl, _, rfl, iF (by decide +kernel) ?_⟩
      refine ⟨_, rfl, _, _, _, _, rfl, rfl, SqT.of hk, rfl, rfl, _, rfl, iF (by decide +kernel) ?_⟩
      refine ⟨_, rfl, _, _, _, _, rfl, rfl, SqT.of hk, rfl, rfl, _, rfl, iF (by decide +kernel) ?_⟩
      refine ⟨_, rfl, _, _, _, _, rfl, rfl, SqT.of hk, rfl, rfl, _, rfl, iF (by decide +kernel) ?_⟩
      refine ⟨_, rfl, _, _, _, _, rfl, rfl, SqT.of hk, rfl, rfl, _, rfl, iF (by decide +kernel) ?_⟩
      exact ⟨_, rfl, _, _, _, rfl, ht', k' _ (Same.refl _)⟩
theorem walk_enumT {a : Addr} {xs : List V} : Walk (IteT a xs) xs.length (fun H => H a = some (.tup xs)) (fun i H v H' => ∃ T x, v = .ref T ∧ H T = none ∧ H' = upd H T (.tup [.int (i : Nat), x]) ∧ xs[i]? = some x) :=
  ⟨fun _ _ hi h => ⟨h, hi⟩, fun _ h => ⟨h, rfl⟩, fun _ _ _ _ _ _ y => y⟩
theorem sc_Words : FnScope ["value", "index", "word"] ["value"] (defScope sWords) := ⟨rfl, rfl, rfl, by decide +kernel, rfl, by decide +kernel, by decide +kernel⟩
theorem ok_are_words (B : Blt mg) (F : Fd K mg "are_words" sWords ["value"]) (d_is_text : Df P w K mg base CX0 2 "is_text" ["value", "least", "most"] spText) : Df P w K mg base CX0 3 "are_words" ["value"] spWords := by
  refine F.ok sc_Words (fun vs H Q E h => ?_) (fun f cdv A outer s H vs Q E hr h => ?_)
  · obtain ⟨a, kd, rfl, _⟩ := h
    rfl
  · obtain ⟨b, ws, rfl, hb, ⟨o1, o2, o3, o4⟩, k⟩ := h
    have sc := sc_Words
    refine ⟨_, (pss_cons (ps_if (PW.pt (pw_or (pt_not (pt_val (pe_callB call_isB rfl B.isinstance_ bo_isinstance (pa_cons (pv 0) (pa_cons (pe_bltn (v := .ty "tuple") rfl B.tuple_ bo_tuple rfl) pa_nil))))) (pw_or1 (pt_not (pt_chain op_le op_le pe_int (pe_callB call_len rfl B.len_ bo_len (pa_cons (pv 0) pa_nil)) (pe_gI rfl B.MOST_WORDS)))))) (pss_one (ps_ret pe_bl)) pss_nil)
      (pss_cons (ps_for PassesOwn.never rfl (pi_enumT rfl B.enumerate_ (pa_cons (pv 0) pa_nil)) (pg_tup rfl (pgs_cons (pg_name (i := 1) sc.nd rfl (Or.inl rfl)) (pgs_cons (pg_name (i := 2) sc.nd rfl (Or.inl rfl)) pgs_nil))) (pss_one (ps_if (PW.pt (pw_or (pt_not (pt_val (pe_d0 d_is_text hr rfl (by decide) (pa_cons (pv 2) (pa_cons pe_int (pa_cons (pe_gI rfl B.MOST_WORD) pa_nil)))))) (pw_or1 (pt_cmpR op_in_seq (pv 2) (pe_slice sl_tupA (pv 0) po_none (po_some (pv 1))) (by with_unfolding_all rfl))))) (pss_one (ps_ret pe_bl)) pss_nil)))
      (pss_one (ps_ret pe_bl)))), ?_⟩
    dsimp only [tRet, tAndV, tOrV, tNotV, tNot, tAnd, tOr, tCB, tCons, tNil, tC, tVar, tOp, tUn, tTest, tB, tIfS, tSeq, tNext, tDrop, tAsg, gName, tIf, tChain, tCallS, tTup, tLst, rI0, rI, rU, rEq, rNe, tSl, tPart, tNoPart, rIxT, rIxS, rSlS, rIn, tIf, tPar, tM1, tMkSup, tDGet, sDPut, rIxL, tDisp, tPairs, rIx]
    refine ⟨_, rfl, tup_tup hb ⟨_, rfl, iF rfl ⟨_, rfl, _, _, rfl, .inr ⟨_, SqT.of hb, rfl⟩, _, _, rfl, rfl, _, rfl, ?_⟩⟩⟩
    have hl : (ws.map V.str).length = ws.length := List.length_map ..
    refine iT (decide_eq_true (by omega)) ⟨_, _, rfl, rfl, _, rfl, ?_⟩
    rw [decide_eq_true (show (((ws.map V.str).length : Nat) : Int) ≤ 20 by omega)]
    refine iF rfl ⟨_, rfl, b, _, rfl, hb, ?_⟩
    refine for_it walk_enumT (fun i σ H' => Same H H' ∧ ∃ c d, σ = [some (.ref b), c, d]) ⟨Same.refl _, none, none, rfl⟩ (fun _ _ _ _ p => p.1 _ _ hb) ?_ ?_
    · rintro i x σ H1 H1' hi ⟨s1, c, d, rfl⟩ ⟨T, y, rfl, hT, rfl, hy⟩
      obtain ⟨u, hu, rfl⟩ : ∃ u, ws[i]? = some u ∧ y = .str u := by
        rw [List.getElem?_map] at hy
        cases e : ws[i]? with
        | none => rw [e] at hy; cases hy
        | some u => rw [e] at hy; exact ⟨u, rfl, (Option.some.inj hy).symm⟩
      obtain ⟨u1, u2, u3⟩ := o4 u (List.mem_of_getElem? hu)
      have s2 : Same H (upd H1 T (.tup [.int (i : Nat), .str u])) := s1.trans (Same.put hT)
      refine ⟨T, _, rfl, SqT.of upd_same, rfl, _, _, rfl, _, _, rfl, rfl, ?_⟩
      dsimp only [tRet, tAndV, tOrV, tNotV, tNot, tAnd, tOr, tCB, tCons, tNil, tC, tVar, tOp, tUn, tTest, tB, tIfS, tSeq, tNext, tDrop, tAsg, gName, tIf, tChain, tCallS, tTup, tLst, rI0, rI, rU, rEq, rNe, tSl, tPart, tNoPart, rIxT, rIxS, rSlS, rIn, tIf, tPar, tM1, tMkSup, tDGet, sDPut, rIxL, tDisp, tPairs, rIx]
      refine ⟨_, rfl, _, _, _, rfl, trivial, (fun z e => by cases e; omega), fun H2 s3 => ⟨_, rfl, ?_⟩⟩
      have e1 : txtOk (.str u) 1 20 = true := by
        unfold txtOk
        simp only [Bool.and_eq_true, decide_eq_true_eq]
        exact ⟨by omega, u3⟩
      rw [e1]
      refine iF rfl ⟨_, rfl, _, rfl, _, rfl, _, rfl, b, _, rfl, SqT.of (s3 _ _ (s2 _ _ hb)), ?_, ?_⟩
      · rintro ⟨_, z2⟩
        rw [HT.sIx_nat] at z2
        omega
      · intro _ p hp
        have ec : cutV (ws.map V.str) none (some (i : Int)) = (ws.take i).map V.str := by
          unfold cutV
          rw [HT.sIx_none, HT.sIx_nat, List.drop_zero, Nat.sub_zero, List.map_take, Nat.min_eq_left (by omega)]
        rw [ec]
        have no : inV (.str u) ((ws.take i).map V.str) = false := by
          rw [strs_in]
          exact decide_eq_false (nodup_take o3 hu)
        refine ⟨p, _, rfl, .inr (SqT.of upd_same), rfl, strs_flat, _, rfl, ?_⟩
        show (if inV (.str u) ((ws.take i).map V.str) = true then _ else _)
        refine iF no ⟨s2.trans (s3.trans (Same.put hp)), _, _, rfl⟩
    · rintro σ H1 ⟨s1, _⟩
      exact k _ s1
end
end K5
set_option Elab.async false
set_option maxRecDepth 100000
set_option maxHeartbeats 2000000
/-! plain laws: texts of numbers, dates -/
namespace K5
open PySem TL NumText
theorem tl_ofL (l : List Nat) : tl (ofL l) = l := rfl
theorem ofL_tl (z : Str) : ofL (tl z) = z := ext_tl rfl
theorem eq_ofL {z : Str} {l : List Nat} (h : tl z = l) : z = ofL l := ext_tl h
theorem app_ofL (a b : List Nat) : ofL a ++ ofL b = ofL (a ++ b) := ext_tl (by rw [tl_append]; rfl)
theorem numS (n : Nat) : (toString ((n : Nat) : Int) : String) = toString ((n : Nat) : Int) := rfl
theorem str_num (n : Nat) : Str.ofString (toString ((n : Nat) : Int)) = ofL (numL n) := eq_ofL (tl_num n)
theorem str_neg (n : Nat) (h : 0 < n) : Str.ofString (toString (-((n : Nat) : Int))) = ofL (45 :: numL n) := by
  refine eq_ofL ?_
  obtain ⟨m, rfl⟩ : ∃ m, n = m + 1 := ⟨n - 1, by omega⟩
  have e : (toString (-(((m + 1 : Nat) : Nat) : Int)) : String) = "-" ++ Nat.repr (m + 1) := rfl
  rw [e, tl_ofString]
  have e2 := tl_num (m + 1)
  rw [tl_ofString] at e2
  have e3 : (toString (((m + 1 : Nat) : Nat) : Int) : String) = Nat.repr (m + 1) := rfl
  rw [e3] at e2
  rw [String.toList_append, List.map_append, e2]
  rfl
theorem len_ofL (l : List Nat) : (ofL l).length = l.length := ofL_len l
theorem filled_eq (n w : Nat) : (⟨(List.replicate ((w : Int) - ((numL n).length : Int)).toNat 48).toArray⟩ : Str) ++ ofL (numL n) = ofL (padL w n) := by
  have e : ((w : Int) - ((numL n).length : Int)).toNat = w - (numL n).length := by omega
  rw [e]
  exact app_ofL (zer (w - (numL n).length)) (numL n)
theorem int_ofL {l : List Nat} (h : AllDigits l) (h0 : l ≠ []) (hl : l.length ≤ 640) : intText? (ofL l) = some ((digitsVal l : Nat) : Int) :=
  intText_digits (x := ofL l) h h0 (by rw [len_ofL]; omega)
/-- decimals with no places are ints -/
theorem padL_one (n : Nat) : padL 1 n = numL n := by
  unfold padL
  have := numL_pos n
  rw [show 1 - (numL n).length = 0 by omega]
  rfl
theorem decL_zero (v : Int) : decL 0 v = (if v < 0 then [45] else []) ++ numL v.natAbs := by
  unfold decL bodyL
  have e1 : partL 0 v.natAbs = [] := List.eq_nil_of_length_eq_zero (by have := part_len 0 v.natAbs; omega)
  rw [e1, if_pos rfl, List.append_nil]
  have e2 : wholeL 0 v.natAbs = numL v.natAbs := by
    unfold wholeL
    rw [Nat.zero_add, padL_one, Nat.sub_zero, List.take_length]
  rw [e2]
theorem str_int (v : Int) : Str.ofString (toString v) = ofL (decL 0 v) := by
  rw [decL_zero]
  by_cases h : v < 0
  · rw [if_pos h]
    obtain ⟨n, hn, rfl⟩ : ∃ n : Nat, 0 < n ∧ v = -(n : Int) := ⟨v.natAbs, by omega, by omega⟩
    rw [str_neg n hn, show (-(n : Int)).natAbs = n by omega]
    rfl
  · rw [if_neg h]
    obtain ⟨n, rfl⟩ : ∃ n : Nat, v = (n : Int) := ⟨v.toNat, by omega⟩
    rw [str_num, show ((n : Int)).natAbs = n by omega]
    rfl
/-- the part that is left when the zeros at the end are cut -/
theorem part_at {p n e : Nat} (h1 : (padL (p + 1) n).length - p ≤ e) (h2 : e ≤ (padL (p + 1) n).length) (hz : (padL (p + 1) n).drop e = zer ((padL (p + 1) n).length - e))
    (hs : e = (padL (p + 1) n).length - p ∨ ∃ c, (padL (p + 1) n)[e - 1]? = some c ∧ c ≠ 48) : partL p n = ((padL (p + 1) n).drop ((padL (p + 1) n).length - p)).take (e - ((padL (p + 1) n).length - p)) := by
  generalize hL : padL (p + 1) n = L at *
  have er : restL p n = (L.drop (L.length - p)).take (e - (L.length - p)) ++ zer (L.length - e) := by
    unfold restL
    rw [hL]
    have := List.take_append_drop (e - (L.length - p)) (L.drop (L.length - p))
    rw [List.drop_drop, show L.length - p + (e - (L.length - p)) = e by omega, hz] at this
    exact this.symm
  unfold partL
  rw [er, stripR_app_zer]
  rcases hs with hs | ⟨c, hc, hne⟩
  · rw [hs, Nat.sub_self, List.take_zero]
    rfl
  · by_cases hz2 : e = L.length - p
    · rw [hz2, Nat.sub_self, List.take_zero]
      rfl
    · obtain ⟨k, hk⟩ : ∃ k, e - (L.length - p) = k + 1 := ⟨e - (L.length - p) - 1, by omega⟩
      have hg : (L.drop (L.length - p))[k]? = some c := by
        rw [List.getElem?_drop, show L.length - p + k = e - 1 by omega]
        exact hc
      rw [hk, List.take_add_one, hg]
      exact stripR_last hne
/-! ### dates -/
theorem dbef_step (y : Int) : dbef (y + 1) = dbef y + 365 + leapY y := by
  unfold dbef leapY
  split <;> omega
theorem leap01 (y : Int) : 0 ≤ leapY y ∧ leapY y ≤ 1 := by
  unfold leapY
  split <;> omega
theorem mon_cases {m : Int} (h1 : 1 ≤ m) (h2 : m ≤ 12) : m = 1 ∨ m = 2 ∨ m = 3 ∨ m = 4 ∨ m = 5 ∨ m = 6 ∨ m = 7 ∨ m = 8 ∨ m = 9 ∨ m = 10 ∨ m = 11 ∨ m = 12 := by omega
theorem mon_at {m : Int} (h1 : 1 ≤ m) (h2 : m ≤ 12) : L2.atI (monL.map L2.V.int) (m - 1) = some (.int (monL.getD (m - 1).toNat 0)) := by
  rcases mon_cases h1 h2 with rfl | rfl | rfl | rfl | rfl | rfl | rfl | rfl | rfl | rfl | rfl | rfl <;> rfl
theorem dim_pos {y m : Int} (h1 : 1 ≤ m) (h2 : m ≤ 12) : 28 ≤ dim y m ∧ dim y m ≤ 31 := by
  have := leap01 y
  rcases mon_cases h1 h2 with rfl | rfl | rfl | rfl | rfl | rfl | rfl | rfl | rfl | rfl | rfl | rfl <;> (unfold dim; simp [monL]) <;> omega
theorem dim_12 (y : Int) : dim y 12 = 31 := by unfold dim; simp [monL]
theorem cum_11 (y : Int) : cum y 11 = 334 + leapY y := by
  simp [cum, dim, monL]
  omega
theorem dbef_pos {y y' : Int} (h : y ≤ y') : dbef y ≤ dbef y' := by
  unfold dbef
  omega
end K5
set_option Elab.async false
set_option maxRecDepth 100000
set_option maxHeartbeats 2000000
/-! days_before, days_in, filled, day_text, decimal_text, day_of -/
namespace K5
open PySem PySem.Spec PyProof.Rows L2 TL
section
variable {P : Program} {w : World} {K : PySem.W.Frag} {mg : Str → Option Value} {base : Heap}
def slotI (σ : L2.St) (i : Nat) : Nat := match σ[i]? with
  | some (some (V.int e)) => e.toNat
  | _ => 0
theorem sc_DaysB : FnScope ["year", "past"] ["year"] (defScope sDaysB) := ⟨rfl, rfl, rfl, by decide +kernel, rfl, by decide +kernel, by decide +kernel⟩
theorem ok_days_before (B : Blt mg) (F : Fd K mg "days_before" sDaysB ["year"])  : Df P w K mg base CX0 1 "days_before" ["year"] spDaysBefore := by
  refine F.ok sc_DaysB (fun vs H Q E h => ?_) (fun f cdv A outer s H vs Q E hr h => ?_)
  · obtain ⟨y, rfl, _⟩ := h
    rfl
  · obtain ⟨y, rfl, h1, h2, k⟩ := h
    have sc := sc_DaysB
    refine ⟨_, (pss_cons (ps_set (i := 1) sc.nd rfl (Or.inl rfl) (pe_op op_sub (pv 0) pe_int))
      (pss_one (ps_ret (pe_op op_add (pe_op op_sub (pe_op op_add (pe_op op_mulW pe_int (pv 1)) (pe_op op_fdivW (pv 1) pe_int)) (pe_op op_fdivW (pv 1) pe_int)) (pe_op op_fdivW (pv 1) pe_int))))), ?_⟩
    dsimp only [tRet, tAndV, tOrV, tNotV, tNot, tAnd, tOr, tCB, tCons, tNil, tC, tVar, tOp, tUn, tTest, tB, tIfS, tSeq, tNext, tDrop, tAsg, gName, tIf, tChain, tCallS, tTup, tLst, rI0, rI, rU, rEq, rNe, tSl, tPart, tNoPart, rIxT, rIxS, rSlS, rIn, tIf, tPar, tM1, tMkSup, tDGet, sDPut, rIxL, tDisp, tPairs, rIx]
    refine ⟨_, rfl, _, _, rfl, rfl, _, rfl, _, _, rfl, rfl, wide_mul (a := 20) (b := 20) (by decide) (by omega) (by decide) (by decide) (by decide), _, rfl, _, _, rfl, rfl, wide_div (b := 20) (by decide) (by decide) (by decide) (by decide), ?_⟩
    refine ⟨_, _, rfl, rfl, _, rfl, _, _, rfl, rfl, wide_div (b := 20) (by decide) (by decide) (by decide) (by decide), _, _, rfl, rfl, ?_⟩
    exact ⟨_, rfl, _, _, rfl, rfl, wide_div (b := 20) (by decide) (by decide) (by decide) (by decide), _, _, rfl, rfl, k⟩
theorem sc_DaysIn : FnScope ["year", "month", "is_long"] ["year", "month"] (defScope sDaysIn) := ⟨rfl, rfl, rfl, by decide +kernel, rfl, by decide +kernel, by decide +kernel⟩
theorem ok_days_in {aM : Addr} (M : Mon K mg aM) (B : Blt mg) (F : Fd K mg "days_in" sDaysIn ["year", "month"])  : Df P w K mg base CX0 1 "days_in" ["year", "month"] (spDaysIn) := by
  refine F.ok sc_DaysIn (fun vs H Q E h => ?_) (fun f cdv A outer s H vs Q E hr h => ?_)
  · obtain ⟨y, m, rfl, _⟩ := h
    rfl
  · obtain ⟨y, m, rfl, h1, h2, k⟩ := h
    have sc := sc_DaysIn
    refine ⟨_, (pss_cons (ps_set (i := 2) sc.nd rfl (Or.inl rfl) (pe_and (pe_cmpR op_eq (pe_op op_mod (pv 0) pe_int) pe_int (nomark _)) (pe_one (pe_or (pe_cmpR op_gt (pe_op op_mod (pv 0) pe_int) pe_int (nomark _)) (pe_one (pe_cmpR op_eq (pe_op op_mod (pv 0) pe_int) pe_int (nomark _)))))))
      (pss_one (ps_ret (pe_op op_add (pe_ix ix_tup (pe_gR rfl M.g) (pe_op op_sub (pv 1) pe_int) (fun _ _ => rfl)) (pe_callTy call_int1 rfl B.int_ bo_int (pa_cons (pe_and (pv 2) (pe_one (pe_cmpR op_eq (pv 1) pe_int (nomark _)))) pa_nil)))))), ?_⟩
    dsimp only [tRet, tAndV, tOrV, tNotV, tNot, tAnd, tOr, tCB, tCons, tNil, tC, tVar, tOp, tUn, tTest, tB, tIfS, tSeq, tNext, tDrop, tAsg, gName, tIf, tChain, tCallS, tTup, tLst, rI0, rI, rU, rEq, rNe, tSl, tPart, tNoPart, rIxT, rIxS, rSlS, rIn, tIf, tPar, tM1, tMkSup, tDGet, sDPut, rIxL, tDisp, tPairs, rIx]
    refine ⟨_, rfl, _, _, rfl, rfl, (by decide : (0 : Int) < 4), rfl, _, rfl, ?_⟩
    rw [dec_int]
    have no : leapY y = 0 → dim y m = monL.getD (m - 1).toNat 0 + (if false = true then 1 else 0) := fun e => by unfold dim; rw [e]; simp
    have yes : leapY y = 1 → dim y m = monL.getD (m - 1).toNat 0 + (if decide (V.int m = V.int 2) = true then 1 else 0) := fun e => by unfold dim; rw [e, dec_int]; simp
    by_cases e4 : y % 4 = 0
    · refine iT (beq_iff_eq.mpr e4) ⟨_, rfl, _, _, rfl, rfl, (by decide : (0 : Int) < 100), _, _, rfl, rfl, _, rfl, ?_⟩
      by_cases e1 : 0 < y % 100
      · refine iT (decide_eq_true e1) ?_
        refine ⟨_, rfl, _, _, rfl, rfl, _, _, _, _, rfl, rfl, M.s _, mon_at h1 h2, _, rfl, _, rfl, iT rfl ⟨_, rfl, rfl, .inr ⟨_, rfl, _, _, rfl, rfl, ?_⟩⟩⟩
        rw [← yes (by unfold leapY; rw [if_pos ⟨e4, .inl e1⟩])]
        exact k
      · refine iF (decide_eq_false e1) ⟨_, rfl, _, _, rfl, rfl, (by decide : (0 : Int) < 400), rfl, ?_⟩
        rw [dec_int]
        by_cases e2 : y % 400 = 0
        · rw [beq_iff_eq.mpr e2]
          refine ⟨_, rfl, _, _, rfl, rfl, _, _, _, _, rfl, rfl, M.s _, mon_at h1 h2, _, rfl, _, rfl, iT rfl ⟨_, rfl, rfl, .inr ⟨_, rfl, _, _, rfl, rfl, ?_⟩⟩⟩
          rw [← yes (by unfold leapY; rw [if_pos ⟨e4, .inr e2⟩])]
          exact k
        · rw [beq_eq_false_iff_ne.mpr e2]
          refine ⟨_, rfl, _, _, rfl, rfl, _, _, _, _, rfl, rfl, M.s _, mon_at h1 h2, _, rfl, _, rfl, iF rfl (.inr ⟨_, rfl, _, _, rfl, rfl, ?_⟩)⟩
          rw [← no (by unfold leapY; rw [if_neg (fun z => z.2.elim e1 e2)])]
          exact k
    · refine iF (beq_eq_false_iff_ne.mpr e4) ?_
      refine ⟨_, rfl, _, _, rfl, rfl, _, _, _, _, rfl, rfl, M.s _, mon_at h1 h2, _, rfl, _, rfl, iF rfl (.inr ⟨_, rfl, _, _, rfl, rfl, ?_⟩)⟩
      rw [← no (by unfold leapY; rw [if_neg (fun z => e4 z.1)])]
      exact k
theorem sc_Filled : FnScope ["number", "width", "digits"] ["number", "width"] (defScope sFilled) := ⟨rfl, rfl, rfl, by decide +kernel, rfl, by decide +kernel, by decide +kernel⟩
theorem ok_filled (B : Blt mg) (F : Fd K mg "filled" sFilled ["number", "width"])  : Df P w K mg base CX0 1 "filled" ["number", "width"] spFilled := by
  refine F.ok sc_Filled (fun vs H Q E h => ?_) (fun f cdv A outer s H vs Q E hr h => ?_)
  · obtain ⟨n, w, rfl, _⟩ := h
    rfl
  · obtain ⟨n, w, rfl, h1, h2, k⟩ := h
    have sc := sc_Filled
    refine ⟨_, (pss_cons (ps_set (i := 2) sc.nd rfl (Or.inl rfl) (pe_callTy (call_str_int.or SkE.call_str_str) rfl B.str_ bo_str (pa_cons (pv 0) pa_nil)))
      (pss_one (ps_ret (pe_op op_add_str (pe_op op_mul_sign pe_str (pe_op op_sub (pv 1) (pe_callB call_len rfl B.len_ bo_len (pa_cons (pv 2) pa_nil)))) (pv 2))))), ?_⟩
    dsimp only [tRet, tAndV, tOrV, tNotV, tNot, tAnd, tOr, tCB, tCons, tNil, tC, tVar, tOp, tUn, tTest, tB, tIfS, tSeq, tNext, tDrop, tAsg, gName, tIf, tChain, tCallS, tTup, tLst, rI0, rI, rU, rEq, rNe, tSl, tPart, tNoPart, rIxT, rIxS, rSlS, rIn, tIf, tPar, tM1, tMkSup, tDGet, sDPut, rIxL, tDisp, tPairs, rIx]
    have hb : ((n : Int)).natAbs.log2 < 1920 := Nat.lt_of_lt_of_le (PySem.Flt.log2_lt_of (k := 60) (by decide) (by omega)) (by decide)
    have hl : (numL n).length ≤ 18 := numL_len (by decide) h1
    refine ⟨_, rfl, .inl ⟨_, rfl, hb, ?_⟩⟩
    rw [str_num]
    refine ⟨_, rfl, _, rfl, _, _, rfl, ⟨by rw [len_ofL, sizeLine_eq]; omega, rfl⟩, _, _, rfl, rfl, ?_⟩
    rw [len_ofL]
    refine ⟨48, _, rfl, rfl, ⟨by omega, by omega⟩, _, rfl, _, _, rfl, rfl, ?_, ?_⟩
    · rw [len_ofL]
      show (List.toArray _).size + _ ≤ _
      rw [List.size_toArray, List.length_replicate, sizeLine_eq]
      omega
    · rw [filled_eq]
      exact k
theorem cut_to (l : List Nat) (k : Nat) : cutS (ofL l) none (some (k : Int)) = ofL (l.take k) := by
  unfold cutS
  rw [HT.sIx_none, HT.sIx_nat, len_ofL, List.drop_zero, Nat.sub_zero]
  show ofL (l.take (min k l.length)) = _
  congr 1
  by_cases h : k ≤ l.length
  · rw [Nat.min_eq_left h]
  · rw [Nat.min_eq_right (by omega), List.take_length, List.take_of_length_le (by omega)]
theorem cut_mid (l : List Nat) (a b : Nat) (h1 : a ≤ l.length) (h2 : b ≤ l.length) : cutS (ofL l) (some (a : Int)) (some (b : Int)) = ofL ((l.drop a).take (b - a)) := by
  unfold cutS
  rw [HT.sIx_nat, HT.sIx_nat, len_ofL, Nat.min_eq_left h1, Nat.min_eq_left h2]
  rfl
theorem cut_from (l : List Nat) (a : Nat) (h1 : a ≤ l.length) : cutS (ofL l) (some (a : Int)) none = ofL (l.drop a) := by
  unfold cutS
  rw [HT.sIx_nat, HT.sIx_none, len_ofL, Nat.min_eq_left h1]
  show ofL ((l.drop a).take (l.length - a)) = _
  rw [List.take_of_length_le (by rw [List.length_drop]; omega)]
theorem w_abs {σ : L2.St} {H : Hp} {Q : VK} {v : Int} (hi : σ[0]? = some (some (.int v))) (q : Q (.int (v.natAbs : Nat)) H) :
    tIf (tTest (tOp (rI0 fun i j => .bl (decide (i < j))) (tVar 0) (tC (.int 0)))) (tUn (rU fun i => .int (-i)) (tVar 0)) (tVar 0) σ H Q := by
  dsimp only [tRet, tAndV, tOrV, tNotV, tNot, tAnd, tOr, tCB, tCons, tNil, tC, tVar, tOp, tUn, tTest, tB, tIfS, tSeq, tNext, tDrop, tAsg, gName, tIf, tChain, tCallS, tTup, tLst, rI0, rI, rU, rEq, rNe, tSl, tPart, tNoPart, rIxT, rIxS, rSlS, rIn, tIf, tPar, tM1, tMkSup, tDGet, sDPut, rIxL, tDisp, tPairs, rIx]
  refine ⟨_, hi, _, _, rfl, rfl, _, rfl, ?_⟩
  by_cases h : v < 0
  · rw [show ((v.natAbs : Nat) : Int) = -v by omega] at q
    exact iT (decide_eq_true h) ⟨_, hi, _, rfl, q⟩
  · rw [show ((v.natAbs : Nat) : Int) = v by omega] at q
    exact iF (decide_eq_false h) ⟨_, hi, q⟩
theorem sign_zero {c : Nat} : decide (V.str ⟨#[c]⟩ = V.str "0") = decide (c = 48) := by
  rw [dec_str, Bool.eq_iff_iff]
  simp only [beq_iff_eq, decide_eq_true_eq]
  constructor
  · intro z
    have h2 : (#[c] : Array Nat) = #[48] := congrArg Str.cps z
    simpa using h2
  · rintro rfl
    rfl
theorem zer_front {l : List Nat} {e : Nat} (h0 : 0 < e) (h1 : e ≤ l.length) (hc : l[e - 1]? = some 48) (hz : l.drop e = zer (l.length - e)) : l.drop (e - 1) = zer (l.length - (e - 1)) := by
  have hlt : e - 1 < l.length := by omega
  have e2 : l.drop (e - 1) = l[e - 1] :: l.drop (e - 1 + 1) := List.drop_eq_getElem_cons hlt
  have e3 : l[e - 1] = 48 := by
    have := List.getElem?_eq_getElem hlt
    rw [hc] at this
    exact (Option.some.inj this).symm
  rw [e2, e3, show e - 1 + 1 = e by omega, hz, show l.length - (e - 1) = (l.length - e) + 1 by omega]
  rfl
theorem ofL_nil : ofL [] = ("" : Str) := rfl
theorem ofL_ne {l : List Nat} : decide (V.str (ofL l) = V.str "") = decide (l = []) := by
  rw [dec_str, Bool.eq_iff_iff]
  simp only [beq_iff_eq, decide_eq_true_eq]
  constructor
  · intro z
    have h2 : tl (ofL l) = tl (ofL []) := congrArg tl z
    exact h2
  · rintro rfl
    rfl
theorem sc_DecText : FnScope ["value", "places", "digits", "end", "whole", "part"] ["value", "places"] (defScope sDecText) := ⟨rfl, rfl, rfl, by decide +kernel, rfl, by decide +kernel, by decide +kernel⟩
theorem ok_decimal_text (B : Blt mg) (F : Fd K mg "decimal_text" sDecText ["value", "places"]) (d_filled : Df P w K mg base CX0 1 "filled" ["number", "width"] spFilled) : Df P w K mg base CX0 2 "decimal_text" ["value", "places"] spDecText := by
  refine F.ok sc_DecText (fun vs H Q E h => ?_) (fun f cdv A outer s H vs Q E hr h => ?_)
  · obtain ⟨n, w, rfl, _⟩ := h
    rfl
  · obtain ⟨v, p, rfl, h1, h2, h3, k⟩ := h
    have sc := sc_DecText
    refine ⟨_, (pss_cons (ps_set (i := 2) sc.nd rfl (Or.inl rfl) (pe_d0 d_filled hr rfl (by decide) (pa_cons (pe_ifExp (pt_cmpR op_lt (pv 0) pe_int (nomark _)) (pe_un un_neg (pv 0)) (pv 0)) (pa_cons (pe_op op_add (pv 1) pe_int) pa_nil))))
      (pss_cons (ps_set (i := 3) sc.nd rfl (Or.inl rfl) (pe_callB call_len rfl B.len_ bo_len (pa_cons (pv 2) pa_nil)))
      (pss_cons (ps_while PassesOwn.never (PW.pt (pw_and (pt_cmpR op_gt (pv 3) (pe_op op_sub (pe_callB call_len rfl B.len_ bo_len (pa_cons (pv 2) pa_nil)) (pv 1)) (nomark _)) (pw_and1 (pt_cmpR op_eq (pe_ix ix_str (pv 2) (pe_op op_sub (pv 3) pe_int) (fun _ _ => rfl)) pe_str (nomark _))))) (pss_one (ps_set (i := 3) sc.nd rfl (Or.inl rfl) (pe_op op_sub (pv 3) pe_int))))
      (pss_cons (ps_par (i := 4) (j := 5) rfl sc.nd rfl rfl (by decide) rfl rfl (pa_cons (pe_slice sl_str (pv 2) po_none (po_some (pe_op op_sub (pe_callB call_len rfl B.len_ bo_len (pa_cons (pv 2) pa_nil)) (pv 1)))) (pa_cons (pe_slice sl_str (pv 2) (po_some (pe_op op_sub (pe_callB call_len rfl B.len_ bo_len (pa_cons (pv 2) pa_nil)) (pv 1))) (po_some (pv 3))) pa_nil)) rfl)
      (pss_one (ps_ret (pe_op op_add_str (pe_op op_add_str (pe_ifExp (pt_cmpR op_lt (pv 0) pe_int (nomark _)) pe_str pe_str) (pv 4)) (pe_ifExp (pt_cmpR op_ne (pv 5) pe_str (nomark _)) (pe_op op_add_str pe_str (pv 5)) pe_str)))))))), ?_⟩
    dsimp only [tSeq, tNext, tAsg, gName, tCallS, tCons, tNil]
    refine w_abs rfl ?_
    dsimp only [tRet, tAndV, tOrV, tNotV, tNot, tAnd, tOr, tCB, tCons, tNil, tC, tVar, tOp, tUn, tTest, tB, tIfS, tSeq, tNext, tDrop, tAsg, gName, tIf, tChain, tCallS, tTup, tLst, rI0, rI, rU, rEq, rNe, tSl, tPart, tNoPart, rIxT, rIxS, rSlS, rIn, tIf, tPar, tM1, tMkSup, tDGet, sDPut, rIxL, tDisp, tPairs, rIx]
    generalize hL : padL (p + 1) v.natAbs = L
    have l1 : p + 1 ≤ L.length := hL ▸ pad_ge p v.natAbs
    have l2 : L.length ≤ 18 := hL ▸ pad_18 h3 h1
    refine ⟨_, rfl, _, _, rfl, rfl, v.natAbs, p + 1, rfl, h1, by omega, ?_⟩
    rw [hL]
    refine ⟨_, rfl, _, _, rfl, ⟨by rw [len_ofL, sizeLine_eq]; omega, rfl⟩, ?_⟩
    rw [len_ofL]
    refine while_by (fun σ H' => H' = H ∧ ∃ e : Nat, L.length - p ≤ e ∧ e ≤ L.length ∧ L.drop e = zer (L.length - e) ∧ σ = [some (.int v), some (.int (p : Nat)), some (.str (ofL L)), some (.int (e : Nat)), none, none])
      (fun σ _ => slotI σ 3) ⟨rfl, L.length, by omega, Nat.le_refl _, by simp [zer], rfl⟩ ?_ ?_
    · rintro σ H' ⟨rfl, e, e1, e2, e3, rfl⟩
      dsimp only [tRet, tAndV, tOrV, tNotV, tNot, tAnd, tOr, tCB, tCons, tNil, tC, tVar, tOp, tUn, tTest, tB, tIfS, tSeq, tNext, tDrop, tAsg, gName, tIf, tChain, tCallS, tTup, tLst, rI0, rI, rU, rEq, rNe, tSl, tPart, tNoPart, rIxT, rIxS, rSlS, rIn, tIf, tPar, tM1, tMkSup, tDGet, sDPut, rIxL, tDisp, tPairs, rIx]
      refine ⟨_, rfl, _, rfl, _, _, rfl, ⟨by rw [len_ofL, sizeLine_eq]; omega, rfl⟩, _, rfl, _, _, rfl, rfl, _, _, rfl, rfl, _, rfl, ?_⟩
      rw [len_ofL, show ((L.length : Int) - (p : Int)) = ((L.length - p : Nat) : Int) by omega]
      -- the end of it
      have fin : (e = L.length - p ∨ ∃ c, L[e - 1]? = some c ∧ c ≠ 48) → partL p v.natAbs = (L.drop (L.length - p)).take (e - (L.length - p)) := fun z => by
        have := part_at (p := p) (n := v.natAbs) (e := e) (by rw [hL]; exact e1) (by rw [hL]; exact e2) (by rw [hL]; exact e3) (by rw [hL]; exact z)
        rw [hL] at this
        exact this
      have wh : wholeL p v.natAbs = L.take (L.length - p) := by unfold wholeL; rw [hL]
      have ee : ((e : Int) - 1) = ((e - 1 : Nat) : Int) := by omega
      by_cases c1 : L.length - p < e
      · refine iT (decide_eq_true (by omega)) ⟨_, rfl, _, rfl, _, _, rfl, rfl, ?_⟩
        rw [ee]
        obtain ⟨c, hc⟩ : ∃ c, L[e - 1]? = some c := ⟨L[e - 1], List.getElem?_eq_getElem (by omega)⟩
        refine ⟨_, _, c, rfl, rfl, by rw [len_ofL, sizeLine_eq]; omega, atI_nat hc, rfl, _, rfl, ?_⟩
        rw [sign_zero]
        by_cases c2 : c = 48
        · subst c2
          refine iT rfl ⟨_, rfl, _, _, rfl, rfl, ⟨rfl, e - 1, by omega, by omega, zer_front (by omega) e2 hc e3, ?_⟩, ?_⟩
          · rw [ee]
            rfl
          · rw [ee]
            show e - 1 < e
            omega
        · refine iF (decide_eq_false c2) ?_
          refine ⟨_, rfl, _, rfl, _, _, rfl, ⟨by rw [len_ofL, sizeLine_eq]; omega, rfl⟩, _, rfl, _, _, rfl, rfl, _, rfl, _, rfl, by rw [len_ofL, sizeLine_eq]; omega, _, rfl, _, rfl, _, _, rfl, ⟨by rw [len_ofL, sizeLine_eq]; omega, rfl⟩, _, rfl, _, _, rfl, rfl, _, rfl, _, rfl, _, rfl, _, rfl, by rw [len_ofL, sizeLine_eq]; omega, _, _, rfl, ?_⟩
          rw [len_ofL, show ((L.length : Int) - (p : Int)) = ((L.length - p : Nat) : Int) by omega, cut_to, cut_mid _ _ _ (by omega) e2, ← wh, ← fin (.inr ⟨c, hc, c2⟩)]
          have w18 := shown_18 (p := p) (n := v.natAbs) h3 h1
          refine ⟨_, rfl, _, _, rfl, rfl, _, rfl, ?_⟩
          by_cases b1 : v < 0
          · refine iT (decide_eq_true b1) ⟨_, rfl, _, _, rfl, rfl, (by rw [len_ofL, sizeLine_eq]; show 1 + _ ≤ _; omega), _, rfl, rfl, _, rfl, ?_⟩
            rw [ofL_ne]
            by_cases b2 : partL p v.natAbs = []
            · refine iF (by rw [decide_eq_true b2]; rfl) ⟨_, _, rfl, rfl, ?_, ?_⟩
              · rw [len_tl, len_tl, tl_append, sizeLine_eq, List.length_append]
                show 1 + _ + 0 ≤ _
                rw [tl_ofL]
                omega
              · have e0 : decL p v = 45 :: wholeL p v.natAbs := by unfold decL bodyL; rw [if_pos b1, if_pos b2, List.append_nil]; rfl
                rw [e0] at k
                have e9 : (("-" : Str) ++ ofL (wholeL p v.natAbs)) ++ ("" : Str) = ofL (45 :: wholeL p v.natAbs) := ext_tl (by rw [tl_append, tl_append, tl_ofL, tl_ofL]; show ([45] ++ _) ++ [] = _; simp)
                rw [e9]
                exact k
            · refine iT (by rw [decide_eq_false b2]; rfl) ⟨_, rfl, _, _, rfl, rfl, (by rw [len_ofL, sizeLine_eq]; show 1 + _ ≤ _; omega), _, _, rfl, rfl, ?_, ?_⟩
              · rw [len_tl, len_tl, tl_append, tl_append, sizeLine_eq, List.length_append, List.length_append]
                show 1 + _ + (1 + _) ≤ _
                rw [tl_ofL, tl_ofL]
                omega
              · have e0 : decL p v = 45 :: (wholeL p v.natAbs ++ 46 :: partL p v.natAbs) := by unfold decL bodyL; rw [if_pos b1, if_neg b2]; rfl
                rw [e0] at k
                have e9 : (("-" : Str) ++ ofL (wholeL p v.natAbs)) ++ (("." : Str) ++ ofL (partL p v.natAbs)) = ofL (45 :: (wholeL p v.natAbs ++ 46 :: partL p v.natAbs)) := ext_tl (by rw [tl_append, tl_append, tl_append, tl_ofL, tl_ofL, tl_ofL]; rfl)
                rw [e9]
                exact k
          · refine iF (decide_eq_false b1) ⟨_, rfl, _, _, rfl, rfl, (by rw [len_ofL, sizeLine_eq]; show 0 + _ ≤ _; omega), _, rfl, rfl, _, rfl, ?_⟩
            rw [ofL_ne]
            by_cases b2 : partL p v.natAbs = []
            · refine iF (by rw [decide_eq_true b2]; rfl) ⟨_, _, rfl, rfl, ?_, ?_⟩
              · rw [len_tl, len_tl, tl_append, sizeLine_eq, List.length_append]
                show 0 + _ + 0 ≤ _
                rw [tl_ofL]
                omega
              · have e0 : decL p v = wholeL p v.natAbs := by unfold decL bodyL; rw [if_neg b1, if_pos b2, List.append_nil]; rfl
                rw [e0] at k
                have e9 : (("" : Str) ++ ofL (wholeL p v.natAbs)) ++ ("" : Str) = ofL (wholeL p v.natAbs) := ext_tl (by rw [tl_append, tl_append, tl_ofL]; show ([] ++ _) ++ [] = _; simp)
                rw [e9]
                exact k
            · refine iT (by rw [decide_eq_false b2]; rfl) ⟨_, rfl, _, _, rfl, rfl, (by rw [len_ofL, sizeLine_eq]; show 1 + _ ≤ _; omega), _, _, rfl, rfl, ?_, ?_⟩
              · rw [len_tl, len_tl, tl_append, tl_append, sizeLine_eq, List.length_append, List.length_append]
                show 0 + _ + (1 + _) ≤ _
                rw [tl_ofL, tl_ofL]
                omega
              · have e0 : decL p v = wholeL p v.natAbs ++ 46 :: partL p v.natAbs := by unfold decL bodyL; rw [if_neg b1, if_neg b2]; rfl
                rw [e0] at k
                have e9 : (("" : Str) ++ ofL (wholeL p v.natAbs)) ++ (("." : Str) ++ ofL (partL p v.natAbs)) = ofL (wholeL p v.natAbs ++ 46 :: partL p v.natAbs) := ext_tl (by rw [tl_append, tl_append, tl_append, tl_ofL, tl_ofL, tl_ofL]; rfl)
                rw [e9]
                exact k
      · refine iF (decide_eq_false (by omega)) ?_
        refine ⟨_, rfl, _, rfl, _, _, rfl, ⟨by rw [len_ofL, sizeLine_eq]; omega, rfl⟩, _, rfl, _, _, rfl, rfl, _, rfl, _, rfl, by rw [len_ofL, sizeLine_eq]; omega, _, rfl, _, rfl, _, _, rfl, ⟨by rw [len_ofL, sizeLine_eq]; omega, rfl⟩, _, rfl, _, _, rfl, rfl, _, rfl, _, rfl, _, rfl, _, rfl, by rw [len_ofL, sizeLine_eq]; omega, _, _, rfl, ?_⟩
        rw [len_ofL, show ((L.length : Int) - (p : Int)) = ((L.length - p : Nat) : Int) by omega, cut_to, cut_mid _ _ _ (by omega) e2, ← wh, ← fin (.inl (by omega))]
        have w18 := shown_18 (p := p) (n := v.natAbs) h3 h1
        refine ⟨_, rfl, _, _, rfl, rfl, _, rfl, ?_⟩
        by_cases b1 : v < 0
        · refine iT (decide_eq_true b1) ⟨_, rfl, _, _, rfl, rfl, (by rw [len_ofL, sizeLine_eq]; show 1 + _ ≤ _; omega), _, rfl, rfl, _, rfl, ?_⟩
          rw [ofL_ne]
          by_cases b2 : partL p v.natAbs = []
          · refine iF (by rw [decide_eq_true b2]; rfl) ⟨_, _, rfl, rfl, ?_, ?_⟩
            · rw [len_tl, len_tl, tl_append, sizeLine_eq, List.length_append]
              show 1 + _ + 0 ≤ _
              rw [tl_ofL]
              omega
            · have e0 : decL p v = 45 :: wholeL p v.natAbs := by unfold decL bodyL; rw [if_pos b1, if_pos b2, List.append_nil]; rfl
              rw [e0] at k
              have e9 : (("-" : Str) ++ ofL (wholeL p v.natAbs)) ++ ("" : Str) = ofL (45 :: wholeL p v.natAbs) := ext_tl (by rw [tl_append, tl_append, tl_ofL, tl_ofL]; show ([45] ++ _) ++ [] = _; simp)
              rw [e9]
              exact k
          · refine iT (by rw [decide_eq_false b2]; rfl) ⟨_, rfl, _, _, rfl, rfl, (by rw [len_ofL, sizeLine_eq]; show 1 + _ ≤ _; omega), _, _, rfl, rfl, ?_, ?_⟩
            · rw [len_tl, len_tl, tl_append, tl_append, sizeLine_eq, List.length_append, List.length_append]
              show 1 + _ + (1 + _) ≤ _
              rw [tl_ofL, tl_ofL]
              omega
            · have e0 : decL p v = 45 :: (wholeL p v.natAbs ++ 46 :: partL p v.natAbs) := by unfold decL bodyL; rw [if_pos b1, if_neg b2]; rfl
              rw [e0] at k
              have e9 : (("-" : Str) ++ ofL (wholeL p v.natAbs)) ++ (("." : Str) ++ ofL (partL p v.natAbs)) = ofL (45 :: (wholeL p v.natAbs ++ 46 :: partL p v.natAbs)) := ext_tl (by rw [tl_append, tl_append, tl_append, tl_ofL, tl_ofL, tl_ofL]; rfl)
              rw [e9]
              exact k
        · refine iF (decide_eq_false b1) ⟨_, rfl, _, _, rfl, rfl, (by rw [len_ofL, sizeLine_eq]; show 0 + _ ≤ _; omega), _, rfl, rfl, _, rfl, ?_⟩
          rw [ofL_ne]
          by_cases b2 : partL p v.natAbs = []
          · refine iF (by rw [decide_eq_true b2]; rfl) ⟨_, _, rfl, rfl, ?_, ?_⟩
            · rw [len_tl, len_tl, tl_append, sizeLine_eq, List.length_append]
              show 0 + _ + 0 ≤ _
              rw [tl_ofL]
              omega
            · have e0 : decL p v = wholeL p v.natAbs := by unfold decL bodyL; rw [if_neg b1, if_pos b2, List.append_nil]; rfl
              rw [e0] at k
              have e9 : (("" : Str) ++ ofL (wholeL p v.natAbs)) ++ ("" : Str) = ofL (wholeL p v.natAbs) := ext_tl (by rw [tl_append, tl_append, tl_ofL]; show ([] ++ _) ++ [] = _; simp)
              rw [e9]
              exact k
          · refine iT (by rw [decide_eq_false b2]; rfl) ⟨_, rfl, _, _, rfl, rfl, (by rw [len_ofL, sizeLine_eq]; show 1 + _ ≤ _; omega), _, _, rfl, rfl, ?_, ?_⟩
            · rw [len_tl, len_tl, tl_append, tl_append, sizeLine_eq, List.length_append, List.length_append]
              show 0 + _ + (1 + _) ≤ _
              rw [tl_ofL, tl_ofL]
              omega
            · have e0 : decL p v = wholeL p v.natAbs ++ 46 :: partL p v.natAbs := by unfold decL bodyL; rw [if_neg b1, if_neg b2]; rfl
              rw [e0] at k
              have e9 : (("" : Str) ++ ofL (wholeL p v.natAbs)) ++ (("." : Str) ++ ofL (partL p v.natAbs)) = ofL (wholeL p v.natAbs ++ 46 :: partL p v.natAbs) := ext_tl (by rw [tl_append, tl_append, tl_append, tl_ofL, tl_ofL, tl_ofL]; rfl)
              rw [e9]
              exact k
    · rintro σ H' Q1 Q2 m h
      change (tAnd _ _) σ H' Q2
      dsimp only [tRet, tAndV, tOrV, tNotV, tNot, tAnd, tOr, tCB, tCons, tNil, tC, tVar, tOp, tUn, tTest, tB, tIfS, tSeq, tNext, tDrop, tAsg, gName, tIf, tChain, tCallS, tTup, tLst, rI0, rI, rU, rEq, rNe, tSl, tPart, tNoPart, rIxT, rIxS, rSlS, rIn, tIf, tPar, tM1, tMkSup, tDGet, sDPut, rIxL, tDisp, tPairs, rIx]
      dsimp only [tAnd, tTest, tOp, tVar, tCB, tCons, tNil, tC, rI0, rIxS, rEq] at h
      obtain ⟨v0, a0, v1, b1, x, n, c1, d1, v2, e1, i1, j1, f1, g1, i2, j2, f2, g2, k2, hk2, q⟩ := h
      refine ⟨v0, a0, v1, b1, x, n, c1, d1, v2, e1, i1, j1, f1, g1, i2, j2, f2, g2, k2, hk2, ?_⟩
      cases k2 with
      | false => exact m _ _ q
      | true =>
        obtain ⟨v3, a3, v4, a4, i3, j3, a5, a6, z, i4, c, a7, a8, a9, b0, b2, k3, b3, q⟩ := q
        exact ⟨v3, a3, v4, a4, i3, j3, a5, a6, z, i4, c, a7, a8, a9, b0, b2, k3, b3, m _ _ q⟩
theorem sc_DayText : FnScope ["number", "year", "month", "rest"] ["number"] (defScope sDayText) := ⟨rfl, rfl, rfl, by decide +kernel, rfl, by decide +kernel, by decide +kernel⟩
theorem ok_day_text (B : Blt mg) (F : Fd K mg "day_text" sDayText ["number"]) (d_days_before : Df P w K mg base CX0 1 "days_before" ["year"] spDaysBefore) (d_days_in : Df P w K mg base CX0 1 "days_in" ["year", "month"] (spDaysIn)) (d_filled : Df P w K mg base CX0 1 "filled" ["number", "width"] spFilled) : Df P w K mg base CX0 2 "day_text" ["number"] spDayText := by
  refine F.ok sc_DayText (fun vs H Q E h => ?_) (fun f cdv A outer s H vs Q E hr h => ?_)
  · obtain ⟨n, rfl, _⟩ := h
    rfl
  · obtain ⟨n, rfl, h1, h2, k⟩ := h
    have sc := sc_DayText
    refine ⟨_, (pss_cons (ps_set (i := 1) sc.nd rfl (Or.inl rfl) (pe_op op_add (pe_op op_fdivW (pe_op op_mulW (pv 0) pe_int) pe_int) pe_int))
      (pss_cons (ps_while PassesOwn.never (pt_cmpR op_ge (pe_d0 d_days_before hr rfl (by decide) (pa_cons (pv 1) pa_nil)) (pv 0) (nomark _)) (pss_one (ps_set (i := 1) sc.nd rfl (Or.inl rfl) (pe_op op_sub (pv 1) pe_int))))
      (pss_cons (ps_while PassesOwn.never (pt_cmpR op_lt (pe_d0 d_days_before hr rfl (by decide) (pa_cons (pe_op op_add (pv 1) pe_int) pa_nil)) (pv 0) (nomark _)) (pss_one (ps_set (i := 1) sc.nd rfl (Or.inl rfl) (pe_op op_add (pv 1) pe_int))))
      (pss_cons (ps_par (i := 2) (j := 3) rfl sc.nd rfl rfl (by decide) rfl rfl (pa_cons pe_int (pa_cons (pe_op op_sub (pv 0) (pe_d0 d_days_before hr rfl (by decide) (pa_cons (pv 1) pa_nil))) pa_nil)) rfl)
      (pss_cons (ps_while PassesOwn.never (pt_cmpR op_gt (pv 3) (pe_d0 d_days_in hr rfl (by decide) (pa_cons (pv 1) (pa_cons (pv 2) pa_nil))) (nomark _)) (pss_cons (ps_set (i := 3) sc.nd rfl (Or.inl rfl) (pe_op op_sub (pv 3) (pe_d0 d_days_in hr rfl (by decide) (pa_cons (pv 1) (pa_cons (pv 2) pa_nil)))))
      (pss_one (ps_set (i := 2) sc.nd rfl (Or.inl rfl) (pe_op op_add (pv 2) pe_int)))))
      (pss_one (ps_ret (pe_op op_add_str (pe_op op_add_str (pe_op op_add_str (pe_op op_add_str (pe_d0 d_filled hr rfl (by decide) (pa_cons (pv 1) (pa_cons pe_int pa_nil))) pe_str) (pe_d0 d_filled hr rfl (by decide) (pa_cons (pv 2) (pa_cons pe_int pa_nil)))) pe_str) (pe_d0 d_filled hr rfl (by decide) (pa_cons (pv 3) (pa_cons pe_int pa_nil))))))))))), ?_⟩
    dsimp only [tRet, tAndV, tOrV, tNotV, tNot, tAnd, tOr, tCB, tCons, tNil, tC, tVar, tOp, tUn, tTest, tB, tIfS, tSeq, tNext, tDrop, tAsg, gName, tIf, tChain, tCallS, tTup, tLst, rI0, rI, rU, rEq, rNe, tSl, tPart, tNoPart, rIxT, rIxS, rSlS, rIn, tIf, tPar, tM1, tMkSup, tDGet, sDPut, rIxL, tDisp, tPairs, rIx]
    refine ⟨_, rfl, _, _, rfl, rfl, wide_mul (a := 22) (b := 10) (by omega) (by decide) (by decide) (by decide) (by decide), _, _, rfl, rfl, wide_div (b := 20) (by decide) (by decide) (by decide) (by decide), _, _, rfl, rfl, ?_⟩
    refine while_by (fun σ H' => H = H' ∧ ∃ y : Int, 1 ≤ y ∧ y ≤ 10001 ∧ σ = [some (.int n), some (.int y), none, none]) (fun σ _ => slotI σ 1) ⟨rfl, _, by omega, by omega, rfl⟩ ?_ ?_
    · rintro σ H' ⟨rfl, y, y1, y2, rfl⟩
      dsimp only [tRet, tAndV, tOrV, tNotV, tNot, tAnd, tOr, tCB, tCons, tNil, tC, tVar, tOp, tUn, tTest, tB, tIfS, tSeq, tNext, tDrop, tAsg, gName, tIf, tChain, tCallS, tTup, tLst, rI0, rI, rU, rEq, rNe, tSl, tPart, tNoPart, rIxT, rIxS, rSlS, rIn, tIf, tPar, tM1, tMkSup, tDGet, sDPut, rIxL, tDisp, tPairs, rIx]
      refine ⟨_, rfl, y, rfl, by omega, by omega, _, rfl, _, _, rfl, rfl, _, rfl, ?_⟩
      by_cases c1 : n ≤ dbef y
      · have y3 : 2 ≤ y := by
          by_cases z : y = 1
          · subst z
            have : dbef 1 = 0 := rfl
            omega
          · omega
        refine iT (decide_eq_true c1) ⟨_, rfl, _, _, rfl, rfl, ⟨rfl, y - 1, by omega, by omega, rfl⟩, ?_⟩
        show (y - 1).toNat < y.toNat
        omega
      · refine iF (decide_eq_false c1) ?_
        refine while_by (fun σ H' => H = H' ∧ ∃ y : Int, 1 ≤ y ∧ y ≤ 10001 ∧ dbef y < n ∧ σ = [some (.int n), some (.int y), none, none]) (fun σ _ => 10001 - slotI σ 1) ⟨rfl, y, y1, y2, by omega, rfl⟩ ?_ ?_
        · rintro σ H' ⟨rfl, y, y1, y2, y4, rfl⟩
          dsimp only [tRet, tAndV, tOrV, tNotV, tNot, tAnd, tOr, tCB, tCons, tNil, tC, tVar, tOp, tUn, tTest, tB, tIfS, tSeq, tNext, tDrop, tAsg, gName, tIf, tChain, tCallS, tTup, tLst, rI0, rI, rU, rEq, rNe, tSl, tPart, tNoPart, rIxT, rIxS, rSlS, rIn, tIf, tPar, tM1, tMkSup, tDGet, sDPut, rIxL, tDisp, tPairs, rIx]
          refine ⟨_, rfl, _, _, rfl, rfl, y + 1, rfl, by omega, by omega, _, rfl, _, _, rfl, rfl, _, rfl, ?_⟩
          by_cases c2 : dbef (y + 1) < n
          · have y5 : y < 10000 := by
              by_cases z : 10000 ≤ y
              · have : dbef 10000 ≤ dbef y := dbef_pos z
                have e : dbef 10000 = 3652059 := rfl
                omega
              · omega
            refine iT (decide_eq_true c2) ⟨_, rfl, _, _, rfl, rfl, ⟨rfl, y + 1, by omega, by omega, c2, rfl⟩, ?_⟩
            show 10001 - (y + 1).toNat < 10001 - y.toNat
            omega
          · refine iF (decide_eq_false c2) ⟨_, rfl, _, rfl, y, rfl, by omega, by omega, _, _, rfl, rfl, _, _, rfl, ?_⟩
            have y6 : y ≤ 9999 := by
              by_cases z : 10000 ≤ y
              · have : dbef 10000 ≤ dbef y := dbef_pos z
                have e : dbef 10000 = 3652059 := rfl
                omega
              · omega
            have st := dbef_step y
            refine while_by (fun σ H' => H = H' ∧ ∃ (m : Nat) (r : Int), m ≤ 11 ∧ 1 ≤ r ∧ n = dbef y + cum y m + r ∧ σ = [some (.int n), some (.int y), some (.int ((m : Nat) + 1)), some (.int r)]) (fun σ _ => 12 - slotI σ 2) ⟨rfl, 0, n - dbef y, by omega, by omega, by show n = dbef y + 0 + _; omega, rfl⟩ ?_ ?_
            · rintro σ H' ⟨rfl, m, r, m1, r1, e, rfl⟩
              dsimp only [tRet, tAndV, tOrV, tNotV, tNot, tAnd, tOr, tCB, tCons, tNil, tC, tVar, tOp, tUn, tTest, tB, tIfS, tSeq, tNext, tDrop, tAsg, gName, tIf, tChain, tCallS, tTup, tLst, rI0, rI, rU, rEq, rNe, tSl, tPart, tNoPart, rIxT, rIxS, rSlS, rIn, tIf, tPar, tM1, tMkSup, tDGet, sDPut, rIxL, tDisp, tPairs, rIx]
              refine ⟨_, rfl, _, rfl, _, rfl, y, (m : Int) + 1, rfl, by omega, by omega, _, _, rfl, rfl, _, rfl, ?_⟩
              by_cases c3 : dim y ((m : Int) + 1) < r
              · have m2 : m ≤ 10 := by
                  by_cases z : m = 11
                  · subst z
                    have e12 : dim y (((11 : Nat) : Int) + 1) = 31 := dim_12 y
                    have := cum_11 y
                    omega
                  · omega
                refine iT (decide_eq_true c3) ⟨_, rfl, _, rfl, _, rfl, y, (m : Int) + 1, rfl, by omega, by omega, _, _, rfl, rfl, _, rfl, _, _, rfl, rfl, ⟨rfl, m + 1, r - dim y ((m : Int) + 1), by omega, by omega, ?_, rfl⟩, ?_⟩
                · show n = dbef y + (cum y m + dim y ((m : Nat) + 1)) + _
                  omega
                · show 12 - ((m : Int) + 1 + 1).toNat < 12 - ((m : Int) + 1).toNat
                  omega
              · refine iF (decide_eq_false c3) ?_
                have dt : Dt n y ((m : Int) + 1) r := ⟨y1, y6, by omega, by omega, r1, by omega, by rw [show ((m : Int) + 1 - 1).toNat = m by omega]; exact e⟩
                have dp := dim_pos (y := y) (m := (m : Int) + 1) (by omega) (by omega)
                have t1 : (padL 4 y.toNat).length ≤ 10 := by
                  rw [padL_len]
                  have := numL_len (n := y.toNat) (k := 4) (by decide) (by omega)
                  omega
                have t2 : (padL 2 ((m : Int) + 1).toNat).length ≤ 10 := by
                  rw [padL_len]
                  have := numL_len (n := ((m : Int) + 1).toNat) (k := 2) (by decide) (by omega)
                  omega
                have t3 : (padL 2 r.toNat).length ≤ 10 := by
                  rw [padL_len]
                  have := numL_len (n := r.toNat) (k := 2) (by decide) (by omega)
                  omega
                refine ⟨_, rfl, y.toNat, 4, by rw [show ((y.toNat : Nat) : Int) = y by omega]; rfl, by omega, by omega, _, _, rfl, rfl, ?_, _, rfl, ((m : Int) + 1).toNat, 2, by rw [show ((((m : Int) + 1).toNat : Nat) : Int) = (m : Int) + 1 by omega]; rfl, by omega, by omega, _, _, rfl, rfl, ?_, _, _, rfl, rfl, ?_, _, rfl, r.toNat, 2, by rw [show ((r.toNat : Nat) : Int) = r by omega]; rfl, by omega, by omega, _, _, rfl, rfl, ?_, ?_⟩
                · rw [len_ofL, sizeLine_eq]
                  show _ + 1 ≤ _
                  omega
                · rw [len_ofL, len_tl, tl_append, List.length_append, tl_ofL, sizeLine_eq]
                  show _ + 1 + _ ≤ _
                  omega
                · rw [len_tl, tl_append, tl_append, List.length_append, List.length_append, tl_ofL, tl_ofL, sizeLine_eq]
                  show _ + 1 + _ + 1 ≤ _
                  omega
                · rw [len_ofL, len_tl, tl_append, tl_append, tl_append, List.length_append, List.length_append, List.length_append, tl_ofL, tl_ofL, sizeLine_eq]
                  show _ + 1 + _ + 1 + _ ≤ _
                  omega
                · have e9 : (((ofL (padL 4 y.toNat) ++ ("-" : Str)) ++ ofL (padL 2 ((m : Int) + 1).toNat)) ++ ("-" : Str)) ++ ofL (padL 2 r.toNat) = dtext y ((m : Int) + 1) r := by
                    refine ext_tl ?_
                    rw [tl_append, tl_append, tl_append, tl_append, tl_ofL, tl_ofL, tl_ofL]
                    show (((padL 4 y.toNat ++ [45]) ++ padL 2 ((m : Int) + 1).toNat) ++ [45]) ++ padL 2 r.toNat = padL 4 y.toNat ++ (45 :: (padL 2 ((m : Int) + 1).toNat ++ (45 :: padL 2 r.toNat)))
                    simp
                  rw [e9]
                  exact k _ _ _ dt
            · rintro σ H' Q1 Q2 m h
              change tTest _ σ H' Q2
              dsimp only [tRet, tAndV, tOrV, tNotV, tNot, tAnd, tOr, tCB, tCons, tNil, tC, tVar, tOp, tUn, tTest, tB, tIfS, tSeq, tNext, tDrop, tAsg, gName, tIf, tChain, tCallS, tTup, tLst, rI0, rI, rU, rEq, rNe, tSl, tPart, tNoPart, rIxT, rIxS, rSlS, rIn, tIf, tPar, tM1, tMkSup, tDGet, sDPut, rIxL, tDisp, tPairs, rIx]
              dsimp only [tTest, tOp, tVar, tCallS, tCons, tNil, tC, rI0] at h
              obtain ⟨v0, a0, v1, a1, v2, a2, ⟨y, m', a3, a4, a5, i1, j1, a6, a7, k1, a8, q⟩⟩ := h
              exact ⟨v0, a0, v1, a1, v2, a2, ⟨y, m', a3, a4, a5, i1, j1, a6, a7, k1, a8, m _ _ q⟩⟩
        · rintro σ H' Q1 Q2 m h
          change tTest _ σ H' Q2
          dsimp only [tRet, tAndV, tOrV, tNotV, tNot, tAnd, tOr, tCB, tCons, tNil, tC, tVar, tOp, tUn, tTest, tB, tIfS, tSeq, tNext, tDrop, tAsg, gName, tIf, tChain, tCallS, tTup, tLst, rI0, rI, rU, rEq, rNe, tSl, tPart, tNoPart, rIxT, rIxS, rSlS, rIn, tIf, tPar, tM1, tMkSup, tDGet, sDPut, rIxL, tDisp, tPairs, rIx]
          dsimp only [tTest, tOp, tVar, tCallS, tCons, tNil, tC, rI0] at h
          obtain ⟨v0, a0, i0, j0, b0, b1, y, a3, a4, a5, v1, a1, i1, j1, a6, a7, k1, a8, q⟩ := h
          exact ⟨v0, a0, i0, j0, b0, b1, y, a3, a4, a5, v1, a1, i1, j1, a6, a7, k1, a8, m _ _ q⟩
    · rintro σ H' Q1 Q2 m h
      change tTest _ σ H' Q2
      dsimp only [tRet, tAndV, tOrV, tNotV, tNot, tAnd, tOr, tCB, tCons, tNil, tC, tVar, tOp, tUn, tTest, tB, tIfS, tSeq, tNext, tDrop, tAsg, gName, tIf, tChain, tCallS, tTup, tLst, rI0, rI, rU, rEq, rNe, tSl, tPart, tNoPart, rIxT, rIxS, rSlS, rIn, tIf, tPar, tM1, tMkSup, tDGet, sDPut, rIxL, tDisp, tPairs, rIx]
      dsimp only [tTest, tOp, tVar, tCallS, tCons, tNil, tC, rI0] at h
      obtain ⟨v0, a0, y, a3, a4, a5, v1, a1, i1, j1, a6, a7, k1, a8, q⟩ := h
      exact ⟨v0, a0, y, a3, a4, a5, v1, a1, i1, j1, a6, a7, k1, a8, m _ _ q⟩
end
end K5
set_option Elab.async false
set_option maxRecDepth 100000
set_option maxHeartbeats 2000000
/-! comprehensions by turns; day_of -/
namespace K5
open PySem PySem.Spec PyProof.Rows L2 TL NumText
section
variable {P : Program} {w : World} {K : PySem.W.Frag} {mg : Str → Option Value} {base : Heap}
theorem lc_own {J : It} {n : Nat} {G : Hp → Prop} {Y : Nat → Hp → V → Hp → Prop} (w : Walk J n G Y) {te : TE} {j : Nat} {σ : L2.St} {H1 : Hp} {D : Addr} {Qd : Hp → Prop} (Pv : Nat → Hp → Prop) (h0 : Pv 0 (upd H1 D (.lst []))) (hG : ∀ i H, i ≤ n → Pv i H → G H)
    (hs : ∀ i x H H', i < n → Pv i H → Y i H x H' → te (σ.set j (some x)) H' fun y H4 => ∃ acc, H4 D = some (.lst acc) ∧ acc.length < sizeLine ∧ Pv (i + 1) (upd H4 D (.lst (acc ++ [y])))) (hd : ∀ H, Pv n H → Qd H) :
    ∃ W : Nat → Nat → Hp → Prop, (∃ m, W 0 m (upd H1 D (.lst []))) ∧ ∀ i m H, W i m H →
      (J.stop i H ∧ Qd H) ∨ (J.go i H ∧ ∃ Nx : Hp → Prop, (∀ H', Nx H' → ∃ m', m' < m ∧ W (i + 1) m' H') ∧ ∀ x H', J.yld i H x H' → gName j x (wipe σ [j]) H' fun σ2 H2 => wipe σ2 [j] = wipe σ [j] ∧ tYes σ2 H2 fun b H3 =>
        if b = true then te σ2 H3 fun y H4 => ∃ acc, H4 D = some (.lst acc) ∧ acc.length < sizeLine ∧ Nx (upd H4 D (.lst (acc ++ [y]))) else Nx H3) := by
  refine lc_it w Pv h0 hG (fun i x H H' hi p y => ?_) hd
  have e1 : (wipe σ [j]).set j (some x) = σ.set j (some x) := by
    show (σ.set j none).set j (some x) = _
    rw [List.set_set]
  refine ⟨?_, ?_⟩
  · show ((wipe σ [j]).set j (some x)).set j none = σ.set j none
    rw [e1, List.set_set]
  · show tYes ((wipe σ [j]).set j (some x)) H' _
    rw [e1]
    dsimp only [tYes]
    rw [if_pos rfl]
    exact hs i x H H' hi p y
theorem walk_range {lo : Int} {n : Nat} : Walk (Itr lo n) n (fun _ => True) (fun i H v H' => H' = H ∧ v = .int (lo + (i : Nat))) :=
  ⟨fun _ _ hi _ => hi, fun _ _ => Nat.le_refl _, fun _ _ _ _ _ _ y => y⟩
theorem walk_list {a : Addr} {xs : List V} : Walk (Itl K a) xs.length (fun H => H a = some (.lst xs)) (fun i H v H' => H' = H ∧ xs[i]? = some v) :=
  ⟨fun i H hi h => ⟨xs, xs[i], SqL.of h, by simp [hi]⟩, fun H h => ⟨xs, SqL.of h, Nat.le_refl _⟩, fun i H x H' _ h y => ⟨y.1, y.2 xs (SqL.of h)⟩⟩
/-- [f(t) for t in texts] -/
theorem lc_strs {ts : List Str} {a : Addr} {te : TE} {i j : Nat} {σ : L2.St} {H : Hp} {Q : VK} (f : Str → V) (hi : σ[i]? = some (some (.ref a))) (ha : H a = some (.lst (ts.map V.str))) (hz : ts.length ≤ 1000)
    (hte : ∀ t H' Q', t ∈ ts → Same H H' → (∀ H'', Same H' H'' → Q' (f t) H'') → te (σ.set j (some (.str t))) H' Q')
    (k : ∀ H' L, Same H H' → H' L = some (.lst (ts.map f)) → Q (.ref L) H') : tLc (iList K (tVar i)) (gName j) tYes te [j] σ H Q := by
  refine ⟨_, hi, a, rfl, ⟨_, SqL.of ha⟩, fun D hD => ?_⟩
  refine lc_own walk_list (fun i' H' => Same H H' ∧ H' D = some (.lst ((ts.take i').map f))) ⟨Same.put hD, upd_same⟩ (fun _ _ _ p => p.1 _ _ ha) ?_ ?_
  · rintro i' x H1 H1' hi' ⟨s1, hD1⟩ ⟨rfl, hx⟩
    obtain ⟨t, ht, rfl⟩ : ∃ t, ts[i']? = some t ∧ x = .str t := by
      rw [List.getElem?_map] at hx
      cases e : ts[i']? with
      | none => rw [e] at hx; cases hx
      | some u => rw [e] at hx; exact ⟨u, rfl, (Option.some.inj hx).symm⟩
    refine hte t _ _ (List.mem_of_getElem? ht) s1 fun H2 s2 => ⟨_, s2 _ _ hD1, ?_, fun b o e => ?_, ?_⟩
    · rw [List.length_map, List.length_take, sizeLine_eq]
      omega
    · have ne : b ≠ D := fun q => by rw [q, hD] at e; cases e
      exact (upd_ne ne).trans (s2 _ _ (s1 _ _ e))
    · rw [upd_same, List.take_add_one, ht]
      simp
  · rintro H1 ⟨s1, hD1⟩
    refine k H1 D s1 ?_
    rw [hD1, List.length_map, List.take_length]
theorem padL4 {n w : Nat} (h : n < 10 ^ w) (hw : 0 < w) : (padL w n).length = w := by
  rw [padL_len]
  have := numL_len (n := n) (k := w) hw h
  omega
theorem padL_ne {n w : Nat} : padL w n ≠ [] := fun e => by
  have := padL_len w n
  rw [e, List.length_nil] at this
  have := numL_pos n
  omega
theorem int_pad {n w : Nat} (h : n < 10 ^ w) (hw : 0 < w) (hw2 : w ≤ 100) : intText? (ofL (padL w n)) = some ((n : Nat) : Int) := by
  rw [int_ofL (padL_digits w n) padL_ne (by rw [padL4 h hw]; omega), padL_val]
theorem digs_pad {n w : Nat} : digs (padL w n) = true := digs_iff.mpr ⟨padL_ne, padL_digits w n⟩
theorem cum_sum (y : Int) (m : Nat) : ((List.range m).map fun (i : Nat) => dim y (1 + (i : Nat))).sum = cum y m := by
  induction m with
  | zero => rfl
  | succ m ih =>
    rw [List.range_succ, List.map_append, List.sum_append, ih]
    show _ + (dim y (1 + (m : Nat)) + 0) = cum y m + dim y ((m : Nat) + 1)
    rw [Int.add_comm 1 (m : Int), Int.add_zero]
theorem four {l : List Nat} (h : l.length = 4) : ∃ a b c d, l = [a, b, c, d] := by
  match l, h with
  | [a, b, c, d], _ => exact ⟨a, b, c, d, rfl⟩
theorem two {l : List Nat} (h : l.length = 2) : ∃ a b, l = [a, b] := by
  match l, h with
  | [a, b], _ => exact ⟨a, b, rfl⟩
theorem date_parts {Y M D : List Nat} (lY : Y.length = 4) (lM : M.length = 2) (lD : D.length = 2) : (Y ++ (45 :: (M ++ (45 :: D)))).length = 10 ∧ cutS (ofL (Y ++ (45 :: (M ++ (45 :: D))))) none (some 4) = ofL Y ∧
    cutS (ofL (Y ++ (45 :: (M ++ (45 :: D))))) (some 5) (some 7) = ofL M ∧ cutS (ofL (Y ++ (45 :: (M ++ (45 :: D))))) (some 8) none = ofL D ∧ (Y ++ (45 :: (M ++ (45 :: D))))[4]? = some 45 ∧ (Y ++ (45 :: (M ++ (45 :: D))))[7]? = some 45 := by
  obtain ⟨a, b, c, d, rfl⟩ := four lY
  obtain ⟨e, f, rfl⟩ := two lM
  obtain ⟨g, h, rfl⟩ := two lD
  exact ⟨rfl, rfl, rfl, rfl, rfl, rfl⟩
theorem sc_DayOf : FnScope ["text", "words", "year", "month", "day", "one", "word"] ["text"] (defScope sDayOf) := ⟨rfl, rfl, rfl, by decide +kernel, rfl, by decide +kernel, by decide +kernel⟩
theorem ok_day_of (B : Blt mg) (F : Fd K mg "day_of" sDayOf ["text"]) (d_are_digits : Df P w K mg base CX0 1 "are_digits" ["text"] spDigits) (d_days_before : Df P w K mg base CX0 1 "days_before" ["year"] spDaysBefore) (d_days_in : Df P w K mg base CX0 1 "days_in" ["year", "month"] (spDaysIn)) : Df P w K mg base CX0 2 "day_of" ["text"] spDayOf := by
  refine F.ok sc_DayOf (fun vs H Q E h => ?_) (fun f cdv A outer s H vs Q E hr h => ?_)
  · obtain ⟨n, y, m, d, rfl, _⟩ := h
    rfl
  · obtain ⟨n, y, m, d, rfl, ⟨y1, y2, m1, m2, d1, d2, e⟩, k⟩ := h
    have sc := sc_DayOf
    have dp := dim_pos (y := y) m1 m2
    refine ⟨_, (pss_cons (ps_set (i := 1) sc.nd rfl (Or.inl rfl) (pe_lst (pa_cons (pe_slice sl_str (pv 0) po_none (po_some pe_int)) (pa_cons (pe_slice sl_str (pv 0) (po_some pe_int) (po_some pe_int)) (pa_cons (pe_slice sl_str (pv 0) (po_some pe_int) po_none) pa_nil)))))
      (pss_cons (ps_if (PW.pt (pw_or (pt_cmpR op_ne (pe_callB call_len rfl B.len_ bo_len (pa_cons (pv 0) pa_nil)) pe_int (nomark _)) (pw_or (pt_cmpR op_ne (pe_op op_add_str (pe_ix ix_str (pv 0) pe_int (fun _ _ => rfl)) (pe_ix ix_str (pv 0) pe_int (fun _ _ => rfl))) pe_str (nomark _)) (pw_or1 (pt_not (pt_val (pe_callB (cr_all rfl) rfl B.all_ bo_all (pa_cons (pe_lc (own := [("word", 6)]) (tt := tYes) rfl sc.nd (pi_list (pv 1)) (blkOk_by (N := ["text", "words", "year", "month", "day", "one", "word"]) (sc := defScope sDayOf) (by decide +kernel)) (fun _ _ _ _ _ => (pg_name (i := 6) sc.nd rfl (Or.inl rfl))) (fun _ _ _ _ _ => pts_nil) (fun _ _ _ _ _ => (pe_d0 d_are_digits hr rfl (by decide) (pa_cons (pv 6) pa_nil)))) pa_nil)))))))) (pss_one ps_never) pss_nil)
      (pss_cons (ps_asg (pe_lc (own := [("word", 6)]) (tt := tYes) rfl sc.nd (pi_list (pv 1)) (blkOk_by (N := ["text", "words", "year", "month", "day", "one", "word"]) (sc := defScope sDayOf) (by decide +kernel)) (fun _ _ _ _ _ => (pg_name (i := 6) sc.nd rfl (Or.inl rfl))) (fun _ _ _ _ _ => pts_nil) (fun _ _ _ _ _ => (pe_callTy call_int_str rfl B.int_ bo_int (pa_cons (pv 6) pa_nil)))) (pg_lst rfl (pgs_cons (pg_name (i := 2) sc.nd rfl (Or.inr rfl)) (pgs_cons (pg_name (i := 3) sc.nd rfl (Or.inl rfl)) (pgs_cons (pg_name (i := 4) sc.nd rfl (Or.inl rfl)) pgs_nil)))))
      (pss_cons (ps_if (PW.pt (pw_or (pt_cmpR op_eq (pv 2) pe_int (nomark _)) (pw_or (pt_not (pt_chain op_le op_le pe_int (pv 3) pe_int)) (pw_or1 (pt_not (pt_chain op_le op_le pe_int (pv 4) (pe_d0 d_days_in hr rfl (by decide) (pa_cons (pv 2) (pa_cons (pv 3) pa_nil))))))))) (pss_one ps_never) pss_nil)
      (pss_one (ps_ret (pe_op op_add (pe_op op_add (pe_d0 d_days_before hr rfl (by decide) (pa_cons (pv 2) pa_nil)) (pe_callB (cr_sum rfl) rfl B.sum_ bo_sum (pa_cons (pe_lc (own := [("one", 5)]) (tt := tYes) rfl sc.nd (pi_range2 rfl B.range_ (pa_cons pe_int (pa_cons (pv 3) pa_nil))) (blkOk_by (N := ["text", "words", "year", "month", "day", "one", "word"]) (sc := defScope sDayOf) (by decide +kernel)) (fun _ _ _ _ _ => (pg_name (i := 5) sc.nd rfl (Or.inl rfl))) (fun _ _ _ _ _ => pts_nil) (fun _ _ _ _ _ => (pe_d0 d_days_in hr rfl (by decide) (pa_cons (pv 2) (pa_cons (pv 5) pa_nil))))) pa_nil))) (pv 4)))))))), ?_⟩
    dsimp only [tRet, tAndV, tOrV, tNotV, tNot, tAnd, tOr, tCB, tCons, tNil, tC, tVar, tOp, tUn, tTest, tB, tIfS, tSeq, tNext, tDrop, tAsg, gName, tIf, tChain, tCallS, tTup, tLst, rI0, rI, rU, rEq, rNe, tSl, tPart, tNoPart, rIxT, rIxS, rSlS, rIn, tIf, tPar, tM1, tMkSup, tDGet, sDPut, rIxL, tDisp, tPairs, rIx]
    have lY : (padL 4 y.toNat).length = 4 := padL4 (by omega) (by decide)
    have lM : (padL 2 m.toNat).length = 2 := padL4 (by omega) (by decide)
    have lD : (padL 2 d.toNat).length = 2 := padL4 (by omega) (by decide)
    obtain ⟨lT, cY, cM, cD, c4, c7⟩ := date_parts lY lM lD
    have ht : dtext y m d = ofL (padL 4 y.toNat ++ (45 :: (padL 2 m.toNat ++ (45 :: padL 2 d.toNat)))) := rfl
    rw [ht]
    generalize padL 4 y.toNat ++ (45 :: (padL 2 m.toNat ++ (45 :: padL 2 d.toNat))) = T at *
    have lS : (ofL T).length ≤ sizeLine := by rw [len_ofL, lT, sizeLine_eq]; omega
    refine ⟨_, rfl, _, rfl, _, rfl, lS, _, rfl, _, rfl, _, rfl, _, rfl, lS, _, rfl, _, rfl, _, rfl, lS, by show 3 ≤ sizeLine; decide, fun L hL => ?_⟩
    rw [cY, cM, cD]
    generalize hts : ([ofL (padL 4 y.toNat), ofL (padL 2 m.toNat), ofL (padL 2 d.toNat)] : List Str) = ts
    have hL1 : (upd H L (.lst [.str (ofL (padL 4 y.toNat)), .str (ofL (padL 2 m.toNat)), .str (ofL (padL 2 d.toNat))])) L = some (.lst (ts.map V.str)) := by rw [← hts, upd_same]; rfl
    have s1 : Same H (upd H L (.lst [.str (ofL (padL 4 y.toNat)), .str (ofL (padL 2 m.toNat)), .str (ofL (padL 2 d.toNat))])) := Same.put hL
    generalize upd H L (.lst [.str (ofL (padL 4 y.toNat)), .str (ofL (padL 2 m.toNat)), .str (ofL (padL 2 d.toNat))]) = H1 at *
    refine ⟨_, rfl, _, _, rfl, ⟨lS, rfl⟩, rfl, _, rfl, iF (by rw [len_ofL, lT]; rfl) ?_⟩
    refine ⟨_, rfl, _, _, _, rfl, rfl, lS, atI_nat (j := 4) c4, _, rfl, _, _, _, rfl, rfl, lS, atI_nat (j := 7) c7, _, _, rfl, rfl, by show 1 + 1 ≤ sizeLine; decide, rfl, _, rfl, iF (by decide +kernel) ?_⟩
    refine lc_strs (i := 1) (fun t => .bl (digs (tl t))) rfl hL1 (by rw [← hts]; show 3 ≤ 1000; omega) (fun t H' Q' hm s2 q => ⟨_, rfl, t, rfl, ?_, fun H'' s3 => q _ s3⟩) fun H2 L2 s2 hL2 => ?_
    · rw [← hts] at hm
      rcases List.mem_cons.mp hm with rfl | hm
      · rw [len_ofL]; omega
      rcases List.mem_cons.mp hm with rfl | hm
      · rw [len_ofL]; omega
      rcases List.mem_cons.mp hm with rfl | hm
      · rw [len_ofL]; omega
      · cases hm
    · have all : ((ts.map fun t => digs (tl t)).all id) = true := by
        rw [← hts]
        show (digs (padL 4 y.toNat) && (digs (padL 2 m.toNat) && (digs (padL 2 d.toNat) && true))) = true
        rw [digs_pad, digs_pad, digs_pad]
        rfl
      refine ⟨L2, ts.map fun t => digs (tl t), rfl, SqL.of (by rw [hL2, List.map_map]; rfl), _, rfl, iF (by rw [all]; rfl) ?_⟩
      refine lc_strs (i := 1) (fun t => .int (digitsVal (tl t))) rfl (s2 _ _ hL1) (by rw [← hts]; show 3 ≤ 1000; omega) (fun t H' Q' hm s3 q => ⟨_, rfl, t, ((digitsVal (tl t) : Nat) : Int), rfl, ?_, ?_, q _ (Same.refl _)⟩) fun H3 L3 s3 hL3 => ?_
      · rw [← hts] at hm
        rcases List.mem_cons.mp hm with rfl | hm
        · exact int_ofL (padL_digits _ _) padL_ne (by omega)
        rcases List.mem_cons.mp hm with rfl | hm
        · exact int_ofL (padL_digits _ _) padL_ne (by omega)
        rcases List.mem_cons.mp hm with rfl | hm
        · exact int_ofL (padL_digits _ _) padL_ne (by omega)
        · cases hm
      · rw [← hts] at hm
        rcases List.mem_cons.mp hm with rfl | hm
        · rw [len_ofL]; omega
        rcases List.mem_cons.mp hm with rfl | hm
        · rw [len_ofL]; omega
        rcases List.mem_cons.mp hm with rfl | hm
        · rw [len_ofL]; omega
        · cases hm
      · have eL : H3 L3 = some (.lst [.int y, .int m, .int d]) := by
          rw [hL3, ← hts]
          show some (HO.lst [V.int (digitsVal (padL 4 y.toNat) : Nat), V.int (digitsVal (padL 2 m.toNat) : Nat), V.int (digitsVal (padL 2 d.toNat) : Nat)]) = _
          rw [padL_val, padL_val, padL_val, show ((y.toNat : Nat) : Int) = y by omega, show ((m.toNat : Nat) : Int) = m by omega, show ((d.toNat : Nat) : Int) = d by omega]
        refine ⟨L3, _, rfl, SqL.of eL, rfl, _, _, rfl, _, _, rfl, _, _, rfl, rfl, ?_⟩
        dsimp only [tRet, tAndV, tOrV, tNotV, tNot, tAnd, tOr, tCB, tCons, tNil, tC, tVar, tOp, tUn, tTest, tB, tIfS, tSeq, tNext, tDrop, tAsg, gName, tIf, tChain, tCallS, tTup, tLst, rI0, rI, rU, rEq, rNe, tSl, tPart, tNoPart, rIxT, rIxS, rSlS, rIn, tIf, tPar, tM1, tMkSup, tDGet, sDPut, rIxL, tDisp, tPairs, rIx]
        refine ⟨_, rfl, rfl, _, rfl, ?_⟩
        rw [dec_int]
        refine iF (beq_eq_false_iff_ne.mpr (by omega)) ⟨_, rfl, _, _, rfl, rfl, _, rfl, iT (decide_eq_true m1) ⟨_, _, rfl, rfl, _, rfl, ?_⟩⟩
        refine iF (by rw [decide_eq_true m2]; rfl) ⟨_, rfl, _, _, rfl, rfl, _, rfl, iT (decide_eq_true d1) ⟨_, rfl, _, rfl, y, m, rfl, m1, m2, _, _, rfl, rfl, _, rfl, ?_⟩⟩
        refine iF (by rw [decide_eq_true d2]; rfl) ⟨_, rfl, y, rfl, by omega, by omega, _, rfl, 1, m, rfl, ⟨by omega, by omega, by omega, by omega⟩, fun D hD => ?_⟩
        have e0 : H3 D = none := hD
        refine lc_own (j := 5) walk_range (fun i H' => Same H3 H' ∧ H' D = some (.lst (((List.range i).map fun (i : Nat) => dim y (1 + (i : Nat))).map V.int))) ⟨Same.put hD, upd_same⟩ (fun _ _ _ _ => trivial) ?_ ?_
        · rintro i x H4 H4' hi ⟨s4, hD4⟩ ⟨rfl, rfl⟩
          refine ⟨_, rfl, _, rfl, y, 1 + (i : Int), rfl, by omega, by omega, _, hD4, ?_, fun b o eb => ?_, ?_⟩
          · rw [List.length_map, List.length_map, List.length_range, sizeLine_eq]
            omega
          · have ne : b ≠ D := fun q => by rw [q, hD] at eb; cases eb
            exact (upd_ne ne).trans (s4 _ _ eb)
          · rw [upd_same, List.range_succ, List.map_append, List.map_append]
            rfl
        · rintro H4 ⟨s4, hD4⟩
          refine ⟨D, _, rfl, SqL.of hD4, _, _, rfl, rfl, _, rfl, _, _, rfl, rfl, ?_⟩
          rw [cum_sum, ← e]
          exact k _ (s1.trans (s2.trans (s3.trans s4)))
end
end K5
set_option Elab.async false
set_option maxRecDepth 100000
set_option maxHeartbeats 2000000
/-! number_of, convert, show -/
namespace K5
open PySem PySem.Spec PyProof.Rows L2 TL NumText
theorem eT {b : Bool} {A B : Prop} (h : if b = true then A else B) (e : b = true) : A := by
  rw [if_pos e] at h
  exact h
theorem eF {b : Bool} {A B : Prop} (h : if b = true then A else B) (e : b = false) : B := by
  rw [if_neg (by rw [e]; exact Bool.false_ne_true)] at h
  exact h
theorem w_ifS {tc : TT} {t u : TS} {D : Ends} {σ : L2.St} {H : Hp} (b : Bool) (h : ∀ Q : Bool → Hp → Prop, (∀ H', Same H H' → Q b H') → tc σ H Q) (k : ∀ H', Same H H' → if b = true then t D σ H' else u D σ H') : tIfS tc t u D σ H := h _ k
theorem w_e {te : TE} {σ : L2.St} {H : Hp} {Q : VK} (v : V) (h : ∀ Q' : VK, Q' v H → te σ H Q') (q : Q v H) : te σ H Q := h _ q
theorem w_eh {te : TE} {σ : L2.St} {H : Hp} {Q : VK} (R : V → Hp → Prop) (h : ∀ Q' : VK, (∀ v H', R v H' → Q' v H') → te σ H Q') (k : ∀ v H', R v H' → Q v H') : te σ H Q := h _ k
theorem num_at {H : Hp} {a : Addr} : ∀ {k : Kd}, k.num = true → k.At H a → ∃ nm r, H a = some (.tup (.str nm :: .int k.lo :: .int k.hi :: r))
  | .int _ _, _, h => ⟨_, _, h⟩
  | .dec _ _ _, _, h => ⟨_, _, h⟩
theorem partition_cut (l : List Nat) : Txt.partition (ofL l) "." = match cutP l with
    | (w, none) => (ofL w, ("" : Str), ("" : Str))
    | (w, some q) => (ofL w, ("." : Str), ofL q) := by
  rcases cutP_cases l with ⟨h1, h2⟩ | ⟨a, b, h1, h2, h3⟩
  · rw [h2]
    exact partition_none (y := ".") (s := 46) (S := []) rfl (a := ofL l) h1
  · rw [h3, h2]
    have := partition_app (y := ".") (s := 46) (S := []) rfl (a := ofL a) (b := ofL b) h1
    refine Eq.trans (congrArg (fun z => Txt.partition z ".") ?_) this
    exact ext_tl (by rw [tl_append, tl_append]; show a ++ 46 :: b = (a ++ [46]) ++ b; simp)
theorem neg_eq (t : List Nat) : decide (V.str (ofL (t.take 1)) = V.str "-") = isNeg t := by
  unfold isNeg
  rw [dec_str, Bool.eq_iff_iff]
  simp only [beq_iff_eq, decide_eq_true_eq]
  constructor
  · intro z
    exact congrArg tl z
  · intro z
    rw [z]
    rfl
theorem body_cut (t : List Nat) : cutS (ofL t) (some (if isNeg t = true then 1 else 0)) none = ofL (bodyOf t) := by
  unfold bodyOf
  by_cases h : isNeg t = true
  · rw [if_pos h, if_pos h]
    have h1 : 1 ≤ t.length := by
      have z : t.take 1 = [45] := of_decide_eq_true h
      cases t with
      | nil => cases z
      | cons c l => simp
    exact cut_from t 1 h1
  · rw [if_neg h, if_neg h]
    exact cut_from t 0 (Nat.zero_le _)
theorem point_ne : ¬ (("." : Str) = "") := by decide +kernel
theorem parse_is {p : Nat} {l w q : List Nat} {pt : Str} (h : (pt = "" ∧ q = [] ∧ cutP (bodyOf l) = (w, none)) ∨ (pt = "." ∧ cutP (bodyOf l) = (w, some q))) :
    parse p l = if (digs w = true ∧ (pt = "" ∨ (p ≠ 0 ∧ digs q = true))) ∧ q.length ≤ p ∧ w.length + q.length ≤ 18 then some (sgn l (digitsVal (w ++ q ++ zer (p - q.length)))) else none := by
  unfold parse
  rcases h with ⟨rfl, rfl, h⟩ | ⟨rfl, h⟩
  · rw [h]
    dsimp only
    by_cases c : digs w = true ∧ w.length ≤ 18
    · rw [if_pos c, if_pos ⟨⟨c.1, .inl rfl⟩, Nat.zero_le _, c.2⟩, List.append_nil]
      rfl
    · rw [if_neg c, if_neg fun z => c ⟨z.1.1, z.2.2⟩]
  · rw [h]
    dsimp only
    by_cases c : (digs w = true ∧ p ≠ 0 ∧ digs q = true) ∧ q.length ≤ p ∧ w.length + q.length ≤ 18
    · rw [if_pos c, if_pos ⟨⟨c.1.1, .inr c.1.2⟩, c.2⟩]
    · rw [if_neg c, if_neg fun z => c ⟨⟨z.1.1, z.1.2.resolve_left point_ne⟩, z.2⟩]
theorem cut_parts (l : List Nat) : ∃ (w q : List Nat) (pt : Str), Txt.partition (ofL l) "." = (ofL w, pt, ofL q) ∧ ((pt = "" ∧ q = [] ∧ cutP l = (w, none)) ∨ (pt = "." ∧ cutP l = (w, some q))) ∧ w.length ≤ l.length ∧ q.length ≤ l.length := by
  have e := partition_cut l
  rcases cutP_cases l with ⟨h1, h2⟩ | ⟨a, b, h1, h2, h3⟩
  · rw [h2] at e
    exact ⟨l, [], "", e, .inl ⟨rfl, rfl, h2⟩, Nat.le_refl _, Nat.zero_le _⟩
  · rw [h3] at e
    refine ⟨a, b, ".", e, .inr ⟨rfl, h3⟩, ?_, ?_⟩ <;> (rw [h2, List.length_append, List.length_cons]; omega)
section
variable {P : Program} {w : World} {K : PySem.W.Frag} {mg : Str → Option Value} {base : Heap}
theorem sc_Number : FnScope ["kind", "text", "places", "found", "whole", "point", "part"] ["kind", "text"] (defScope sNumber) := ⟨rfl, rfl, rfl, by decide +kernel, rfl, by decide +kernel, by decide +kernel⟩
theorem ok_number_of {CU fU : Addr} (SU : SupC P K mg "Unfit" "cause" CU fU) (B : Blt mg) (F : Fd K mg "number_of" sNumber ["kind", "text"]) (d_are_digits : Df P w K mg base CX0 1 "are_digits" ["text"] spDigits) : Df P w K mg base (L2.CX P w) 2 "number_of" ["kind", "text"] (spNumber CU) := by
  refine F.okX sc_Number (fun vs H Q E h => ?_) (fun f cdv A outer s H vs Q E hr h => ?_)
  · obtain ⟨a, kd, t, rfl, _⟩ := h
    rfl
  · obtain ⟨a, kd, t, rfl, hn, hk, ho, hl, k1, k2⟩ := h
    have sc := sc_Number
    refine ⟨_, (pss_cons (ps_set (i := 2) sc.nd rfl (Or.inl rfl) (pe_ifExp (pt_cmpR op_eq (pe_ix ix_tup (pv 0) pe_int (fun _ _ => rfl)) pe_str (nomark _)) (pe_ix ix_tup (pv 0) pe_int (fun _ _ => rfl)) pe_int))
      (pss_cons (ps_asg (pe_partition (pe_slice sl_str (pv 1) (po_some (pe_callTy call_int1 rfl B.int_ bo_int (pa_cons (pe_cmpR op_eq (pe_slice sl_str (pv 1) po_none (po_some pe_int)) pe_str (nomark _)) pa_nil))) po_none) pe_str) (pg_tup rfl (pgs_cons (pg_name (i := 4) sc.nd rfl (Or.inl rfl)) (pgs_cons (pg_name (i := 5) sc.nd rfl (Or.inl rfl)) (pgs_cons (pg_name (i := 6) sc.nd rfl (Or.inl rfl)) pgs_nil)))))
      (pss_cons (ps_if (PW.pt (pw_or (pt_not (pt_val (pe_d0 d_are_digits hr rfl (by decide) (pa_cons (pv 4) pa_nil)))) (pw_or1 (PW.pt (pw_and (pt_cmpR op_ne (pv 5) pe_str (nomark _)) (pw_and1 (PW.pt (pw_or (pt_cmpR op_eq (pv 2) pe_int (nomark _)) (pw_or1 (pt_not (pt_val (pe_d0 d_are_digits hr rfl (by decide) (pa_cons (pv 6) pa_nil))))))))))))) (pss_one (ps_raise rfl (takes_of rfl rfl rfl rfl) (pmk_sup SU fld_cause hr (pa_cons pe_str pa_nil) rfl (by decide)))) pss_nil)
      (pss_cons (ps_if (pt_cmpR op_gt (pe_callB call_len rfl B.len_ bo_len (pa_cons (pv 6) pa_nil)) (pv 2) (nomark _)) (pss_one (ps_raise rfl (takes_of rfl rfl rfl rfl) (pmk_sup SU fld_cause hr (pa_cons pe_str pa_nil) rfl (by decide)))) pss_nil)
      (pss_cons (ps_if (pt_cmpR op_gt (pe_callB call_len rfl B.len_ bo_len (pa_cons (pe_op op_add_str (pv 4) (pv 6)) pa_nil)) (pe_gI rfl B.MOST_DIGITS) (nomark _)) (pss_one (ps_raise rfl (takes_of rfl rfl rfl rfl) (pmk_sup SU fld_cause hr (pa_cons pe_str pa_nil) rfl (by decide)))) pss_nil)
      (pss_cons (ps_set (i := 3) sc.nd rfl (Or.inl rfl) (pe_callTy call_int_str rfl B.int_ bo_int (pa_cons (pe_op op_add_str (pe_op op_add_str (pv 4) (pv 6)) (pe_op op_mul_sign pe_str (pe_op op_sub (pv 2) (pe_callB call_len rfl B.len_ bo_len (pa_cons (pv 6) pa_nil))))) pa_nil)))
      (pss_cons (ps_set (i := 3) sc.nd rfl (Or.inl rfl) (pe_ifExp (pt_cmpR op_eq (pe_slice sl_str (pv 1) po_none (po_some pe_int)) pe_str (nomark _)) (pe_un un_neg (pv 3)) (pv 3)))
      (pss_cons (ps_if (pt_not (pt_chain op_le op_le (pe_ix ix_tup (pv 0) pe_int (fun _ _ => rfl)) (pv 3) (pe_ix ix_tup (pv 0) pe_int (fun _ _ => rfl)))) (pss_one (ps_raise rfl (takes_of rfl rfl rfl rfl) (pmk_sup SU fld_cause hr (pa_cons pe_str pa_nil) rfl (by decide)))) pss_nil)
      (pss_one (ps_ret (pv 3))))))))))), ?_⟩
    obtain ⟨l, rfl⟩ : ∃ l, t = ofL l := ⟨tl t, (ofL_tl t).symm⟩
    rw [len_ofL] at hl
    have lS : (ofL l).length ≤ sizeLine := by rw [len_ofL, sizeLine_eq]; omega
    dsimp only [tSeq, tNext, tAsg, gName, tCallS, tCons, tNil]
    refine w_e (.int (kd.pl : Nat)) (fun Q' q => ?_) ?_
    · dsimp only [tRet, tAndV, tOrV, tNotV, tNot, tAnd, tOr, tCB, tCons, tNil, tC, tVar, tOp, tUn, tTest, tB, tIfS, tSeq, tNext, tDrop, tAsg, gName, tIf, tChain, tCallS, tTup, tLst, rI0, rI, rU, rEq, rNe, tSl, tPart, tNoPart, rIxT, rIxS, rSlS, rIn, tIf, tPar, tM1, tMkSup, tDGet, sDPut, rIxL, tDisp, tPairs, rIx]
      cases kd with
      | int lo hi =>
        have hk : H a = some (.tup [.str "int", .int lo, .int hi]) := hk
        exact ⟨_, rfl, _, _, _, _, rfl, rfl, SqT.of hk, rfl, rfl, _, rfl, iF (by decide +kernel) q⟩
      | dec lo hi p =>
        have hk : H a = some (.tup [.str "decimal", .int lo, .int hi, .int (p : Nat)]) := hk
        exact ⟨_, rfl, _, _, _, _, rfl, rfl, SqT.of hk, rfl, rfl, _, rfl, iT (by decide +kernel) ⟨_, rfl, _, _, _, _, rfl, rfl, SqT.of hk, rfl, q⟩⟩
      | text _ => cases hn
      | choice _ => cases hn
      | truth => cases hn
      | date => cases hn
    · refine w_eh (fun v H' => ∃ p, v = .ref p ∧ H p = none ∧ H' = upd H p (.tup [.str (Txt.partition (ofL (bodyOf l)) ".").1, .str (Txt.partition (ofL (bodyOf l)) ".").2.1, .str (Txt.partition (ofL (bodyOf l)) ".").2.2])) (fun Q' q => ?_) ?_
      · dsimp only [tRet, tAndV, tOrV, tNotV, tNot, tAnd, tOr, tCB, tCons, tNil, tC, tVar, tOp, tUn, tTest, tB, tIfS, tSeq, tNext, tDrop, tAsg, gName, tIf, tChain, tCallS, tTup, tLst, rI0, rI, rU, rEq, rNe, tSl, tPart, tNoPart, rIxT, rIxS, rSlS, rIn, tIf, tPar, tM1, tMkSup, tDGet, sDPut, rIxL, tDisp, tPairs, rIx]
        refine ⟨_, rfl, _, rfl, _, rfl, _, rfl, lS, rfl, .inr ⟨_, rfl, _, rfl, _, rfl, lS, ?_⟩⟩
        have e1 : cutS (ofL l) none (some 1) = ofL (l.take 1) := cut_to l 1
        rw [e1, neg_eq, body_cut]
        refine ⟨⟨_, rfl⟩, _, _, rfl, rfl, rfl, ?_, fun p hp => q _ _ ⟨p, rfl, hp, rfl⟩⟩
        rw [len_ofL, sizeLine_eq]
        have : (bodyOf l).length ≤ l.length := by
          unfold bodyOf
          split
          · rw [List.length_drop]; omega
          · exact Nat.le_refl _
        omega
      · rintro v H1 ⟨p, rfl, hp, rfl⟩
        refine ⟨p, _, rfl, SqT.of upd_same, rfl, _, _, rfl, _, _, rfl, _, _, rfl, rfl, ?_⟩
        obtain ⟨w, q, pt, ep, hcut, lw, lq⟩ := cut_parts (bodyOf l)
        rw [ep]
        have lb : (bodyOf l).length ≤ 20000 := by
          unfold bodyOf
          split
          · rw [List.length_drop]; omega
          · exact hl
        have s1 : Same H (upd H p (.tup [.str (ofL w), .str pt, .str (ofL q)])) := Same.put hp
        dsimp only
        generalize upd H p (.tup [.str (ofL w), .str pt, .str (ofL q)]) = H1 at *
        have hpar := parse_is (p := kd.pl) hcut
        dsimp only [tSeq, tNext, tAsg, gName, tCallS, tCons, tNil]
        refine w_ifS (!digs w || (!decide (pt = "") && (decide (kd.pl = 0) || !digs q))) (fun Q' qq => ?_) fun H2 s2 => ?_
        · dsimp only [tRet, tAndV, tOrV, tNotV, tNot, tAnd, tOr, tCB, tCons, tNil, tC, tVar, tOp, tUn, tTest, tB, tIfS, tSeq, tNext, tDrop, tAsg, gName, tIf, tChain, tCallS, tTup, tLst, rI0, rI, rU, rEq, rNe, tSl, tPart, tNoPart, rIxT, rIxS, rSlS, rIn, tIf, tPar, tM1, tMkSup, tDGet, sDPut, rIxL, tDisp, tPairs, rIx]
          refine ⟨_, rfl, ofL w, rfl, by rw [len_ofL]; omega, fun H2 s2 => ⟨_, rfl, ?_⟩⟩
          have e1 : digs (ofL w).cps.toList = digs w := rfl
          rw [e1]
          cases hw : digs w with
          | false =>
            rw [hw] at qq
            exact qq _ s2
          | true =>
            rw [hw] at qq
            refine iF rfl ⟨_, rfl, rfl, _, rfl, ?_⟩
            rw [dec_str]
            by_cases h1 : pt = ""
            · rw [decide_eq_true h1] at qq
              rw [beq_iff_eq.mpr h1]
              exact qq _ s2
            · rw [decide_eq_false h1] at qq
              rw [beq_eq_false_iff_ne.mpr h1]
              refine iT rfl ⟨_, rfl, rfl, _, rfl, ?_⟩
              rw [dec_int]
              by_cases h2 : kd.pl = 0
              · rw [decide_eq_true h2] at qq
                refine iT (beq_iff_eq.mpr (by omega)) (qq _ s2)
              · rw [decide_eq_false h2] at qq
                refine iF (beq_eq_false_iff_ne.mpr (by omega)) ⟨_, rfl, ofL q, rfl, by rw [len_ofL]; omega, fun H3 s3 => ⟨_, rfl, qq _ (s2.trans s3)⟩⟩
        · cases hbad : (!digs w || (!decide (pt = "") && (decide (kd.pl = 0) || !digs q))) with
          | true =>
            refine iT rfl ⟨_, rfl, fun d hd => k2 (fun n e => ?_) d _ (s1.trans (s2.trans (Same.put hd)))⟩
            have e' : parse kd.pl l = some n := e
            rw [hpar] at e'
            split at e'
            · rename_i z
              exfalso
              rw [z.1.1] at hbad
              rcases z.1.2 with z2 | ⟨z2, z3⟩
              · rw [decide_eq_true z2] at hbad
                cases hbad
              · rw [decide_eq_false z2, z3] at hbad
                simp at hbad
            · cases e'
          | false =>
            have g1 : digs w = true ∧ (pt = "" ∨ (kd.pl ≠ 0 ∧ digs q = true)) := by
              simp only [Bool.or_eq_false_iff, Bool.not_eq_false', Bool.and_eq_false_iff, decide_eq_true_eq, decide_eq_false_iff_not] at hbad
              exact ⟨hbad.1, hbad.2⟩
            have dw := digs_iff.mp g1.1
            have dq : AllDigits q := by
              rcases g1.2 with z | ⟨_, z⟩
              · rcases hcut with ⟨_, z2, _⟩ | ⟨z2, _⟩
                · rw [z2]; intro c hc; cases hc
                · exact absurd (z2 ▸ z) point_ne
              · exact (digs_iff.mp z).2
            refine iF rfl ?_
            have lsq : (ofL q).length ≤ sizeLine := by rw [len_ofL, sizeLine_eq]; omega
            have no : ¬ ((digs w = true ∧ (pt = "" ∨ (kd.pl ≠ 0 ∧ digs q = true))) ∧ q.length ≤ kd.pl ∧ w.length + q.length ≤ 18) → ∀ n, parse kd.pl (ofL l).cps.toList = some n → ¬ (kd.lo ≤ n ∧ n ≤ kd.hi) := fun z n e => by
              have e' : parse kd.pl l = some n := e
              rw [hpar, if_neg z] at e'
              cases e'
            dsimp only [tSeq, tNext, tAsg, gName, tCallS, tCons, tNil]
            refine w_ifS (decide (kd.pl < q.length)) (fun Q' qq => ?_) fun H3 s3 => ?_
            · dsimp only [tRet, tAndV, tOrV, tNotV, tNot, tAnd, tOr, tCB, tCons, tNil, tC, tVar, tOp, tUn, tTest, tB, tIfS, tSeq, tNext, tDrop, tAsg, gName, tIf, tChain, tCallS, tTup, tLst, rI0, rI, rU, rEq, rNe, tSl, tPart, tNoPart, rIxT, rIxS, rSlS, rIn, tIf, tPar, tM1, tMkSup, tDGet, sDPut, rIxL, tDisp, tPairs, rIx]
              refine ⟨_, rfl, _, _, rfl, ⟨lsq, rfl⟩, _, rfl, _, _, rfl, rfl, _, rfl, ?_⟩
              rw [len_ofL]
              have e : decide (((kd.pl : Nat) : Int) < ((q.length : Nat) : Int)) = decide (kd.pl < q.length) := by
                rw [Bool.eq_iff_iff, decide_eq_true_eq, decide_eq_true_eq]
                omega
              rw [e]
              exact qq _ (Same.refl _)
            by_cases c1 : kd.pl < q.length
            · refine iT (decide_eq_true c1) ⟨_, rfl, fun d hd => k2 (no fun z => ?_) d _ (s1.trans (s2.trans (s3.trans (Same.put hd))))⟩
              omega
            refine iF (decide_eq_false c1) ?_
            dsimp only [tSeq, tNext, tAsg, gName, tCallS, tCons, tNil]
            refine w_ifS (decide (18 < w.length + q.length)) (fun Q' qq => ?_) fun H4 s4 => ?_
            · dsimp only [tRet, tAndV, tOrV, tNotV, tNot, tAnd, tOr, tCB, tCons, tNil, tC, tVar, tOp, tUn, tTest, tB, tIfS, tSeq, tNext, tDrop, tAsg, gName, tIf, tChain, tCallS, tTup, tLst, rI0, rI, rU, rEq, rNe, tSl, tPart, tNoPart, rIxT, rIxS, rSlS, rIn, tIf, tPar, tM1, tMkSup, tDGet, sDPut, rIxL, tDisp, tPairs, rIx]
              refine ⟨_, rfl, _, rfl, _, _, rfl, rfl, by rw [len_ofL, len_ofL, sizeLine_eq]; omega, _, _, rfl, ⟨by rw [app_ofL, len_ofL, List.length_append, sizeLine_eq]; omega, rfl⟩, _, _, rfl, rfl, _, rfl, ?_⟩
              rw [app_ofL, len_ofL, List.length_append]
              have e : decide ((18 : Int) < ((w.length + q.length : Nat) : Int)) = decide (18 < w.length + q.length) := by
                rw [Bool.eq_iff_iff, decide_eq_true_eq, decide_eq_true_eq]
                omega
              rw [e]
              exact qq _ (Same.refl _)
            by_cases c2 : 18 < w.length + q.length
            · refine iT (decide_eq_true c2) ⟨_, rfl, fun d hd => k2 (no fun z => ?_) d _ (s1.trans (s2.trans (s3.trans (s4.trans (Same.put hd)))))⟩
              omega
            refine iF (decide_eq_false c2) ?_
            dsimp only [tSeq, tNext, tAsg, gName, tCallS, tCons, tNil]
            have pl9 : kd.pl ≤ 9 := by
              cases kd with
              | dec lo hi p => exact ho.2.2
              | _ => exact Nat.zero_le _
            have ez : (((kd.pl : Nat) : Int) - ((q.length : Nat) : Int)).toNat = kd.pl - q.length := by omega
            refine w_e (.int ((digitsVal (w ++ q ++ zer (kd.pl - q.length)) : Nat) : Int)) (fun Q' qq => ?_) ?_
            · dsimp only [tRet, tAndV, tOrV, tNotV, tNot, tAnd, tOr, tCB, tCons, tNil, tC, tVar, tOp, tUn, tTest, tB, tIfS, tSeq, tNext, tDrop, tAsg, gName, tIf, tChain, tCallS, tTup, tLst, rI0, rI, rU, rEq, rNe, tSl, tPart, tNoPart, rIxT, rIxS, rSlS, rIn, tIf, tPar, tM1, tMkSup, tDGet, sDPut, rIxL, tDisp, tPairs, rIx]
              refine ⟨_, rfl, _, rfl, _, _, rfl, rfl, by rw [len_ofL, len_ofL, sizeLine_eq]; omega, _, rfl, _, rfl, _, _, rfl, ⟨lsq, rfl⟩, _, _, rfl, rfl, 48, _, rfl, rfl, ?_⟩
              rw [len_ofL, ez]
              have ezz : (⟨(List.replicate (kd.pl - q.length) 48).toArray⟩ : Str) = ofL (zer (kd.pl - q.length)) := rfl
              rw [ezz, app_ofL]
              refine ⟨⟨by omega, by omega⟩, _, _, rfl, rfl, ?_, _, ((digitsVal (w ++ q ++ zer (kd.pl - q.length)) : Nat) : Int), rfl, ?_, ?_, qq⟩
              · rw [len_ofL, len_ofL, zer_len, List.length_append, sizeLine_eq]
                omega
              · rw [app_ofL]
                refine int_ofL (digits_append (digits_append dw.2 dq) (zer_digits _)) ?_ ?_
                · intro z
                  have := congrArg List.length z
                  have w0 : 0 < w.length := List.length_pos_iff.mpr dw.1
                  rw [List.length_append, List.length_append, List.length_nil] at this
                  omega
                · rw [List.length_append, List.length_append, zer_len]
                  omega
              · rw [app_ofL, len_ofL, List.length_append, List.length_append, zer_len]
                omega
            refine w_e (.int (sgn l (digitsVal (w ++ q ++ zer (kd.pl - q.length))))) (fun Q' qq => ?_) ?_
            · dsimp only [tRet, tAndV, tOrV, tNotV, tNot, tAnd, tOr, tCB, tCons, tNil, tC, tVar, tOp, tUn, tTest, tB, tIfS, tSeq, tNext, tDrop, tAsg, gName, tIf, tChain, tCallS, tTup, tLst, rI0, rI, rU, rEq, rNe, tSl, tPart, tNoPart, rIxT, rIxS, rSlS, rIn, tIf, tPar, tM1, tMkSup, tDGet, sDPut, rIxL, tDisp, tPairs, rIx]
              have e1 : cutS (ofL l) none (some 1) = ofL (l.take 1) := cut_to l 1
              refine ⟨_, rfl, _, rfl, _, rfl, lS, rfl, _, rfl, ?_⟩
              rw [e1, neg_eq]
              unfold sgn at qq
              cases hneg : isNeg l with
              | true =>
                rw [hneg, if_pos rfl] at qq
                exact iT rfl ⟨_, rfl, _, rfl, qq⟩
              | false =>
                rw [hneg, if_neg Bool.false_ne_true] at qq
                exact iF rfl ⟨_, rfl, qq⟩
            have hval : parse kd.pl (ofL l).cps.toList = some (sgn l (digitsVal (w ++ q ++ zer (kd.pl - q.length)))) := by
              have e' := hpar
              rw [if_pos ⟨g1, by omega, by omega⟩] at e'
              exact e'
            generalize sgn l (digitsVal (w ++ q ++ zer (kd.pl - q.length))) = v at *
            have s5 : Same H H4 := s1.trans (s2.trans (s3.trans s4))
            obtain ⟨nm, r, ha⟩ := num_at hn (hk.same s5)
            dsimp only [tRet, tAndV, tOrV, tNotV, tNot, tAnd, tOr, tCB, tCons, tNil, tC, tVar, tOp, tUn, tTest, tB, tIfS, tSeq, tNext, tDrop, tAsg, gName, tIf, tChain, tCallS, tTup, tLst, rI0, rI, rU, rEq, rNe, tSl, tPart, tNoPart, rIxT, rIxS, rSlS, rIn, tIf, tPar, tM1, tMkSup, tDGet, sDPut, rIxL, tDisp, tPairs, rIx]
            refine ⟨_, rfl, _, _, _, _, rfl, rfl, SqT.of ha, atI_nat (j := 1) rfl, _, rfl, _, _, rfl, rfl, _, rfl, ?_⟩
            have out : ¬ (kd.lo ≤ v ∧ v ≤ kd.hi) → ∀ n, parse kd.pl (ofL l).cps.toList = some n → ¬ (kd.lo ≤ n ∧ n ≤ kd.hi) := fun z n e => by
              rw [hval] at e
              cases e
              exact z
            by_cases c3 : kd.lo ≤ v
            · refine iT (decide_eq_true c3) ⟨_, rfl, _, _, _, _, rfl, rfl, SqT.of ha, atI_nat (j := 2) rfl, _, _, rfl, rfl, _, rfl, ?_⟩
              by_cases c4 : v ≤ kd.hi
              · refine iF (by rw [decide_eq_true c4]; rfl) ⟨_, rfl, k1 v hval c3 c4 _ s5⟩
              · refine iT (by rw [decide_eq_false c4]; rfl) ⟨_, rfl, fun d hd => k2 (out fun z => c4 z.2) d _ (s5.trans (Same.put hd))⟩
            · refine iF (decide_eq_false c3) ⟨_, rfl, iT rfl ⟨_, rfl, fun d hd => k2 (out fun z => c3 z.1) d _ (s5.trans (Same.put hd))⟩⟩
theorem sc_Convert : FnScope ["kind", "text"] ["kind", "text"] (defScope sConvert) := ⟨rfl, rfl, rfl, by decide +kernel, rfl, by decide +kernel, by decide +kernel⟩
theorem Kd.numOk {k : Kd} : k.num = false → k.num ≠ true := fun e z => by rw [e] at z; cases z
theorem ok_convert {CU fU : Addr} (SU : SupC P K mg "Unfit" "cause" CU fU) (B : Blt mg) (F : Fd K mg "convert" sConvert ["kind", "text"]) (d_check_text : Df P w K mg base CX0 2 "check_text" ["value"] spCheckText) (d_check_kind : Df P w K mg base CX0 5 "check_kind" ["value"] spCheckKind) (d_number_of : Df P w K mg base (L2.CX P w) 2 "number_of" ["kind", "text"] (spNumber CU)) (d_day_of : Df P w K mg base CX0 2 "day_of" ["text"] spDayOf) : Df P w K mg base (L2.CX P w) 6 "convert" ["kind", "text"] (spConvert CU) := by
  refine F.okX sc_Convert (fun vs H Q E h => ?_) (fun f cdv A outer s H vs Q E hr h => ?_)
  · obtain ⟨a, kd, t, rfl, _⟩ := h
    rfl
  · obtain ⟨a, kd, t, rfl, hk, ho, hl, hg, h⟩ := h
    have sc := sc_Convert
    refine ⟨_, (pss_cons (ps_expr (pe_d0 d_check_kind hr rfl (by decide) (pa_cons (pv 0) pa_nil)))
      (pss_cons (ps_expr (pe_d0 d_check_text hr rfl (by decide) (pa_cons (pv 1) pa_nil)))
      (pss_cons (ps_if (PW.pt (pw_or (pt_cmpR op_eq (pe_ix ix_tup (pv 0) pe_int (fun _ _ => rfl)) pe_str (nomark _)) (pw_or1 (pt_cmpR op_eq (pe_ix ix_tup (pv 0) pe_int (fun _ _ => rfl)) pe_str (nomark _))))) (pss_one (ps_ret (pe_dX (E := WE (fun cls d _ H => E cls d H)) d_number_of hr rfl (fun σ => passAt (takes_of rfl rfl rfl rfl) σ) (by decide) (pa_cons (pv 0) (pa_cons (pv 1) pa_nil))))) pss_nil)
      (pss_cons (ps_if (pt_cmpR op_eq (pe_ix ix_tup (pv 0) pe_int (fun _ _ => rfl)) pe_str (nomark _)) (pss_one (ps_ret (pe_d0 d_day_of hr rfl (by decide) (pa_cons (pv 1) pa_nil)))) pss_nil)
      (pss_cons (ps_if (PW.pt (pw_and (pt_cmpR op_eq (pe_ix ix_tup (pv 0) pe_int (fun _ _ => rfl)) pe_str (nomark _)) (pw_and1 (pt_cmpR op_gt (pe_callB call_len rfl B.len_ bo_len (pa_cons (pv 1) pa_nil)) (pe_ix ix_tup (pv 0) pe_int (fun _ _ => rfl)) (nomark _))))) (pss_one (ps_raise rfl (takes_of rfl rfl rfl rfl) (pmk_sup SU fld_cause hr (pa_cons pe_str pa_nil) rfl (by decide)))) pss_nil)
      (pss_cons (ps_if (PW.pt (pw_and (pt_cmpR op_eq (pe_ix ix_tup (pv 0) pe_int (fun _ _ => rfl)) pe_str (nomark _)) (pw_and1 (pt_cmpR op_notIn_seq (pv 1) (pe_ix ix_tup (pv 0) pe_int (fun _ _ => rfl)) (by with_unfolding_all rfl))))) (pss_one (ps_raise rfl (takes_of rfl rfl rfl rfl) (pmk_sup SU fld_cause hr (pa_cons pe_str pa_nil) rfl (by decide)))) pss_nil)
      (pss_cons (ps_if (PW.pt (pw_and (pt_cmpR op_eq (pe_ix ix_tup (pv 0) pe_int (fun _ _ => rfl)) pe_str (nomark _)) (pw_and1 (pt_cmpR op_notIn_seq (pv 1) (pe_tup (pa_cons pe_str (pa_cons pe_str pa_nil))) (by with_unfolding_all rfl))))) (pss_one (ps_raise rfl (takes_of rfl rfl rfl rfl) (pmk_sup SU fld_cause hr (pa_cons pe_str pa_nil) rfl (by decide)))) pss_nil)
      (pss_one (ps_ret (pe_ifExp (pt_cmpR op_eq (pe_ix ix_tup (pv 0) pe_int (fun _ _ => rfl)) pe_str (nomark _)) (pe_cmpR op_eq (pv 1) pe_str (nomark _)) (pv 1))))))))))), ?_⟩
    have lS : t.length ≤ sizeLine := by rw [sizeLine_eq]; omega
    dsimp only [tRet, tAndV, tOrV, tNotV, tNot, tAnd, tOr, tCB, tCons, tNil, tC, tVar, tOp, tUn, tTest, tB, tIfS, tSeq, tNext, tDrop, tAsg, gName, tIf, tChain, tCallS, tTup, tLst, rI0, rI, rU, rEq, rNe, tSl, tPart, tNoPart, rIxT, rIxS, rSlS, rIn, tIf, tPar, tM1, tMkSup, tDGet, sDPut, rIxL, tDisp, tPairs, rIx]
    refine ⟨_, rfl, a, kd, rfl, hk, ho, fun H1 s1 => ⟨_, rfl, t, rfl, hl, hg, fun H2 s2 => ?_⟩⟩
    have s12 := s1.trans s2
    have hk' := hk.same s12
    cases kd with
    | int lo hi =>
      have h := eT h rfl
      have hk : H2 a = some (.tup [.str "int", .int lo, .int hi]) := hk'
      refine ⟨_, rfl, _, _, _, _, rfl, rfl, SqT.of hk, rfl, rfl, _, rfl, iT (by decide +kernel) ?_⟩
      exact ⟨_, rfl, _, rfl, a, .int lo hi, t, rfl, rfl, hk', ho, hl, fun n e h1 h2 H' s3 => h.1 n e h1 h2 H' (s12.trans s3), fun z d H' s3 => h.2 z d H' (s12.trans s3)⟩
    | dec lo hi p =>
      have h := eT h rfl
      have hk : H2 a = some (.tup [.str "decimal", .int lo, .int hi, .int (p : Nat)]) := hk'
      refine ⟨_, rfl, _, _, _, _, rfl, rfl, SqT.of hk, rfl, rfl, _, rfl, iF (by decide +kernel) ?_⟩
      refine ⟨_, rfl, _, _, _, _, rfl, rfl, SqT.of hk, rfl, rfl, _, rfl, iT (by decide +kernel) ?_⟩
      exact ⟨_, rfl, _, rfl, a, .dec lo hi p, t, rfl, rfl, hk', ho, hl, fun n e h1 h2 H' s3 => h.1 n e h1 h2 H' (s12.trans s3), fun z d H' s3 => h.2 z d H' (s12.trans s3)⟩
    | text n =>
      have h := eF h rfl
      obtain ⟨v, hv, rfl, k⟩ := h
      have hv' : (decide ((0 : Int) ≤ (t.length : Int)) && decide ((t.length : Int) ≤ n) && good t) = true := hv
      simp only [Bool.and_eq_true, decide_eq_true_eq] at hv'
      have hk : H2 a = some (.tup [.str "text", .int n]) := hk'
      refine ⟨_, rfl, _, _, _, _, rfl, rfl, SqT.of hk, rfl, rfl, _, rfl, iF (by decide +kernel) ?_⟩
      refine ⟨_, rfl, _, _, _, _, rfl, rfl, SqT.of hk, rfl, rfl, _, rfl, iF (by decide +kernel) ?_⟩
      refine ⟨_, rfl, _, _, _, _, rfl, rfl, SqT.of hk, rfl, rfl, _, rfl, iF (by decide +kernel) ?_⟩
      refine ⟨_, rfl, _, _, _, _, rfl, rfl, SqT.of hk, rfl, rfl, _, rfl, iT (by decide +kernel) ?_⟩
      refine ⟨_, rfl, _, _, rfl, ⟨lS, rfl⟩, _, rfl, _, _, _, _, rfl, rfl, SqT.of hk, rfl, _, _, rfl, rfl, _, rfl, iF (decide_eq_false (by omega)) ?_⟩
      refine ⟨_, rfl, _, _, _, _, rfl, rfl, SqT.of hk, rfl, rfl, _, rfl, iF (by decide +kernel) ?_⟩
      refine ⟨_, rfl, _, _, _, _, rfl, rfl, SqT.of hk, rfl, rfl, _, rfl, iF (by decide +kernel) ?_⟩
      refine ⟨_, rfl, _, _, _, _, rfl, rfl, SqT.of hk, rfl, rfl, _, rfl, iF (by decide +kernel) ?_⟩
      exact ⟨_, rfl, k _ s12⟩
    | choice ws =>
      have h := eF h rfl
      obtain ⟨v, hv, rfl, k⟩ := h
      have hv' : t ∈ ws := of_decide_eq_true hv
      obtain ⟨b, hk, hb⟩ := hk'
      refine ⟨_, rfl, _, _, _, _, rfl, rfl, SqT.of hk, rfl, rfl, _, rfl, iF (by decide +kernel) ?_⟩
      refine ⟨_, rfl, _, _, _, _, rfl, rfl, SqT.of hk, rfl, rfl, _, rfl, iF (by decide +kernel) ?_⟩
      refine ⟨_, rfl, _, _, _, _, rfl, rfl, SqT.of hk, rfl, rfl, _, rfl, iF (by decide +kernel) ?_⟩
      refine ⟨_, rfl, _, _, _, _, rfl, rfl, SqT.of hk, rfl, rfl, _, rfl, iF (by decide +kernel) ?_⟩
      refine ⟨_, rfl, _, _, _, _, rfl, rfl, SqT.of hk, rfl, rfl, _, rfl, iT (by decide +kernel) ?_⟩
      refine ⟨_, rfl, _, rfl, _, _, _, _, rfl, rfl, SqT.of hk, rfl, _, _, rfl, .inr (SqT.of hb), rfl, strs_flat, _, rfl, ?_⟩
      refine iF (by rw [if_pos rfl, strs_in, decide_eq_true hv']; rfl) ?_
      refine ⟨_, rfl, _, _, _, _, rfl, rfl, SqT.of hk, rfl, rfl, _, rfl, iF (by decide +kernel) ?_⟩
      refine ⟨_, rfl, _, _, _, _, rfl, rfl, SqT.of hk, rfl, rfl, _, rfl, iF (by decide +kernel) ?_⟩
      exact ⟨_, rfl, k _ s12⟩
    | truth =>
      have h := eF h rfl
      obtain ⟨v, hv, ⟨bb, rfl, rfl⟩, k⟩ := h
      have hk : H2 a = some (.tup [.str "truth"]) := hk'
      refine ⟨_, rfl, _, _, _, _, rfl, rfl, SqT.of hk, rfl, rfl, _, rfl, iF (by decide +kernel) ?_⟩
      refine ⟨_, rfl, _, _, _, _, rfl, rfl, SqT.of hk, rfl, rfl, _, rfl, iF (by decide +kernel) ?_⟩
      refine ⟨_, rfl, _, _, _, _, rfl, rfl, SqT.of hk, rfl, rfl, _, rfl, iF (by decide +kernel) ?_⟩
      refine ⟨_, rfl, _, _, _, _, rfl, rfl, SqT.of hk, rfl, rfl, _, rfl, iF (by decide +kernel) ?_⟩
      refine ⟨_, rfl, _, _, _, _, rfl, rfl, SqT.of hk, rfl, rfl, _, rfl, iF (by decide +kernel) ?_⟩
      refine ⟨_, rfl, _, _, _, _, rfl, rfl, SqT.of hk, rfl, rfl, _, rfl, iT (by decide +kernel) ?_⟩
      refine ⟨_, rfl, by show 2 ≤ sizeLine; decide, fun u hu' => ?_⟩
      have hk3 := (upd_ne (o := .tup [.str "yes", .str "no"]) (ne_of_none hk hu')).trans hk
      refine ⟨u, _, rfl, .inr (SqT.of upd_same), rfl, rfl, _, rfl, ?_⟩
      have s3 := s12.trans (Same.put (o := .tup [.str "yes", .str "no"]) hu')
      cases bb with
      | true =>
        refine iF (by decide +kernel) ?_
        refine ⟨_, rfl, _, _, _, _, rfl, rfl, SqT.of hk3, rfl, rfl, _, rfl, iT (by decide +kernel) ?_⟩
        exact ⟨_, rfl, rfl, k _ s3⟩
      | false =>
        refine iF (by decide +kernel) ?_
        refine ⟨_, rfl, _, _, _, _, rfl, rfl, SqT.of hk3, rfl, rfl, _, rfl, iT (by decide +kernel) ?_⟩
        exact ⟨_, rfl, rfl, k _ s3⟩
    | date =>
      have h := eF h rfl
      obtain ⟨v, hv, ⟨n, y, m, d, rfl, dt, rfl⟩, k⟩ := h
      have hk : H2 a = some (.tup [.str "date"]) := hk'
      refine ⟨_, rfl, _, _, _, _, rfl, rfl, SqT.of hk, rfl, rfl, _, rfl, iF (by decide +kernel) ?_⟩
      refine ⟨_, rfl, _, _, _, _, rfl, rfl, SqT.of hk, rfl, rfl, _, rfl, iF (by decide +kernel) ?_⟩
      refine ⟨_, rfl, _, _, _, _, rfl, rfl, SqT.of hk, rfl, rfl, _, rfl, iT (by decide +kernel) ?_⟩
      exact ⟨_, rfl, n, y, m, d, rfl, dt, fun H' s3 => k _ (s12.trans s3)⟩
theorem sc_Show : FnScope ["kind", "value"] ["kind", "value"] (defScope sShow) := ⟨rfl, rfl, rfl, by decide +kernel, rfl, by decide +kernel, by decide +kernel⟩
theorem ok_show {CV fV : Addr} (SV : SupC P K mg "BadValue" "value" CV fV) (B : Blt mg) (F : Fd K mg "show" sShow ["kind", "value"]) (d_is_value : Df P w K mg base CX0 6 "is_value" ["kind", "value"] spValue) (d_day_text : Df P w K mg base CX0 2 "day_text" ["number"] spDayText) (d_decimal_text : Df P w K mg base CX0 2 "decimal_text" ["value", "places"] spDecText) : Df P w K mg base (L2.CX P w) 7 "show" ["kind", "value"] (spShow CV) := by
  refine F.okX sc_Show (fun vs H Q E h => ?_) (fun f cdv A outer s H vs Q E hr h => ?_)
  · obtain ⟨a, kd, t, rfl, _⟩ := h
    rfl
  · obtain ⟨a, kd, v, rfl, hk, ho, ht, hz, k1, k2⟩ := h
    have sc := sc_Show
    refine ⟨_, (pss_cons (ps_if (pt_not (pt_val (pe_d0 d_is_value hr rfl (by decide) (pa_cons (pv 0) (pa_cons (pv 1) pa_nil))))) (pss_one (ps_raise rfl (takes_of rfl rfl rfl rfl) (pmk_sup SV fld_value hr (pa_cons (pv 1) pa_nil) rfl (by decide)))) pss_nil)
      (pss_cons (ps_if (pt_cmpR op_eq (pe_ix ix_tup (pv 0) pe_int (fun _ _ => rfl)) pe_str (nomark _)) (pss_one (ps_ret (pe_d0 d_decimal_text hr rfl (by decide) (pa_cons (pv 1) (pa_cons (pe_ix ix_tup (pv 0) pe_int (fun _ _ => rfl)) pa_nil))))) pss_nil)
      (pss_cons (ps_if (pt_cmpR op_eq (pe_ix ix_tup (pv 0) pe_int (fun _ _ => rfl)) pe_str (nomark _)) (pss_one (ps_ret (pe_d0 d_day_text hr rfl (by decide) (pa_cons (pv 1) pa_nil)))) pss_nil)
      (pss_cons (ps_if (pt_cmpR op_eq (pe_ix ix_tup (pv 0) pe_int (fun _ _ => rfl)) pe_str (nomark _)) (pss_one (ps_ret (pe_ifExp (pt_val (pv 1)) pe_str pe_str))) pss_nil)
      (pss_one (ps_ret (pe_callTy (call_str_int.or SkE.call_str_str) rfl B.str_ bo_str (pa_cons (pv 1) pa_nil)))))))), ?_⟩
    dsimp only [tRet, tAndV, tOrV, tNotV, tNot, tAnd, tOr, tCB, tCons, tNil, tC, tVar, tOp, tUn, tTest, tB, tIfS, tSeq, tNext, tDrop, tAsg, gName, tIf, tChain, tCallS, tTup, tLst, rI0, rI, rU, rEq, rNe, tSl, tPart, tNoPart, rIxT, rIxS, rSlS, rIn, tIf, tPar, tM1, tMkSup, tDGet, sDPut, rIxL, tDisp, tPairs, rIx]
    refine ⟨_, rfl, _, rfl, a, kd, v, rfl, hk, ho, ht, hz, fun H1 s1 => ⟨_, rfl, ?_⟩⟩
    cases hv : isVal kd v with
    | false => exact iT rfl ⟨_, rfl, v, rfl, fun d hd => k2 hv d _ (s1.trans (Same.put hd)) upd_same⟩
    | true =>
      have k := fun t H' s2 z => k1 hv t H' (s1.trans s2) z
      have hk' := hk.same s1
      refine iF rfl ?_
      cases kd with
      | int lo hi =>
        have hk : H1 a = some (.tup [.str "int", .int lo, .int hi]) := hk'
        refine ⟨_, rfl, _, _, _, _, rfl, rfl, SqT.of hk, rfl, rfl, _, rfl, iF (by decide +kernel) ?_⟩
        refine ⟨_, rfl, _, _, _, _, rfl, rfl, SqT.of hk, rfl, rfl, _, rfl, iF (by decide +kernel) ?_⟩
        refine ⟨_, rfl, _, _, _, _, rfl, rfl, SqT.of hk, rfl, rfl, _, rfl, iF (by decide +kernel) ?_⟩
        cases v with
        | int n =>
          have hv' : (decide (lo ≤ n) && decide (n ≤ hi)) = true := hv
          simp only [Bool.and_eq_true, decide_eq_true_eq] at hv'
          have ho' : -999999999999999999 ≤ lo ∧ lo ≤ hi ∧ hi ≤ 999999999999999999 := ho
          refine ⟨_, rfl, .inl ⟨n, rfl, Nat.lt_of_lt_of_le (PySem.Flt.log2_lt_of (k := 60) (by decide) (by omega)) (by decide), ?_⟩⟩
          rw [str_int]
          exact k _ _ (Same.refl _) ⟨n, rfl, rfl⟩
        | _ => cases hv
      | dec lo hi p =>
        have hk : H1 a = some (.tup [.str "decimal", .int lo, .int hi, .int (p : Nat)]) := hk'
        refine ⟨_, rfl, _, _, _, _, rfl, rfl, SqT.of hk, rfl, rfl, _, rfl, iT (by decide +kernel) ?_⟩
        cases v with
        | int n =>
          have hv' : (decide (lo ≤ n) && decide (n ≤ hi)) = true := hv
          simp only [Bool.and_eq_true, decide_eq_true_eq] at hv'
          obtain ⟨ho', h4, h5⟩ := (show (-999999999999999999 ≤ lo ∧ lo ≤ hi ∧ hi ≤ 999999999999999999) ∧ 1 ≤ p ∧ p ≤ 9 from ho)
          exact ⟨_, rfl, _, rfl, _, _, _, _, rfl, rfl, SqT.of hk, rfl, n, p, rfl, by omega, h4, h5, k _ _ (Same.refl _) ⟨n, rfl, rfl⟩⟩
        | _ => cases hv
      | text n =>
        have hk : H1 a = some (.tup [.str "text", .int n]) := hk'
        refine ⟨_, rfl, _, _, _, _, rfl, rfl, SqT.of hk, rfl, rfl, _, rfl, iF (by decide +kernel) ?_⟩
        refine ⟨_, rfl, _, _, _, _, rfl, rfl, SqT.of hk, rfl, rfl, _, rfl, iF (by decide +kernel) ?_⟩
        refine ⟨_, rfl, _, _, _, _, rfl, rfl, SqT.of hk, rfl, rfl, _, rfl, iF (by decide +kernel) ?_⟩
        cases v with
        | str t => exact ⟨_, rfl, .inr ⟨t, rfl, k t _ (Same.refl _) rfl⟩⟩
        | _ => cases hv
      | choice ws =>
        obtain ⟨b, hk, hb⟩ := hk'
        refine ⟨_, rfl, _, _, _, _, rfl, rfl, SqT.of hk, rfl, rfl, _, rfl, iF (by decide +kernel) ?_⟩
        refine ⟨_, rfl, _, _, _, _, rfl, rfl, SqT.of hk, rfl, rfl, _, rfl, iF (by decide +kernel) ?_⟩
        refine ⟨_, rfl, _, _, _, _, rfl, rfl, SqT.of hk, rfl, rfl, _, rfl, iF (by decide +kernel) ?_⟩
        cases v with
        | str t => exact ⟨_, rfl, .inr ⟨t, rfl, k t _ (Same.refl _) rfl⟩⟩
        | _ => cases hv
      | truth =>
        have hk : H1 a = some (.tup [.str "truth"]) := hk'
        refine ⟨_, rfl, _, _, _, _, rfl, rfl, SqT.of hk, rfl, rfl, _, rfl, iF (by decide +kernel) ?_⟩
        refine ⟨_, rfl, _, _, _, _, rfl, rfl, SqT.of hk, rfl, rfl, _, rfl, iF (by decide +kernel) ?_⟩
        refine ⟨_, rfl, _, _, _, _, rfl, rfl, SqT.of hk, rfl, rfl, _, rfl, iT (by decide +kernel) ?_⟩
        cases v with
        | bl b =>
          refine ⟨_, rfl, b, rfl, ?_⟩
          have := k (if b = true then ("yes" : Str) else "no") _ (Same.refl _) ⟨b, rfl, rfl⟩
          cases b with
          | true => exact iT rfl this
          | false => exact iF rfl this
        | _ => cases hv
      | date =>
        have hk : H1 a = some (.tup [.str "date"]) := hk'
        refine ⟨_, rfl, _, _, _, _, rfl, rfl, SqT.of hk, rfl, rfl, _, rfl, iF (by decide +kernel) ?_⟩
        refine ⟨_, rfl, _, _, _, _, rfl, rfl, SqT.of hk, rfl, rfl, _, rfl, iT (by decide +kernel) ?_⟩
        cases v with
        | int n =>
          have hv' : (decide (1 ≤ n) && decide (n ≤ 3652059)) = true := hv
          simp only [Bool.and_eq_true, decide_eq_true_eq] at hv'
          exact ⟨_, rfl, n, rfl, hv'.1, hv'.2, fun y m d dt => k _ _ (Same.refl _) ⟨n, y, m, d, rfl, dt, rfl⟩⟩
        | _ => cases hv
end
end K5
set_option Elab.async false
set_option maxRecDepth 100000
set_option maxHeartbeats 2000000
/-! the law's own machine: _law_begun, _law_next, _law_of -/
namespace K5
open PySem PySem.Spec PyProof.Rows L2 TL NumText
section
variable {P : Program} {w : World} {K : PySem.W.Frag} {mg : Str → Option Value} {base : Heap} {sc0 : Addr}
abbrev mD (sc : Addr) (a l : Int) : HO := .dK [(.inr "cells", .ref sc), (.inr "at", .int a), (.inr "left", .int l)]
theorem s12 : ¬ (("cells" : Str) = "at") := by decide +kernel
theorem s13 : ¬ (("cells" : Str) = "left") := by decide +kernel
theorem s23 : ¬ (("at" : Str) = "left") := by decide +kernel
theorem k12 : ¬ ((.inr "cells" : Key) = .inr "at") := fun e => s12 (Sum.inr.inj e)
theorem k13 : ¬ ((.inr "cells" : Key) = .inr "left") := fun e => s13 (Sum.inr.inj e)
theorem k23 : ¬ ((.inr "at" : Key) = .inr "left") := fun e => s23 (Sum.inr.inj e)
section
variable {H : Hp} {m sc : Addr} {a l : Int}
theorem g_cells (e : H m = some (mD sc a l)) : DGet H m (.str "cells") (some (.ref sc)) := by
  have := DGet.k (k := .inr "cells") e
  rw [valV_pos rfl] at this
  exact this
theorem g_at (e : H m = some (mD sc a l)) : DGet H m (.str "at") (some (.int a)) := by
  have := DGet.k (k := .inr "at") e
  have z : valV [((.inr "cells" : Key), V.ref sc), (.inr "at", .int a), (.inr "left", .int l)] (.inr "at") = some (.int a) := by
    rw [valV_neg k12, valV_pos rfl]
  rw [z] at this
  exact this
theorem g_left (e : H m = some (mD sc a l)) : DGet H m (.str "left") (some (.int l)) := by
  have := DGet.k (k := .inr "left") e
  have z : valV [((.inr "cells" : Key), V.ref sc), (.inr "at", .int a), (.inr "left", .int l)] (.inr "left") = some (.int l) := by
    rw [valV_neg k13, valV_neg k23, valV_pos rfl]
  rw [z] at this
  exact this
theorem p_at {b : Int} (e : H m = some (mD sc a l)) : DPut H m (.str "at") (.int b) (upd H m (mD sc b l)) := by
  have := DPut.k (k := .inr "at") (v := .int b) e (by show 3 < sizeLine; decide)
  have z : putK [((.inr "cells" : Key), V.ref sc), (.inr "at", .int a), (.inr "left", .int l)] (.inr "at") (.int b) = [(.inr "cells", V.ref sc), (.inr "at", .int b), (.inr "left", .int l)] := by
    have s32 : ¬ (("left" : Str) = "at") := fun q => s23 q.symm
    simp [putK, s12, s32]
  rw [z] at this
  exact this
theorem p_left {b : Int} (e : H m = some (mD sc a l)) : DPut H m (.str "left") (.int b) (upd H m (mD sc a b)) := by
  have := DPut.k (k := .inr "left") (v := .int b) e (by show 3 < sizeLine; decide)
  have z : putK [((.inr "cells" : Key), V.ref sc), (.inr "at", .int a), (.inr "left", .int l)] (.inr "left") (.int b) = [(.inr "cells", V.ref sc), (.inr "at", .int a), (.inr "left", .int b)] := by
    simp [putK, s13, s23]
  rw [z] at this
  exact this
theorem Ch.put {o : HO} : Ch m H (upd H m o) := fun b u n e => (upd_ne n).trans e
theorem Ch.loc {H9 : Hp} {x : Addr} {o : HO} (c : Ch m H H9) (hx : H x = none) : Ch m H (upd H9 x o) := fun b u n e => (upd_ne (ne_of_none e hx)).trans (c b u n e)
theorem MAt.loc {H9 : Hp} {x : Addr} {o : HO} {n n0 : Int} (M0 : MAt K sc H m n0) (M9 : MAt K sc H9 m n) (hx : H x = none) : MAt K sc (upd H9 x o) m n := by
  obtain ⟨ns0, a0, l0, h0, q0, z0, _⟩ := M0
  obtain ⟨ns, a, l, h1, q1, z1, h2⟩ := M9
  have mx : m ≠ x := ne_of_none h0 hx
  rcases q0 with ⟨q0, q0'⟩ | q0
  · have sx : sc ≠ x := fun e => by
      rw [e] at q0
      rcases q0 with q0 | ⟨u, q0⟩ <;> (rw [hx] at q0; cases q0)
    refine ⟨ns, a, l, (upd_ne mx).trans h1, ?_, z1, h2⟩
    rcases q1 with ⟨q1, q1'⟩ | q1
    · refine .inl ⟨?_, q1'⟩
      rcases q1 with q1 | ⟨u, q1⟩
      · exact .inl ((upd_ne sx).trans q1)
      · exact .inr ⟨u, (upd_ne sx).trans q1⟩
    · exact .inr q1
  · exact ⟨ns0, a, l, (upd_ne mx).trans h1, .inr q0, z0, h2⟩
theorem MAt.back {H5 : Hp} {x : Addr} {n : Int} (M5 : MAt K sc H5 m n) (c : Ch m H H5) (hx : H5 x = none) : H x = none := by
  cases e : H x with
  | none => rfl
  | some o =>
    by_cases q : x = m
    · obtain ⟨ns, a, l, h1, _⟩ := M5
      rw [q, h1] at hx
      cases hx
    · rw [c _ _ q e] at hx
      cases hx
end
theorem sc_Begun : FnScope ["_law_cells"] ["_law_cells"] (defScope sBegun) := ⟨rfl, rfl, rfl, by decide +kernel, rfl, by decide +kernel, by decide +kernel⟩
theorem ok_law_begun (B : Blt mg) (F : Fd K mg "_law_begun" sBegun ["_law_cells"])  : Df P w K mg base CX0 1 "_law_begun" ["_law_cells"] (spBegun K sc0) := by
  refine F.ok sc_Begun (fun vs H Q E h => ?_) (fun f cdv A outer s H vs Q E hr h => ?_)
  · obtain ⟨a, rfl, _⟩ := h
    rfl
  · obtain ⟨ns, rfl, hs, hl, k⟩ := h
    have sc := sc_Begun
    refine ⟨_, (pss_one (ps_ret (pe_disp (pps_cons pe_str (pv 0) (pps_cons pe_str pe_int (pps_cons pe_str pe_int pps_nil))) rfl rfl (by simp) (by decide)))), ?_⟩
    dsimp only [tRet, tAndV, tOrV, tNotV, tNot, tAnd, tOr, tCB, tCons, tNil, tC, tVar, tOp, tUn, tTest, tB, tIfS, tSeq, tNext, tDrop, tAsg, gName, tIf, tChain, tCallS, tTup, tLst, rI0, rI, rU, rEq, rNe, tSl, tPart, tNoPart, rIxT, rIxS, rSlS, rIn, tIf, tPar, tM1, tMkSup, tDGet, sDPut, rIxL, tDisp, tPairs, rIx]
    intro p hp
    have s1 : Same H (upd H p (.dK [])) := Same.put hp
    refine ⟨_, rfl, upd_same, [(.inr "cells", .ref sc0), (.inr "at", .int 0), (.inr "left", .int 0)], rfl, by show 3 ≤ 15; decide, ?_⟩
    have e : mergeK [] [((.inr "cells" : Key), V.ref sc0), (.inr "at", .int 0), (.inr "left", .int 0)] = [(.inr "cells", .ref sc0), (.inr "at", .int 0), (.inr "left", .int 0)] := by
      simp [mergeK, putK, s12, s13, s23]
    rw [e]
    have s2 : Same H (upd (upd H p (.dK [])) p (mD sc0 0 0)) := fun b o eb => by
      have nb : b ≠ p := ne_of_none eb hp
      exact (upd_ne nb).trans ((upd_ne nb).trans eb)
    refine k p _ s2 ⟨ns, 0, 0, upd_same, (SqC.of hs hp).keep fun b o _ e => s2 b o e, hl, by omega, by omega, by omega⟩
theorem cells_dp {H : Hp} : ∀ {ns : List Int}, DpAll K H (ns.map V.int) (ns.map PyData.int)
  | [] => .nil
  | x :: ns => .cons (.int x) cells_dp
theorem cells_lay : ∀ {ns : List Int}, PyData.canLayAll0 (ns.map PyData.int) = true ∧ PyData.depthAll (ns.map PyData.int) = 0
  | [] => ⟨rfl, rfl⟩
  | x :: ns => by
    obtain ⟨h1, h2⟩ := cells_lay (ns := ns)
    constructor
    · show (PyData.canLay0 (.int x) && _) = true
      rw [h1]
      rfl
    · show max (PyData.depth (.int x)) _ = 0
      rw [h2]
      rfl
theorem sc_Next : FnScope ["_law_m", "_law_total", "_law_k", "_law_cell", "_law_mixed", "_law_found"] ["_law_m", "_law_total"] (defScope sNext) := ⟨rfl, rfl, rfl, by decide +kernel, rfl, by decide +kernel, by decide +kernel⟩
theorem ok_law_next (B : Blt mg) (F : Fd K mg "_law_next" sNext ["_law_m", "_law_total"])  : Df P w K mg base CX0 1 "_law_next" ["_law_m", "_law_total"] (spNext K sc0) := by
  refine F.ok sc_Next (fun vs H Q E h => ?_) (fun f cdv A outer s H vs Q E hr h => ?_)
  · obtain ⟨a, kd, n, rfl, _⟩ := h
    rfl
  · obtain ⟨m, tot, n, rfl, t1, t2, hM, hn, k⟩ := h
    have sc := sc_Next
    have hu : (cxOf CX0 P w K mg base ["_law_m", "_law_total", "_law_k", "_law_cell", "_law_mixed", "_law_found"] "_law_next" (defScope sNext) f cdv A outer s H E).nox.A.units + 64 < cLine := by have := hr.un; show (A.deeper _).units + 64 < _; omega
    have hu1 : (cxOf CX0 P w K mg base ["_law_m", "_law_total", "_law_k", "_law_cell", "_law_mixed", "_law_found"] "_law_next" (defScope sNext) f cdv A outer s H E).nox.A.units + 1 < cLine := by omega
    refine ⟨_, (pss_cons (ps_if (pt_cmpR op_gt (pe_dget hu1 (pv 0) pe_str (fun _ _ => rfl)) pe_int (nomark _)) (pss_cons (ps_set (i := 5) sc.nd rfl (Or.inl rfl) (pe_op op_mod (pe_callTy call_int1 rfl B.int_ bo_int (pa_cons (pe_dget hu1 (pv 0) pe_str (fun _ _ => rfl)) pa_nil)) (pv 1)))
      (pss_cons (ps_dput hu1 (pv 0) pe_str (pe_op op_fdivW (pe_dget hu1 (pv 0) pe_str (fun _ _ => rfl)) (pv 1)) rfl)
      (pss_one (ps_ret (pv 5))))) pss_nil)
      (pss_cons (ps_set (i := 2) sc.nd rfl (Or.inl rfl) (pe_dget hu1 (pv 0) pe_str (fun _ _ => rfl)))
      (pss_cons (ps_dput hu1 (pv 0) pe_str (pe_op op_add (pv 2) pe_int) rfl)
      (pss_cons (ps_set (i := 3) sc.nd rfl (Or.inl rfl) (pe_ifExp (pt_cmpR (op_neD hu) (pe_dget hu1 (pv 0) pe_str (fun _ _ => rfl)) (pe_lst pa_nil) (nomark _)) (pe_ix ix_list (pe_dget hu1 (pv 0) pe_str (fun _ _ => rfl)) (pe_op op_mod (pe_callTy call_int1 rfl B.int_ bo_int (pa_cons (pv 2) pa_nil)) (pe_callB call_len rfl B.len_ bo_len (pa_cons (pe_dget hu1 (pv 0) pe_str (fun _ _ => rfl)) pa_nil))) (fun _ _ => rfl)) pe_int))
      (pss_cons (ps_if (PW.pt (pw_and (pt_cmpR op_ge (pv 3) (pe_op op_pow pe_int pe_int) (nomark _)) (pw_and1 (pt_cmpR op_lt (pv 2) (pe_callB call_len rfl B.len_ bo_len (pa_cons (pe_dget hu1 (pv 0) pe_str (fun _ _ => rfl)) pa_nil)) (nomark _))))) (pss_cons (ps_dput hu1 (pv 0) pe_str (pe_op op_fdivW (pv 3) (pv 1)) rfl)
      (pss_one (ps_ret (pe_op op_mod (pe_callTy call_int1 rfl B.int_ bo_int (pa_cons (pv 3) pa_nil)) (pv 1))))) pss_nil)
      (pss_cons (ps_set (i := 4) sc.nd rfl (Or.inl rfl) (pe_op op_add (pe_op op_mulW (pe_op op_mod (pe_callTy call_int1 rfl B.int_ bo_int (pa_cons (pv 3) pa_nil)) pe_int) pe_int) (pe_op op_mod (pe_callTy call_int1 rfl B.int_ bo_int (pa_cons (pe_op op_fdivW (pv 3) pe_int) pa_nil)) pe_int)))
      (pss_cons (ps_set (i := 4) sc.nd rfl (Or.inl rfl) (pe_op op_mod (pe_callTy call_int1 rfl B.int_ bo_int (pa_cons (pe_op op_add (pe_op op_add (pe_op op_add (pv 4) (pe_op op_mulW (pe_op op_mulW pe_int (pv 2)) (pv 2))) (pe_op op_mulW pe_int (pv 2))) pe_int) pa_nil)) pe_int))
      (pss_cons (ps_set (i := 4) sc.nd rfl (Or.inl rfl) (pe_op op_mod (pe_callTy call_int1 rfl B.int_ bo_int (pa_cons (pe_op op_mulW (pe_op op_mod (pe_callTy call_int1 rfl B.int_ bo_int (pa_cons (pe_op op_mulW (pv 4) (pv 4)) pa_nil)) pe_int) pe_int) pa_nil)) pe_int))
      (pss_one (ps_ret (pe_op op_mod (pe_callTy call_int1 rfl B.int_ bo_int (pa_cons (pe_op op_fdivW (pv 4) pe_int) pa_nil)) (pv 1)))))))))))), ?_⟩
    obtain ⟨ns, a, l, hm, hs, hl, a0, an, l0⟩ := hM
    dsimp only [tSeq, tNext, tAsg, gName, tCallS, tCons, tNil]
    refine w_ifS (decide (0 < l)) (fun Q' qq => ?_) fun H1 s1 => ?_
    · dsimp only [tRet, tAndV, tOrV, tNotV, tNot, tAnd, tOr, tCB, tCons, tNil, tC, tVar, tOp, tUn, tTest, tB, tIfS, tSeq, tNext, tDrop, tAsg, gName, tIf, tChain, tCallS, tTup, tLst, rI0, rI, rU, rEq, rNe, tSl, tPart, tNoPart, rIxT, rIxS, rSlS, rIn, tIf, tPar, tM1, tMkSup, tDGet, sDPut, rIxL, tDisp, tPairs, rIx]
      exact ⟨_, rfl, m, _, rfl, g_left hm, _, _, rfl, rfl, _, rfl, qq _ (Same.refl _)⟩
    by_cases c1 : 0 < l
    · refine iT (decide_eq_true c1) ?_
      dsimp only [tRet, tAndV, tOrV, tNotV, tNot, tAnd, tOr, tCB, tCons, tNil, tC, tVar, tOp, tUn, tTest, tB, tIfS, tSeq, tNext, tDrop, tAsg, gName, tIf, tChain, tCallS, tTup, tLst, rI0, rI, rU, rEq, rNe, tSl, tPart, tNoPart, rIxT, rIxS, rSlS, rIn, tIf, tPar, tM1, tMkSup, tDGet, sDPut, rIxL, tDisp, tPairs, rIx]
      refine ⟨_, rfl, m, _, rfl, g_left (s1 _ _ hm), .inl ⟨_, rfl, _, rfl, _, _, rfl, rfl, by omega, ?_⟩⟩
      refine ⟨_, rfl, m, _, rfl, g_left (s1 _ _ hm), _, rfl, _, _, rfl, rfl, wide_div (b := 62) (by omega) (by omega) (by decide) (by decide), _, rfl, m, _, rfl, p_left (s1 _ _ hm), _, rfl, ?_⟩
      refine k _ _ (Int.emod_nonneg _ (by omega)) (Int.emod_lt_of_pos _ (by omega)) ((Ch.of s1).trans Ch.put) ⟨ns, a, l / tot, upd_same, (hs.keep (((Ch.of s1).trans Ch.put))), hl, a0, by omega, Int.ediv_nonneg (by omega) (by omega)⟩
    · refine iF (decide_eq_false c1) ?_
      dsimp only [tSeq, tNext, tAsg, gName, tCallS, tCons, tNil]
      refine w_e (.int a) (fun Q' qq => ?_) ?_
      · dsimp only [tRet, tAndV, tOrV, tNotV, tNot, tAnd, tOr, tCB, tCons, tNil, tC, tVar, tOp, tUn, tTest, tB, tIfS, tSeq, tNext, tDrop, tAsg, gName, tIf, tChain, tCallS, tTup, tLst, rI0, rI, rU, rEq, rNe, tSl, tPart, tNoPart, rIxT, rIxS, rSlS, rIn, tIf, tPar, tM1, tMkSup, tDGet, sDPut, rIxL, tDisp, tPairs, rIx]
        exact ⟨_, rfl, m, _, rfl, g_at (s1 _ _ hm), qq⟩
      have s2 : Ch m H (upd H1 m (mD sc0 (a + 1) l)) := (Ch.of s1).trans Ch.put
      have hm2 : (upd H1 m (mD sc0 (a + 1) l)) m = some (mD sc0 (a + 1) l) := upd_same
      have fin : tSeq (sDPut (tVar 0) (tC (.str "at")) (tOp (rI0 fun i j => .int (i + j)) (tVar 2) (tC (.int 1)))) tNext { nx := fun σ H' => σ = [some (.ref m), some (.int tot), some (.int a), none, none, none] ∧ H' = upd H1 m (mD sc0 (a + 1) l), rt := fun _ _ => False } [some (.ref m), some (.int tot), some (.int a), none, none, none] H1 := by
        dsimp only [tRet, tAndV, tOrV, tNotV, tNot, tAnd, tOr, tCB, tCons, tNil, tC, tVar, tOp, tUn, tTest, tB, tIfS, tSeq, tNext, tDrop, tAsg, gName, tIf, tChain, tCallS, tTup, tLst, rI0, rI, rU, rEq, rNe, tSl, tPart, tNoPart, rIxT, rIxS, rSlS, rIn, tIf, tPar, tM1, tMkSup, tDGet, sDPut, rIxL, tDisp, tPairs, rIx]
        exact ⟨_, rfl, _, _, rfl, rfl, _, rfl, m, _, rfl, p_at (s1 _ _ hm), rfl, rfl⟩
      dsimp only [sDPut, tOp, tVar, tC, rI0]
      refine ⟨_, rfl, _, _, rfl, rfl, _, rfl, m, _, rfl, p_at (s1 _ _ hm), ?_⟩
      have hs2 := hs.keep s2
      generalize upd H1 m (mD sc0 (a + 1) l) = H2 at *
      dsimp only [tSeq, tNext, tAsg, gName, tCallS, tCons, tNil]
      refine w_eh (fun v H' => ∃ c, v = .int c ∧ Same H2 H') (fun Q' qq => ?_) ?_
      · dsimp only [tRet, tAndV, tOrV, tNotV, tNot, tAnd, tOr, tCB, tCons, tNil, tC, tVar, tOp, tUn, tTest, tB, tIfS, tSeq, tNext, tDrop, tAsg, gName, tIf, tChain, tCallS, tTup, tLst, rI0, rI, rU, rEq, rNe, tSl, tPart, tNoPart, rIxT, rIxS, rSlS, rIn, tIf, tPar, tM1, tMkSup, tDGet, sDPut, rIxL, tDisp, tPairs, rIx]
        refine ⟨_, rfl, m, _, rfl, g_cells hm2, Nat.zero_le _, fun L hL => ?_⟩
        have s3 : Same H2 (upd H2 L (.lst [])) := Same.put hL
        have hs3 := hs2.keep (fun b o _ e => s3 b o e)
        have eL : (upd H2 L (.lst [])) L = some (.lst []) := upd_same
        have hm3 := s3 _ _ hm2
        generalize upd H2 L (.lst []) = H3 at *
        obtain ⟨e1, e2⟩ := cells_lay (ns := ns)
        refine ⟨.list (ns.map .int), .list [], .lst hs3.sq cells_dp, .lst (SqL.of eL) .nil, ?_, by rfl, _, rfl, ?_⟩
        · unfold SeqAt.shaped
          rw [Bool.and_eq_true]
          constructor
          · simp [PyData.canLay0, e1]
          · simp [PyData.depth, e2]
        · cases ns with
          | nil => exact iF rfl (qq _ _ ⟨0, rfl, s3⟩)
          | cons x ns =>
            refine iT rfl ⟨_, rfl, m, _, rfl, g_cells hm3, _, rfl, .inl ⟨_, rfl, _, rfl, m, _, rfl, g_cells hm3, _, _, rfl, .inl ⟨_, hs3.sq, rfl⟩, _, _, rfl, rfl, by simp, ?_⟩⟩
            have j1 : 0 ≤ a % (((x :: ns).map V.int).length : Int) := Int.emod_nonneg _ (by simp; omega)
            have j2 : a % (((x :: ns).map V.int).length : Int) < (((x :: ns).map V.int).length : Int) := Int.emod_lt_of_pos _ (by simp)
            obtain ⟨j, hj⟩ : ∃ j : Nat, a % (((x :: ns).map V.int).length : Int) = (j : Int) := ⟨(a % (((x :: ns).map V.int).length : Int)).toNat, by omega⟩
            rw [hj] at j2 ⊢
            have hj2 : j < (x :: ns).length := by
              rw [List.length_map] at j2
              omega
            refine ⟨sc0, _, _, .int ((x :: ns)[j]'hj2), rfl, rfl, hs3.sq, atI_nat ?_, qq _ _ ⟨_, rfl, s3⟩⟩
            rw [List.getElem?_map, List.getElem?_eq_getElem hj2]
            rfl
      · rintro v H3 ⟨c, rfl, s3⟩
        have hm3 := s3 _ _ hm2
        have hs3 := hs2.keep (fun b o _ e => s3 b o e)
        have ch3 : Ch m H H3 := s2.trans (Ch.of s3)
        refine w_ifS (decide (1000000000000000000 ≤ c) && decide (a < ns.length)) (fun Q' qq => ?_) fun H4 s4 => ?_
        · dsimp only [tRet, tAndV, tOrV, tNotV, tNot, tAnd, tOr, tCB, tCons, tNil, tC, tVar, tOp, tUn, tTest, tB, tIfS, tSeq, tNext, tDrop, tAsg, gName, tIf, tChain, tCallS, tTup, tLst, rI0, rI, rU, rEq, rNe, tSl, tPart, tNoPart, rIxT, rIxS, rSlS, rIn, tIf, tPar, tM1, tMkSup, tDGet, sDPut, rIxL, tDisp, tPairs, rIx]
          refine ⟨_, rfl, _, _, rfl, rfl, ⟨by decide, by decide, by decide⟩, _, _, rfl, rfl, _, rfl, ?_⟩
          have e18 : ((10 : Int) ^ ((18 : Int)).toNat) = 1000000000000000000 := by decide
          rw [e18]
          by_cases c1 : 1000000000000000000 ≤ c
          · rw [decide_eq_true c1] at qq
            refine iT (decide_eq_true c1) ⟨_, rfl, _, rfl, m, _, rfl, g_cells hm3, _, _, rfl, .inl ⟨_, hs3.sq, rfl⟩, _, _, rfl, rfl, _, rfl, ?_⟩
            rw [List.length_map]
            exact qq _ (Same.refl _)
          · rw [decide_eq_false c1] at qq
            exact iF (decide_eq_false c1) (qq _ (Same.refl _))
        cases hb : (decide (1000000000000000000 ≤ c) && decide (a < ns.length)) with
        | true =>
          simp only [Bool.and_eq_true, decide_eq_true_eq] at hb
          refine iT rfl ?_
          dsimp only [tRet, tAndV, tOrV, tNotV, tNot, tAnd, tOr, tCB, tCons, tNil, tC, tVar, tOp, tUn, tTest, tB, tIfS, tSeq, tNext, tDrop, tAsg, gName, tIf, tChain, tCallS, tTup, tLst, rI0, rI, rU, rEq, rNe, tSl, tPart, tNoPart, rIxT, rIxS, rSlS, rIn, tIf, tPar, tM1, tMkSup, tDGet, sDPut, rIxL, tDisp, tPairs, rIx]
          refine ⟨_, rfl, _, rfl, _, _, rfl, rfl, wide_div (b := 62) (by omega) (by omega) (by decide) (by decide), _, rfl, m, _, rfl, p_left (s4 _ _ hm3), _, rfl, .inl ⟨_, rfl, _, rfl, _, _, rfl, rfl, by omega, ?_⟩⟩
          refine k _ _ (Int.emod_nonneg _ (by omega)) (Int.emod_lt_of_pos _ (by omega)) (ch3.trans ((Ch.of s4).trans Ch.put)) ⟨ns, a + 1, c / tot, upd_same, hs3.keep ((Ch.of s4).trans Ch.put), hl, by omega, by omega, Int.ediv_nonneg (by omega) (by omega)⟩
        | false =>
          refine iF rfl ?_
          dsimp only [tSeq, tNext, tAsg, gName, tCallS, tCons, tNil]
          refine w_eh (fun v H' => H' = H4 ∧ ∃ z, v = .int z ∧ 0 ≤ z ∧ z ≤ 48274000000) (fun Q' qq => ?_) ?_
          · dsimp only [tRet, tAndV, tOrV, tNotV, tNot, tAnd, tOr, tCB, tCons, tNil, tC, tVar, tOp, tUn, tTest, tB, tIfS, tSeq, tNext, tDrop, tAsg, gName, tIf, tChain, tCallS, tTup, tLst, rI0, rI, rU, rEq, rNe, tSl, tPart, tNoPart, rIxT, rIxS, rSlS, rIn, tIf, tPar, tM1, tMkSup, tDGet, sDPut, rIxL, tDisp, tPairs, rIx]
            have z1 : 0 ≤ c % 1000003 := Int.emod_nonneg _ (by omega)
            have z2 : c % 1000003 < 1000003 := Int.emod_lt_of_pos _ (by omega)
            have z3 : 0 ≤ c / 1000003 % 1000003 := Int.emod_nonneg _ (by omega)
            have z4 : c / 1000003 % 1000003 < 1000003 := Int.emod_lt_of_pos _ (by omega)
            exact ⟨_, rfl, .inl ⟨_, rfl, _, _, rfl, rfl, by omega, _, _, rfl, rfl, wide_mul (a := 20) (b := 20) (by omega) (by omega) (by decide) (by decide) (by decide), _, rfl, _, _, rfl, rfl, wide_div (b := 20) (by decide) (by decide) (by decide) (by decide),
              .inl ⟨_, rfl, _, _, rfl, rfl, by omega, _, _, rfl, rfl, qq _ _ ⟨rfl, _, rfl, by omega, by omega⟩⟩⟩⟩
          rintro v H5 ⟨rfl, z, rfl, z0, z1⟩
          refine w_eh (fun v H' => H' = H5 ∧ ∃ z, v = .int z ∧ 0 ≤ z ∧ z < 2147483647) (fun Q' qq => ?_) ?_
          · dsimp only [tRet, tAndV, tOrV, tNotV, tNot, tAnd, tOr, tCB, tCons, tNil, tC, tVar, tOp, tUn, tTest, tB, tIfS, tSeq, tNext, tDrop, tAsg, gName, tIf, tChain, tCallS, tTup, tLst, rI0, rI, rU, rEq, rNe, tSl, tPart, tNoPart, rIxT, rIxS, rSlS, rIn, tIf, tPar, tM1, tMkSup, tDGet, sDPut, rIxL, tDisp, tPairs, rIx]
            have ka : a ≤ 1000000000 := by omega
            have m1 : CMulW 7919 a := wide_mul (a := 20) (b := 40) (by decide) (by omega) (by decide) (by decide) (by decide)
            have m2 : CMulW (7919 * a) a := wide_mul (a := 60) (b := 40) (by omega) (by omega) (by decide) (by decide) (by decide)
            have m3 : CMulW 104729 a := wide_mul (a := 20) (b := 40) (by decide) (by omega) (by decide) (by decide) (by decide)
            exact ⟨_, rfl, _, rfl, _, _, rfl, rfl, m1, _, rfl, _, _, rfl, rfl, m2, _, _, rfl, rfl, _, rfl, _, _, rfl, rfl, m3, _, _, rfl, rfl, _, _, rfl, rfl, .inl ⟨_, rfl, _, _, rfl, rfl, by omega, qq _ _ ⟨rfl, _, rfl, Int.emod_nonneg _ (by omega), Int.emod_lt_of_pos _ (by omega)⟩⟩⟩
          rintro v H6 ⟨rfl, y, rfl, y0, y1⟩
          refine w_eh (fun v H' => H' = H6 ∧ ∃ z, v = .int z ∧ 0 ≤ z ∧ z < 2147483587) (fun Q' qq => ?_) ?_
          · dsimp only [tRet, tAndV, tOrV, tNotV, tNot, tAnd, tOr, tCB, tCons, tNil, tC, tVar, tOp, tUn, tTest, tB, tIfS, tSeq, tNext, tDrop, tAsg, gName, tIf, tChain, tCallS, tTup, tLst, rI0, rI, rU, rEq, rNe, tSl, tPart, tNoPart, rIxT, rIxS, rSlS, rIn, tIf, tPar, tM1, tMkSup, tDGet, sDPut, rIxL, tDisp, tPairs, rIx]
            have z1 : 0 ≤ y * y % 2147483629 := Int.emod_nonneg _ (by omega)
            have z2 : y * y % 2147483629 < 2147483629 := Int.emod_lt_of_pos _ (by omega)
            exact ⟨_, rfl, _, rfl, _, _, rfl, rfl, wide_mul (a := 40) (b := 40) (by omega) (by omega) (by decide) (by decide) (by decide), .inl ⟨_, rfl, _, _, rfl, rfl, by omega, _, _, rfl, rfl, wide_mul (a := 40) (b := 40) (by omega) (by omega) (by decide) (by decide) (by decide),
              .inl ⟨_, rfl, _, _, rfl, rfl, by omega, qq _ _ ⟨rfl, _, rfl, Int.emod_nonneg _ (by omega), Int.emod_lt_of_pos _ (by omega)⟩⟩⟩⟩
          rintro v H7 ⟨rfl, x, rfl, x0, x1⟩
          dsimp only [tRet, tAndV, tOrV, tNotV, tNot, tAnd, tOr, tCB, tCons, tNil, tC, tVar, tOp, tUn, tTest, tB, tIfS, tSeq, tNext, tDrop, tAsg, gName, tIf, tChain, tCallS, tTup, tLst, rI0, rI, rU, rEq, rNe, tSl, tPart, tNoPart, rIxT, rIxS, rSlS, rIn, tIf, tPar, tM1, tMkSup, tDGet, sDPut, rIxL, tDisp, tPairs, rIx]
          refine ⟨_, rfl, _, _, rfl, rfl, wide_div (b := 20) (by decide) (by decide) (by decide) (by decide), .inl ⟨_, rfl, _, rfl, _, _, rfl, rfl, by omega, ?_⟩⟩
          exact k _ _ (Int.emod_nonneg _ (by omega)) (Int.emod_lt_of_pos _ (by omega)) (ch3.trans (Ch.of s4)) ⟨ns, a + 1, l, s4 _ _ hm3, hs3.keep (Ch.of s4), hl, by omega, by omega, l0⟩
theorem sc_Of : FnScope ["_law_m", "_law_items"] ["_law_m", "_law_items"] (defScope sOf) := ⟨rfl, rfl, rfl, by decide +kernel, rfl, by decide +kernel, by decide +kernel⟩
theorem ok_law_of (B : Blt mg) (F : Fd K mg "_law_of" sOf ["_law_m", "_law_items"]) (d_law_next : Df P w K mg base CX0 1 "_law_next" ["_law_m", "_law_total"] (spNext K sc0)) : Df P w K mg base CX0 2 "_law_of" ["_law_m", "_law_items"] (spOf K sc0) := by
  refine F.ok sc_Of (fun vs H Q E h => ?_) (fun f cdv A outer s H vs Q E hr h => ?_)
  · obtain ⟨a, kd, xs, n, rfl, _⟩ := h
    rfl
  · obtain ⟨m, v, xs, n, rfl, hv, x1, x2, hM, hn, k⟩ := h
    have sc := sc_Of
    refine ⟨_, (pss_one (ps_ret (pe_ix ix_seq (pv 1) (pe_d0 d_law_next hr rfl (by decide) (pa_cons (pv 0) (pa_cons (pe_callB call_len rfl B.len_ bo_len (pa_cons (pv 1) pa_nil)) pa_nil))) (fun _ _ => rfl)))), ?_⟩
    dsimp only [tRet, tAndV, tOrV, tNotV, tNot, tAnd, tOr, tCB, tCons, tNil, tC, tVar, tOp, tUn, tTest, tB, tIfS, tSeq, tNext, tDrop, tAsg, gName, tIf, tChain, tCallS, tTup, tLst, rI0, rI, rU, rEq, rNe, tSl, tPart, tNoPart, rIxT, rIxS, rSlS, rIn, tIf, tPar, tM1, tMkSup, tDGet, sDPut, rIxL, tDisp, tPairs, rIx]
    have len : LenV K v H xs.length := by
      rcases hv with ⟨b, rfl, hb | hb⟩ | ⟨z, rfl, rfl⟩
      · exact .inl ⟨xs, SqL.of hb, rfl⟩
      · exact .inr ⟨xs, SqT.of hb, rfl⟩
      · refine ⟨?_, by rw [List.length_map]; simp [Str.length]⟩
        rw [List.length_map] at x2
        have : z.cps.toList.length = z.length := by simp [Str.length]
        rw [sizeLine_eq]
        omega
    refine ⟨_, rfl, _, rfl, _, rfl, _, _, rfl, len, m, _, n, rfl, by omega, by omega, hM, hn, fun r H1 r0 r1 c1 M1 => ?_⟩
    obtain ⟨j, rfl⟩ : ∃ j : Nat, r = (j : Int) := ⟨r.toNat, by omega⟩
    have hj : j < xs.length := by omega
    have hx : xs[j] ∈ xs := List.getElem_mem hj
    rcases hv with ⟨b, rfl, hb | hb⟩ | ⟨z, rfl, rfl⟩
    · have nb := hM.neL hb
      exact .inl ⟨b, xs, _, xs[j], rfl, rfl, SqL.of (c1 _ _ nb hb), atI_nat (List.getElem?_eq_getElem hj), k _ _ hx c1 M1⟩
    · have nb := hM.ne hb
      exact .inr (.inl ⟨b, xs, _, xs[j], rfl, rfl, SqT.of (c1 _ _ nb hb), atI_nat (List.getElem?_eq_getElem hj), k _ _ hx c1 M1⟩)
    · rw [List.length_map] at hj x2
      refine .inr (.inr ⟨z, _, z.cps.toList[j], rfl, rfl, ?_, atI_nat (List.getElem?_eq_getElem hj), k _ _ (List.mem_map_of_mem (List.getElem_mem hj)) c1 M1⟩)
      have : z.cps.toList.length = z.length := by simp [Str.length]
      rw [sizeLine_eq]
      omega
end
end K5
set_option Elab.async false
set_option maxRecDepth 100000
set_option maxHeartbeats 4000000
/-! _law_kind, _law_big_kind -/
namespace K5
open PySem PySem.Spec PyProof.Rows L2 TL NumText
section
variable {P : Program} {w : World} {K : PySem.W.Frag} {mg : Str → Option Value} {base : Heap} {sc0 : Addr}
theorem mem_ints {xs : List Int} {x : V} (h : x ∈ xs.map V.int) : ∃ i, x = .int i ∧ i ∈ xs := by
  obtain ⟨i, hi, rfl⟩ := List.mem_map.mp h
  exact ⟨i, rfl, hi⟩
theorem mem_strs {xs : List Str} {x : V} (h : x ∈ xs.map V.str) : ∃ i, x = .str i ∧ i ∈ xs := by
  obtain ⟨i, hi, rfl⟩ := List.mem_map.mp h
  exact ⟨i, rfl, hi⟩
theorem map_erase : ∀ (ws : List Str) (k : Nat), (ws.map V.str).eraseIdx k = (ws.eraseIdx k).map V.str
  | [], _ => rfl
  | _ :: _, 0 => rfl
  | x :: ws, k + 1 => by
    show V.str x :: (ws.map V.str).eraseIdx k = V.str x :: (ws.eraseIdx k).map V.str
    rw [map_erase ws k]
theorem cons_erase : ∀ {ws : List Str} {k : Nat} (h : k < ws.length), (ws[k] :: ws.eraseIdx k).Perm ws
  | x :: ws, 0, _ => List.Perm.refl _
  | x :: ws, k + 1, h => by
    have ih := cons_erase (ws := ws) (k := k) (by simpa using h)
    exact (List.Perm.swap x (ws[k]'(by simpa using h)) (ws.eraseIdx k)).trans (List.Perm.cons x ih)
theorem e18 : ((10 : Int) ^ ((18 : Int)).toNat) = 1000000000000000000 := by decide
theorem two_sorted {i j : Int} {ns : List Int} (p : ns.Perm [i, j]) (s : ns.Pairwise (· ≤ ·)) : ∃ a b, ns = [a, b] ∧ a ≤ b ∧ a ∈ [i, j] ∧ b ∈ [i, j] := by
  have hl : ns.length = 2 := p.length_eq
  match ns, hl with
  | [a, b], _ =>
    refine ⟨a, b, rfl, ?_, p.subset (by simp), p.subset (by simp)⟩
    have := List.pairwise_cons.mp s
    exact this.1 b (by simp)
abbrev someL : List Int := [0, 1, -1, 7, -9, 99, -350, 12345, 999999999999999999, -999999999999999999]
theorem some_ok : ∀ i ∈ someL, -999999999999999999 ≤ i ∧ i ≤ 999999999999999999 := by decide
abbrev wordL : List Str := ["yes", "no", "a", "b", "A", " ", "x y", ⟨(List.replicate 20 126).toArray⟩, "a\n", "0", "1.0", "ab"]
theorem word_ok : ∀ x ∈ wordL, 1 ≤ x.length ∧ x.length ≤ 20 ∧ good x = true := by decide +kernel
theorem word_nd : wordL.Nodup := by decide +kernel
theorem sc_KindM : FnScope ["_law_m", "_law_way", "_law_some", "_law_low", "_law_high", "_law_k", "_law_words", "_law_found"] ["_law_m"] (defScope sKindM) := ⟨rfl, rfl, rfl, by decide +kernel, rfl, by decide +kernel, by decide +kernel⟩
theorem ok_law_kind (B : Blt mg) (F : Fd K mg "_law_kind" sKindM ["_law_m"]) (d_law_next : Df P w K mg base CX0 1 "_law_next" ["_law_m", "_law_total"] (spNext K sc0)) (d_law_of : Df P w K mg base CX0 2 "_law_of" ["_law_m", "_law_items"] (spOf K sc0)) : Df P w K mg base CX0 3 "_law_kind" ["_law_m"] (spKindM K sc0) := by
  refine F.ok sc_KindM (fun vs H Q E h => ?_) (fun f cdv A outer s H vs Q E hr h => ?_)
  · obtain ⟨a, kd, rfl, _⟩ := h
    rfl
  · obtain ⟨m, n, rfl, hM, hn, k⟩ := h
    have sc := sc_KindM
    refine ⟨_, (pss_cons (ps_par (i := 1) (j := 2) rfl sc.nd rfl rfl (by decide) rfl rfl (pa_cons (pe_d0 d_law_next hr rfl (by decide) (pa_cons (pv 0) (pa_cons pe_int pa_nil))) (pa_cons (pe_lst (pa_cons pe_int (pa_cons pe_int (pa_cons (pe_un un_neg pe_int) (pa_cons pe_int (pa_cons (pe_un un_neg pe_int) (pa_cons pe_int (pa_cons (pe_un un_neg pe_int) (pa_cons pe_int (pa_cons (pe_op op_sub (pe_op op_pow pe_int pe_int) pe_int) (pa_cons (pe_op op_sub pe_int (pe_op op_pow pe_int pe_int)) pa_nil))))))))))) pa_nil)) rfl)
      (pss_cons (ps_asg (pe_callB cr_sorted rfl B.sorted_ bo_sorted (pa_cons (pe_lst (pa_cons (pe_d0 d_law_of hr rfl (by decide) (pa_cons (pv 0) (pa_cons (pv 2) pa_nil))) (pa_cons (pe_d0 d_law_of hr rfl (by decide) (pa_cons (pv 0) (pa_cons (pv 2) pa_nil))) pa_nil))) pa_nil)) (pg_lst rfl (pgs_cons (pg_name (i := 3) sc.nd rfl (Or.inl rfl)) (pgs_cons (pg_name (i := 4) sc.nd rfl (Or.inl rfl)) pgs_nil))))
      (pss_cons (ps_if (pt_cmpR op_lt (pv 1) pe_int (nomark _)) (pss_one (ps_ret (pe_tup (pa_cons pe_str (pa_cons (pv 3) (pa_cons (pv 4) pa_nil)))))) pss_nil)
      (pss_cons (ps_if (pt_cmpR op_lt (pv 1) pe_int (nomark _)) (pss_one (ps_ret (pe_tup (pa_cons pe_str (pa_cons (pv 3) (pa_cons (pv 4) (pa_cons (pe_op op_add pe_int (pe_d0 d_law_next hr rfl (by decide) (pa_cons (pv 0) (pa_cons pe_int pa_nil)))) pa_nil))))))) pss_nil)
      (pss_cons (ps_if (pt_cmpR op_eq (pv 1) pe_int (nomark _)) (pss_one (ps_ret (pe_tup (pa_cons pe_str (pa_cons (pe_d0 d_law_of hr rfl (by decide) (pa_cons (pv 0) (pa_cons (pe_lst (pa_cons pe_int (pa_cons pe_int (pa_cons pe_int (pa_cons pe_int (pa_cons pe_int (pa_cons pe_int pa_nil))))))) pa_nil))) pa_nil))))) pss_nil)
      (pss_cons (ps_if (pt_cmpR op_eq (pv 1) pe_int (nomark _)) (pss_cons (ps_par (i := 6) (j := 7) rfl sc.nd rfl rfl (by decide) rfl rfl (pa_cons (pe_lst (pa_cons pe_str (pa_cons pe_str (pa_cons pe_str (pa_cons pe_str (pa_cons pe_str (pa_cons pe_str (pa_cons pe_str (pa_cons (pe_op op_mul_sign pe_str pe_int) (pa_cons pe_str (pa_cons pe_str (pa_cons pe_str (pa_cons pe_str pa_nil))))))))))))) (pa_cons (pe_lst pa_nil) pa_nil)) rfl)
      (pss_cons (ps_for PassesOwn.never rfl (pi_range1 rfl B.range_ (pa_cons (pe_op op_add pe_int (pe_d0 d_law_next hr rfl (by decide) (pa_cons (pv 0) (pa_cons pe_int pa_nil)))) pa_nil)) (pg_name (i := 5) sc.nd rfl (Or.inl rfl)) (pss_one (ps_expr (pe_bm PySem.F.plainAttrs_list PySem.F.slot_list_append PySem.F.type_list_append mt_append (pv 7) (pa_cons (pe_bm PySem.F.plainAttrs_list PySem.F.slot_list_pop PySem.F.type_list_pop mt_popAt (pv 6) (pa_cons (pe_d0 d_law_next hr rfl (by decide) (pa_cons (pv 0) (pa_cons (pe_callB call_len rfl B.len_ bo_len (pa_cons (pv 6) pa_nil)) pa_nil))) pa_nil)) pa_nil)))))
      (pss_one (ps_ret (pe_tup (pa_cons pe_str (pa_cons (pe_callTy call_tuple_of rfl B.tuple_ bo_tuple (pa_cons (pv 7) pa_nil)) pa_nil))))))) pss_nil)
      (pss_one (ps_ret (pe_d0 d_law_of hr rfl (by decide) (pa_cons (pv 0) (pa_cons (pe_lst (pa_cons (pe_tup (pa_cons pe_str pa_nil)) (pa_cons (pe_tup (pa_cons pe_str pa_nil)) pa_nil))) pa_nil))))))))))), ?_⟩
    dsimp only [tRet, tAndV, tOrV, tNotV, tNot, tAnd, tOr, tCB, tCons, tNil, tC, tVar, tOp, tUn, tTest, tB, tIfS, tSeq, tNext, tDrop, tAsg, gName, tIf, tChain, tCallS, tTup, tLst, rI0, rI, rU, rEq, rNe, tSl, tPart, tNoPart, rIxT, rIxS, rSlS, rIn, tIf, tPar, tM1, tMkSup, tDGet, sDPut, rIxL, tDisp, tPairs, rIx]
    refine ⟨_, rfl, m, 7, n, rfl, by omega, by omega, hM, by omega, fun r H1 r0 r1 c1 M1 => ?_⟩
    refine ⟨_, rfl, _, rfl, _, rfl, _, _, rfl, rfl, ⟨by decide, by decide, by decide⟩, _, _, rfl, rfl, _, _, rfl, rfl, ⟨by decide, by decide, by decide⟩, _, _, rfl, rfl, by show 10 ≤ sizeLine; decide, fun L hL => ⟨_, _, rfl, ?_⟩⟩
    simp only [e18]
    have eL : (upd H1 L (.lst [.int 0, .int 1, .int (-1), .int 7, .int (-9), .int 99, .int (-350), .int 12345, .int (1000000000000000000 - 1), .int (1 - 1000000000000000000)])) L = some (.lst (someL.map V.int)) := upd_same
    have c2 : Ch m H (upd H1 L (.lst [.int 0, .int 1, .int (-1), .int 7, .int (-9), .int 99, .int (-350), .int 12345, .int (1000000000000000000 - 1), .int (1 - 1000000000000000000)])) := c1.trans (Ch.of (Same.put hL))
    have M2 := M1.same (Same.put (o := .lst [.int 0, .int 1, .int (-1), .int 7, .int (-9), .int 99, .int (-350), .int 12345, .int (1000000000000000000 - 1), .int (1 - 1000000000000000000)]) hL)
    generalize upd H1 L (.lst [.int 0, .int 1, .int (-1), .int 7, .int (-9), .int 99, .int (-350), .int 12345, .int (1000000000000000000 - 1), .int (1 - 1000000000000000000)]) = H2 at *
    refine ⟨_, rfl, _, rfl, m, _, _, _, rfl, .inl ⟨L, rfl, .inl eL⟩, by decide, by decide, M2, by omega, fun x H3 hx c3 M3 => ?_⟩
    obtain ⟨i, rfl, hi⟩ := mem_ints hx
    have eL3 := c3 _ _ (M2.neL eL) eL
    refine ⟨_, rfl, _, rfl, m, _, _, _, rfl, .inl ⟨L, rfl, .inl eL3⟩, by decide, by decide, M3, by omega, fun x H4 hx c4 M4 => ?_⟩
    obtain ⟨j, rfl, hj⟩ := mem_ints hx
    refine ⟨by show 2 ≤ sizeLine; decide, fun L2 hL2 => ⟨L2, [i, j], rfl, SqL.of upd_same, by show 2 < 64; omega, fun ns p hp hs hP => ?_⟩⟩
    obtain ⟨lo, hi', rfl, hle, hlo, hhi⟩ := two_sorted hp hs
    have c5 : Ch m H (upd (upd H4 L2 (.lst [.int i, .int j])) p (.lst ([lo, hi'].map V.int))) := c2.trans (c3.trans (c4.trans ((Ch.of (Same.put hL2)).trans (Ch.of (Same.put hP)))))
    have M5 := (M4.same (Same.put (o := .lst [.int i, .int j]) hL2)).same (Same.put (o := .lst ([lo, hi'].map V.int)) hP)
    have e5 : (upd (upd H4 L2 (.lst [.int i, .int j])) p (.lst ([lo, hi'].map V.int))) p = some (.lst ([lo, hi'].map V.int)) := upd_same
    generalize upd (upd H4 L2 (.lst [.int i, .int j])) p (.lst ([lo, hi'].map V.int)) = H5 at *
    have b1 := some_ok i hi
    have b2 := some_ok j hj
    have blo : -999999999999999999 ≤ lo := by
      rcases List.mem_cons.mp hlo with rfl | z
      · exact b1.1
      · rcases List.mem_cons.mp z with rfl | z
        · exact b2.1
        · cases z
    have bhi : hi' ≤ 999999999999999999 := by
      rcases List.mem_cons.mp hhi with rfl | z
      · exact b1.2
      · rcases List.mem_cons.mp z with rfl | z
        · exact b2.2
        · cases z
    refine ⟨p, _, rfl, SqL.of e5, rfl, _, _, rfl, _, _, rfl, rfl, ?_⟩
    clear c1 c3 c4 M1 M2 M3 M4 eL eL3 hL2 hP hL c2 e5
    dsimp only [tRet, tAndV, tOrV, tNotV, tNot, tAnd, tOr, tCB, tCons, tNil, tC, tVar, tOp, tUn, tTest, tB, tIfS, tSeq, tNext, tDrop, tAsg, gName, tIf, tChain, tCallS, tTup, tLst, rI0, rI, rU, rEq, rNe, tSl, tPart, tNoPart, rIxT, rIxS, rSlS, rIn, tIf, tPar, tM1, tMkSup, tDGet, sDPut, rIxL, tDisp, tPairs, rIx]
    refine ⟨_, rfl, _, _, rfl, rfl, _, rfl, ?_⟩
    by_cases w2 : r < 2
    · refine iT (decide_eq_true w2) ⟨_, rfl, _, rfl, by show 3 ≤ sizeLine; decide, fun t ht => ?_⟩
      exact k (.int lo hi') t _ ⟨blo, hle, bhi⟩ upd_same (c5.trans (Ch.of (Same.put ht))) ((M5.same (Same.put ht)).up (by omega))
    refine iF (decide_eq_false w2) ⟨_, rfl, _, _, rfl, rfl, _, rfl, ?_⟩
    by_cases w4 : r < 4
    · refine iT (decide_eq_true w4) ⟨_, rfl, _, rfl, _, rfl, m, 9, _, rfl, by omega, by omega, M5, by omega, fun q H6 q0 q1 c6 M6 => ⟨_, _, rfl, rfl, by show 4 ≤ sizeLine; decide, fun t ht => ?_⟩⟩
      refine k (.dec lo hi' (1 + q).toNat) t _ ⟨⟨blo, hle, bhi⟩, by omega, by omega⟩ ?_ (c5.trans (c6.trans (Ch.of (Same.put ht)))) ((M6.same (Same.put ht)).up (by omega))
      show _ = some (HO.tup [.str "decimal", .int lo, .int hi', .int ((1 + q).toNat : Nat)])
      rw [show (((1 + q).toNat : Nat) : Int) = 1 + q by omega]
      exact upd_same
    refine iF (decide_eq_false w4) ⟨_, rfl, rfl, _, rfl, ?_⟩
    rw [dec_int]
    by_cases w5 : r = 4
    · refine iT (beq_iff_eq.mpr w5) ⟨_, rfl, by show 6 ≤ sizeLine; decide, fun L6 hL6 => ?_⟩
      refine ⟨m, _, _, _, rfl, .inl ⟨L6, rfl, .inl upd_same⟩, by show 1 ≤ 6; omega, by show 6 ≤ 1000; omega, M5.same (Same.put hL6), by omega, fun x H6 hx c6 M6 => ⟨by show 2 ≤ sizeLine; decide, fun t ht => ?_⟩⟩
      obtain ⟨v, rfl, hv⟩ := mem_ints (xs := [1, 2, 5, 20, 999, 1000]) hx
      have hv2 : ∀ v ∈ ([1, 2, 5, 20, 999, 1000] : List Int), 1 ≤ v ∧ v ≤ 1000 := by decide
      exact k (.text v) t _ (hv2 v hv) upd_same (c5.trans ((Ch.of (Same.put hL6)).trans (c6.trans (Ch.of (Same.put ht))))) ((M6.same (Same.put ht)).up (by omega))
    refine iF (beq_eq_false_iff_ne.mpr w5) ⟨_, rfl, rfl, _, rfl, ?_⟩
    rw [dec_int]
    by_cases w6 : r = 5
    · refine iT (beq_iff_eq.mpr w6) ⟨126, _, rfl, rfl, ⟨by decide, by decide⟩, by show 12 ≤ sizeLine; decide, fun Lw hLw => ⟨Nat.zero_le _, fun Lf hLf => ⟨_, _, rfl, ?_⟩⟩⟩
      generalize hW : ([.str "yes", .str "no", .str "a", .str "b", .str "A", .str " ", .str "x y", .str ⟨(List.replicate (20 : Int).toNat 126).toArray⟩, .str "a\n", .str "0", .str "1.0", .str "ab"] : List V) = W at *
      have hW2 : W = wordL.map V.str := hW.symm
      have n12 : Lw ≠ Lf := ne_of_none upd_same hLf
      have fw : H Lw = none := M5.back c5 hLw
      have ff : H Lf = none := (M5.same (Same.put (o := .lst W) hLw)).back (c5.trans (Ch.of (Same.put hLw))) hLf
      have s6 : Same H5 (upd (upd H5 Lw (.lst W)) Lf (.lst [])) := (Same.put hLw).trans (Same.put hLf)
      have E1 : (upd (upd H5 Lw (.lst W)) Lf (.lst [])) Lw = some (.lst (wordL.map V.str)) := by rw [upd_ne n12, upd_same, hW2]
      have E2 : (upd (upd H5 Lw (.lst W)) Lf (.lst [])) Lf = some (.lst []) := upd_same
      generalize upd (upd H5 Lw (.lst W)) Lf (.lst []) = H6 at *
      have M6 := M5.same s6
      refine ⟨_, rfl, m, 7, _, rfl, by omega, by omega, M6, by omega, fun q H7 q0 q1 c7 M7 => ⟨_, _, rfl, rfl, _, rfl, by omega, by omega, ?_⟩⟩
      have c67 : Ch m H H7 := c5.trans ((Ch.of s6).trans c7)
      have F1 := c7 _ _ (M6.neL E1) E1
      have F2 := c7 _ _ (M6.neL E2) E2
      refine for_it walk_range (fun i σ H' => ∃ (fs ws : List Str) (y : Option V), σ = [some (.ref m), some (.int r), some (.ref L), some (.int lo), some (.int hi'), y, some (.ref Lw), some (.ref Lf)] ∧ Ch m H H' ∧ MAt K sc0 H' m (n + 1 + 1 + 1 + 1 + i) ∧ H' Lw = some (.lst (ws.map V.str)) ∧ H' Lf = some (.lst (fs.map V.str)) ∧ fs.length = i ∧ (fs ++ ws).Perm wordL)
        ⟨[], wordL, none, rfl, c67, M7.up (by omega), F1, F2, rfl, List.Perm.refl _⟩ (fun _ _ _ _ _ => trivial) ?_ ?_
      · rintro i x σ H8 H8' hi8 ⟨fs, ws, y, rfl, c8, M8, G1, G2, hfl, hp8⟩ ⟨rfl, rfl⟩
        have hwl : 1 ≤ ws.length := by
          have := hp8.length_eq
          rw [List.length_append] at this
          have w12 : wordL.length = 12 := rfl
          omega
        have hwl2 : ws.length ≤ 12 := by
          have := hp8.length_eq
          rw [List.length_append] at this
          have w12 : wordL.length = 12 := rfl
          omega
        dsimp only [gName]
        dsimp only [tRet, tAndV, tOrV, tNotV, tNot, tAnd, tOr, tCB, tCons, tNil, tC, tVar, tOp, tUn, tTest, tB, tIfS, tSeq, tNext, tDrop, tAsg, gName, tIf, tChain, tCallS, tTup, tLst, rI0, rI, rU, rEq, rNe, tSl, tPart, tNoPart, rIxT, rIxS, rSlS, rIn, tIf, tPar, tM1, tMkSup, tDGet, sDPut, rIxL, tDisp, tPairs, rIx]
        have hml : (ws.map V.str).length = ws.length := List.length_map ..
        refine ⟨_, rfl, .inl ⟨rfl, _, SqL.of G2⟩, _, rfl, .inl ⟨rfl, _, SqL.of G1⟩, _, rfl, _, rfl, _, _, rfl, .inl ⟨_, SqL.of G1, rfl⟩, m, _, n + 1 + 1 + 1 + 1 + (i : Nat), rfl, by omega, by omega, M8, by omega, fun z H9 z0 z1 c9 M9 => ?_⟩
        obtain ⟨z', rfl⟩ : ∃ z' : Nat, z = (z' : Int) := ⟨z.toNat, by omega⟩
        have hz : z' < ws.length := by omega
        have hg : (ws.map V.str)[z']? = some (.str ws[z']) := by rw [List.getElem?_map, List.getElem?_eq_getElem hz]; rfl
        obtain ⟨k1, hk1, hk2, hk3, _, _⟩ := atI_get (atI_nat hg)
        have hk3' : k1 < ws.length := by rw [← hml]; exact hk3
        have hy : ws[k1] = ws[z'] := by
          rw [List.getElem?_map, List.getElem?_eq_getElem hk3'] at hk2
          exact V.str.inj (Option.some.inj hk2)
        have I1 := c9 _ _ (M8.neL G1) G1
        have I2 := c9 _ _ (M8.neL G2) G2
        refine ⟨Lw, _, _, k1, _, rfl, rfl, I1, by omega, by omega, hk1, hk2, Lf, _, _, rfl, rfl, (upd_ne n12.symm).trans I2, by rw [List.length_map, sizeLine_eq]; omega, fs ++ [ws[z']], ws.eraseIdx k1, _, rfl, ?_, ?_, ?_, ?_, ?_, ?_⟩
        · exact ((c8.trans c9).loc fw).loc ff
        · exact (hM.loc (hM.loc M9 fw) ff).up (by omega)
        · rw [upd_ne n12, upd_same]
          exact congrArg (fun z => some (HO.lst z)) (map_erase _ _)
        · rw [upd_same, List.map_append]
          rfl
        · rw [List.length_append, hfl]
          rfl
        · refine List.Perm.trans ?_ hp8
          rw [List.append_assoc]
          refine List.Perm.append_left fs ?_
          have := cons_erase hk3'
          rw [hy] at this
          exact this
      · rintro σ H8 ⟨fs, ws, y, rfl, c8, M8, G1, G2, hfl, hp8⟩
        refine ⟨_, rfl, Lf, _, rfl, .inl ⟨SqL.of G2, fun tb htb => ⟨by show 2 ≤ sizeLine; decide, fun t ht => ?_⟩⟩⟩
        have nd : (fs ++ ws).Nodup := hp8.symm.nodup word_nd
        refine k (.choice fs) t _ ⟨by omega, by omega, (List.nodup_append.mp nd).1, fun x hx => word_ok x (hp8.subset (List.mem_append_left _ hx))⟩ ⟨tb, upd_same, (Same.put ht) _ _ upd_same⟩ (c8.trans ((Ch.of (Same.put htb)).trans (Ch.of (Same.put ht)))) (((M8.same (Same.put htb)).same (Same.put ht)).up (by omega))
    · refine iF (beq_eq_false_iff_ne.mpr w6) ⟨_, rfl, by show 1 ≤ sizeLine; decide, fun t1 ht1 => ⟨by show 1 ≤ sizeLine; decide, fun t2 ht2 => ⟨by show 2 ≤ sizeLine; decide, fun L6 hL6 => ?_⟩⟩⟩
      have s6 : Same H5 (upd (upd H5 t1 (.tup [.str "truth"])) t2 (.tup [.str "date"])) := (Same.put ht1).trans (Same.put ht2)
      have n12 : t1 ≠ t2 := ne_of_none upd_same ht2
      have E1 : (upd (upd (upd H5 t1 (.tup [.str "truth"])) t2 (.tup [.str "date"])) L6 (.lst [.ref t1, .ref t2])) t1 = some (.tup [.str "truth"]) := (Same.put hL6) _ _ ((upd_ne n12).trans upd_same)
      have E2 : (upd (upd (upd H5 t1 (.tup [.str "truth"])) t2 (.tup [.str "date"])) L6 (.lst [.ref t1, .ref t2])) t2 = some (.tup [.str "date"]) := (Same.put hL6) _ _ upd_same
      have E3 : (upd (upd (upd H5 t1 (.tup [.str "truth"])) t2 (.tup [.str "date"])) L6 (.lst [.ref t1, .ref t2])) L6 = some (.lst [.ref t1, .ref t2]) := upd_same
      have s7 : Same H5 (upd (upd (upd H5 t1 (.tup [.str "truth"])) t2 (.tup [.str "date"])) L6 (.lst [.ref t1, .ref t2])) := s6.trans (Same.put hL6)
      generalize upd (upd (upd H5 t1 (.tup [.str "truth"])) t2 (.tup [.str "date"])) L6 (.lst [.ref t1, .ref t2]) = H6 at *
      have M6 := M5.same s7
      refine ⟨m, _, _, _, rfl, .inl ⟨L6, rfl, .inl E3⟩, by show 1 ≤ 2; omega, by show 2 ≤ 1000; omega, M6, by omega, fun x H7 hx c7 M7 => ?_⟩
      rcases List.mem_cons.mp hx with rfl | hx
      · exact k .truth t1 _ trivial (c7 _ _ (M6.ne E1) E1) (c5.trans ((Ch.of s7).trans c7)) (M7.up (by omega))
      · rcases List.mem_cons.mp hx with rfl | hx
        · exact k .date t2 _ trivial (c7 _ _ (M6.ne E2) E2) (c5.trans ((Ch.of s7).trans c7)) (M7.up (by omega))
        · cases hx
end
end K5
set_option Elab.async false
set_option maxRecDepth 100000
set_option maxHeartbeats 4000000
/-! _law_big_kind, _law_value -/
namespace K5
open PySem PySem.Spec PyProof.Rows L2 TL NumText
section
variable {P : Program} {w : World} {K : PySem.W.Frag} {mg : Str → Option Value} {base : Heap} {sc0 : Addr}
theorem e17 : ((10 : Int) ^ ((17 : Int)).toNat) = 100000000000000000 := by decide
theorem e9 : ((10 : Int) ^ ((9 : Int)).toNat) = 1000000000 := by decide
theorem e12 : ((10 : Int) ^ ((12 : Int)).toNat) = 1000000000000 := by decide
abbrev bigA : List Int := [0, 1, -1, 50, -999, 1000000000, 100000000000000000]
abbrev bigB : List Int := [0, 9, -50, 1000, 1000000000000]
theorem bigA_ok : ∀ i ∈ bigA, -999999999999999999 ≤ i ∧ i ≤ 999999999999999999 := by decide
theorem bigB_ok : ∀ i ∈ bigB, -999999999999999999 ≤ i ∧ i ≤ 999999999999999999 := by decide
theorem sc_Big : FnScope ["_law_m", "_law_most", "_law_low", "_law_high"] ["_law_m"] (defScope sBig) := ⟨rfl, rfl, rfl, by decide +kernel, rfl, by decide +kernel, by decide +kernel⟩
theorem ok_law_big_kind (B : Blt mg) (F : Fd K mg "_law_big_kind" sBig ["_law_m"]) (d_law_next : Df P w K mg base CX0 1 "_law_next" ["_law_m", "_law_total"] (spNext K sc0)) (d_law_of : Df P w K mg base CX0 2 "_law_of" ["_law_m", "_law_items"] (spOf K sc0)) : Df P w K mg base CX0 3 "_law_big_kind" ["_law_m"] (spBig K sc0) := by
  refine F.ok sc_Big (fun vs H Q E h => ?_) (fun f cdv A outer s H vs Q E hr h => ?_)
  · obtain ⟨a, kd, rfl, _⟩ := h
    rfl
  · obtain ⟨m, n, rfl, hM, hn, k⟩ := h
    have sc := sc_Big
    refine ⟨_, (pss_cons (ps_set (i := 1) sc.nd rfl (Or.inl rfl) (pe_op op_sub (pe_op op_pow pe_int pe_int) pe_int))
      (pss_cons (ps_asg (pe_callB cr_sorted rfl B.sorted_ bo_sorted (pa_cons (pe_lst (pa_cons (pe_d0 d_law_of hr rfl (by decide) (pa_cons (pv 0) (pa_cons (pe_lst (pa_cons pe_int (pa_cons pe_int (pa_cons (pe_un un_neg pe_int) (pa_cons pe_int (pa_cons (pe_un un_neg pe_int) (pa_cons (pe_op op_pow pe_int pe_int) (pa_cons (pe_op op_pow pe_int pe_int) pa_nil)))))))) pa_nil))) (pa_cons (pe_d0 d_law_of hr rfl (by decide) (pa_cons (pv 0) (pa_cons (pe_lst (pa_cons pe_int (pa_cons pe_int (pa_cons (pe_un un_neg pe_int) (pa_cons pe_int (pa_cons (pe_op op_pow pe_int pe_int) pa_nil)))))) pa_nil))) pa_nil))) pa_nil)) (pg_lst rfl (pgs_cons (pg_name (i := 2) sc.nd rfl (Or.inl rfl)) (pgs_cons (pg_name (i := 3) sc.nd rfl (Or.inl rfl)) pgs_nil))))
      (pss_cons (ps_if (pt_cmpR op_eq (pe_d0 d_law_next hr rfl (by decide) (pa_cons (pv 0) (pa_cons pe_int pa_nil))) pe_int (nomark _)) (pss_one (ps_par (i := 2) (j := 3) rfl sc.nd rfl rfl (by decide) rfl rfl (pa_cons (pe_op op_sub pe_int (pv 1)) (pa_cons (pv 1) pa_nil)) rfl)) pss_nil)
      (pss_one (ps_ret (pe_ifExp (pt_cmpR op_eq (pe_d0 d_law_next hr rfl (by decide) (pa_cons (pv 0) (pa_cons pe_int pa_nil))) pe_int (nomark _)) (pe_tup (pa_cons pe_str (pa_cons (pv 2) (pa_cons (pv 3) pa_nil)))) (pe_tup (pa_cons pe_str (pa_cons (pv 2) (pa_cons (pv 3) (pa_cons (pe_op op_add pe_int (pe_d0 d_law_next hr rfl (by decide) (pa_cons (pv 0) (pa_cons pe_int pa_nil)))) pa_nil))))))))))), ?_⟩
    have tail : ∀ (lo hi : Int) (H1 : Hp), -999999999999999999 ≤ lo → lo ≤ hi → hi ≤ 999999999999999999 → Ch m H H1 → MAt K sc0 H1 m (n + 3) →
        tIf (tTest (tOp rEq (tCallS (spNext K sc0) (fun _ => E0) (tCons (tVar 0) (tCons (tC (.int 2)) tNil))) (tC (.int 0)))) (tTup (tCons (tC (.str "int")) (tCons (tVar 2) (tCons (tVar 3) tNil))))
          (tTup (tCons (tC (.str "decimal")) (tCons (tVar 2) (tCons (tVar 3) (tCons (tOp (rI0 fun i j => .int (i + j)) (tC (.int 1)) (tCallS (spNext K sc0) (fun _ => E0) (tCons (tVar 0) (tCons (tC (.int 9)) tNil)))) tNil)))))
          [some (.ref m), some (.int 999999999999999999), some (.int lo), some (.int hi)] H1 Q := by
      intro lo hi H1 b1 b2 b3 c1 M1
      dsimp only [tRet, tAndV, tOrV, tNotV, tNot, tAnd, tOr, tCB, tCons, tNil, tC, tVar, tOp, tUn, tTest, tB, tIfS, tSeq, tNext, tDrop, tAsg, gName, tIf, tChain, tCallS, tTup, tLst, rI0, rI, rU, rEq, rNe, tSl, tPart, tNoPart, rIxT, rIxS, rSlS, rIn, tIf, tPar, tM1, tMkSup, tDGet, sDPut, rIxL, tDisp, tPairs, rIx]
      refine ⟨_, rfl, m, 2, _, rfl, by omega, by omega, M1, by omega, fun r H2 r0 r1 c2 M2 => ⟨rfl, _, rfl, ?_⟩⟩
      rw [dec_int]
      by_cases hr0 : r = 0
      · refine iT (beq_iff_eq.mpr hr0) ⟨_, rfl, _, rfl, by show 3 ≤ sizeLine; decide, fun t ht => ?_⟩
        exact k (.int lo hi) t _ rfl ⟨b1, b2, b3⟩ upd_same (c1.trans (c2.trans (Ch.of (Same.put ht)))) ((M2.same (Same.put ht)).up (by omega))
      · refine iF (beq_eq_false_iff_ne.mpr hr0) ⟨_, rfl, _, rfl, _, rfl, m, 9, _, rfl, by omega, by omega, M2, by omega, fun q H3 q0 q1 c3 M3 => ⟨_, _, rfl, rfl, by show 4 ≤ sizeLine; decide, fun t ht => ?_⟩⟩
        refine k (.dec lo hi (1 + q).toNat) t _ rfl ⟨⟨b1, b2, b3⟩, by omega, by omega⟩ ?_ (c1.trans (c2.trans (c3.trans (Ch.of (Same.put ht))))) ((M3.same (Same.put ht)).up (by omega))
        show _ = some (HO.tup [.str "decimal", .int lo, .int hi, .int ((1 + q).toNat : Nat)])
        rw [show (((1 + q).toNat : Nat) : Int) = 1 + q by omega]
        exact upd_same
    dsimp only [tRet, tAndV, tOrV, tNotV, tNot, tAnd, tOr, tCB, tCons, tNil, tC, tVar, tOp, tUn, tTest, tB, tIfS, tSeq, tNext, tDrop, tAsg, gName, tIf, tChain, tCallS, tTup, tLst, rI0, rI, rU, rEq, rNe, tSl, tPart, tNoPart, rIxT, rIxS, rSlS, rIn, tIf, tPar, tM1, tMkSup, tDGet, sDPut, rIxL, tDisp, tPairs, rIx]
    refine ⟨_, _, rfl, rfl, ⟨by decide, by decide, by decide⟩, _, _, rfl, rfl, ?_⟩
    refine ⟨_, rfl, _, rfl, _, rfl, _, _, rfl, rfl, ⟨by decide, by decide, by decide⟩, _, _, rfl, rfl, ⟨by decide, by decide, by decide⟩, by show 7 ≤ sizeLine; decide, fun L hL => ?_⟩
    simp only [e18, e17, e9]
    refine ⟨m, _, bigA.map V.int, n, rfl, .inl ⟨L, rfl, .inl upd_same⟩, by decide, by decide, hM.same (Same.put hL), by omega, fun x H1 hx c1 M1 => ?_⟩
    obtain ⟨i, rfl, hi⟩ := mem_ints hx
    refine ⟨_, rfl, _, rfl, _, _, rfl, rfl, ⟨by decide, by decide, by decide⟩, by show 5 ≤ sizeLine; decide, fun L' hL' => ?_⟩
    simp only [e12]
    refine ⟨m, _, bigB.map V.int, _, rfl, .inl ⟨L', rfl, .inl upd_same⟩, by decide, by decide, M1.same (Same.put hL'), by omega, fun x H2 hx c2 M2 => ?_⟩
    obtain ⟨j, rfl, hj⟩ := mem_ints hx
    refine ⟨by show 2 ≤ sizeLine; decide, fun L2 hL2 => ⟨L2, [i, j], rfl, SqL.of upd_same, by show 2 < 64; omega, fun ns p hp hs hP => ?_⟩⟩
    obtain ⟨lo, hi', rfl, hle, hlo, hhi⟩ := two_sorted hp hs
    have c5 : Ch m H (upd (upd H2 L2 (.lst [.int i, .int j])) p (.lst ([lo, hi'].map V.int))) := (Ch.of (Same.put hL)).trans (c1.trans ((Ch.of (Same.put hL')).trans (c2.trans ((Ch.of (Same.put hL2)).trans (Ch.of (Same.put hP))))))
    have M5 := (M2.same (Same.put (o := .lst [.int i, .int j]) hL2)).same (Same.put (o := .lst ([lo, hi'].map V.int)) hP)
    have e5 : (upd (upd H2 L2 (.lst [.int i, .int j])) p (.lst ([lo, hi'].map V.int))) p = some (.lst ([lo, hi'].map V.int)) := upd_same
    generalize upd (upd H2 L2 (.lst [.int i, .int j])) p (.lst ([lo, hi'].map V.int)) = H5 at *
    have b1 := bigA_ok i hi
    have b2 := bigB_ok j hj
    have blo : -999999999999999999 ≤ lo := by
      rcases List.mem_cons.mp hlo with rfl | z
      · exact b1.1
      · rcases List.mem_cons.mp z with rfl | z
        · exact b2.1
        · cases z
    have bhi : hi' ≤ 999999999999999999 := by
      rcases List.mem_cons.mp hhi with rfl | z
      · exact b1.2
      · rcases List.mem_cons.mp z with rfl | z
        · exact b2.2
        · cases z
    refine ⟨p, _, rfl, SqL.of e5, rfl, _, _, rfl, _, _, rfl, rfl, ?_⟩
    dsimp only [tRet, tAndV, tOrV, tNotV, tNot, tAnd, tOr, tCB, tCons, tNil, tC, tVar, tOp, tUn, tTest, tB, tIfS, tSeq, tNext, tDrop, tAsg, gName, tIf, tChain, tCallS, tTup, tLst, rI0, rI, rU, rEq, rNe, tSl, tPart, tNoPart, rIxT, rIxS, rSlS, rIn, tIf, tPar, tM1, tMkSup, tDGet, sDPut, rIxL, tDisp, tPairs, rIx]
    refine ⟨_, rfl, m, 2, _, rfl, by omega, by omega, M5, by omega, fun r H6 r0 r1 c6 M6 => ⟨rfl, _, rfl, ?_⟩⟩
    rw [dec_int]
    by_cases hr0 : r = 0
    · refine iT (beq_iff_eq.mpr hr0) ⟨_, rfl, _, _, rfl, rfl, _, rfl, _, _, rfl, ?_⟩
      exact tail (-999999999999999999) 999999999999999999 H6 (by omega) (by omega) (by omega) (c5.trans c6) (M6.up (by omega))
    · refine iF (beq_eq_false_iff_ne.mpr hr0) ?_
      exact tail lo hi' H6 blo hle bhi (c5.trans c6) (M6.up (by omega))
theorem join_signs : ∀ cs : List Nat, Txt.join ("" : Str) (cs.map fun c => (⟨#[c]⟩ : Str)) = ofL cs := by
  intro cs
  rw [join_eq]
  refine eq_ofL ?_
  rw [tl_join]
  have all : ∀ cs : List Nat, joinL [] (cs.map fun c => [c]) = cs := by
    intro cs
    induction cs with
    | nil => rfl
    | cons c cs ih =>
      cases cs with
      | nil => rfl
      | cons d cs =>
        show [c] ++ ([] ++ joinL [] ((d :: cs).map fun c => [c])) = c :: d :: cs
        rw [ih]
        rfl
  rw [List.map_map]
  exact all cs
/-- [_law_of(m, text) for k in ..]: signs of the text -/
theorem pick_lc {z : Str} {te : TE} {j : Nat} {σ : L2.St} {H0 H1 : Hp} {m : Addr} {n n0 : Int} {cnt : Nat} {lo : Int} {D : Addr} {Qd : Hp → Prop} (M0 : MAt K sc0 H0 m n0) (c1 : Ch m H0 H1) (M1 : MAt K sc0 H1 m n) (hD : H1 D = none) (hcnt : cnt ≤ 1000) (hn : n + cnt ≤ 1000000000)
    (hte : ∀ x H' (Q' : VK) n', MAt K sc0 H' m n' → n' ≤ 1000000000 → (∀ c H'', c ∈ z.cps.toList → Ch m H' H'' → MAt K sc0 H'' m (n' + 1) → Q' (.str ⟨#[c]⟩) H'') → te (σ.set j (some x)) H' Q')
    (k : ∀ (cs : List Nat) H', cs.length = cnt → (∀ c ∈ cs, c ∈ z.cps.toList) → Ch m H0 H' → MAt K sc0 H' m (n + cnt) → H' D = some (.lst ((cs.map fun c => (⟨#[c]⟩ : Str)).map V.str)) → Qd H') :
    ∃ W : Nat → Nat → Hp → Prop, (∃ m, W 0 m (upd H1 D (.lst []))) ∧ ∀ i m H, W i m H →
      ((Itr lo cnt).stop i H ∧ Qd H) ∨ ((Itr lo cnt).go i H ∧ ∃ Nx : Hp → Prop, (∀ H', Nx H' → ∃ m', m' < m ∧ W (i + 1) m' H') ∧ ∀ x H', (Itr lo cnt).yld i H x H' → gName j x (wipe σ [j]) H' fun σ2 H2 => wipe σ2 [j] = wipe σ [j] ∧ tYes σ2 H2 fun b H3 =>
        if b = true then te σ2 H3 fun y H4 => ∃ acc, H4 D = some (.lst acc) ∧ acc.length < sizeLine ∧ Nx (upd H4 D (.lst (acc ++ [y]))) else Nx H3) := by
  have h0 : H0 D = none := M1.back c1 hD
  refine lc_own walk_range (fun i H' => ∃ cs : List Nat, cs.length = i ∧ (∀ c ∈ cs, c ∈ z.cps.toList) ∧ Ch m H0 H' ∧ MAt K sc0 H' m (n + (i : Nat)) ∧ H' D = some (.lst ((cs.map fun c => (⟨#[c]⟩ : Str)).map V.str)))
    ⟨[], rfl, fun _ h => (nomatch h), c1.loc h0, (M0.loc M1 h0).up (by omega), upd_same⟩ (fun _ _ _ _ => trivial) ?_ ?_
  · rintro i x H2 H2' hi ⟨cs, e1, e2, c2, M2, e3⟩ ⟨rfl, rfl⟩
    refine hte _ _ _ _ M2 (by omega) fun c H3 hc c3 M3 => ⟨_, c3 _ _ (M2.neL e3) e3, ?_, cs ++ [c], ?_, ?_, (c2.trans c3).loc h0, (M0.loc M3 h0).up (by omega), ?_⟩
    · rw [List.length_map, List.length_map, sizeLine_eq]
      omega
    · rw [List.length_append, e1]
      rfl
    · intro d hd
      rcases List.mem_append.mp hd with hd | hd
      · exact e2 d hd
      · rw [List.mem_singleton.mp hd]
        exact hc
    · rw [upd_same, List.map_append, List.map_append]
      rfl
  · rintro H2 ⟨cs, e1, e2, c2, M2, e3⟩
    exact k cs H2 e1 e2 c2 M2 e3
theorem sum_ones (cs : List Nat) : (((cs.map fun c => (⟨#[c]⟩ : Str)).map (·.length)).sum + (cs.map fun c => (⟨#[c]⟩ : Str)).length * ("" : Str).length) = cs.length := by
  have : ∀ cs : List Nat, ((cs.map fun c => (⟨#[c]⟩ : Str)).map (·.length)).sum = cs.length := by
    intro cs
    induction cs with
    | nil => rfl
    | cons c cs ih =>
      show 1 + ((cs.map fun c => (⟨#[c]⟩ : Str)).map (·.length)).sum = cs.length + 1
      rw [ih]
      omega
  rw [this]
  rfl
abbrev lets : Str := "abz AZ09,.-~!\n"
theorem lets_ok : good lets = true := by decide +kernel
theorem sc_ValueM : FnScope ["_law_m", "_law_own", "_law_word", "_law_size", "_law_low", "_law_high", "_law_k"] ["_law_m", "_law_own"] (defScope sValueM) := ⟨rfl, rfl, rfl, by decide +kernel, rfl, by decide +kernel, by decide +kernel⟩
theorem ok_law_value (B : Blt mg) (F : Fd K mg "_law_value" sValueM ["_law_m", "_law_own"]) (d_law_next : Df P w K mg base CX0 1 "_law_next" ["_law_m", "_law_total"] (spNext K sc0)) (d_law_of : Df P w K mg base CX0 2 "_law_of" ["_law_m", "_law_items"] (spOf K sc0)) : Df P w K mg base CX0 3 "_law_value" ["_law_m", "_law_own"] (spValueM K sc0) := by
  refine F.ok sc_ValueM (fun vs H Q E h => ?_) (fun f cdv A outer s H vs Q E hr h => ?_)
  · obtain ⟨a, b, kd, n, rfl, _⟩ := h
    rfl
  · obtain ⟨m, a, kd, n, rfl, hk, ho, hM, hn, k⟩ := h
    have sc := sc_ValueM
    refine ⟨_, (pss_cons (ps_set (i := 2) sc.nd rfl (Or.inl rfl) (pe_ix ix_tup (pv 1) pe_int (fun _ _ => rfl)))
      (pss_cons (ps_if (pt_cmpR op_in_seq (pv 2) (pe_tup (pa_cons pe_str (pa_cons pe_str pa_nil))) (by with_unfolding_all rfl)) (pss_cons (ps_par (i := 4) (j := 5) rfl sc.nd rfl rfl (by decide) rfl rfl (pa_cons (pe_ix ix_tup (pv 1) pe_int (fun _ _ => rfl)) (pa_cons (pe_ix ix_tup (pv 1) pe_int (fun _ _ => rfl)) pa_nil)) rfl)
      (pss_one (ps_ret (pe_d0 d_law_of hr rfl (by decide) (pa_cons (pv 0) (pa_cons (pe_lst (pa_cons (pv 4) (pa_cons (pv 5) (pa_cons (pe_op op_add (pv 4) (pe_d0 d_law_next hr rfl (by decide) (pa_cons (pv 0) (pa_cons (pe_op op_add (pe_op op_sub (pv 5) (pv 4)) pe_int) pa_nil)))) (pa_cons (pe_callB (call_max2 rfl) rfl B.max_ bo_max (pa_cons (pv 4) (pa_cons (pe_callB (call_min2 rfl) rfl B.min_ bo_min (pa_cons (pv 5) (pa_cons (pe_op op_sub (pe_d0 d_law_next hr rfl (by decide) (pa_cons (pv 0) (pa_cons pe_int pa_nil))) pe_int) pa_nil))) pa_nil))) pa_nil))))) pa_nil)))))) pss_nil)
      (pss_cons (ps_if (pt_cmpR op_eq (pv 2) pe_str (nomark _)) (pss_cons (ps_set (i := 3) sc.nd rfl (Or.inl rfl) (pe_d0 d_law_of hr rfl (by decide) (pa_cons (pv 0) (pa_cons (pe_lst (pa_cons pe_int (pa_cons pe_int (pa_cons (pe_callB (call_min2 rfl) rfl B.min_ bo_min (pa_cons pe_int (pa_cons (pe_ix ix_tup (pv 1) pe_int (fun _ _ => rfl)) pa_nil))) (pa_cons (pe_ix ix_tup (pv 1) pe_int (fun _ _ => rfl)) pa_nil))))) pa_nil))))
      (pss_one (ps_ret (pe_op op_add_str (pe_join pe_str (pe_lc (own := [("_law_k", 6)]) (tt := tYes) rfl sc.nd (pi_range1 rfl B.range_ (pa_cons (pe_callB (call_min2 rfl) rfl B.min_ bo_min (pa_cons (pv 3) (pa_cons pe_int pa_nil))) pa_nil)) (blkOk_by (N := ["_law_m", "_law_own", "_law_word", "_law_size", "_law_low", "_law_high", "_law_k"]) (sc := defScope sValueM) (by decide +kernel)) (fun _ _ _ _ _ => (pg_name (i := 6) sc.nd rfl (Or.inl rfl))) (fun _ _ _ _ _ => pts_nil) (fun _ _ _ _ _ => (pe_d0 d_law_of hr rfl (by decide) (pa_cons (pv 0) (pa_cons pe_str pa_nil)))))) (pe_op op_mul_sign pe_str (pe_callB (call_max2 rfl) rfl B.max_ bo_max (pa_cons pe_int (pa_cons (pe_op op_sub (pv 3) pe_int) pa_nil)))))))) pss_nil)
      (pss_cons (ps_if (pt_cmpR op_eq (pv 2) pe_str (nomark _)) (pss_one (ps_ret (pe_d0 d_law_of hr rfl (by decide) (pa_cons (pv 0) (pa_cons (pe_ix ix_tup (pv 1) pe_int (fun _ _ => rfl)) pa_nil))))) pss_nil)
      (pss_one (ps_ret (pe_ifExp (pt_cmpR op_eq (pv 2) pe_str (nomark _)) (pe_cmpR op_eq (pe_d0 d_law_next hr rfl (by decide) (pa_cons (pv 0) (pa_cons pe_int pa_nil))) pe_int (nomark _)) (pe_d0 d_law_of hr rfl (by decide) (pa_cons (pv 0) (pa_cons (pe_lst (pa_cons pe_int (pa_cons pe_int (pa_cons (pe_op op_add pe_int (pe_d0 d_law_next hr rfl (by decide) (pa_cons (pv 0) (pa_cons pe_int pa_nil)))) pa_nil)))) pa_nil)))))))))), ?_⟩
    obtain ⟨nm, rest, d, ds, ha, _, _⟩ := kd_sq (K := K) hk ho
    have hnum : inV (.str nm) [.str "int", .str "decimal"] = kd.num := by
      cases kd with
      | int lo hi => rw [show H a = _ from hk] at ha; cases ha; exact (by decide +kernel : inV (.str "int") [.str "int", .str "decimal"] = true)
      | dec lo hi p => rw [show H a = _ from hk] at ha; cases ha; exact (by decide +kernel : inV (.str "decimal") [.str "int", .str "decimal"] = true)
      | text t => rw [show H a = _ from hk] at ha; cases ha; exact (by decide +kernel : inV (.str "text") [.str "int", .str "decimal"] = false)
      | choice ws => obtain ⟨b, z, _⟩ := hk; rw [show H a = _ from z] at ha; cases ha; exact (by decide +kernel : inV (.str "choice") [.str "int", .str "decimal"] = false)
      | truth => rw [show H a = _ from hk] at ha; cases ha; exact (by decide +kernel : inV (.str "truth") [.str "int", .str "decimal"] = false)
      | date => rw [show H a = _ from hk] at ha; cases ha; exact (by decide +kernel : inV (.str "date") [.str "int", .str "decimal"] = false)
    dsimp only [tSeq, tNext, tAsg, gName, tCallS, tCons, tNil]
    refine w_e (.str nm) (fun Q' qq => ?_) ?_
    · dsimp only [tRet, tAndV, tOrV, tNotV, tNot, tAnd, tOr, tCB, tCons, tNil, tC, tVar, tOp, tUn, tTest, tB, tIfS, tSeq, tNext, tDrop, tAsg, gName, tIf, tChain, tCallS, tTup, tLst, rI0, rI, rU, rEq, rNe, tSl, tPart, tNoPart, rIxT, rIxS, rSlS, rIn, tIf, tPar, tM1, tMkSup, tDGet, sDPut, rIxL, tDisp, tPairs, rIx]
      exact ⟨_, rfl, _, _, _, _, rfl, rfl, SqT.of ha, atI_nat (j := 0) rfl, qq⟩
    refine w_ifS kd.num (fun Q' qq => ?_) fun H1 s1 => ?_
    · dsimp only [tRet, tAndV, tOrV, tNotV, tNot, tAnd, tOr, tCB, tCons, tNil, tC, tVar, tOp, tUn, tTest, tB, tIfS, tSeq, tNext, tDrop, tAsg, gName, tIf, tChain, tCallS, tTup, tLst, rI0, rI, rU, rEq, rNe, tSl, tPart, tNoPart, rIxT, rIxS, rSlS, rIn, tIf, tPar, tM1, tMkSup, tDGet, sDPut, rIxL, tDisp, tPairs, rIx]
      refine ⟨_, rfl, by show 2 ≤ sizeLine; decide, fun u hu => ⟨u, _, rfl, .inr (SqT.of upd_same), rfl, rfl, _, rfl, ?_⟩⟩
      show Q' (inV (.str nm) [.str "int", .str "decimal"]) _
      rw [hnum]
      exact qq _ (Same.put hu)
    have c1 := Ch.of (m := m) s1
    have M1 := hM.same s1
    have hk1 := hk.same s1
    cases hn1 : kd.num with
    | true =>
      refine iT rfl ?_
      dsimp only [tRet, tAndV, tOrV, tNotV, tNot, tAnd, tOr, tCB, tCons, tNil, tC, tVar, tOp, tUn, tTest, tB, tIfS, tSeq, tNext, tDrop, tAsg, gName, tIf, tChain, tCallS, tTup, tLst, rI0, rI, rU, rEq, rNe, tSl, tPart, tNoPart, rIxT, rIxS, rSlS, rIn, tIf, tPar, tM1, tMkSup, tDGet, sDPut, rIxL, tDisp, tPairs, rIx]
      have hb : -999999999999999999 ≤ kd.lo ∧ kd.lo ≤ kd.hi ∧ kd.hi ≤ 999999999999999999 := by
        cases kd with
        | int lo hi => exact ho
        | dec lo hi p => exact ho.1
        | _ => cases hn1
      have hv : ∀ x : Int, kd.lo ≤ x → x ≤ kd.hi → isVal kd (.int x) = true := by
        intro x h1 h2
        cases kd with
        | int lo hi => show (decide (lo ≤ x) && decide (x ≤ hi)) = true; rw [decide_eq_true (show lo ≤ x from h1), decide_eq_true (show x ≤ hi from h2)]; rfl
        | dec lo hi p => show (decide (lo ≤ x) && decide (x ≤ hi)) = true; rw [decide_eq_true (show lo ≤ x from h1), decide_eq_true (show x ≤ hi from h2)]; rfl
        | _ => cases hn1
      obtain ⟨nm', r', ha'⟩ := num_at hn1 hk1
      refine ⟨_, rfl, _, _, _, _, rfl, rfl, SqT.of ha', atI_nat (j := 1) rfl, _, rfl, _, _, _, _, rfl, rfl, SqT.of ha', atI_nat (j := 2) rfl, _, _, rfl, ?_⟩
      refine ⟨_, rfl, _, rfl, _, rfl, _, rfl, _, rfl, _, rfl, _, rfl, _, _, rfl, rfl, _, _, rfl, rfl, m, _, _, rfl, by omega, by omega, M1, by omega, fun r H2 r0 r1 c2 M2 => ?_⟩
      refine ⟨_, _, rfl, rfl, _, rfl, _, rfl, _, rfl, m, 100, _, rfl, by omega, by omega, M2, by omega, fun q H3 q0 q1 c3 M3 => ?_⟩
      refine ⟨_, _, rfl, rfl, _, _, rfl, _, _, rfl, by show 4 ≤ sizeLine; decide, fun L hL => ?_⟩
      refine ⟨m, _, _, _, rfl, .inl ⟨L, rfl, .inl upd_same⟩, by show 1 ≤ 4; omega, by show 4 ≤ 1000; omega, M3.same (Same.put hL), by omega, fun x H4 hx c4 M4 => ?_⟩
      have c5 : Ch m H H4 := c1.trans (c2.trans (c3.trans ((Ch.of (Same.put hL)).trans c4)))
      rcases List.mem_cons.mp hx with rfl | hx
      · exact k _ _ (hv _ (by omega) (by omega)) c5 (M4.up (by omega))
      rcases List.mem_cons.mp hx with rfl | hx
      · exact k _ _ (hv _ (by omega) (by omega)) c5 (M4.up (by omega))
      rcases List.mem_cons.mp hx with rfl | hx
      · exact k _ _ (hv _ (by omega) (by omega)) c5 (M4.up (by omega))
      rcases List.mem_cons.mp hx with rfl | hx
      · exact k _ _ (hv _ (by split <;> (try split) <;> omega) (by split <;> (try split) <;> omega)) c5 (M4.up (by omega))
      · cases hx
    | false =>
      refine iF rfl ?_
      cases kd with
      | int lo hi => cases hn1
      | dec lo hi p => cases hn1
      | text t =>
        have hk : H1 a = some (.tup [.str "text", .int t]) := hk1
        have e0 : nm = "text" := by rw [s1 _ _ ha] at hk; cases hk; rfl
        subst e0
        obtain ⟨t1, t2⟩ := (show 1 ≤ t ∧ t ≤ 1000 from ho)
        dsimp only [tRet, tAndV, tOrV, tNotV, tNot, tAnd, tOr, tCB, tCons, tNil, tC, tVar, tOp, tUn, tTest, tB, tIfS, tSeq, tNext, tDrop, tAsg, gName, tIf, tChain, tCallS, tTup, tLst, rI0, rI, rU, rEq, rNe, tSl, tPart, tNoPart, rIxT, rIxS, rSlS, rIn, tIf, tPar, tM1, tMkSup, tDGet, sDPut, rIxL, tDisp, tPairs, rIx]
        refine ⟨_, rfl, rfl, _, rfl, iT (by decide +kernel) ?_⟩
        refine ⟨_, rfl, _, rfl, _, _, _, _, rfl, rfl, SqT.of hk, rfl, _, _, rfl, _, rfl, _, _, _, _, rfl, rfl, SqT.of hk, rfl, by show 4 ≤ sizeLine; decide, fun L hL => ?_⟩
        refine ⟨m, _, _, _, rfl, .inl ⟨L, rfl, .inl upd_same⟩, by show 1 ≤ 4; omega, by show 4 ≤ 1000; omega, M1.same (Same.put hL), by omega, fun x H2 hx c2 M2 => ?_⟩
        have c3 : Ch m H H2 := c1.trans ((Ch.of (Same.put hL)).trans c2)
        obtain ⟨sz, rfl, sz0, sz1⟩ : ∃ sz : Int, x = .int sz ∧ 0 ≤ sz ∧ sz ≤ t := by
          rcases List.mem_cons.mp hx with rfl | hx
          · exact ⟨_, rfl, by omega, by omega⟩
          rcases List.mem_cons.mp hx with rfl | hx
          · exact ⟨_, rfl, by omega, by omega⟩
          rcases List.mem_cons.mp hx with rfl | hx
          · exact ⟨_, rfl, by split <;> omega, by split <;> omega⟩
          rcases List.mem_cons.mp hx with rfl | hx
          · exact ⟨_, rfl, by omega, by omega⟩
          · cases hx
        refine ⟨⟨_, rfl⟩, _, rfl, _, _, rfl, _, rfl, by split <;> omega, by split <;> omega, fun D hD => ?_⟩
        refine pick_lc (z := lets) (j := 6) hM c3 M2 hD (by split <;> omega) (by split <;> omega) (fun x H' Q' n' M' hn' q => ⟨_, rfl, m, _, _, n', rfl, .inr ⟨lets, rfl, rfl⟩, by decide +kernel, by decide +kernel, M', hn', fun y H'' hy cc MM => ?_⟩) fun cs H3 l3 g3 c4 M3 e3 => ?_
        · obtain ⟨c, hc, rfl⟩ := List.mem_map.mp hy
          exact q c H'' hc cc MM
        · have lcs : (cs.length : Int) = (if 30 < sz then 30 else sz) := by
            rw [l3]
            split <;> omega
          refine ⟨_, D, cs.map fun c => (⟨#[c]⟩ : Str), rfl, rfl, .inl (SqL.of e3), ?_, ?_⟩
          · rw [sum_ones]
            split at lcs <;> omega
          rw [join_signs]
          refine ⟨_, rfl, _, _, rfl, rfl, _, _, rfl, 120, _, rfl, rfl, ⟨by split <;> omega, by split <;> omega⟩, _, _, rfl, rfl, ?_, ?_⟩
          · rw [len_ofL]
            show cs.length + (List.toArray _).size ≤ _
            rw [List.size_toArray, List.length_replicate, sizeLine_eq]
            split at lcs <;> split <;> omega
          · have e9 : ofL cs ++ (⟨(List.replicate (if sz - 30 > 0 then sz - 30 else 0).toNat 120).toArray⟩ : Str) = ofL (cs ++ List.replicate (if sz - 30 > 0 then sz - 30 else 0).toNat 120) := app_ofL _ _
            have kk := k (.str (ofL (cs ++ List.replicate (if sz - 30 > 0 then sz - 30 else 0).toNat 120))) H3 ?_ c4 (M3.up ?_)
            · rw [← e9] at kk
              exact kk
            · show (decide ((0 : Int) ≤ (_ : Int)) && decide (_ ≤ t) && good _) = true
              rw [len_ofL, List.length_append, List.length_replicate, Bool.and_eq_true, Bool.and_eq_true]
              refine ⟨⟨decide_eq_true (by omega), decide_eq_true ?_⟩, ?_⟩
              · split at lcs <;> split <;> omega
              · show (cs ++ List.replicate _ 120).all goodC = true
                rw [List.all_append, Bool.and_eq_true]
                constructor
                · rw [List.all_eq_true]
                  exact fun c hc => List.all_eq_true.mp lets_ok c (g3 c hc)
                · rw [List.all_eq_true]
                  intro c hc
                  rw [List.eq_of_mem_replicate hc]
                  rfl
            · rw [← l3]
              split at lcs <;> omega
      | choice ws =>
        obtain ⟨b, hk, hb⟩ := hk1
        have e0 : nm = "choice" := by rw [s1 _ _ ha] at hk; cases hk; rfl
        subst e0
        dsimp only [tRet, tAndV, tOrV, tNotV, tNot, tAnd, tOr, tCB, tCons, tNil, tC, tVar, tOp, tUn, tTest, tB, tIfS, tSeq, tNext, tDrop, tAsg, gName, tIf, tChain, tCallS, tTup, tLst, rI0, rI, rU, rEq, rNe, tSl, tPart, tNoPart, rIxT, rIxS, rSlS, rIn, tIf, tPar, tM1, tMkSup, tDGet, sDPut, rIxL, tDisp, tPairs, rIx]
        refine ⟨_, rfl, rfl, _, rfl, iF (by decide +kernel) ⟨_, rfl, rfl, _, rfl, iT (by decide +kernel) ?_⟩⟩
        refine ⟨_, rfl, _, rfl, _, _, _, _, rfl, rfl, SqT.of hk, rfl, m, _, _, n, rfl, .inl ⟨b, rfl, .inr hb⟩, by rw [List.length_map]; exact ho.1, by rw [List.length_map]; have := ho.2.1; omega, M1, by omega, fun x H2 hx c2 M2 => ?_⟩
        obtain ⟨z, rfl, hz⟩ := mem_strs hx
        exact k _ _ (decide_eq_true hz) (c1.trans c2) (M2.up (by omega))
      | truth =>
        have hk : H1 a = some (.tup [.str "truth"]) := hk1
        have e0 : nm = "truth" := by rw [s1 _ _ ha] at hk; cases hk; rfl
        subst e0
        dsimp only [tRet, tAndV, tOrV, tNotV, tNot, tAnd, tOr, tCB, tCons, tNil, tC, tVar, tOp, tUn, tTest, tB, tIfS, tSeq, tNext, tDrop, tAsg, gName, tIf, tChain, tCallS, tTup, tLst, rI0, rI, rU, rEq, rNe, tSl, tPart, tNoPart, rIxT, rIxS, rSlS, rIn, tIf, tPar, tM1, tMkSup, tDGet, sDPut, rIxL, tDisp, tPairs, rIx]
        refine ⟨_, rfl, rfl, _, rfl, iF (by decide +kernel) ⟨_, rfl, rfl, _, rfl, iF (by decide +kernel) ⟨_, rfl, rfl, _, rfl, iT (by decide +kernel) ?_⟩⟩⟩
        exact ⟨_, rfl, m, 2, n, rfl, by omega, by omega, M1, by omega, fun r H2 r0 r1 c2 M2 => ⟨rfl, k _ _ rfl (c1.trans c2) (M2.up (by omega))⟩⟩
      | date =>
        have hk : H1 a = some (.tup [.str "date"]) := hk1
        have e0 : nm = "date" := by rw [s1 _ _ ha] at hk; cases hk; rfl
        subst e0
        dsimp only [tRet, tAndV, tOrV, tNotV, tNot, tAnd, tOr, tCB, tCons, tNil, tC, tVar, tOp, tUn, tTest, tB, tIfS, tSeq, tNext, tDrop, tAsg, gName, tIf, tChain, tCallS, tTup, tLst, rI0, rI, rU, rEq, rNe, tSl, tPart, tNoPart, rIxT, rIxS, rSlS, rIn, tIf, tPar, tM1, tMkSup, tDGet, sDPut, rIxL, tDisp, tPairs, rIx]
        refine ⟨_, rfl, rfl, _, rfl, iF (by decide +kernel) ⟨_, rfl, rfl, _, rfl, iF (by decide +kernel) ⟨_, rfl, rfl, _, rfl, iF (by decide +kernel) ?_⟩⟩⟩
        refine ⟨_, rfl, _, rfl, m, 3652059, n, rfl, by omega, by omega, M1, by omega, fun r H2 r0 r1 c2 M2 => ⟨_, _, rfl, rfl, by show 3 ≤ sizeLine; decide, fun L hL => ?_⟩⟩
        refine ⟨m, _, _, _, rfl, .inl ⟨L, rfl, .inl upd_same⟩, by show 1 ≤ 3; omega, by show 3 ≤ 1000; omega, M2.same (Same.put hL), by omega, fun x H3 hx c3 M3 => ?_⟩
        have c5 : Ch m H H3 := c1.trans (c2.trans ((Ch.of (Same.put hL)).trans c3))
        have hv : ∀ x : Int, 1 ≤ x → x ≤ 3652059 → isVal .date (.int x) = true := fun x h1 h2 => by
          show (decide (1 ≤ x) && decide (x ≤ 3652059)) = true
          rw [decide_eq_true h1, decide_eq_true h2]
          rfl
        rcases List.mem_cons.mp hx with rfl | hx
        · exact k _ _ (hv _ (by omega) (by omega)) c5 (M3.up (by omega))
        rcases List.mem_cons.mp hx with rfl | hx
        · exact k _ _ (hv _ (by omega) (by omega)) c5 (M3.up (by omega))
        rcases List.mem_cons.mp hx with rfl | hx
        · exact k _ _ (hv _ (by omega) (by omega)) c5 (M3.up (by omega))
        · cases hx
end
end K5
set_option Elab.async false
set_option maxRecDepth 100000
set_option maxHeartbeats 4000000
/-! _law_number_text -/
namespace K5
open PySem PySem.Spec PyProof.Rows L2 TL NumText
/-- a text of good signs, not longer than N -/
structure Gd (z : Str) (N : Nat) : Prop where
  len : z.length ≤ N
  ok : good z = true
theorem Gd.app {a b : Str} {N M : Nat} (h1 : Gd a N) (h2 : Gd b M) : Gd (a ++ b) (N + M) := by
  refine ⟨?_, ?_⟩
  · rw [len_tl, tl_append, List.length_append, ← len_tl, ← len_tl]
    have := h1.len
    have := h2.len
    omega
  · show (tl (a ++ b)).all goodC = true
    rw [tl_append, List.all_append, Bool.and_eq_true]
    exact ⟨h1.ok, h2.ok⟩
theorem Gd.cut {a : Str} {N : Nat} {lo hi : Option Int} (h : Gd a N) : Gd (cutS a lo hi) N := by
  refine ⟨Nat.le_trans (cutS_length a lo hi) h.len, ?_⟩
  show (tl (cutS a lo hi)).all goodC = true
  rw [List.all_eq_true]
  intro c hc
  exact List.all_eq_true.mp h.ok c (List.mem_of_mem_drop (List.mem_of_mem_take hc))
theorem Gd.ofL {l : List Nat} {N : Nat} (h1 : l.length ≤ N) (h2 : ∀ c ∈ l, goodC c = true) : Gd (ofL l) N := ⟨by rw [len_ofL]; exact h1, List.all_eq_true.mpr h2⟩
theorem Gd.up {a : Str} {N M : Nat} (h : Gd a N) (u : N ≤ M) : Gd a M := ⟨Nat.le_trans h.len u, h.ok⟩
theorem Gd.size {a b : Str} {N M : Nat} (h1 : Gd a N) (h2 : Gd b M) (u : N + M ≤ 1000000) : a.length + b.length ≤ sizeLine := by
  have := h1.len
  have := h2.len
  rw [sizeLine_eq]
  omega
theorem Gd.line {a : Str} {N : Nat} (h1 : Gd a N) (u : N ≤ 1000000) : a.length ≤ sizeLine := by
  have := h1.len
  rw [sizeLine_eq]
  omega
section
variable {P : Program} {w : World} {K : PySem.W.Frag} {mg : Str → Option Value} {base : Heap} {sc0 : Addr}
abbrev nA : List Str := ["", "", "", "-", "-", "-", "+", "--"]
abbrev nB : List Int := [0, 0, 0, 1, 3, 17]
abbrev nC : List Int := [0, 1, 1, 2, 3, 9, 17, 18, 19]
abbrev nD : List Int := [0, 1, 2, 2, 3, 9, 10]
abbrev nE : List Str := [" ", "a", "_", ".", "-", "e", "\n", "/", ",", "", "0"]
theorem nA_ok : ∀ x ∈ nA, x.length ≤ 2 ∧ good x = true := by decide +kernel
theorem nB_ok : ∀ x ∈ nB, 0 ≤ x ∧ x ≤ 17 := by decide +kernel
theorem nC_ok : ∀ x ∈ nC, 0 ≤ x ∧ x ≤ 19 := by decide +kernel
theorem nD_ok : ∀ x ∈ nD, 0 ≤ x ∧ x ≤ 10 := by decide +kernel
theorem nE_ok : ∀ x ∈ nE, x.length ≤ 1 ∧ good x = true := by decide +kernel
abbrev dig10 : Str := "0123456789"
abbrev dig4 : Str := "0019"
theorem dig10_ok : good dig10 = true := by decide +kernel
theorem dig4_ok : good dig4 = true := by decide +kernel
theorem gd_pt : Gd ("." : Str) 1 := ⟨by decide +kernel, by decide +kernel⟩
theorem gd_no : Gd ("" : Str) 0 := ⟨by decide +kernel, by decide +kernel⟩
theorem sc_NumText : FnScope ["_law_m", "_law_sign", "_law_whole", "_law_rest", "_law_found", "_law_at", "_law_k"] ["_law_m"] (defScope sNumText) := ⟨rfl, rfl, rfl, by decide +kernel, rfl, by decide +kernel, by decide +kernel⟩
theorem ok_law_number_text (B : Blt mg) (F : Fd K mg "_law_number_text" sNumText ["_law_m"]) (d_law_next : Df P w K mg base CX0 1 "_law_next" ["_law_m", "_law_total"] (spNext K sc0)) (d_law_of : Df P w K mg base CX0 2 "_law_of" ["_law_m", "_law_items"] (spOf K sc0)) : Df P w K mg base CX0 3 "_law_number_text" ["_law_m"] (spNumText K sc0) := by
  refine F.ok sc_NumText (fun vs H Q E h => ?_) (fun f cdv A outer s H vs Q E hr h => ?_)
  · obtain ⟨a, kd, rfl, _⟩ := h
    rfl
  · obtain ⟨m, n, rfl, hM, hn, k⟩ := h
    have sc := sc_NumText
    refine ⟨_, (pss_cons (ps_set (i := 1) sc.nd rfl (Or.inl rfl) (pe_d0 d_law_of hr rfl (by decide) (pa_cons (pv 0) (pa_cons (pe_lst (pa_cons pe_str (pa_cons pe_str (pa_cons pe_str (pa_cons pe_str (pa_cons pe_str (pa_cons pe_str (pa_cons pe_str (pa_cons pe_str pa_nil))))))))) pa_nil))))
      (pss_cons (ps_set (i := 2) sc.nd rfl (Or.inl rfl) (pe_op op_mul_sign pe_str (pe_d0 d_law_of hr rfl (by decide) (pa_cons (pv 0) (pa_cons (pe_lst (pa_cons pe_int (pa_cons pe_int (pa_cons pe_int (pa_cons pe_int (pa_cons pe_int (pa_cons pe_int pa_nil))))))) pa_nil)))))
      (pss_cons (ps_set (i := 2) sc.nd rfl (Or.inl rfl) (pe_op op_add_str (pv 2) (pe_join pe_str (pe_lc (own := [("_law_k", 6)]) (tt := tYes) rfl sc.nd (pi_range1 rfl B.range_ (pa_cons (pe_d0 d_law_of hr rfl (by decide) (pa_cons (pv 0) (pa_cons (pe_lst (pa_cons pe_int (pa_cons pe_int (pa_cons pe_int (pa_cons pe_int (pa_cons pe_int (pa_cons pe_int (pa_cons pe_int (pa_cons pe_int (pa_cons pe_int pa_nil)))))))))) pa_nil))) pa_nil)) (blkOk_by (N := ["_law_m", "_law_sign", "_law_whole", "_law_rest", "_law_found", "_law_at", "_law_k"]) (sc := defScope sNumText) (by decide +kernel)) (fun _ _ _ _ _ => (pg_name (i := 6) sc.nd rfl (Or.inl rfl))) (fun _ _ _ _ _ => pts_nil) (fun _ _ _ _ _ => (pe_d0 d_law_of hr rfl (by decide) (pa_cons (pv 0) (pa_cons pe_str pa_nil))))))))
      (pss_cons (ps_set (i := 3) sc.nd rfl (Or.inl rfl) (pe_join pe_str (pe_lc (own := [("_law_k", 6)]) (tt := tYes) rfl sc.nd (pi_range1 rfl B.range_ (pa_cons (pe_d0 d_law_of hr rfl (by decide) (pa_cons (pv 0) (pa_cons (pe_lst (pa_cons pe_int (pa_cons pe_int (pa_cons pe_int (pa_cons pe_int (pa_cons pe_int (pa_cons pe_int (pa_cons pe_int pa_nil)))))))) pa_nil))) pa_nil)) (blkOk_by (N := ["_law_m", "_law_sign", "_law_whole", "_law_rest", "_law_found", "_law_at", "_law_k"]) (sc := defScope sNumText) (by decide +kernel)) (fun _ _ _ _ _ => (pg_name (i := 6) sc.nd rfl (Or.inl rfl))) (fun _ _ _ _ _ => pts_nil) (fun _ _ _ _ _ => (pe_d0 d_law_of hr rfl (by decide) (pa_cons (pv 0) (pa_cons pe_str pa_nil)))))))
      (pss_cons (ps_set (i := 4) sc.nd rfl (Or.inl rfl) (pe_op op_add_str (pe_op op_add_str (pv 1) (pv 2)) (pe_d0 d_law_of hr rfl (by decide) (pa_cons (pv 0) (pa_cons (pe_lst (pa_cons pe_str (pa_cons pe_str (pa_cons pe_str (pa_cons (pe_op op_add_str pe_str (pv 3)) (pa_cons (pe_op op_add_str pe_str (pv 3)) pa_nil)))))) pa_nil)))))
      (pss_cons (ps_if (pt_cmpR op_eq (pe_d0 d_law_next hr rfl (by decide) (pa_cons (pv 0) (pa_cons pe_int pa_nil))) pe_int (nomark _)) (pss_cons (ps_par (i := 5) (j := 1) rfl sc.nd rfl rfl (by decide) rfl rfl (pa_cons (pe_d0 d_law_next hr rfl (by decide) (pa_cons (pv 0) (pa_cons (pe_op op_add (pe_callB call_len rfl B.len_ bo_len (pa_cons (pv 4) pa_nil)) pe_int) pa_nil))) (pa_cons (pe_d0 d_law_of hr rfl (by decide) (pa_cons (pv 0) (pa_cons (pe_lst (pa_cons pe_str (pa_cons pe_str (pa_cons pe_str (pa_cons pe_str (pa_cons pe_str (pa_cons pe_str (pa_cons pe_str (pa_cons pe_str (pa_cons pe_str (pa_cons pe_str (pa_cons pe_str pa_nil)))))))))))) pa_nil))) pa_nil)) rfl)
      (pss_one (ps_set (i := 4) sc.nd rfl (Or.inl rfl) (pe_op op_add_str (pe_op op_add_str (pe_slice sl_str (pv 4) po_none (po_some (pv 5))) (pv 1)) (pe_slice sl_str (pv 4) (po_some (pe_op op_add (pv 5) (pe_d0 d_law_next hr rfl (by decide) (pa_cons (pv 0) (pa_cons pe_int pa_nil))))) po_none))))) pss_nil)
      (pss_one (ps_ret (pv 4))))))))), ?_⟩
    dsimp only [tSeq, tNext, tAsg, gName]
    -- the sign
    refine w_eh (fun v H' => ∃ t, v = .str t ∧ Gd t 2 ∧ Ch m H H' ∧ MAt K sc0 H' m (n + 1)) (fun Q' qq => ?_) ?_
    · dsimp only [tRet, tAndV, tOrV, tNotV, tNot, tAnd, tOr, tCB, tCons, tNil, tC, tVar, tOp, tUn, tTest, tB, tIfS, tSeq, tNext, tDrop, tAsg, gName, tIf, tChain, tCallS, tTup, tLst, rI0, rI, rU, rEq, rNe, tSl, tPart, tNoPart, rIxT, rIxS, rSlS, rIn, tIf, tPar, tM1, tMkSup, tDGet, sDPut, rIxL, tDisp, tPairs, rIx]
      refine ⟨_, rfl, by show 8 ≤ sizeLine; decide, fun L hL => ?_⟩
      refine ⟨m, _, nA.map V.str, n, rfl, .inl ⟨L, rfl, .inl upd_same⟩, by decide, by decide, hM.same (Same.put hL), by omega, fun x H1 hx c1 M1 => ?_⟩
      obtain ⟨t, rfl, ht⟩ := mem_strs hx
      exact qq _ _ ⟨t, rfl, ⟨(nA_ok t ht).1, (nA_ok t ht).2⟩, (Ch.of (Same.put hL)).trans c1, M1⟩
    rintro v H1 ⟨t1, rfl, g1, c1, M1⟩
    -- zeros ahead
    refine w_eh (fun v H' => ∃ t, v = .str t ∧ Gd t 17 ∧ Ch m H H' ∧ MAt K sc0 H' m (n + 2)) (fun Q' qq => ?_) ?_
    · dsimp only [tRet, tAndV, tOrV, tNotV, tNot, tAnd, tOr, tCB, tCons, tNil, tC, tVar, tOp, tUn, tTest, tB, tIfS, tSeq, tNext, tDrop, tAsg, gName, tIf, tChain, tCallS, tTup, tLst, rI0, rI, rU, rEq, rNe, tSl, tPart, tNoPart, rIxT, rIxS, rSlS, rIn, tIf, tPar, tM1, tMkSup, tDGet, sDPut, rIxL, tDisp, tPairs, rIx]
      refine ⟨_, rfl, by show 6 ≤ sizeLine; decide, fun L hL => ?_⟩
      refine ⟨m, _, nB.map V.int, _, rfl, .inl ⟨L, rfl, .inl upd_same⟩, by decide, by decide, M1.same (Same.put hL), by omega, fun x H2 hx c2 M2 => ?_⟩
      obtain ⟨i, rfl, hi⟩ := mem_ints hx
      have bi := nB_ok i hi
      refine ⟨48, _, rfl, rfl, ⟨by omega, by omega⟩, qq _ _ ⟨_, rfl, Gd.ofL (l := List.replicate i.toNat 48) (by rw [List.length_replicate]; omega) (fun c hc => by rw [List.eq_of_mem_replicate hc]; rfl), c1.trans ((Ch.of (Same.put hL)).trans c2), M2.up (by omega)⟩⟩
    rintro v H2 ⟨t2, rfl, g2, c2, M2⟩
    -- the digits
    refine w_eh (fun v H' => ∃ t, v = .str t ∧ Gd t 36 ∧ Ch m H H' ∧ MAt K sc0 H' m (n + 22)) (fun Q' qq => ?_) ?_
    · dsimp only [tRet, tAndV, tOrV, tNotV, tNot, tAnd, tOr, tCB, tCons, tNil, tC, tVar, tOp, tUn, tTest, tB, tIfS, tSeq, tNext, tDrop, tAsg, gName, tIf, tChain, tCallS, tTup, tLst, rI0, rI, rU, rEq, rNe, tSl, tPart, tNoPart, rIxT, rIxS, rSlS, rIn, tIf, tPar, tM1, tMkSup, tDGet, sDPut, rIxL, tDisp, tPairs, rIx]
      refine ⟨_, rfl, ⟨_, rfl⟩, _, rfl, by show 9 ≤ sizeLine; decide, fun L hL => ?_⟩
      refine ⟨m, _, nC.map V.int, _, rfl, .inl ⟨L, rfl, .inl upd_same⟩, by decide, by decide, M2.same (Same.put hL), by omega, fun x H3 hx c3 M3 => ?_⟩
      obtain ⟨i, rfl, hi⟩ := mem_ints hx
      have bi := nC_ok i hi
      have c3' : Ch m H H3 := c2.trans ((Ch.of (Same.put hL)).trans c3)
      refine ⟨_, rfl, by omega, by omega, fun D hD => ?_⟩
      refine pick_lc (z := dig10) (j := 6) hM c3' M3 hD (by omega) (by omega) (fun x H' Q' n' M' hn' q => ⟨_, rfl, m, _, _, n', rfl, .inr ⟨dig10, rfl, rfl⟩, by decide +kernel, by decide +kernel, M', hn', fun y H'' hy cc MM => ?_⟩) fun cs H4 l4 g4 c4 M4 e4 => ?_
      · obtain ⟨c, hc, rfl⟩ := List.mem_map.mp hy
        exact q c H'' hc cc MM
      · refine ⟨_, D, cs.map fun c => (⟨#[c]⟩ : Str), rfl, rfl, .inl (SqL.of e4), by rw [sum_ones]; omega, ?_⟩
        rw [join_signs]
        have gc : Gd (ofL cs) 19 := Gd.ofL (by omega) fun c hc => List.all_eq_true.mp dig10_ok c (g4 c hc)
        exact ⟨_, _, rfl, rfl, g2.size gc (by omega), qq _ _ ⟨_, rfl, g2.app gc, c4, M4.up (by omega)⟩⟩
    rintro v H3 ⟨t3, rfl, g3, c3, M3⟩
    -- the rest
    refine w_eh (fun v H' => ∃ t, v = .str t ∧ Gd t 10 ∧ Ch m H H' ∧ MAt K sc0 H' m (n + 33)) (fun Q' qq => ?_) ?_
    · dsimp only [tRet, tAndV, tOrV, tNotV, tNot, tAnd, tOr, tCB, tCons, tNil, tC, tVar, tOp, tUn, tTest, tB, tIfS, tSeq, tNext, tDrop, tAsg, gName, tIf, tChain, tCallS, tTup, tLst, rI0, rI, rU, rEq, rNe, tSl, tPart, tNoPart, rIxT, rIxS, rSlS, rIn, tIf, tPar, tM1, tMkSup, tDGet, sDPut, rIxL, tDisp, tPairs, rIx]
      refine ⟨⟨_, rfl⟩, _, rfl, by show 7 ≤ sizeLine; decide, fun L hL => ?_⟩
      refine ⟨m, _, nD.map V.int, _, rfl, .inl ⟨L, rfl, .inl upd_same⟩, by decide, by decide, M3.same (Same.put hL), by omega, fun x H4 hx c4 M4 => ?_⟩
      obtain ⟨i, rfl, hi⟩ := mem_ints hx
      have bi := nD_ok i hi
      have c4' : Ch m H H4 := c3.trans ((Ch.of (Same.put hL)).trans c4)
      refine ⟨_, rfl, by omega, by omega, fun D hD => ?_⟩
      refine pick_lc (z := dig4) (j := 6) hM c4' M4 hD (by omega) (by omega) (fun x H' Q' n' M' hn' q => ⟨_, rfl, m, _, _, n', rfl, .inr ⟨dig4, rfl, rfl⟩, by decide +kernel, by decide +kernel, M', hn', fun y H'' hy cc MM => ?_⟩) fun cs H5 l5 g5 c5 M5 e5 => ?_
      · obtain ⟨c, hc, rfl⟩ := List.mem_map.mp hy
        exact q c H'' hc cc MM
      · refine ⟨_, D, cs.map fun c => (⟨#[c]⟩ : Str), rfl, rfl, .inl (SqL.of e5), by rw [sum_ones]; omega, ?_⟩
        rw [join_signs]
        have gc : Gd (ofL cs) 10 := Gd.ofL (by omega) fun c hc => List.all_eq_true.mp dig4_ok c (g5 c hc)
        exact qq _ _ ⟨_, rfl, gc, c5, M5.up (by omega)⟩
    rintro v H4 ⟨t4, rfl, g4, c4, M4⟩
    -- put together
    refine w_eh (fun v H' => ∃ t, v = .str t ∧ Gd t 50 ∧ Ch m H H' ∧ MAt K sc0 H' m (n + 34)) (fun Q' qq => ?_) ?_
    · dsimp only [tRet, tAndV, tOrV, tNotV, tNot, tAnd, tOr, tCB, tCons, tNil, tC, tVar, tOp, tUn, tTest, tB, tIfS, tSeq, tNext, tDrop, tAsg, gName, tIf, tChain, tCallS, tTup, tLst, rI0, rI, rU, rEq, rNe, tSl, tPart, tNoPart, rIxT, rIxS, rSlS, rIn, tIf, tPar, tM1, tMkSup, tDGet, sDPut, rIxL, tDisp, tPairs, rIx]
      refine ⟨_, rfl, _, rfl, _, _, rfl, rfl, g1.size g3 (by omega), _, rfl, _, rfl, _, _, rfl, rfl, gd_pt.size g4 (by omega), _, rfl, _, _, rfl, rfl, gd_pt.size g4 (by omega), by show 5 ≤ sizeLine; decide, fun L hL => ?_⟩
      refine ⟨m, _, ([(""), (""), ("."), "." ++ t4, "." ++ t4] : List Str).map V.str, _, rfl, .inl ⟨L, rfl, .inl upd_same⟩, by show 1 ≤ 5; omega, by show 5 ≤ 1000; omega, M4.same (Same.put hL), by omega, fun x H5 hx c5 M5 => ?_⟩
      obtain ⟨t, rfl, ht⟩ := mem_strs hx
      have gt : Gd t 11 := by
        rcases List.mem_cons.mp ht with rfl | ht
        · exact gd_no.up (by omega)
        rcases List.mem_cons.mp ht with rfl | ht
        · exact gd_no.up (by omega)
        rcases List.mem_cons.mp ht with rfl | ht
        · exact gd_pt.up (by omega)
        rcases List.mem_cons.mp ht with rfl | ht
        · exact (gd_pt.app g4).up (by omega)
        rcases List.mem_cons.mp ht with rfl | ht
        · exact (gd_pt.app g4).up (by omega)
        · cases ht
      exact ⟨_, _, rfl, rfl, (g1.app g3).size gt (by omega), qq _ _ ⟨_, rfl, ((g1.app g3).app gt).up (by omega), c4.trans ((Ch.of (Same.put hL)).trans c5), M5.up (by omega)⟩⟩
    rintro v H5 ⟨t5, rfl, g5, c5, M5⟩
    dsimp only [tRet, tAndV, tOrV, tNotV, tNot, tAnd, tOr, tCB, tCons, tNil, tC, tVar, tOp, tUn, tTest, tB, tIfS, tSeq, tNext, tDrop, tAsg, gName, tIf, tChain, tCallS, tTup, tLst, rI0, rI, rU, rEq, rNe, tSl, tPart, tNoPart, rIxT, rIxS, rSlS, rIn, tIf, tPar, tM1, tMkSup, tDGet, sDPut, rIxL, tDisp, tPairs, rIx]
    refine ⟨_, rfl, m, 5, _, rfl, by omega, by omega, M5, by omega, fun r H6 r0 r1 c6 M6 => ⟨rfl, _, rfl, ?_⟩⟩
    rw [dec_int]
    by_cases hr0 : r = 0
    · have l5 := g5.len
      refine iT (beq_iff_eq.mpr hr0) ⟨_, rfl, _, rfl, _, _, rfl, ⟨g5.line (by omega), rfl⟩, _, _, rfl, rfl, m, _, _, rfl, by omega, by omega, M6, by omega, fun p H7 p0 p1 c7 M7 => ?_⟩
      refine ⟨_, rfl, by show 11 ≤ sizeLine; decide, fun L hL => ?_⟩
      refine ⟨m, _, nE.map V.str, _, rfl, .inl ⟨L, rfl, .inl upd_same⟩, by decide, by decide, M7.same (Same.put hL), by omega, fun x H8 hx c8 M8 => ?_⟩
      obtain ⟨t, rfl, ht⟩ := mem_strs hx
      have gt : Gd t 1 := ⟨(nE_ok t ht).1, (nE_ok t ht).2⟩
      refine ⟨_, _, rfl, _, rfl, _, rfl, _, rfl, _, rfl, g5.line (by omega), _, rfl, _, _, rfl, rfl, (g5.cut).size gt (by omega), _, rfl, _, rfl, _, rfl, m, 2, _, rfl, by omega, by omega, M8, by omega, fun q H9 q0 q1 c9 M9 => ?_⟩
      refine ⟨_, _, rfl, rfl, _, rfl, _, rfl, g5.line (by omega), _, _, rfl, rfl, (g5.cut.app gt).size g5.cut (by omega), _, rfl, ?_⟩
      have gz := (g5.cut (lo := none) (hi := some p)).app gt |>.app (g5.cut (lo := some (p + q)) (hi := none))
      exact k _ _ (Nat.le_trans gz.len (by omega)) gz.ok (c5.trans (c6.trans (c7.trans ((Ch.of (Same.put hL)).trans (c8.trans c9))))) (M9.up (by omega))
    · refine iF (beq_eq_false_iff_ne.mpr hr0) ⟨_, rfl, ?_⟩
      exact k _ _ (Nat.le_trans g5.len (by omega)) g5.ok (c5.trans c6) (M6.up (by omega))
end
end K5
set_option Elab.async false
set_option maxRecDepth 100000
set_option maxHeartbeats 4000000
/-! _law_same -/
namespace K5
open PySem PySem.Spec PyProof.Rows L2 TL NumText
/-- another text of v, made of its parts -/
structure Cand (p : Nat) (v : Int) (neg : Bool) (w : List Nat) (q : Option (List Nat)) : Prop where
  dw : AllDigits w
  w0 : w ≠ []
  dq : ∀ q', q = some q' → AllDigits q' ∧ q' ≠ []
  pz : q ≠ none → p ≠ 0
  val : (q.getD []).length ≤ p → (if neg = true then -((digitsVal (w ++ q.getD [] ++ zer (p - (q.getD []).length)) : Nat) : Int) else ((digitsVal (w ++ q.getD [] ++ zer (p - (q.getD []).length)) : Nat) : Int)) = v
  lg : (decL p v).length < (made neg w q).length
  wl : w.length ≤ 60
  ql : (q.getD []).length ≤ 60
theorem Cand.parse {p : Nat} {v : Int} {neg : Bool} {w : List Nat} {q : Option (List Nat)} (c : Cand p v neg w q) (h1 : w.length + (q.getD []).length ≤ 18) (h2 : (q.getD []).length ≤ p) : parse p (made neg w q) = some v := by
  cases q with
  | none =>
    rw [parse_made_none c.dw c.w0 (by simpa using h1)]
    have := c.val h2
    simp only [Option.getD_none, List.append_nil, List.length_nil, Nat.sub_zero] at this
    rw [this]
  | some q =>
    obtain ⟨d1, d2⟩ := c.dq q rfl
    rw [parse_made_some c.dw c.w0 d1 d2 (c.pz (by simp)) h2 h1]
    rw [← c.val h2]
    rfl
theorem made_good {neg : Bool} {w : List Nat} {q : Option (List Nat)} (dw : AllDigits w) (dq : ∀ q', q = some q' → AllDigits q' ∧ q' ≠ []) : ∀ c ∈ made neg w q, goodC c = true := by
  have gd : ∀ {l : List Nat}, AllDigits l → ∀ c ∈ l, goodC c = true := fun h c hc => by
    have := h c hc
    unfold goodC
    rw [decide_eq_true (show 32 ≤ c by omega), decide_eq_true (show c ≤ 126 by omega), decide_eq_true (show c ≠ 37 by omega)]
    simp
  intro c hc
  unfold made at hc
  rcases List.mem_append.mp hc with hc | hc
  · cases neg with
    | true =>
      rw [if_pos rfl] at hc
      rw [List.mem_singleton.mp hc]
      rfl
    | false => rw [if_neg Bool.false_ne_true] at hc; cases hc
  · rcases List.mem_append.mp hc with hc | hc
    · exact gd dw c hc
    · cases q with
      | none => cases hc
      | some q =>
        rcases List.mem_cons.mp hc with rfl | hc
        · rfl
        · exact gd (dq q rfl).1 c hc
theorem dv_zer_app (z : Nat) (a : List Nat) : digitsVal (zer z ++ a) = digitsVal a := by rw [dv_app, dv_zer]; simp
theorem zer_app (a b : Nat) : zer a ++ zer b = zer (a + b) := by unfold zer; rw [List.replicate_append_replicate]
abbrev shW (p : Nat) (v : Int) : List Nat := wholeL p v.natAbs
abbrev shQ (p : Nat) (v : Int) : Option (List Nat) := if partL p v.natAbs = [] then none else some (partL p v.natAbs)
theorem shQ_get (p : Nat) (v : Int) : (shQ p v).getD [] = partL p v.natAbs := by
  unfold shQ
  by_cases h : partL p v.natAbs = []
  · rw [if_pos h, h]
    rfl
  · rw [if_neg h]
    rfl
theorem sh_val {p : Nat} {v : Int} : (if decide (v < 0) = true then -((digitsVal (shW p v ++ partL p v.natAbs ++ zer (p - (partL p v.natAbs).length)) : Nat) : Int) else ((digitsVal (shW p v ++ partL p v.natAbs ++ zer (p - (partL p v.natAbs).length)) : Nat) : Int)) = v := by
  rw [shown_val]
  exact signed v
theorem part_pz {p : Nat} {v : Int} (h : partL p v.natAbs ≠ []) : p ≠ 0 := fun e => by
  have := part_len p v.natAbs
  rw [e] at this
  exact h (List.eq_nil_of_length_eq_zero (by rw [e]; omega))
/-- zeros ahead -/
theorem cand_front {p : Nat} {v : Int} {z : Nat} (hp : p ≤ 9) (hv : v.natAbs < 10 ^ 18) (hz : 1 ≤ z) (hz2 : z ≤ 2) : Cand p v (decide (v < 0)) (zer z ++ shW p v) (shQ p v) := by
  have l18 := shown_18 hp hv
  have eW : (shW p v).length = (wholeL p v.natAbs).length := rfl
  have eQ : ptLen (shQ p v) = ptLen (if partL p v.natAbs = [] then none else some (partL p v.natAbs)) := rfl
  refine ⟨digits_append (zer_digits _) (whole_digits _ _), fun e => whole_ne p v.natAbs (List.append_eq_nil_iff.mp e).2, fun q' e => ?_, fun e => ?_, fun _ => ?_, ?_, ?_, ?_⟩
  · unfold shQ at e
    split at e
    · cases e
    · rename_i h
      cases e
      exact ⟨part_digits _ _, h⟩
  · refine part_pz (v := v) fun h => e ?_
    unfold shQ
    rw [if_pos h]
  · rw [shQ_get, List.append_assoc, List.append_assoc, dv_zer_app, ← List.append_assoc]
    exact sh_val
  · rw [decL_made, made_len, made_len, List.length_append, zer_len]
    omega
  · rw [List.length_append, zer_len]
    omega
  · rw [shQ_get]
    omega
/-- zeros behind -/
theorem cand_back {p : Nat} {v : Int} {z : Nat} (hp0 : p ≠ 0) (hp : p ≤ 9) (hv : v.natAbs < 10 ^ 18) (hz : 1 ≤ z) (hz2 : z ≤ 2) : Cand p v (decide (v < 0)) (shW p v) (some (partL p v.natAbs ++ zer z)) := by
  have l18 := shown_18 hp hv
  have eW : (shW p v).length = (wholeL p v.natAbs).length := rfl
  have eQ : ptLen (shQ p v) = ptLen (if partL p v.natAbs = [] then none else some (partL p v.natAbs)) := rfl
  refine ⟨whole_digits _ _, whole_ne _ _, fun q' e => ?_, fun _ => hp0, fun h => ?_, ?_, ?_, ?_⟩
  · cases e
    refine ⟨digits_append (part_digits _ _) (zer_digits _), fun e => ?_⟩
    have := congrArg List.length e
    rw [List.length_append, zer_len, List.length_nil] at this
    omega
  · have h' : (partL p v.natAbs ++ zer z).length ≤ p := h
    show (if decide (v < 0) = true then -((digitsVal (shW p v ++ (partL p v.natAbs ++ zer z) ++ zer (p - (partL p v.natAbs ++ zer z).length)) : Nat) : Int) else _) = v
    have e : shW p v ++ (partL p v.natAbs ++ zer z) ++ zer (p - (partL p v.natAbs ++ zer z).length) = shW p v ++ partL p v.natAbs ++ zer (p - (partL p v.natAbs).length) := by
      rw [List.length_append, zer_len] at h' ⊢
      rw [List.append_assoc, List.append_assoc, zer_app, List.append_assoc]
      congr 3
      omega
    show (if decide (v < 0) = true then -((digitsVal (shW p v ++ (partL p v.natAbs ++ zer z) ++ zer (p - (partL p v.natAbs ++ zer z).length)) : Nat) : Int) else ((digitsVal (shW p v ++ (partL p v.natAbs ++ zer z) ++ zer (p - (partL p v.natAbs ++ zer z).length)) : Nat) : Int)) = v
    rw [e]
    exact sh_val
  · rw [decL_made, made_len, made_len]
    show _ + _ + ptLen (shQ p v) < _ + _ + ((partL p v.natAbs ++ zer z).length + 1)
    rw [List.length_append, zer_len]
    unfold shQ
    split
    · rename_i h
      show _ + _ + 0 < _
      omega
    · show _ + _ + ((partL p v.natAbs).length + 1) < _
      omega
  · omega
  · show (partL p v.natAbs ++ zer z).length ≤ 60
    rw [List.length_append, zer_len]
    omega
/-- -0 -/
theorem cand_zero {p : Nat} {v : Int} (hp : p ≤ 9) (hv : v.natAbs < 10 ^ 18) (h : decL p v = [48]) : Cand p v true [48] none := by
  have d48 : AllDigits [48] := fun c hc => by rw [List.mem_singleton.mp hc]; omega
  have v0 : v = 0 := by
    have h1 := parse_shown hp hv
    rw [h] at h1
    have h2 := parse_made_none (p := p) (neg := false) d48 (by simp) (by simp)
    rw [show made false [48] none = [48] from rfl] at h2
    rw [h2, if_neg Bool.false_ne_true, show [48] ++ zer p = zer (p + 1) by unfold zer; rfl, dv_zer] at h1
    exact (Option.some.inj h1).symm
  refine ⟨d48, by simp, fun _ e => (nomatch e), fun e => absurd rfl e, fun _ => ?_, ?_, by simp, by simp⟩
  · rw [if_pos rfl]
    show -((digitsVal ([48] ++ [] ++ zer (p - 0)) : Nat) : Int) = v
    rw [List.append_nil, Nat.sub_zero, show [48] ++ zer p = zer (p + 1) by unfold zer; rfl, dv_zer, v0]
    rfl
  · rw [h]
    decide
/-- the digits left when - and . are struck out -/
theorem strike_len {neg : Bool} {w : List Nat} {q : Option (List Nat)} (dw : AllDigits w) (dq : ∀ q', q = some q' → AllDigits q' ∧ q' ≠ []) :
    (Txt.replace (Txt.replace (ofL (made neg w q)) "-" "") "." "").length = w.length + (q.getD []).length := by
  have e1 := replace_strikes (ofL (made neg w q)) 45
  have e2 := replace_strikes (Txt.replace (ofL (made neg w q)) "-" "") 46
  have keep : ∀ {l : List Nat} {c : Nat}, c < 48 → AllDigits l → l.filter (· != c) = l := fun hc h => by
    rw [List.filter_eq_self]
    intro d hd
    have := h d hd
    simp
    omega
  have m : ((made neg w q).filter (· != 45)).filter (· != 46) = w ++ q.getD [] := by
    unfold made
    cases neg <;> cases q <;> simp [keep (c := 45) (by omega) dw, keep (c := 46) (by omega) dw]
    · rename_i q
      intro a ha
      have := (dq q rfl).1 a ha
      omega
    · rename_i q
      intro a ha
      have := (dq q rfl).1 a ha
      omega
  rw [len_tl]
  have e3 : tl (Txt.replace (Txt.replace (ofL (made neg w q)) "-" "") "." "") = w ++ q.getD [] := by
    refine Eq.trans e2 ?_
    rw [show (Txt.replace (ofL (made neg w q)) "-" "").cps.toList = (made neg w q).filter (· != 45) from e1]
    exact m
  rw [e3, List.length_append]
theorem dot_in {neg : Bool} {w : List Nat} {q : Option (List Nat)} (dw : AllDigits w) : decide (46 ∈ made neg w q) = q.isSome := by
  rw [Bool.eq_iff_iff, decide_eq_true_eq]
  unfold made
  cases q with
  | none =>
    simp only [List.append_nil, Option.isSome_none, Bool.false_eq_true, iff_false]
    intro h
    rcases List.mem_append.mp h with h | h
    · cases neg <;> simp at h
    · exact digits_nopoint dw h
  | some q => simp
theorem split_dot {neg : Bool} {w q : List Nat} (dw : AllDigits w) (dq : AllDigits q) : Txt.split (ofL (made neg w (some q))) "." = [ofL ((if neg = true then [45] else []) ++ w), ofL q] := by
  have h := split_join (y := ".") (s := 46) (S := []) rfl (by decide +kernel) (parts := [ofL ((if neg = true then [45] else []) ++ w), ofL q]) (by simp) (fun p hp => by
    rcases List.mem_cons.mp hp with rfl | hp
    · rw [tl_ofL]
      intro z
      rcases List.mem_append.mp z with z | z
      · cases neg <;> simp at z
      · exact digits_nopoint dw z
    · rw [List.mem_singleton.mp hp, tl_ofL]
      exact digits_nopoint dq)
  rw [← h]
  congr 1
  rw [join_eq]
  refine ext_tl ?_
  rw [tl_join]
  show made neg w (some q) = ((if neg = true then [45] else []) ++ w) ++ ([46] ++ q)
  unfold made
  simp
end K5
set_option Elab.async false
set_option maxRecDepth 100000
set_option maxHeartbeats 4000000
/-! _law_same, the walk -/
namespace K5
open PySem PySem.Spec PyProof.Rows L2 TL NumText
theorem w_seq {t u : TS} {D : Ends} {σ : L2.St} {H : Hp} (R : L2.St → Hp → Prop) (h : ∀ N : L2.St → Hp → Prop, (∀ σ' H', R σ' H' → N σ' H') → t { D with nx := N } σ H) (k : ∀ σ' H', R σ' H' → u D σ' H') : tSeq t u D σ H := h _ k
theorem w_nx {t : TS} {D : Ends} {σ : L2.St} {H : Hp} (R : L2.St → Hp → Prop) (h : ∀ N : L2.St → Hp → Prop, (∀ σ' H', R σ' H' → N σ' H') → t { D with nx := N } σ H) (k : ∀ σ' H', R σ' H' → D.nx σ' H') : t D σ H := h D.nx k
theorem Same.loc {H H1 : Hp} {x : Addr} {o : HO} (s : Same H H1) (hx : H x = none) : Same H (upd H1 x o) := fun b u e => (upd_ne (ne_of_none e hx)).trans (s b u e)
def CandT (p : Nat) (v : Int) (u : Str) : Prop := ∃ neg w q, u = ofL (made neg w q) ∧ Cand p v neg w q
theorem CandT.len {p : Nat} {v : Int} {u : Str} (c : CandT p v u) : u.length ≤ 122 := by
  obtain ⟨neg, w, q, rfl, c⟩ := c
  have h1 := c.wl
  have h2 := c.ql
  rw [len_ofL, made_len]
  have : sgLen neg ≤ 1 := by cases neg <;> decide
  cases q with
  | none => show _ + _ + 0 ≤ _; omega
  | some q =>
    have h2 : q.length ≤ 60 := h2
    show _ + _ + (q.length + 1) ≤ _
    omega
section
variable {P : Program} {w : World} {K : PySem.W.Frag} {mg : Str → Option Value} {base : Heap} {sc0 : Addr}
theorem lc_filter {us : List Str} {a : Addr} {tt : TT} {i j : Nat} {σ : L2.St} {H : Hp} {Q : VK} (f : Str → Bool) (hi : σ[i]? = some (some (.ref a))) (hj : j < σ.length) (ha : H a = some (.lst (us.map V.str))) (hz : us.length ≤ 1000)
    (htt : ∀ t H' Q', t ∈ us → Same H H' → (∀ H'', Same H' H'' → Q' (f t) H'') → tt (σ.set j (some (.str t))) H' Q')
    (k : ∀ H' L, Same H H' → H' L = some (.lst ((us.filter f).map V.str)) → Q (.ref L) H') : tLc (iList K (tVar i)) (gName j) tt (tVar j) [j] σ H Q := by
  refine ⟨_, hi, a, rfl, ⟨_, SqL.of ha⟩, fun D hD => ?_⟩
  refine lc_it walk_list (fun i' H' => Same H H' ∧ H' D = some (.lst (((us.take i').filter f).map V.str))) ⟨Same.put hD, upd_same⟩ (fun _ _ _ p => p.1 _ _ ha) ?_ ?_
  · rintro i' x H1 H1' hi' ⟨s1, hD1⟩ ⟨rfl, hx⟩
    obtain ⟨t, ht, rfl⟩ : ∃ t, us[i']? = some t ∧ x = .str t := by
      rw [List.getElem?_map] at hx
      cases e : us[i']? with
      | none => rw [e] at hx; cases hx
      | some u => rw [e] at hx; exact ⟨u, rfl, (Option.some.inj hx).symm⟩
    have e1 : (wipe σ [j]).set j (some (V.str t)) = σ.set j (some (.str t)) := by
      show (σ.set j none).set j (some _) = _
      rw [List.set_set]
    refine ⟨?_, ?_⟩
    · show ((wipe σ [j]).set j (some _)).set j none = σ.set j none
      rw [e1, List.set_set]
    · show tt ((wipe σ [j]).set j (some (V.str t))) H1' _
      rw [e1]
      have tk : us.take (i' + 1) = us.take i' ++ [t] := by rw [List.take_add_one, ht]; rfl
      refine htt t _ _ (List.mem_of_getElem? ht) s1 fun H2 s2 => ?_
      cases hf : f t with
      | false =>
        rw [if_neg Bool.false_ne_true]
        refine ⟨s1.trans s2, ?_⟩
        rw [s2 _ _ hD1, tk, List.filter_append]
        simp [hf]
      | true =>
        rw [if_pos rfl]
        refine ⟨.str t, by rw [List.getElem?_set_self hj], _, s2 _ _ hD1, ?_, Same.loc (s1.trans s2) hD, ?_⟩
        · rw [List.length_map, sizeLine_eq]
          have := List.length_filter_le f (us.take i')
          rw [List.length_take] at this
          omega
        · rw [upd_same, tk, List.filter_append]
          simp [hf]
  · rintro H1 ⟨s1, hD1⟩
    refine k H1 D s1 ?_
    rw [hD1, List.length_map, List.take_length]
theorem front_text {p : Nat} {v : Int} {z : Nat} : ofL (if v < 0 then [45] else []) ++ ofL (zer z) ++ ofL (bodyL p v.natAbs) = ofL (made (decide (v < 0)) (zer z ++ shW p v) (shQ p v)) := by
  rw [app_ofL, app_ofL]
  congr 1
  unfold made bodyL
  by_cases h : v < 0
  · by_cases h2 : partL p v.natAbs = [] <;> simp [h, h2, shQ]
  · by_cases h2 : partL p v.natAbs = [] <;> simp [h, h2, shQ]
theorem back_text1 {p : Nat} {v : Int} {z : Nat} (h2 : partL p v.natAbs ≠ []) : ofL (if v < 0 then [45] else []) ++ ofL (bodyL p v.natAbs) ++ ofL (zer z) = ofL (made (decide (v < 0)) (shW p v) (some (partL p v.natAbs ++ zer z))) := by
  rw [app_ofL, app_ofL]
  congr 1
  unfold made bodyL
  by_cases h : v < 0 <;> simp [h, h2]
theorem back_text2 {p : Nat} {v : Int} {z : Nat} (h2 : partL p v.natAbs = []) : ofL (if v < 0 then [45] else []) ++ ofL (bodyL p v.natAbs) ++ ("." : Str) ++ ofL (zer z) = ofL (made (decide (v < 0)) (shW p v) (some (partL p v.natAbs ++ zer z))) := by
  have e : ("." : Str) = ofL [46] := rfl
  rw [e, app_ofL, app_ofL, app_ofL]
  congr 1
  unfold made bodyL
  by_cases h : v < 0 <;> simp [h, h2]
theorem dot_body {p : Nat} {v : Int} : decide (46 ∈ (ofL (bodyL p v.natAbs)).cps.toList) = decide (partL p v.natAbs ≠ []) := by
  rw [Bool.eq_iff_iff, decide_eq_true_eq, decide_eq_true_eq]
  show 46 ∈ bodyL p v.natAbs ↔ _
  unfold bodyL
  by_cases h2 : partL p v.natAbs = []
  · rw [if_pos h2, List.append_nil]
    exact ⟨fun h => absurd h (digits_nopoint (whole_digits _ _)), fun h => absurd h2 h⟩
  · rw [if_neg h2]
    exact ⟨fun _ => h2, fun _ => by simp⟩
theorem body_eq {p : Nat} {v : Int} : cutS (ofL (decL p v)) (some (((if v < 0 then [45] else [] : List Nat).length : Nat) : Int)) none = ofL (bodyL p v.natAbs) := by
  have e : decL p v = (if v < 0 then [45] else []) ++ bodyL p v.natAbs := rfl
  rw [cut_from _ _ (by rw [e, List.length_append]; omega), e, List.drop_left]
theorem neg_dec {p : Nat} {v : Int} : isNeg (decL p v) = decide (v < 0) := by
  rw [decL_made]
  exact isNeg_made (whole_digits _ _) (whole_ne _ _)
theorem shown_zero {p : Nat} {v : Int} : decide (V.str (ofL (decL p v)) = V.str "0") = decide (decL p v = [48]) := by
  rw [dec_str, Bool.eq_iff_iff]
  simp only [beq_iff_eq, decide_eq_true_eq]
  constructor
  · intro z
    exact congrArg tl z
  · intro z
    rw [z]
    rfl
theorem sc_SameT : FnScope ["_law_own", "_law_shown", "_law_body", "_law_zeros", "_law_some", "_law_sign", "_law_found", "_law_one"] ["_law_own", "_law_shown"] (defScope sSameT) := ⟨rfl, rfl, rfl, by decide +kernel, rfl, by decide +kernel, by decide +kernel⟩
theorem ok_law_same (B : Blt mg) (F : Fd K mg "_law_same" sSameT ["_law_own", "_law_shown"])  : Df P w K mg base CX0 1 "_law_same" ["_law_own", "_law_shown"] spSame := by
  refine F.ok sc_SameT (fun vs H Q E h => ?_) (fun f cdv A outer s H vs Q E hr h => ?_)
  · obtain ⟨a, kd, v, rfl, _⟩ := h
    rfl
  · obtain ⟨a, kd, v, rfl, hn, hk, ho, hv, k⟩ := h
    have sc := sc_SameT
    refine ⟨_, (pss_cons (ps_par (i := 5) (j := 6) rfl sc.nd rfl rfl (by decide) rfl rfl (pa_cons (pe_ifExp (pt_cmpR op_eq (pe_slice sl_str (pv 1) po_none (po_some pe_int)) pe_str (nomark _)) pe_str pe_str) (pa_cons (pe_lst pa_nil) pa_nil)) rfl)
      (pss_cons (ps_set (i := 2) sc.nd rfl (Or.inl rfl) (pe_slice sl_str (pv 1) (po_some (pe_callB call_len rfl B.len_ bo_len (pa_cons (pv 5) pa_nil))) po_none))
      (pss_cons (ps_for PassesOwn.never rfl (pi_tup (pe_tup (pa_cons pe_str (pa_cons pe_str pa_nil)))) (pg_name (i := 3) sc.nd rfl (Or.inl rfl)) (pss_cons (ps_expr (pe_bm PySem.F.plainAttrs_list PySem.F.slot_list_append PySem.F.type_list_append mt_append (pv 6) (pa_cons (pe_op op_add_str (pe_op op_add_str (pv 5) (pv 3)) (pv 2)) pa_nil)))
      (pss_one (ps_if (pt_cmpR op_eq (pe_ix ix_tup (pv 0) pe_int (fun _ _ => rfl)) pe_str (nomark _)) (pss_one (ps_expr (pe_bm PySem.F.plainAttrs_list PySem.F.slot_list_append PySem.F.type_list_append mt_append (pv 6) (pa_cons (pe_ifExp (pt_cmpR op_in_sign pe_str (pv 2) (by with_unfolding_all rfl)) (pe_op op_add_str (pe_op op_add_str (pv 5) (pv 2)) (pv 3)) (pe_op op_add_str (pe_op op_add_str (pe_op op_add_str (pv 5) (pv 2)) pe_str) (pv 3))) pa_nil)))) pss_nil))))
      (pss_ifLit op_eq (pv 1) (pss_one (ps_expr (pe_bm PySem.F.plainAttrs_list PySem.F.slot_list_append PySem.F.type_list_append mt_append (pv 6) (pa_cons pe_str pa_nil))))
      (psst_cons (pst_setLcK (own := [("_law_one", 7)]) (i := 4) rfl sc.nd rfl rfl (sw_true rfl rfl rfl rfl) (pi_list (pv 6)) (blkOk_by (N := ["_law_own", "_law_shown", "_law_body", "_law_zeros", "_law_some", "_law_sign", "_law_found", "_law_one"]) (sc := defScope sSameT) (by decide +kernel)) (fun _ _ _ _ _ => (pg_name (i := 7) sc.nd rfl (Or.inl rfl))) (fun _ _ _ _ _ => ptk_cmp op_lt (pet_callB (show CallR _ (.builtin "len") (fun xs H Q => ∃ x n, xs = [x] ∧ LenV K x H n ∧ Q (.int n) H) from call_len) rfl B.len_ bo_len (CwR.pet_replT (CwR.pet_replC (pv 7)))) pe_int (nomark _)) (fun _ _ _ _ _ => (pv 7))) (PSsT.of (pss_cons (ps_if (pt_cmpR op_eq (pe_ix ix_tup (pv 0) pe_int (fun _ _ => rfl)) pe_str (nomark _)) (pss_one (ps_setLc (own := [("_law_one", 7)]) (i := 4) rfl sc.nd rfl rfl (sw_true rfl rfl rfl rfl) (pi_list (pv 4)) (blkOk_by (N := ["_law_own", "_law_shown", "_law_body", "_law_zeros", "_law_some", "_law_sign", "_law_found", "_law_one"]) (sc := defScope sSameT) (by decide +kernel)) (fun _ _ _ _ _ => (pg_name (i := 7) sc.nd rfl (Or.inl rfl))) (fun _ _ _ _ _ => pts_one (PW.pt (pw_or (pt_cmpR op_notIn_sign pe_str (pv 7) (by with_unfolding_all rfl)) (pw_or1 (pt_cmpR op_le (pe_callB (show CallR _ (.builtin "len") (fun xs H Q => ∃ x n, xs = [x] ∧ LenV K x H n ∧ Q (.int n) H) from call_len) rfl B.len_ bo_len (pa_cons (pe_ix (show IxR _ (rIxL K) from ix_list) (pe_split (pv 7) pe_str) pe_int (fun _ _ => rfl)) pa_nil)) (pe_ix (show IxR _ (rIxT K) from ix_tup) (pv 0) pe_int (fun _ _ => rfl)) (nomark _)))))) (fun _ _ _ _ _ => (pv 7)))) pss_nil)
      (pss_one (ps_ret (pv 4)))))))))), ?_⟩
    generalize hp : kd.pl = p at *
    have p9 : p ≤ 9 := by
      rw [← hp]
      cases kd with
      | dec lo hi p => exact ho.2.2
      | _ => exact Nat.zero_le _
    have hdec : ∃ nm rest, H a = some (.tup (.str nm :: rest)) ∧ decide (V.str nm = V.str "decimal") = decide (p ≠ 0) ∧ (p ≠ 0 → (V.str nm :: rest)[3]? = some (.int (p : Nat))) := by
      rw [← hp]
      cases kd with
      | int lo hi => exact ⟨_, _, hk, by show decide (V.str "int" = V.str "decimal") = decide ((0 : Nat) ≠ 0); decide +kernel, fun z => absurd rfl z⟩
      | dec lo hi q => exact ⟨_, _, hk, by have : q ≠ 0 := by have := ho.2.1; omega
                                           show _ = decide (q ≠ 0)
                                           rw [decide_eq_true this]
                                           decide +kernel, fun _ => rfl⟩
      | _ => cases hn
    obtain ⟨nm, rest, ha, hd, h3⟩ := hdec
    have lT : (ofL (decL p v)).length ≤ 200 := by
      rw [len_ofL, decL_made, made_len]
      have := shown_18 p9 hv
      have : sgLen (decide (v < 0)) ≤ 1 := by cases decide (v < 0) <;> decide
      split
      · show _ + _ + 0 ≤ _; omega
      · show _ + _ + (_ + 1) ≤ _; omega
    have lS : (ofL (decL p v)).length ≤ sizeLine := by rw [sizeLine_eq]; omega
    have lB : (ofL (bodyL p v.natAbs)).length ≤ 200 := by
      rw [len_ofL]
      have e : decL p v = (if v < 0 then [45] else []) ++ bodyL p v.natAbs := rfl
      rw [len_ofL, e, List.length_append] at lT
      omega
    dsimp only [tSeq, tNext, tAsg, gName]
    dsimp only [tPar, tCons, tNil]
    refine w_e (.str (ofL (if v < 0 then [45] else []))) (fun Q' qq => ?_) ?_
    · dsimp only [tRet, tAndV, tOrV, tNotV, tNot, tAnd, tOr, tCB, tCons, tNil, tC, tVar, tOp, tUn, tTest, tB, tIfS, tSeq, tNext, tDrop, tAsg, gName, tIf, tChain, tCallS, tTup, tLst, rI0, rI, rU, rEq, rNe, tSl, tPart, tNoPart, rIxT, rIxS, rSlS, rIn, tIf, tPar, tM1, tMkSup, tDGet, sDPut, rIxL, tDisp, tPairs, rIx, CwR.tReplC, rNewStrs]
      have e1 : cutS (ofL (decL p v)) none (some 1) = ofL ((decL p v).take 1) := cut_to _ 1
      refine ⟨_, rfl, _, rfl, _, rfl, lS, rfl, _, rfl, ?_⟩
      rw [e1, neg_eq, neg_dec]
      by_cases h : v < 0
      · rw [if_pos h] at qq
        exact iT (decide_eq_true h) qq
      · rw [if_neg h] at qq
        exact iF (decide_eq_false h) qq
    generalize hsg : (if v < 0 then [45] else [] : List Nat) = sg at *
    have lsg : sg.length ≤ 1 := by rw [← hsg]; split <;> decide
    refine ⟨Nat.zero_le _, fun Lf hLf => ⟨_, _, rfl, ?_⟩⟩
    have s1 : Same H (upd H Lf (.lst [])) := Same.put hLf
    have eL : (upd H Lf (.lst [])) Lf = some (.lst (([] : List Str).map V.str)) := upd_same
    generalize upd H Lf (.lst []) = H1 at *
    dsimp only [tSeq, tNext, tAsg, gName]
    refine w_e (.str (ofL (bodyL p v.natAbs))) (fun Q' qq => ?_) ?_
    · dsimp only [tRet, tAndV, tOrV, tNotV, tNot, tAnd, tOr, tCB, tCons, tNil, tC, tVar, tOp, tUn, tTest, tB, tIfS, tSeq, tNext, tDrop, tAsg, gName, tIf, tChain, tCallS, tTup, tLst, rI0, rI, rU, rEq, rNe, tSl, tPart, tNoPart, rIxT, rIxS, rSlS, rIn, tIf, tPar, tM1, tMkSup, tDGet, sDPut, rIxL, tDisp, tPairs, rIx, CwR.tReplC, rNewStrs]
      refine ⟨_, rfl, _, rfl, _, _, rfl, ⟨by rw [len_ofL, sizeLine_eq]; omega, rfl⟩, _, rfl, _, rfl, lS, ?_⟩
      rw [len_ofL, ← hsg, body_eq]
      exact qq
    refine w_nx (fun σ' H' => ∃ (us : List Str) (y : Option V), σ' = [some (.ref a), some (.str (ofL (decL p v))), some (.str (ofL (bodyL p v.natAbs))), y, none, some (.str (ofL sg)), some (.ref Lf), none] ∧ Same H H' ∧ H' Lf = some (.lst (us.map V.str)) ∧ us.length ≤ 4 ∧ ∀ u ∈ us, CandT p v u) (fun N hN => ?_) ?_
    · dsimp only [tRet, tAndV, tOrV, tNotV, tNot, tAnd, tOr, tCB, tCons, tNil, tC, tVar, tOp, tUn, tTest, tB, tIfS, tSeq, tNext, tDrop, tAsg, gName, tIf, tChain, tCallS, tTup, tLst, rI0, rI, rU, rEq, rNe, tSl, tPart, tNoPart, rIxT, rIxS, rSlS, rIn, tIf, tPar, tM1, tMkSup, tDGet, sDPut, rIxL, tDisp, tPairs, rIx, CwR.tReplC, rNewStrs]
      refine ⟨by show 2 ≤ sizeLine; decide, fun T hT => ⟨T, rfl, ⟨_, SqT.of upd_same⟩, ?_⟩⟩
      have nLT : Lf ≠ T := ne_of_none eL hT
      have s2 : Same H (upd H1 T (.tup [.str "0", .str "00"])) := s1.trans (Same.put hT)
      have eT : (upd H1 T (.tup [.str "0", .str "00"])) T = some (.tup [.str "0", .str "00"]) := upd_same
      have e2 := (upd_ne (o := .tup [.str "0", .str "00"]) nLT).trans eL
      generalize upd H1 T (.tup [.str "0", .str "00"]) = H2 at *
      refine for_tup (xs := [.str "0", .str "00"]) (fun i σ H' => ∃ (us : List Str) (y : Option V), σ = [some (.ref a), some (.str (ofL (decL p v))), some (.str (ofL (bodyL p v.natAbs))), y, none, some (.str (ofL sg)), some (.ref Lf), none] ∧ Same H H' ∧ H' T = some (.tup [.str "0", .str "00"]) ∧ H' Lf = some (.lst (us.map V.str)) ∧ us.length ≤ 2 * i ∧ ∀ u ∈ us, CandT p v u)
        ⟨[], none, rfl, s2, eT, e2, Nat.zero_le _, fun u hu => (nomatch hu)⟩ (fun i σ' H' _ h => by obtain ⟨_, _, _, _, h, _⟩ := h; exact SqT.of h) ?_ ?_
      · rintro i x σ' H3 hi ⟨us, y, rfl, s3, eT3, e3, l3, c3⟩
        have hi2 : i < 2 := (List.getElem?_eq_some_iff.mp hi).1
        obtain ⟨z, z1, z2, rfl⟩ : ∃ z, 1 ≤ z ∧ z ≤ 2 ∧ x = .str (ofL (zer z)) := by
          match i, hi with
          | 0, hi => exact ⟨1, by omega, by omega, (Option.some.inj hi).symm⟩
          | 1, hi => exact ⟨2, by omega, by omega, (Option.some.inj hi).symm⟩
        have lz : (ofL (zer z)).length ≤ 2 := by rw [len_ofL, zer_len]; omega
        have lg : (ofL sg).length ≤ 1 := by rw [len_ofL]; exact lsg
        dsimp only [gName]
        dsimp only [tRet, tAndV, tOrV, tNotV, tNot, tAnd, tOr, tCB, tCons, tNil, tC, tVar, tOp, tUn, tTest, tB, tIfS, tSeq, tNext, tDrop, tAsg, gName, tIf, tChain, tCallS, tTup, tLst, rI0, rI, rU, rEq, rNe, tSl, tPart, tNoPart, rIxT, rIxS, rSlS, rIn, tIf, tPar, tM1, tMkSup, tDGet, sDPut, rIxL, tDisp, tPairs, rIx, CwR.tReplC, rNewStrs]
        refine ⟨_, rfl, .inl ⟨rfl, _, SqL.of e3⟩, _, rfl, _, rfl, _, _, rfl, rfl, by rw [sizeLine_eq]; omega, _, rfl, _, _, rfl, rfl, by rw [app_ofL, len_ofL, List.length_append, ← len_ofL sg, ← len_ofL (zer z), sizeLine_eq]; omega, Lf, _, _, rfl, rfl, e3, by rw [List.length_map, sizeLine_eq]; omega, ?_⟩
        have ft : ofL sg ++ ofL (zer z) ++ ofL (bodyL p v.natAbs) = ofL (made (decide (v < 0)) (zer z ++ shW p v) (shQ p v)) := by rw [← hsg]; exact front_text
        rw [ft]
        have cf : CandT p v (ofL (made (decide (v < 0)) (zer z ++ shW p v) (shQ p v))) := ⟨_, _, _, rfl, cand_front p9 hv z1 z2⟩
        generalize ofL (made (decide (v < 0)) (zer z ++ shW p v) (shQ p v)) = u1 at *
        have s4 : Same H (upd H3 Lf (.lst (us.map V.str ++ [.str u1]))) := Same.loc s3 hLf
        have e4 : (upd H3 Lf (.lst (us.map V.str ++ [.str u1]))) Lf = some (.lst ((us ++ [u1]).map V.str)) := by rw [upd_same, List.map_append]; rfl
        have eT4 : (upd H3 Lf (.lst (us.map V.str ++ [.str u1]))) T = some (.tup [.str "0", .str "00"]) := (upd_ne nLT.symm).trans eT3
        generalize upd H3 Lf (.lst (us.map V.str ++ [.str u1])) = H4 at *
        have c4 : ∀ u ∈ us ++ [u1], CandT p v u := fun u hu => by
          rcases List.mem_append.mp hu with hu | hu
          · exact c3 u hu
          · rw [List.mem_singleton.mp hu]; exact cf
        have l4 : (us ++ [u1]).length = us.length + 1 := by rw [List.length_append]; rfl
        refine ⟨_, rfl, _, _, _, _, rfl, rfl, SqT.of (s4 _ _ ha), atI_nat (j := 0) rfl, rfl, _, rfl, ?_⟩
        rw [hd]
        by_cases hp0 : p = 0
        · refine iF (decide_eq_false (fun z => z hp0)) ⟨us ++ [u1], _, rfl, s4, eT4, e4, by omega, c4⟩
        · refine iT (decide_eq_true hp0) ⟨_, rfl, .inl ⟨rfl, _, SqL.of e4⟩, _, rfl, 46, _, rfl, rfl, _, rfl, ?_⟩
          rw [dot_body]
          have fin : ∀ u2, CandT p v u2 → Same H (upd H4 Lf (.lst ((us ++ [u1]).map V.str ++ [.str u2]))) ∧ (upd H4 Lf (.lst ((us ++ [u1]).map V.str ++ [.str u2]))) T = some (.tup [.str "0", .str "00"]) ∧ (upd H4 Lf (.lst ((us ++ [u1]).map V.str ++ [.str u2]))) Lf = some (.lst ((us ++ [u1] ++ [u2]).map V.str)) ∧ (us ++ [u1] ++ [u2]).length ≤ 2 * (i + 1) ∧ ∀ u ∈ us ++ [u1] ++ [u2], CandT p v u := fun u2 c2 => by
            refine ⟨Same.loc s4 hLf, (upd_ne nLT.symm).trans eT4, by rw [upd_same, List.map_append (l₁ := us ++ [u1])]; rfl, by rw [List.length_append, l4]; show us.length + 1 + 1 ≤ _; omega, fun u hu => ?_⟩
            rcases List.mem_append.mp hu with hu | hu
            · exact c4 u hu
            · rw [List.mem_singleton.mp hu]; exact c2
          have cb : CandT p v (ofL (made (decide (v < 0)) (shW p v) (some (partL p v.natAbs ++ zer z)))) := ⟨_, _, _, rfl, cand_back hp0 p9 hv z1 z2⟩
          by_cases hq : partL p v.natAbs = []
          · have bt : ofL sg ++ ofL (bodyL p v.natAbs) ++ ("." : Str) ++ ofL (zer z) = ofL (made (decide (v < 0)) (shW p v) (some (partL p v.natAbs ++ zer z))) := by rw [← hsg]; exact back_text2 hq
            have lp : ("." : Str).length = 1 := rfl
            refine iF (decide_eq_false (fun z => z hq)) ⟨_, rfl, _, rfl, _, _, rfl, rfl, by rw [sizeLine_eq]; omega, _, _, rfl, rfl, by rw [app_ofL, len_ofL, List.length_append, ← len_ofL sg, ← len_ofL (bodyL p v.natAbs), sizeLine_eq]; omega, _, rfl, _, _, rfl, rfl, ?_, Lf, _, _, rfl, rfl, e4, by rw [List.length_map, l4, sizeLine_eq]; omega, ?_⟩
            · rw [app_ofL, len_tl, tl_append, List.length_append, tl_ofL, List.length_append, ← len_ofL sg, ← len_ofL (bodyL p v.natAbs), sizeLine_eq]
              show _ + 1 + _ ≤ _
              omega
            · rw [bt]
              obtain ⟨f1, f2, f3, f4, f5⟩ := fin _ cb
              exact ⟨us ++ [u1] ++ [_], _, rfl, f1, f2, f3, f4, f5⟩
          · have bt : ofL sg ++ ofL (bodyL p v.natAbs) ++ ofL (zer z) = ofL (made (decide (v < 0)) (shW p v) (some (partL p v.natAbs ++ zer z))) := by rw [← hsg]; exact back_text1 hq
            refine iT (decide_eq_true hq) ⟨_, rfl, _, rfl, _, _, rfl, rfl, by rw [sizeLine_eq]; omega, _, rfl, _, _, rfl, rfl, by rw [app_ofL, len_ofL, List.length_append, ← len_ofL sg, ← len_ofL (bodyL p v.natAbs), sizeLine_eq]; omega, Lf, _, _, rfl, rfl, e4, by rw [List.length_map, l4, sizeLine_eq]; omega, ?_⟩
            rw [bt]
            obtain ⟨f1, f2, f3, f4, f5⟩ := fin _ cb
            exact ⟨us ++ [u1] ++ [_], _, rfl, f1, f2, f3, f4, f5⟩
      · rintro σ' H3 ⟨us, y, rfl, s3, eT3, e3, l3, c3⟩
        exact hN _ _ ⟨us, y, rfl, s3, e3, l3, c3⟩
    rintro σ' H2 ⟨us, y, rfl, s2, e2, l2, c2⟩
    dsimp only [tSeq, tNext, tAsg, gName]
    refine w_nx (fun σ' H' => ∃ (us : List Str), σ' = [some (.ref a), some (.str (ofL (decL p v))), some (.str (ofL (bodyL p v.natAbs))), y, none, some (.str (ofL sg)), some (.ref Lf), none] ∧ Same H H' ∧ H' Lf = some (.lst (us.map V.str)) ∧ us.length ≤ 5 ∧ ∀ u ∈ us, CandT p v u) (fun N hN => ?_) ?_
    · dsimp only [tRet, tAndV, tOrV, tNotV, tNot, tAnd, tOr, tCB, tCons, tNil, tC, tVar, tOp, tUn, tTest, tB, tIfS, tSeq, tNext, tDrop, tAsg, gName, tIf, tChain, tCallS, tTup, tLst, rI0, rI, rU, rEq, rNe, tSl, tPart, tNoPart, rIxT, rIxS, rSlS, rIn, tIf, tPar, tM1, tMkSup, tDGet, sDPut, rIxL, tDisp, tPairs, rIx, CwR.tReplC, rNewStrs]
      refine ⟨_, rfl, rfl, _, rfl, ?_⟩
      rw [shown_zero]
      by_cases h48 : decL p v = [48]
      · refine iT (decide_eq_true h48) ⟨_, rfl, .inl ⟨rfl, _, SqL.of e2⟩, Lf, _, _, rfl, rfl, e2, by rw [List.length_map, sizeLine_eq]; omega, hN _ _ ⟨us ++ [ofL (made true [48] none)], rfl, Same.loc s2 hLf, by rw [upd_same, List.map_append]; rfl, by rw [List.length_append]; show us.length + 1 ≤ 5; omega, fun u hu => ?_⟩⟩
        rcases List.mem_append.mp hu with hu | hu
        · exact c2 u hu
        · rw [List.mem_singleton.mp hu]
          exact ⟨_, _, _, rfl, cand_zero p9 hv h48⟩
      · exact iF (decide_eq_false h48) (hN _ _ ⟨us, rfl, s2, e2, by omega, c2⟩)
    rintro σ' H3 ⟨us, rfl, s3, e3, l3, c3⟩
    dsimp only [tSeq, tNext, tAsg, gName]
    refine lc_filter (i := 6) (j := 7) (fun u => decide ((Txt.replace (Txt.replace u "-" "") "." "").length < 19)) rfl (by show 7 < 8; decide) e3 (by omega) (fun t H' Q' ht s4 qq => ?_) fun H4 L4 s4 e4 => ?_
    · dsimp only [tRet, tAndV, tOrV, tNotV, tNot, tAnd, tOr, tCB, tCons, tNil, tC, tVar, tOp, tUn, tTest, tB, tIfS, tSeq, tNext, tDrop, tAsg, gName, tIf, tChain, tCallS, tTup, tLst, rI0, rI, rU, rEq, rNe, tSl, tPart, tNoPart, rIxT, rIxS, rSlS, rIn, tIf, tPar, tM1, tMkSup, tDGet, sDPut, rIxL, tDisp, tPairs, rIx, CwR.tReplC, rNewStrs]
      have lt := (c3 t ht).len
      have e0 : (("" : Str)).length = 0 := rfl
      have r1 := TK.replace_len t "-" ""
      have r2 := TK.replace_len (Txt.replace t "-" "") "." ""
      rw [e0, Nat.mul_zero] at r1 r2
      refine ⟨_, rfl, t, rfl, by rw [e0, Nat.mul_zero]; omega, _, rfl, by rw [e0, Nat.mul_zero]; omega, _, _, rfl, ⟨by rw [sizeLine_eq]; omega, rfl⟩, _, _, rfl, rfl, _, rfl, ?_⟩
      have e : decide ((((Txt.replace (Txt.replace t "-" "") "." "").length : Nat) : Int) < 19) = decide ((Txt.replace (Txt.replace t "-" "") "." "").length < 19) := by
        rw [Bool.eq_iff_iff, decide_eq_true_eq, decide_eq_true_eq]
        omega
      rw [e]
      exact qq _ (Same.refl _)
    generalize hus : us.filter (fun u => decide ((Txt.replace (Txt.replace u "-" "") "." "").length < 19)) = us1 at *
    have c4 : ∀ u ∈ us1, ∃ neg w q, u = ofL (made neg w q) ∧ Cand p v neg w q ∧ w.length + (q.getD []).length ≤ 18 := fun u hu => by
      rw [← hus] at hu
      obtain ⟨h1, h2⟩ := List.mem_filter.mp hu
      obtain ⟨neg, w, q, rfl, c⟩ := c3 u h1
      refine ⟨neg, w, q, rfl, c, ?_⟩
      have h3 := of_decide_eq_true h2
      rw [strike_len c.dw c.dq] at h3
      omega
    have l4 : us1.length ≤ 5 := by rw [← hus]; exact Nat.le_trans (List.length_filter_le _ _) l3
    have s04 : Same H H4 := s3.trans s4
    have done : ∀ (us2 : List Str) (H5 : Hp) (L5 : Addr), Same H H5 → H5 L5 = some (.lst (us2.map V.str)) → us2.length ≤ 5 → (∀ u ∈ us2, ∃ neg w q, u = ofL (made neg w q) ∧ Cand p v neg w q ∧ w.length + (q.getD []).length ≤ 18 ∧ (q.getD []).length ≤ p) → Q (.ref L5) H5 := by
      intro us2 H5 L5 s5 e5 l5 c5
      refine k L5 us2 H5 s5 e5 (fun u hu => ?_) (by omega)
      obtain ⟨neg, w, q, rfl, c, h1, h2⟩ := c5 u hu
      refine ⟨c.parse h1 h2, by rw [len_ofL]; exact c.lg, ?_, List.all_eq_true.mpr (made_good c.dw c.dq)⟩
      exact Nat.le_trans (CandT.len ⟨neg, w, q, rfl, c⟩) (by omega)
    refine w_ifS (decide (p ≠ 0)) (fun Q' qq => ?_) fun H5 s5 => ?_
    · dsimp only [tRet, tAndV, tOrV, tNotV, tNot, tAnd, tOr, tCB, tCons, tNil, tC, tVar, tOp, tUn, tTest, tB, tIfS, tSeq, tNext, tDrop, tAsg, gName, tIf, tChain, tCallS, tTup, tLst, rI0, rI, rU, rEq, rNe, tSl, tPart, tNoPart, rIxT, rIxS, rSlS, rIn, tIf, tPar, tM1, tMkSup, tDGet, sDPut, rIxL, tDisp, tPairs, rIx, CwR.tReplC, rNewStrs]
      refine ⟨_, rfl, _, _, _, _, rfl, rfl, SqT.of (s04 _ _ ha), atI_nat (j := 0) rfl, rfl, _, rfl, ?_⟩
      rw [hd]
      exact qq _ (Same.refl _)
    have e5 := s5 _ _ e4
    have s05 := s04.trans s5
    by_cases hp0 : p = 0
    · refine iF (decide_eq_false (fun z => z hp0)) ?_
      dsimp only [tRet, tAndV, tOrV, tNotV, tNot, tAnd, tOr, tCB, tCons, tNil, tC, tVar, tOp, tUn, tTest, tB, tIfS, tSeq, tNext, tDrop, tAsg, gName, tIf, tChain, tCallS, tTup, tLst, rI0, rI, rU, rEq, rNe, tSl, tPart, tNoPart, rIxT, rIxS, rSlS, rIn, tIf, tPar, tM1, tMkSup, tDGet, sDPut, rIxL, tDisp, tPairs, rIx, CwR.tReplC, rNewStrs]
      refine ⟨_, rfl, done us1 H5 L4 s05 e5 l4 fun u hu => ?_⟩
      obtain ⟨neg, w, q, rfl, c, h1⟩ := c4 u hu
      refine ⟨neg, w, q, rfl, c, h1, ?_⟩
      cases q with
      | none => exact Nat.zero_le _
      | some q => exact absurd hp0 (c.pz (by simp))
    · refine iT (decide_eq_true hp0) ?_
      dsimp only [tSeq, tNext, tAsg, gName]
      refine lc_filter (i := 4) (j := 7) (fun u => !(decide (46 ∈ u.cps.toList)) || decide (((Txt.split u ".").getD 1 "").length ≤ p)) rfl (by show 7 < 8; decide) e5 (by omega) (fun t H' Q' ht s6 qq => ?_) fun H6 L6 s6 e6 => ?_
      · dsimp only [tRet, tAndV, tOrV, tNotV, tNot, tAnd, tOr, tCB, tCons, tNil, tC, tVar, tOp, tUn, tTest, tB, tIfS, tSeq, tNext, tDrop, tAsg, gName, tIf, tChain, tCallS, tTup, tLst, rI0, rI, rU, rEq, rNe, tSl, tPart, tNoPart, rIxT, rIxS, rSlS, rIn, tIf, tPar, tM1, tMkSup, tDGet, sDPut, rIxL, tDisp, tPairs, rIx, CwR.tReplC, rNewStrs]
        obtain ⟨neg, w, q, rfl, c, h1⟩ := c4 t ht
        have lt := CandT.len ⟨neg, w, q, rfl, c⟩
        refine ⟨_, rfl, 46, _, rfl, rfl, _, rfl, ?_⟩
        cases q with
        | none =>
          have e : decide (46 ∈ (ofL (made neg w none)).cps.toList) = false := dot_in (neg := neg) (q := none) c.dw
          rw [e] at qq ⊢
          exact iT rfl (qq _ (Same.refl _))
        | some q =>
          have e : decide (46 ∈ (ofL (made neg w (some q))).cps.toList) = true := dot_in (neg := neg) (q := some q) c.dw
          rw [e] at qq ⊢
          have sp := split_dot (neg := neg) c.dw (c.dq q rfl).1
          rw [sp] at qq
          refine iF rfl ⟨_, rfl, ⟨_, rfl⟩, _, _, rfl, rfl, rfl, by rw [sizeLine_eq]; omega, fun D hD => ?_⟩
          rw [sp]
          have lq : q.length ≤ 60 := c.ql
          refine ⟨D, _, _, _, rfl, rfl, SqL.of upd_same, atI_nat (j := 1) rfl, _, _, rfl, ⟨by rw [len_ofL, sizeLine_eq]; omega, rfl⟩, _, rfl, _, _, _, _, rfl, rfl, SqT.of ((Same.put hD) _ _ (s6 _ _ (s05 _ _ ha))), atI_nat (j := 3) (h3 hp0), _, _, rfl, rfl, _, rfl, ?_⟩
          have e7 : decide ((((ofL q).length : Nat) : Int) ≤ ((p : Nat) : Int)) = (!true || decide ((([ofL ((if neg = true then [45] else []) ++ w), ofL q] : List Str).getD 1 "").length ≤ p)) := by
            show _ = decide ((ofL q).length ≤ p)
            rw [Bool.eq_iff_iff, decide_eq_true_eq, decide_eq_true_eq]
            omega
          rw [e7]
          exact qq _ (Same.put hD)
      dsimp only [tRet, tAndV, tOrV, tNotV, tNot, tAnd, tOr, tCB, tCons, tNil, tC, tVar, tOp, tUn, tTest, tB, tIfS, tSeq, tNext, tDrop, tAsg, gName, tIf, tChain, tCallS, tTup, tLst, rI0, rI, rU, rEq, rNe, tSl, tPart, tNoPart, rIxT, rIxS, rSlS, rIn, tIf, tPar, tM1, tMkSup, tDGet, sDPut, rIxL, tDisp, tPairs, rIx, CwR.tReplC, rNewStrs]
      refine ⟨_, rfl, done _ H6 L6 (s05.trans s6) e6 (Nat.le_trans (List.length_filter_le _ _) l4) fun u hu => ?_⟩
      obtain ⟨g1, g2⟩ := List.mem_filter.mp hu
      obtain ⟨neg, w, q, rfl, c, h1⟩ := c4 u g1
      refine ⟨neg, w, q, rfl, c, h1, ?_⟩
      cases q with
      | none => exact Nat.zero_le _
      | some q =>
        have e : decide (46 ∈ (ofL (made neg w (some q))).cps.toList) = true := dot_in (neg := neg) (q := some q) c.dw
        have sp := split_dot (neg := neg) c.dw (c.dq q rfl).1
        rw [e, sp] at g2
        have g3 : (ofL q).length ≤ p := of_decide_eq_true g2
        rw [len_ofL] at g3
        exact g3
end
end K5
set_option Elab.async false
set_option maxRecDepth 100000
set_option maxHeartbeats 4000000
/-! _law_value_right, _law_text_right -/
namespace K5
open PySem PySem.Spec PyProof.Rows L2 TL NumText
theorem room_gd {X : Cx} {k : Nat} {g : List Code} (h : Room k X.A) : Room k (gdX X g).A := ⟨h.hd, h.dp, h.un⟩
theorem val_cases {k : Kd} {v : V} (ho : k.Ok) (hv : isVal k v = true) : (∃ n, v = .int n ∧ n.natAbs < 10 ^ 18) ∨ (∃ z, v = .str z ∧ good z = true ∧ z.length ≤ 1000) ∨ ∃ b, v = .bl b := by
  cases k with
  | int lo hi =>
    cases v with
    | int n =>
      have h : (decide (lo ≤ n) && decide (n ≤ hi)) = true := hv
      simp only [Bool.and_eq_true, decide_eq_true_eq] at h
      have ho : -999999999999999999 ≤ lo ∧ lo ≤ hi ∧ hi ≤ 999999999999999999 := ho
      exact .inl ⟨n, rfl, by omega⟩
    | _ => cases hv
  | dec lo hi p =>
    cases v with
    | int n =>
      have h : (decide (lo ≤ n) && decide (n ≤ hi)) = true := hv
      simp only [Bool.and_eq_true, decide_eq_true_eq] at h
      have ho : -999999999999999999 ≤ lo ∧ lo ≤ hi ∧ hi ≤ 999999999999999999 := ho.1
      exact .inl ⟨n, rfl, by omega⟩
    | _ => cases hv
  | text t =>
    cases v with
    | str z =>
      have h : (decide ((0 : Int) ≤ (z.length : Int)) && decide ((z.length : Int) ≤ t) && good z) = true := hv
      simp only [Bool.and_eq_true, decide_eq_true_eq] at h
      have ho : 1 ≤ t ∧ t ≤ 1000 := ho
      exact .inr (.inl ⟨z, rfl, h.2, by omega⟩)
    | _ => cases hv
  | choice ws =>
    cases v with
    | str z =>
      have h : z ∈ ws := of_decide_eq_true hv
      have := ho.2.2.2 z h
      exact .inr (.inl ⟨z, rfl, this.2.2, by omega⟩)
    | _ => cases hv
  | truth =>
    cases v with
    | bl b => exact .inr (.inr ⟨b, rfl⟩)
    | _ => cases hv
  | date =>
    cases v with
    | int n =>
      have h : (decide (1 ≤ n) && decide (n ≤ 3652059)) = true := hv
      simp only [Bool.and_eq_true, decide_eq_true_eq] at h
      exact .inl ⟨n, rfl, by omega⟩
    | _ => cases hv
theorem good_lt {z : Str} (h : good z = true) : ∀ c ∈ z.cps.toList, c < 16 ^ 8 := fun c hc => by
  have h' : z.cps.toList.all goodC = true := h
  have g := List.all_eq_true.mp h' c hc
  unfold goodC at g
  simp only [Bool.or_eq_true, Bool.and_eq_true, decide_eq_true_eq] at g
  omega
theorem val_repr {k : Kd} {v : V} (ho : k.Ok) (hv : isVal k v = true) : ∃ t, RpF v t ∧ t.length ≤ 20000 := by
  rcases val_cases ho hv with ⟨n, rfl, h⟩ | ⟨z, rfl, h1, h2⟩ | ⟨b, rfl⟩
  · refine ⟨_, .int n (Nat.lt_of_lt_of_le (PySem.Flt.log2_lt_of (k := 60) (by decide) (by omega)) (by decide)), ?_⟩
    have e : (Str.ofString (toString n)).length ≤ 20000 := by
      rw [str_int, len_ofL, decL_made, made_len]
      have := shown_18 (p := 0) (n := n.natAbs) (by omega) h
      have : sgLen (decide (n < 0)) ≤ 1 := by cases decide (n < 0) <;> decide
      split
      · show _ + _ + 0 ≤ _; omega
      · show _ + _ + (_ + 1) ≤ _; omega
    exact e
  · have hl := StrLaws.reprText_len z (good_lt h1)
    exact ⟨_, .str z (by rw [sizeLine_eq]; omega), by omega⟩
  · refine ⟨_, .bl b, ?_⟩
    cases b <;> decide
theorem val_tk {k : Kd} {v : V} {H : Hp} (ho : k.Ok) (hv : isVal k v = true) : Tk H v := by
  rcases val_cases ho hv with ⟨n, rfl, h⟩ | ⟨z, rfl, h1, h2⟩ | ⟨b, rfl⟩ <;> trivial
theorem val_len {k : Kd} {v : V} (ho : k.Ok) (hv : isVal k v = true) : ∀ z, v = .str z → z.length ≤ 100000 := by
  rcases val_cases ho hv with ⟨n, rfl, h⟩ | ⟨z, rfl, h1, h2⟩ | ⟨b, rfl⟩
  · intro z e; cases e
  · intro z' e; cases e; omega
  · intro z e; cases e
theorem dec_gd {p : Nat} {n : Int} (hp : p ≤ 9) (hn : n.natAbs < 10 ^ 18) : (ofL (decL p n)).length ≤ 200 ∧ good (ofL (decL p n)) = true := by
  have h18 := shown_18 hp hn
  rw [decL_made, len_ofL]
  constructor
  · rw [made_len]
    have : sgLen (decide (n < 0)) ≤ 1 := by cases decide (n < 0) <;> decide
    split
    · show _ + _ + 0 ≤ _; omega
    · show _ + _ + (_ + 1) ≤ _; omega
  · refine List.all_eq_true.mpr (made_good (whole_digits _ _) fun q' e => ?_)
    split at e
    · cases e
    · rename_i h
      cases e
      exact ⟨part_digits _ _, h⟩
theorem dig_good {l : List Nat} (h : AllDigits l) : ∀ c ∈ l, goodC c = true := fun c hc => by
  have := h c hc
  unfold goodC
  rw [decide_eq_true (show 32 ≤ c by omega), decide_eq_true (show c ≤ 126 by omega), decide_eq_true (show c ≠ 37 by omega)]
  simp
theorem shown_gd {k : Kd} {v : V} {t : Str} (ho : k.Ok) (hv : isVal k v = true) (hs : Shown k v t) : t.length ≤ 1000 ∧ good t = true := by
  cases k with
  | int lo hi =>
    obtain ⟨n, rfl, rfl⟩ := hs
    rcases val_cases ho hv with ⟨n', e, h⟩ | ⟨z, e, _⟩ | ⟨b, e⟩
    · cases e
      have := dec_gd (p := 0) (by omega) h
      exact ⟨by omega, this.2⟩
    · cases e
    · cases e
  | dec lo hi p =>
    obtain ⟨n, rfl, rfl⟩ := hs
    rcases val_cases ho hv with ⟨n', e, h⟩ | ⟨z, e, _⟩ | ⟨b, e⟩
    · cases e
      have := dec_gd (p := p) ho.2.2 h
      exact ⟨by omega, this.2⟩
    · cases e
    · cases e
  | text m =>
    cases (show v = .str t from hs)
    rcases val_cases ho hv with ⟨n', e, h⟩ | ⟨z, e, h1, h2⟩ | ⟨b, e⟩
    · cases e
    · cases e
      exact ⟨h2, h1⟩
    · cases e
  | choice ws =>
    cases (show v = .str t from hs)
    rcases val_cases ho hv with ⟨n', e, h⟩ | ⟨z, e, h1, h2⟩ | ⟨b, e⟩
    · cases e
    · cases e
      exact ⟨h2, h1⟩
    · cases e
  | truth =>
    obtain ⟨b, rfl, rfl⟩ := hs
    cases b <;> exact ⟨by decide +kernel, by decide +kernel⟩
  | date =>
    obtain ⟨n, y, m, d, rfl, dt, rfl⟩ := hs
    have lY : (padL 4 y.toNat).length = 4 := padL4 (by have := dt.y2; omega) (by decide)
    have lM : (padL 2 m.toNat).length = 2 := padL4 (by have := dt.m2; omega) (by decide)
    have dp := dim_pos (y := y) dt.m1 dt.m2
    have lD : (padL 2 d.toNat).length = 2 := padL4 (by have := dt.d2; omega) (by decide)
    unfold dtext
    refine ⟨?_, List.all_eq_true.mpr fun c hc => ?_⟩
    · rw [len_ofL, (date_parts lY lM lD).1]
      omega
    · rcases List.mem_append.mp hc with hc | hc
      · exact dig_good (padL_digits _ _) c hc
      · rcases List.mem_cons.mp hc with rfl | hc
        · rfl
        · rcases List.mem_append.mp hc with hc | hc
          · exact dig_good (padL_digits _ _) c hc
          · rcases List.mem_cons.mp hc with rfl | hc
            · rfl
            · exact dig_good (padL_digits _ _) c hc
theorem num_shown {k : Kd} {v : V} {t : Str} (hn : k.num = true) (hs : Shown k v t) : ∃ n, v = .int n ∧ t = ofL (decL k.pl n) := by
  cases k with
  | int lo hi => exact hs
  | dec lo hi p => exact hs
  | _ => cases hn
theorem num_val {k : Kd} {n : Int} (hn : k.num = true) (hv : isVal k (.int n) = true) : k.lo ≤ n ∧ n ≤ k.hi := by
  cases k with
  | int lo hi =>
    have h : (decide (lo ≤ n) && decide (n ≤ hi)) = true := hv
    simp only [Bool.and_eq_true, decide_eq_true_eq] at h
    exact h
  | dec lo hi p =>
    have h : (decide (lo ≤ n) && decide (n ≤ hi)) = true := hv
    simp only [Bool.and_eq_true, decide_eq_true_eq] at h
    exact h
  | _ => cases hn
theorem pl9 {k : Kd} (ho : k.Ok) : k.pl ≤ 9 := by
  cases k with
  | dec lo hi p => exact ho.2.2
  | _ => exact Nat.zero_le _
/-- the text of a value is converted back -/
theorem conv_back {CU a : Addr} {k : Kd} {v : V} {t : Str} {H : Hp} {Q : VK} (hk : k.At H a) (ho : k.Ok) (hv : isVal k v = true) (hs : Shown k v t) (q : ∀ H', Same H H' → Q v H') : spConvert CU [.ref a, .str t] H Q E0 := by
  have hg := shown_gd ho hv hs
  refine ⟨a, k, t, rfl, hk, ho, by omega, hg.2, ?_⟩
  cases hn : k.num with
  | true =>
    obtain ⟨n, rfl, rfl⟩ := num_shown hn hs
    have hb := num_val hn hv
    have hp : parse k.pl (ofL (decL k.pl n)).cps.toList = some n := by
      rcases val_cases ho hv with ⟨n', e, h⟩ | ⟨z, e, _⟩ | ⟨b, e⟩
      · cases e
        exact parse_shown (pl9 ho) h
      · cases e
      · cases e
    refine iT rfl ⟨fun m e _ _ H' s => ?_, fun no => absurd hb (no n hp)⟩
    rw [hp] at e
    cases e
    exact q H' s
  | false => exact iF rfl ⟨v, hv, hs, q⟩
section
variable {P : Program} {w : World} {K : PySem.W.Frag} {mg : Str → Option Value} {base : Heap} {sc0 : Addr}
theorem sc_ValueR : FnScope ["_law_own", "_law_value_so", "_law_shown", "_law_text"] ["_law_own", "_law_value_so"] (defScope sValueR) := ⟨rfl, rfl, rfl, by decide +kernel, rfl, by decide +kernel, by decide +kernel⟩
theorem ok_law_value_right {CU CV : Addr} (B : Blt mg) (F : Fd K mg "_law_value_right" sValueR ["_law_own", "_law_value_so"]) (d_convert : Df P w K mg base (L2.CX P w) 6 "convert" ["kind", "text"] (spConvert CU)) (d_show : Df P w K mg base (L2.CX P w) 7 "show" ["kind", "value"] (spShow CV)) (d_law_same : Df P w K mg base CX0 1 "_law_same" ["_law_own", "_law_shown"] spSame) : Df P w K mg base CX0 8 "_law_value_right" ["_law_own", "_law_value_so"] spValueRight := by
  refine F.ok sc_ValueR (fun vs H Q E h => ?_) (fun f cdv A outer s H vs Q E hr h => ?_)
  · obtain ⟨a, kd, v, rfl, _⟩ := h
    rfl
  · obtain ⟨a, kd, v, rfl, hk, ho, hv, k⟩ := h
    have sc := sc_ValueR
    refine ⟨_, (pss_cons (ps_set (i := 2) sc.nd rfl (Or.inl rfl) (pe_dL d_show hr rfl (by decide) (pa_cons (pv 0) (pa_cons (pv 1) pa_nil))))
      (pss_cons (ps_if (PW.pt (pw_or (pt_not (pt_val (pe_callB call_isB rfl B.isinstance_ bo_isinstance (pa_cons (pv 2) (pa_cons (pe_bltn (v := .ty "str") rfl B.str_ bo_str rfl) pa_nil))))) (pw_or1 (pt_reprNe hr rfl B.repr_ (fun g => (pe_dL d_convert (room_gd hr) rfl (by decide) (pa_cons (pv 0) (pa_cons (pv 2) pa_nil)))) (fun g => (pv 1)))))) (pss_one (ps_ret pe_bl)) pss_nil)
      (pss_cons (ps_if (pt_cmpR op_notIn_seq (pe_ix ix_tup (pv 0) pe_int (fun _ _ => rfl)) (pe_tup (pa_cons pe_str (pa_cons pe_str pa_nil))) (by with_unfolding_all rfl)) (pss_one (ps_ret (pe_or (pe_cmpR op_notIn_seq (pe_ix ix_tup (pv 0) pe_int (fun _ _ => rfl)) (pe_tup (pa_cons pe_str (pa_cons pe_str pa_nil))) (by with_unfolding_all rfl)) (pe_one (pe_cmpR op_eq (pv 2) (pv 1) (nomark _)))))) pss_nil)
      (pss_cons (ps_for PassesOwn.never rfl (pi_list (pe_d0 d_law_same hr rfl (by decide) (pa_cons (pv 0) (pa_cons (pv 2) pa_nil)))) (pg_name (i := 3) sc.nd rfl (Or.inl rfl)) (pss_one (ps_if (PW.pt (pw_or (pt_reprNe hr rfl B.repr_ (fun g => (pe_dL d_convert (room_gd hr) rfl (by decide) (pa_cons (pv 0) (pa_cons (pv 3) pa_nil)))) (fun g => (pv 1))) (pw_or1 (pt_cmpR op_le (pe_callB call_len rfl B.len_ bo_len (pa_cons (pv 3) pa_nil)) (pe_callB call_len rfl B.len_ bo_len (pa_cons (pv 2) pa_nil)) (nomark _))))) (pss_one (ps_ret pe_bl)) pss_nil)))
      (pss_one (ps_ret pe_bl)))))), ?_⟩
    obtain ⟨tv, htv, ltv⟩ := val_repr ho hv
    have hflat : scal (.str tv) (.str tv) = true := rfl
    dsimp only [tSeq, tNext, tAsg, gName]
    refine w_eh (fun x H' => ∃ t, x = .str t ∧ Same H H' ∧ Shown kd v t) (fun Q' qq => ?_) ?_
    · dsimp only [tRet, tAndV, tOrV, tNotV, tNot, tAnd, tOr, tCB, tCons, tNil, tC, tVar, tOp, tUn, tTest, tB, tIfS, tSeq, tNext, tDrop, tAsg, gName, tIf, tChain, tCallS, tTup, tLst, rI0, rI, rU, rEq, rNe, tSl, tPart, tNoPart, rIxT, rIxS, rSlS, rIn, tIf, tPar, tM1, tMkSup, tDGet, sDPut, rIxL, tDisp, tPairs, rIx, CwR.tReplC, rNewStrs]
      exact ⟨_, rfl, _, rfl, a, kd, v, rfl, hk, ho, val_tk ho hv, val_len ho hv, fun _ t H' s z => qq _ _ ⟨t, rfl, s, z⟩, fun e => by rw [hv] at e; cases e⟩
    rintro x H1 ⟨t, rfl, s1, hsh⟩
    have hg := shown_gd ho hv hsh
    refine w_ifS false (fun Q' qq => ?_) fun H2 s2 => iF rfl ?_
    · dsimp only [tRet, tAndV, tOrV, tNotV, tNot, tAnd, tOr, tCB, tCons, tNil, tC, tVar, tOp, tUn, tTest, tB, tIfS, tSeq, tNext, tDrop, tAsg, gName, tIf, tChain, tCallS, tTup, tLst, rI0, rI, rU, rEq, rNe, tSl, tPart, tNoPart, rIxT, rIxS, rSlS, rIn, tIf, tPar, tM1, tMkSup, tDGet, sDPut, rIxL, tDisp, tPairs, rIx, CwR.tReplC, rNewStrs]
      refine ⟨_, rfl, tk_str (v := .str t) trivial ⟨_, rfl, iF rfl ?_⟩⟩
      intro g
      dsimp only [tRet, tAndV, tOrV, tNotV, tNot, tAnd, tOr, tCB, tCons, tNil, tC, tVar, tOp, tUn, tTest, tB, tIfS, tSeq, tNext, tDrop, tAsg, gName, tIf, tChain, tCallS, tTup, tLst, rI0, rI, rU, rEq, rNe, tSl, tPart, tNoPart, rIxT, rIxS, rSlS, rIn, tIf, tPar, tM1, tMkSup, tDGet, sDPut, rIxL, tDisp, tPairs, rIx, CwR.tReplC, rNewStrs]
      refine ⟨_, rfl, _, rfl, conv_back (hk.same s1) ho hv hsh fun H2 s2 => ?_⟩
      refine ⟨v, tv, rfl, .flat htv, _, rfl, v, tv, rfl, .flat htv, rfl, _, rfl, ?_⟩
      rw [decide_eq_true rfl]
      exact qq _ s2
    have s12 := s1.trans s2
    obtain ⟨nm, rest, d, ds, ha, _, _⟩ := kd_sq (K := K) (hk.same s12) ho
    have hnum : inV (.str nm) [.str "int", .str "decimal"] = kd.num := by
      have hk2 := hk.same s12
      cases kd with
      | int lo hi => rw [show H2 a = _ from hk2] at ha; cases ha; exact (by decide +kernel : inV (.str "int") [.str "int", .str "decimal"] = true)
      | dec lo hi p => rw [show H2 a = _ from hk2] at ha; cases ha; exact (by decide +kernel : inV (.str "decimal") [.str "int", .str "decimal"] = true)
      | text t => rw [show H2 a = _ from hk2] at ha; cases ha; exact (by decide +kernel : inV (.str "text") [.str "int", .str "decimal"] = false)
      | choice ws => obtain ⟨b, z, _⟩ := hk2; rw [show H2 a = _ from z] at ha; cases ha; exact (by decide +kernel : inV (.str "choice") [.str "int", .str "decimal"] = false)
      | truth => rw [show H2 a = _ from hk2] at ha; cases ha; exact (by decide +kernel : inV (.str "truth") [.str "int", .str "decimal"] = false)
      | date => rw [show H2 a = _ from hk2] at ha; cases ha; exact (by decide +kernel : inV (.str "date") [.str "int", .str "decimal"] = false)
    dsimp only [tSeq, tNext, tAsg, gName]
    refine w_ifS (!kd.num) (fun Q' qq => ?_) fun H3 s3 => ?_
    · dsimp only [tRet, tAndV, tOrV, tNotV, tNot, tAnd, tOr, tCB, tCons, tNil, tC, tVar, tOp, tUn, tTest, tB, tIfS, tSeq, tNext, tDrop, tAsg, gName, tIf, tChain, tCallS, tTup, tLst, rI0, rI, rU, rEq, rNe, tSl, tPart, tNoPart, rIxT, rIxS, rSlS, rIn, tIf, tPar, tM1, tMkSup, tDGet, sDPut, rIxL, tDisp, tPairs, rIx, CwR.tReplC, rNewStrs]
      refine ⟨_, rfl, _, _, _, _, rfl, rfl, SqT.of ha, atI_nat (j := 0) rfl, by show 2 ≤ sizeLine; decide, fun u hu => ⟨u, _, rfl, .inr (SqT.of upd_same), rfl, rfl, _, rfl, ?_⟩⟩
      show Q' (!inV (.str nm) [.str "int", .str "decimal"]) _
      rw [hnum]
      exact qq _ (Same.put hu)
    have s13 := s12.trans s3
    have ha3 := s3 _ _ ha
    cases hn : kd.num with
    | false =>
      refine iT rfl ?_
      dsimp only [tRet, tAndV, tOrV, tNotV, tNot, tAnd, tOr, tCB, tCons, tNil, tC, tVar, tOp, tUn, tTest, tB, tIfS, tSeq, tNext, tDrop, tAsg, gName, tIf, tChain, tCallS, tTup, tLst, rI0, rI, rU, rEq, rNe, tSl, tPart, tNoPart, rIxT, rIxS, rSlS, rIn, tIf, tPar, tM1, tMkSup, tDGet, sDPut, rIxL, tDisp, tPairs, rIx, CwR.tReplC, rNewStrs]
      refine ⟨_, rfl, _, _, _, _, rfl, rfl, SqT.of ha3, atI_nat (j := 0) rfl, by show 2 ≤ sizeLine; decide, fun u hu => ⟨u, _, rfl, .inr (SqT.of upd_same), rfl, rfl, _, rfl, ?_⟩⟩
      show (if (!inV (.str nm) [.str "text", .str "choice"]) = true then _ else _)
      have s14 := s13.trans (Same.put (o := .tup [.str "text", .str "choice"]) hu)
      cases hin : inV (.str nm) [.str "text", .str "choice"] with
      | false => exact iT rfl (k _ s14)
      | true =>
        refine iF rfl ⟨_, rfl, _, rfl, ?_⟩
        have hk2 := hk.same s12
        have ev : v = .str t := by
          cases kd with
          | int lo hi => cases hn
          | dec lo hi p => cases hn
          | text m => exact hsh
          | choice ws => exact hsh
          | truth => rw [show H2 a = _ from hk2] at ha; cases ha; exact absurd hin (by decide +kernel)
          | date => rw [show H2 a = _ from hk2] at ha; cases ha; exact absurd hin (by decide +kernel)
        subst ev
        refine ⟨rfl, ?_⟩
        rw [decide_eq_true rfl]
        exact k _ s14
    | true =>
      refine iF rfl ?_
      obtain ⟨n, rfl, rfl⟩ := num_shown hn hsh
      have hb := num_val hn hv
      have h18 : n.natAbs < 10 ^ 18 := by
        rcases val_cases ho hv with ⟨n', e, h⟩ | ⟨z, e, _⟩ | ⟨b, e⟩
        · cases e; exact h
        · cases e
        · cases e
      dsimp only [tSeq, tNext, tAsg, gName]
      refine ⟨_, rfl, _, rfl, a, kd, n, rfl, hn, hk.same s13, ho, h18, fun L ts H4 s4 e4 hts lts => ⟨L, rfl, ⟨_, SqL.of e4⟩, ?_⟩⟩
      have lT : (ofL (decL kd.pl n)).length ≤ 200 := (dec_gd (pl9 ho) h18).1
      refine for_it (walk_list (K := K)) (fun i σ' H' => Same H H' ∧ H' L = some (.lst (ts.map V.str)) ∧ ∃ y, σ' = [some (.ref a), some (.int n), some (.str (ofL (decL kd.pl n))), y]) ⟨s13.trans s4, e4, none, rfl⟩ (fun _ _ _ _ p => p.2.1) ?_ ?_
      · rintro i x σ' H5 H5' hi ⟨s5, e5, y, rfl⟩ ⟨rfl, hx⟩
        obtain ⟨u, hu, rfl⟩ : ∃ u, u ∈ ts ∧ x = .str u := by
          rw [List.getElem?_map] at hx
          cases e : ts[i]? with
          | none => rw [e] at hx; cases hx
          | some u => rw [e] at hx; exact ⟨u, List.mem_of_getElem? e, (Option.some.inj hx).symm⟩
        obtain ⟨u1, u2, u3, u4⟩ := hts u hu
        dsimp only [gName]
        dsimp only [tRet, tAndV, tOrV, tNotV, tNot, tAnd, tOr, tCB, tCons, tNil, tC, tVar, tOp, tUn, tTest, tB, tIfS, tSeq, tNext, tDrop, tAsg, gName, tIf, tChain, tCallS, tTup, tLst, rI0, rI, rU, rEq, rNe, tSl, tPart, tNoPart, rIxT, rIxS, rSlS, rIn, tIf, tPar, tM1, tMkSup, tDGet, sDPut, rIxL, tDisp, tPairs, rIx, CwR.tReplC, rNewStrs]
        intro g
        dsimp only [tRet, tAndV, tOrV, tNotV, tNot, tAnd, tOr, tCB, tCons, tNil, tC, tVar, tOp, tUn, tTest, tB, tIfS, tSeq, tNext, tDrop, tAsg, gName, tIf, tChain, tCallS, tTup, tLst, rI0, rI, rU, rEq, rNe, tSl, tPart, tNoPart, rIxT, rIxS, rSlS, rIn, tIf, tPar, tM1, tMkSup, tDGet, sDPut, rIxL, tDisp, tPairs, rIx, CwR.tReplC, rNewStrs]
        refine ⟨_, rfl, _, rfl, a, kd, u, rfl, hk.same s5, ho, by omega, u4, iT hn ⟨fun m e _ _ H6 s6 => ?_, fun no => absurd hb (no n u1)⟩⟩
        rw [u1] at e
        cases e
        refine ⟨.int n, tv, rfl, .flat htv, _, rfl, .int n, tv, rfl, .flat htv, rfl, _, rfl, iF (by rw [decide_eq_true rfl]; rfl) ?_⟩
        refine ⟨_, rfl, _, _, rfl, ⟨by rw [sizeLine_eq]; omega, rfl⟩, _, rfl, _, _, rfl, ⟨by rw [sizeLine_eq]; omega, rfl⟩, _, _, rfl, rfl, _, rfl, iF (decide_eq_false ?_) ?_⟩
        · rw [len_ofL]
          omega
        · exact ⟨s5.trans s6, s6 _ _ e5, _, rfl⟩
      · rintro σ' H5 ⟨s5, e5, y, rfl⟩
        exact k _ s5
theorem sc_TextR : FnScope ["_law_own", "_law_text", "_law_found", "_law_shown"] ["_law_own", "_law_text"] (defScope sTextR) := ⟨rfl, rfl, rfl, by decide +kernel, rfl, by decide +kernel, by decide +kernel⟩
theorem ok_law_text_right {CU CV : Addr} (B : Blt mg) (gU : mg "Unfit" = some (.ref CU)) (eU : PySem.W.exmOne K (.ref CU) (.ref CU) = some true) (F : Fd K mg "_law_text_right" sTextR ["_law_own", "_law_text"]) (d_convert : Df P w K mg base (L2.CX P w) 6 "convert" ["kind", "text"] (spConvert CU)) (d_show : Df P w K mg base (L2.CX P w) 7 "show" ["kind", "value"] (spShow CV)) : Df P w K mg base CX0 8 "_law_text_right" ["_law_own", "_law_text"] spTextRight := by
  refine F.ok sc_TextR (fun vs H Q E h => ?_) (fun f cdv A outer s H vs Q E hr h => ?_)
  · obtain ⟨a, kd, v, rfl, _⟩ := h
    rfl
  · obtain ⟨a, kd, t, rfl, hn, hk, ho, lt, gt, k⟩ := h
    have sc := sc_TextR
    refine ⟨_, (pss_cons (ps_set (i := 2) sc.nd rfl (Or.inl rfl) pe_non)
      (pss_cons (ps_try_only (tb := fun W => tAsg (tCallS (spConvert CU) (WE W) (tCons (tVar 0) (tCons (tVar 1) tNil))) (gName 2)) (ts := fun _ _ _ => tRet (tC (.bl true))) (Wout := fun _ _ _ _ => False) rfl rfl ⟨rfl, by decide, .inl gU⟩ takes0 (fun W pn xe tk _ => pss_one (ps_set (i := 2) sc.nd rfl (Or.inl rfl) (by exact (pe_dX (E := WE W) d_convert hr rfl (fun σ => passAt tk σ) (by decide) (pa_cons (pv 0) (pa_cons (pv 1) pa_nil)))))) (fun a oe cls d pn _ _ => pss_one (by exact (ps_ret pe_bl))))
      (pss_cons (ps_set (i := 3) sc.nd rfl (Or.inl rfl) (pe_dL d_show hr rfl (by decide) (pa_cons (pv 0) (pa_cons (pv 2) pa_nil))))
      (pss_one (ps_ret (pe_or (pe_cmpR op_eq (pv 3) (pv 1) (nomark _)) (pe_one (pe_cmpR op_lt (pe_callB call_len rfl B.len_ bo_len (pa_cons (pv 3) pa_nil)) (pe_callB call_len rfl B.len_ bo_len (pa_cons (pv 1) pa_nil)) (nomark _))))))))), ?_⟩
    dsimp only [tRet, tAndV, tOrV, tNotV, tNot, tAnd, tOr, tCB, tCons, tNil, tC, tVar, tOp, tUn, tTest, tB, tIfS, tSeq, tNext, tDrop, tAsg, gName, tIf, tChain, tCallS, tTup, tLst, rI0, rI, rU, rEq, rNe, tSl, tPart, tNoPart, rIxT, rIxS, rSlS, rIn, tIf, tPar, tM1, tMkSup, tDGet, sDPut, rIxL, tDisp, tPairs, rIx, CwR.tReplC, rNewStrs]
    have fin : ∀ (n : Int) (H1 : Hp), parse kd.pl t.cps.toList = some n → kd.lo ≤ n → n ≤ kd.hi → Same H H1 →
        tSeq (tAsg (tCallS (spShow CV) (fun _ => E0) (tCons (tVar 0) (tCons (tVar 2) tNil))) (gName 3))
          (tRet (tOrV (tOp rEq (tVar 3) (tVar 1)) (tOp (rI0 fun i j => .bl (decide (i < j))) (tCB (fun xs H Q => ∃ x n, xs = [x] ∧ LenV K x H n ∧ Q (.int n) H) (tCons (tVar 3) tNil)) (tCB (fun xs H Q => ∃ x n, xs = [x] ∧ LenV K x H n ∧ Q (.int n) H) (tCons (tVar 1) tNil)))))
          { nx := fun _ H' => Q .non H', rt := Q } [some (.ref a), some (.str t), some (.int n), none] H1 := by
      intro n H1 hp h1 h2 s1
      have hv : isVal kd (.int n) = true := by
        cases kd with
        | int lo hi => show (decide (lo ≤ n) && decide (n ≤ hi)) = true; rw [decide_eq_true (show lo ≤ n from h1), decide_eq_true (show n ≤ hi from h2)]; rfl
        | dec lo hi p => show (decide (lo ≤ n) && decide (n ≤ hi)) = true; rw [decide_eq_true (show lo ≤ n from h1), decide_eq_true (show n ≤ hi from h2)]; rfl
        | _ => cases hn
      dsimp only [tRet, tAndV, tOrV, tNotV, tNot, tAnd, tOr, tCB, tCons, tNil, tC, tVar, tOp, tUn, tTest, tB, tIfS, tSeq, tNext, tDrop, tAsg, gName, tIf, tChain, tCallS, tTup, tLst, rI0, rI, rU, rEq, rNe, tSl, tPart, tNoPart, rIxT, rIxS, rSlS, rIn, tIf, tPar, tM1, tMkSup, tDGet, sDPut, rIxL, tDisp, tPairs, rIx, CwR.tReplC, rNewStrs]
      refine ⟨_, rfl, _, rfl, a, kd, .int n, rfl, hk.same s1, ho, trivial, (fun z e => by cases e), fun _ t' H2 s2 hsh => ?_, fun e => by rw [hv] at e; cases e⟩
      obtain ⟨m, e, rfl⟩ := num_shown hn hsh
      cases e
      have hg := shown_gd ho hv hsh
      refine ⟨_, rfl, _, rfl, rfl, _, rfl, ?_⟩
      have sb := shown_best hp
      rw [dec_str]
      by_cases he : ofL (decL kd.pl n) = t
      · exact iT (by rw [beq_iff_eq]; exact he) (k _ (s1.trans s2))
      · refine iF (by rw [beq_eq_false_iff_ne]; exact he) ⟨_, rfl, _, _, rfl, ⟨by rw [sizeLine_eq]; omega, rfl⟩, _, rfl, _, _, rfl, ⟨by rw [sizeLine_eq]; omega, rfl⟩, _, _, rfl, rfl, ?_⟩
        have lt2 : (ofL (decL kd.pl n)).length < t.length := by
          rcases sb with z | z
          · exact absurd (ext_tl z) he
          · rw [len_ofL, len_tl]
            exact z
        rw [decide_eq_true (by omega)]
        exact k _ (s1.trans s2)
    refine ⟨_, rfl, _, rfl, a, kd, t, rfl, hk, ho, by omega, gt, iT hn ⟨fun n hp h1 h2 H1 s1 => ?_, fun no d H1 s1 => ?_⟩⟩
    · exact fin n H1 hp h1 h2 s1
    · exact ⟨true, eU, fun _ a' ha' => k _ s1, fun z => by cases z⟩
end
end K5
set_option Elab.async false
set_option maxRecDepth 100000
set_option maxHeartbeats 4000000
/-! _law_refused_right -/
namespace K5
open PySem PySem.Spec PyProof.Rows L2 TL NumText
/-- a thing that is no value of the kind, and can be told by its repr -/
inductive ThG (kd : Kd) (H : Hp) : V → Prop
  | fl {x : V} {t : Str} (h : RpF x t) (no : isVal kd x = false) (len : ∀ z, x = .str z → z.length ≤ 100000) : ThG kd H x
  | lst {a : Addr} (e : H a = some (.lst [])) : ThG kd H (.ref a)
  | tup {a : Addr} {v : V} {t : Str} (e : H a = some (.tup [v])) (h : RpF v t) (l : t.length ≤ 20000) : ThG kd H (.ref a)
  | dct {a : Addr} (e : H a = some (.dK [])) : ThG kd H (.ref a)
theorem ThG.same {kd : Kd} {H H' : Hp} {x : V} (h : ThG kd H x) (s : Same H H') : ThG kd H' x := by
  cases h with
  | fl h no len => exact .fl h no len
  | lst e => exact .lst (s _ _ e)
  | tup e h l => exact .tup (s _ _ e) h l
  | dct e => exact .dct (s _ _ e)
theorem ThG.ch {K : PySem.W.Frag} {sc m : Addr} {n : Int} {kd : Kd} {H H' : Hp} {x : V} (h : ThG kd H x) (M : MAt K sc H m n) (c : Ch m H H') : ThG kd H' x := by
  cases h with
  | fl h no len => exact .fl h no len
  | lst e => exact .lst (c _ _ (M.neL e) e)
  | tup e h l => exact .tup (c _ _ (M.ne e) e) h l
  | @dct a e =>
    refine .dct (c _ _ (fun q => ?_) e)
    obtain ⟨ns, b, l, h1, _⟩ := M
    rw [q, h1] at e
    cases e
theorem ref_no {kd : Kd} {a : Addr} : isVal kd (.ref a) = false := by cases kd <;> rfl
theorem ThG.no {kd : Kd} {H : Hp} {x : V} (h : ThG kd H x) : isVal kd x = false := by
  cases h with
  | fl h no len => exact no
  | _ => exact ref_no
theorem ThG.tk {kd : Kd} {H : Hp} {x : V} (h : ThG kd H x) : Tk H x := by
  cases h with
  | fl h no len => cases h <;> trivial
  | lst e => exact .inl ⟨_, e⟩
  | tup e h l => exact .inr (.inl ⟨_, e⟩)
  | dct e => exact .inr (.inr ⟨_, e⟩)
theorem ThG.len {kd : Kd} {H : Hp} {x : V} (h : ThG kd H x) : ∀ z, x = .str z → z.length ≤ 100000 := by
  cases h with
  | fl h no len => exact len
  | _ => intro z e; cases e
theorem ThG.rp {kd : Kd} {H : Hp} {x : V} (h : ThG kd H x) (g : List Code) : ∃ t, RpV g H x t := by
  cases h with
  | fl h no len => exact ⟨_, .flat h⟩
  | lst e => exact ⟨_, .lst e⟩
  | tup e h l =>
    refine ⟨_, .tup e h ?_⟩
    refine Nat.le_trans (tupleText_len_le _) ?_
    rw [sizeLine_eq]
    simp
    omega
  | dct e => exact ⟨_, .dct e⟩
abbrev tabT : Str := "a\tb"
abbrev longT : Str := ⟨(List.replicate 1001 120).toArray⟩
theorem tab_bad : good tabT = false := by decide +kernel
theorem str_no {kd : Kd} {z : Str} (ho : kd.Ok) (h : good z = false ∨ 1000 < z.length) : isVal kd (.str z) = false := by
  cases kd with
  | text n =>
    have ho : 1 ≤ n ∧ n ≤ 1000 := ho
    show (decide ((0 : Int) ≤ (z.length : Int)) && decide ((z.length : Int) ≤ n) && good z) = false
    rcases h with h | h
    · rw [h, Bool.and_false]
    · rw [decide_eq_false (show ¬ (z.length : Int) ≤ n by omega), Bool.and_false, Bool.false_and]
  | choice ws =>
    refine decide_eq_false fun hm => ?_
    have := ho.2.2.2 z hm
    rcases h with h | h
    · rw [h] at this
      exact absurd this.2.2 Bool.false_ne_true
    · omega
  | _ => rfl
theorem big_no {kd : Kd} {i : Int} (ho : kd.Ok) (h : 1000000000000000000 ≤ i) : isVal kd (.int i) = false := by
  cases kd with
  | int lo hi =>
    have ho : -999999999999999999 ≤ lo ∧ lo ≤ hi ∧ hi ≤ 999999999999999999 := ho
    show (decide (lo ≤ i) && decide (i ≤ hi)) = false
    rw [decide_eq_false (show ¬ i ≤ hi by omega), Bool.and_false]
  | dec lo hi p =>
    have ho : -999999999999999999 ≤ lo ∧ lo ≤ hi ∧ hi ≤ 999999999999999999 := ho.1
    show (decide (lo ≤ i) && decide (i ≤ hi)) = false
    rw [decide_eq_false (show ¬ i ≤ hi by omega), Bool.and_false]
  | date =>
    show (decide (1 ≤ i) && decide (i ≤ 3652059)) = false
    rw [decide_eq_false (show ¬ i ≤ 3652059 by omega), Bool.and_false]
  | _ => rfl
theorem num_no {kd : Kd} {x : V} (hn : kd.num = true) (h : ∀ i, x = .int i → ¬ (kd.lo ≤ i ∧ i ≤ kd.hi)) : isVal kd x = false := by
  cases kd with
  | int lo hi =>
    cases x with
    | int i =>
      have := h i rfl
      show (decide (lo ≤ i) && decide (i ≤ hi)) = false
      rw [Bool.and_eq_false_iff, decide_eq_false_iff_not, decide_eq_false_iff_not]
      have h2 : ¬ (lo ≤ i ∧ i ≤ hi) := this
      omega
    | _ => rfl
  | dec lo hi p =>
    cases x with
    | int i =>
      have := h i rfl
      show (decide (lo ≤ i) && decide (i ≤ hi)) = false
      rw [Bool.and_eq_false_iff, decide_eq_false_iff_not, decide_eq_false_iff_not]
      have h2 : ¬ (lo ≤ i ∧ i ≤ hi) := this
      omega
    | _ => rfl
  | _ => cases hn
theorem e40 : ((10 : Int) ^ ((40 : Int)).toNat) = 10000000000000000000000000000000000000000 := by decide
theorem rp_str {z : Str} (h1 : ∀ c ∈ z.cps.toList, c < 16 ^ 8) (h2 : z.length ≤ 100000) : RpF (.str z) (reprText z) := .str z (by have := StrLaws.reprText_len z h1; rw [sizeLine_eq]; omega)
theorem rp_int {i : Int} (h : i.natAbs < 2 ^ 140) : RpF (.int i) (toString i) := .int i (Nat.lt_of_lt_of_le (PySem.Flt.log2_lt_of (k := 140) (by decide) h) (by decide))
theorem tab_lt : ∀ c ∈ tabT.cps.toList, c < 16 ^ 8 := by decide +kernel
section
variable {P : Program} {w : World} {K : PySem.W.Frag} {mg : Str → Option Value} {base : Heap} {sc0 : Addr}
theorem sc_Refused : FnScope ["_law_m", "_law_own", "_law_value_so", "_law_some", "e", "_law_thing", "_law_caught"] ["_law_m", "_law_own", "_law_value_so"] (defScope sRefused) := ⟨rfl, rfl, rfl, by decide +kernel, rfl, by decide +kernel, by decide +kernel⟩
theorem ok_law_refused_right {CB CV : Addr} (B : Blt mg) (gB : mg "BulkError" = some (.ref CB)) (gV : mg "BadValue" = some (.ref CV)) (eB : PySem.W.exmOne K (.ref CV) (.ref CB) = some true) (xv : ExcC K CV) (nV : PySem.W.findIn K (.ref CV) "value" = some none)
    (F : Fd K mg "_law_refused_right" sRefused ["_law_m", "_law_own", "_law_value_so"]) (d_show : Df P w K mg base (L2.CX P w) 7 "show" ["kind", "value"] (spShow CV)) (d_law_of : Df P w K mg base CX0 2 "_law_of" ["_law_m", "_law_items"] (spOf K sc0)) :
    Df P w K mg base CX0 8 "_law_refused_right" ["_law_m", "_law_own", "_law_value_so"] (spRefused K sc0) := by
  refine F.ok sc_Refused (fun vs H Q E h => ?_) (fun f cdv A outer s H vs Q E hr h => ?_)
  · obtain ⟨m, a, kd, v, n, rfl, _⟩ := h
    rfl
  · obtain ⟨m, a, kd, v, n, rfl, hk, ho, hv, hM, hn, k⟩ := h
    have sc := sc_Refused
    refine ⟨_, (pss_cons (ps_set (i := 3) sc.nd rfl (Or.inl rfl) (pe_lst (pa_cons pe_non (pa_cons (pe_lst pa_nil) (pa_cons (pe_tup (pa_cons (pv 2) pa_nil)) (pa_cons pe_dnewK (pa_cons (pe_op op_pow pe_int pe_int) (pa_cons pe_str (pa_cons (pe_op op_mul_sign pe_str pe_int) pa_nil)))))))))
      (pss_cons (ps_if (pt_cmpR op_in_seq (pe_ix ix_tup (pv 1) pe_int (fun _ _ => rfl)) (pe_tup (pa_cons pe_str (pa_cons pe_str pa_nil))) (by with_unfolding_all rfl)) (pss_one (ps_set (i := 3) sc.nd rfl (Or.inl rfl) (pe_op op_cat (pv 3) (pe_lst (pa_cons (pe_op op_sub (pe_ix ix_tup (pv 1) pe_int (fun _ _ => rfl)) pe_int) (pa_cons (pe_op op_add (pe_ix ix_tup (pv 1) pe_int (fun _ _ => rfl)) pe_int) (pa_cons pe_bl (pa_cons (pe_callTy (call_str_int.or SkE.call_str_str) rfl B.str_ bo_str (pa_cons (pv 2) pa_nil)) pa_nil)))))))) pss_nil)
      (pss_cons (ps_par (i := 5) (j := 6) rfl sc.nd rfl rfl (by decide) rfl rfl (pa_cons (pe_d0 d_law_of hr rfl (by decide) (pa_cons (pv 0) (pa_cons (pv 3) pa_nil))) (pa_cons pe_non pa_nil)) rfl)
      (pss_cons (ps_try_keep (i := 4) (tb := fun W => tDrop (tCallS (spShow CV) (WE W) (tCons (tVar 1) (tCons (tVar 5) tNil)))) (ts := fun _ _ _ => tAsg (tVar 4) (gName 6)) rfl rfl rfl sc.nd rfl rfl ⟨rfl, by decide, .inl gB⟩ (fun W pn xe tk _ => pss_one (ps_expr (by exact (pe_dX (E := WE W) d_show hr rfl (fun σ => passAt tk σ) (by decide) (pa_cons (pv 1) (pa_cons (pv 5) pa_nil)))))) (fun a oe cls d pn _ _ => pss_one (ps_set (i := 6) sc.nd rfl (Or.inl rfl) (by exact (pv 4)))))
      (pss_one (ps_ret (pe_and (pe_callB (call_isK xv) rfl B.isinstance_ bo_isinstance (pa_cons (pv 6) (pa_cons (pe_gR rfl gV) pa_nil))) (pe_one (pe_reprEq hr rfl B.repr_ (fun g => pe_kf xv nV (pv 6)) (fun g => pv 5)))))))))), ?_⟩
    obtain ⟨tv, htv, ltv⟩ := val_repr ho hv
    dsimp only [tSeq, tNext, tAsg, gName]
    refine w_eh (fun x H' => ∃ L xs, x = .ref L ∧ Same H H' ∧ H' L = some (.lst xs) ∧ xs.length = 7 ∧ ∀ x ∈ xs, ThG kd H' x) (fun Q' qq => ?_) ?_
    · dsimp only [tRet, tAndV, tOrV, tNotV, tNot, tAnd, tOr, tCB, tCons, tNil, tC, tVar, tOp, tUn, tTest, tB, tIfS, tSeq, tNext, tDrop, tAsg, gName, tIf, tChain, tCallS, tTup, tLst, rI0, rI, rU, rEq, rNe, tSl, tPart, tNoPart, rIxT, rIxS, rSlS, rIn, tIf, tPar, tM1, tMkSup, tDGet, sDPut, rIxL, tDisp, tPairs, rIx, CwR.tReplC, rNewStrs, tDNewK]
      refine ⟨Nat.zero_le _, fun l1 h1 => ⟨_, rfl, by show 1 ≤ sizeLine; decide, fun t1 h2 => fun d1 h3 => ?_⟩⟩
      have E1 : Same H (upd (upd (upd H l1 (.lst [])) t1 (.tup [v])) d1 (.dK [])) := (Same.put h1).trans ((Same.put h2).trans (Same.put h3))
      have a1 : (upd (upd (upd H l1 (.lst [])) t1 (.tup [v])) d1 (.dK [])) l1 = some (.lst []) := (Same.put h3) _ _ ((Same.put h2) _ _ upd_same)
      have a2 : (upd (upd (upd H l1 (.lst [])) t1 (.tup [v])) d1 (.dK [])) t1 = some (.tup [v]) := (Same.put h3) _ _ upd_same
      have a3 : (upd (upd (upd H l1 (.lst [])) t1 (.tup [v])) d1 (.dK [])) d1 = some (.dK []) := upd_same
      generalize upd (upd (upd H l1 (.lst [])) t1 (.tup [v])) d1 (.dK []) = H1 at *
      refine ⟨_, _, rfl, rfl, ⟨by decide, by decide, by decide⟩, 120, _, rfl, rfl, ⟨by decide, by decide⟩, by show 7 ≤ sizeLine; decide, fun p hp => ?_⟩
      rw [e40]
      refine qq _ _ ⟨p, _, rfl, E1.trans (Same.put hp), upd_same, rfl, fun x hx => ThG.same ?_ (Same.put hp)⟩
      rcases List.mem_cons.mp hx with rfl | hx
      · exact .fl .non (by cases kd <;> rfl) (fun z e => by cases e)
      rcases List.mem_cons.mp hx with rfl | hx
      · exact .lst a1
      rcases List.mem_cons.mp hx with rfl | hx
      · exact .tup a2 htv ltv
      rcases List.mem_cons.mp hx with rfl | hx
      · exact .dct a3
      rcases List.mem_cons.mp hx with rfl | hx
      · exact .fl (rp_int (by decide)) (big_no ho (by decide)) (fun z e => by cases e)
      rcases List.mem_cons.mp hx with rfl | hx
      · exact .fl (rp_str tab_lt (by decide +kernel)) (str_no ho (.inl tab_bad)) (fun z e => by cases e; decide +kernel)
      rcases List.mem_cons.mp hx with rfl | hx
      · have ll : (⟨(List.replicate (1001 : Int).toNat 120).toArray⟩ : Str).length = 1001 := by
          show (List.toArray _).size = _
          rw [List.size_toArray, List.length_replicate]
          rfl
        refine .fl (rp_str (fun c hc => ?_) (by rw [ll]; omega)) (str_no ho (.inr (by rw [ll]; omega))) (fun z e => by cases e; rw [ll]; omega)
        have : c = 120 := List.eq_of_mem_replicate (show c ∈ List.replicate (1001 : Int).toNat 120 from hc)
        rw [this]
        decide
      · cases hx
    rintro x H1 ⟨L, xs, rfl, s1, eL, l7, hxs⟩
    refine w_nx (fun σ' H' => ∃ L xs, σ' = [some (.ref m), some (.ref a), some v, some (.ref L), none, none, none] ∧ Same H H' ∧ H' L = some (.lst xs) ∧ 1 ≤ xs.length ∧ xs.length ≤ 20 ∧ ∀ x ∈ xs, ThG kd H' x) (fun N hN => ?_) ?_
    · obtain ⟨nm, rest, d, ds, ha, _, _⟩ := kd_sq (K := K) (hk.same s1) ho
      have hnum : inV (.str nm) [.str "int", .str "decimal"] = kd.num := by
        have hk2 := hk.same s1
        cases kd with
        | int lo hi => rw [show H1 a = _ from hk2] at ha; cases ha; exact (by decide +kernel : inV (.str "int") [.str "int", .str "decimal"] = true)
        | dec lo hi p => rw [show H1 a = _ from hk2] at ha; cases ha; exact (by decide +kernel : inV (.str "decimal") [.str "int", .str "decimal"] = true)
        | text t => rw [show H1 a = _ from hk2] at ha; cases ha; exact (by decide +kernel : inV (.str "text") [.str "int", .str "decimal"] = false)
        | choice ws => obtain ⟨b, z, _⟩ := hk2; rw [show H1 a = _ from z] at ha; cases ha; exact (by decide +kernel : inV (.str "choice") [.str "int", .str "decimal"] = false)
        | truth => rw [show H1 a = _ from hk2] at ha; cases ha; exact (by decide +kernel : inV (.str "truth") [.str "int", .str "decimal"] = false)
        | date => rw [show H1 a = _ from hk2] at ha; cases ha; exact (by decide +kernel : inV (.str "date") [.str "int", .str "decimal"] = false)
      refine w_ifS kd.num (fun Q' qq => ?_) fun H2 s2 => ?_
      · dsimp only [tRet, tAndV, tOrV, tNotV, tNot, tAnd, tOr, tCB, tCons, tNil, tC, tVar, tOp, tUn, tTest, tB, tIfS, tSeq, tNext, tDrop, tAsg, gName, tIf, tChain, tCallS, tTup, tLst, rI0, rI, rU, rEq, rNe, tSl, tPart, tNoPart, rIxT, rIxS, rSlS, rIn, tIf, tPar, tM1, tMkSup, tDGet, sDPut, rIxL, tDisp, tPairs, rIx, CwR.tReplC, rNewStrs, tDNewK]
        refine ⟨_, rfl, _, _, _, _, rfl, rfl, SqT.of ha, atI_nat (j := 0) rfl, by show 2 ≤ sizeLine; decide, fun u hu => ⟨u, _, rfl, .inr (SqT.of upd_same), rfl, rfl, _, rfl, ?_⟩⟩
        show Q' (inV (.str nm) [.str "int", .str "decimal"]) _
        rw [hnum]
        exact qq _ (Same.put hu)
      have s12 := s1.trans s2
      cases hn1 : kd.num with
      | false => exact iF rfl (hN _ _ ⟨L, xs, rfl, s12, s2 _ _ eL, by omega, by omega, fun x hx => (hxs x hx).same s2⟩)
      | true =>
        refine iT rfl ?_
        obtain ⟨nm', r', ha'⟩ := num_at hn1 (hk.same s12)
        obtain ⟨i, rfl, hi⟩ : ∃ i, v = .int i ∧ i.natAbs < 10 ^ 18 := by
          rcases val_cases ho hv with ⟨n', e, h⟩ | ⟨z, rfl, _⟩ | ⟨b, rfl⟩
          · exact ⟨n', e, h⟩
          · exfalso; cases kd <;> first | exact Bool.noConfusion hn1 | exact Bool.noConfusion hv
          · exfalso; cases kd <;> first | exact Bool.noConfusion hn1 | exact Bool.noConfusion hv
        have hb := num_val hn1 hv
        have hlo : -999999999999999999 ≤ kd.lo ∧ kd.lo ≤ kd.hi ∧ kd.hi ≤ 999999999999999999 := by
          cases kd with
          | int lo hi => exact ho
          | dec lo hi p => exact ho.1
          | _ => cases hn1
        dsimp only [tRet, tAndV, tOrV, tNotV, tNot, tAnd, tOr, tCB, tCons, tNil, tC, tVar, tOp, tUn, tTest, tB, tIfS, tSeq, tNext, tDrop, tAsg, gName, tIf, tChain, tCallS, tTup, tLst, rI0, rI, rU, rEq, rNe, tSl, tPart, tNoPart, rIxT, rIxS, rSlS, rIn, tIf, tPar, tM1, tMkSup, tDGet, sDPut, rIxL, tDisp, tPairs, rIx, CwR.tReplC, rNewStrs, tDNewK]
        refine ⟨_, rfl, _, rfl, _, _, _, _, rfl, rfl, SqT.of ha', atI_nat (j := 1) rfl, _, _, rfl, rfl, _, rfl, _, _, _, _, rfl, rfl, SqT.of ha', atI_nat (j := 2) rfl, _, _, rfl, rfl, _, rfl, .inl ⟨i, rfl, Nat.lt_of_lt_of_le (PySem.Flt.log2_lt_of (k := 60) (by decide) (by omega)) (by decide), ?_⟩⟩
        refine ⟨by show 4 ≤ sizeLine; decide, fun L2 hL2 => ⟨L, L2, xs, _, rfl, rfl, (Same.put hL2) _ _ (s2 _ _ eL), upd_same, by rw [l7, sizeLine_eq]; show 7 + 4 ≤ _; omega, fun p hp => ?_⟩⟩
        have s13 := s12.trans ((Same.put (o := .lst [.int (kd.lo - 1), .int (kd.hi + 1), .bl true, .str (toString i)]) hL2).trans (Same.put (o := .lst (xs ++ [.int (kd.lo - 1), .int (kd.hi + 1), .bl true, .str (toString i)])) hp))
        refine hN _ _ ⟨p, xs ++ [.int (kd.lo - 1), .int (kd.hi + 1), .bl true, .str (toString i)], rfl, s13, upd_same, by rw [List.length_append]; omega, by rw [List.length_append, l7]; show 7 + 4 ≤ 20; omega, fun x hx => ?_⟩
        rcases List.mem_append.mp hx with hx | hx
        · exact (hxs x hx).same (s2.trans ((Same.put hL2).trans (Same.put hp)))
        rcases List.mem_cons.mp hx with rfl | hx
        · exact .fl (rp_int (by omega)) (num_no hn1 fun j e => by cases e; omega) (fun z e => by cases e)
        rcases List.mem_cons.mp hx with rfl | hx
        · exact .fl (rp_int (by omega)) (num_no hn1 fun j e => by cases e; omega) (fun z e => by cases e)
        rcases List.mem_cons.mp hx with rfl | hx
        · exact .fl (.bl true) (num_no hn1 fun j e => by cases e) (fun z e => by cases e)
        rcases List.mem_cons.mp hx with rfl | hx
        · have es : (Str.ofString (toString i)) = ofL (decL 0 i) := str_int i
          have gd := dec_gd (p := 0) (by omega) hi
          rw [es]
          exact .fl (rp_str (good_lt gd.2) (by omega)) (num_no hn1 fun j e => by cases e) (fun z e => by cases e; omega)
        · cases hx
    rintro σ' H2 ⟨L, xs, rfl, s2, eL, l1, l20, hxs⟩
    show tSeq _ _ _ _ _
    dsimp only [tRet, tAndV, tOrV, tNotV, tNot, tAnd, tOr, tCB, tCons, tNil, tC, tVar, tOp, tUn, tTest, tB, tIfS, tSeq, tNext, tDrop, tAsg, gName, tIf, tChain, tCallS, tTup, tLst, rI0, rI, rU, rEq, rNe, tSl, tPart, tNoPart, rIxT, rIxS, rSlS, rIn, tIf, tPar, tM1, tMkSup, tDGet, sDPut, rIxL, tDisp, tPairs, rIx, CwR.tReplC, rNewStrs, tDNewK]
    refine ⟨_, rfl, _, rfl, m, _, xs, n, rfl, .inl ⟨L, rfl, .inl eL⟩, l1, by omega, hM.same s2, by omega, fun x H3 hx c3 M3 => ⟨_, _, rfl, ?_⟩⟩
    have hth := (hxs x hx).ch (hM.same s2) c3
    have c13 : Ch m H H3 := (Ch.of s2).trans c3
    have hk3 : kd.At H3 a := hk.ch hM c13
    refine ⟨_, rfl, _, rfl, a, kd, x, rfl, hk3, ho, hth.tk, hth.len, (fun e => by rw [hth.no] at e; cases e), fun _ d H4 s4 ed => ?_⟩
    refine ⟨eB, fun e he => ⟨_, rfl, ?_⟩⟩
    dsimp only [tRet, tAndV, tOrV, tNotV, tNot, tAnd, tOr, tCB, tCons, tNil, tC, tVar, tOp, tUn, tTest, tB, tIfS, tSeq, tNext, tDrop, tAsg, gName, tIf, tChain, tCallS, tTup, tLst, rI0, rI, rU, rEq, rNe, tSl, tPart, tNoPart, rIxT, rIxS, rSlS, rIn, tIf, tPar, tM1, tMkSup, tDGet, sDPut, rIxL, tDisp, tPairs, rIx, CwR.tReplC, rNewStrs, tDNewK]
    have s5 : Same H3 (upd H4 e (exK (.ref CV) (some d) e)) := s4.trans (Same.put he)
    have nd : d ≠ e := ne_of_none ed he
    have ed5 : (upd H4 e (exK (.ref CV) (some d) e)) d = some (.xd [("value", x)]) := (upd_ne nd).trans ed
    have ee5 : (upd H4 e (exK (.ref CV) (some d) e)) e = some (exK (.ref CV) (some d) e) := upd_same
    generalize upd H4 e (exK (.ref CV) (some d) e) = H5 at *
    have h5 := hth.same s5
    refine ⟨_, rfl, e, d, _, rfl, ee5, ed5, _, rfl, iT rfl ?_⟩
    intro g
    obtain ⟨tx, htx⟩ := h5.rp g
    dsimp only [tRet, tAndV, tOrV, tNotV, tNot, tAnd, tOr, tCB, tCons, tNil, tC, tVar, tOp, tUn, tTest, tB, tIfS, tSeq, tNext, tDrop, tAsg, gName, tIf, tChain, tCallS, tTup, tLst, rI0, rI, rU, rEq, rNe, tSl, tPart, tNoPart, rIxT, rIxS, rSlS, rIn, tIf, tPar, tM1, tMkSup, tDGet, sDPut, rIxL, tDisp, tPairs, rIx, CwR.tReplC, rNewStrs, tDNewK]
    refine ⟨_, rfl, e, d, _, x, rfl, ee5, ed5, rfl, x, tx, rfl, htx, _, rfl, x, tx, rfl, htx, rfl, ?_⟩
    rw [decide_eq_true rfl]
    exact k _ (c13.trans (Ch.of s5)) ((M3.same s5).up (by omega))
end
end K5
set_option Elab.async false
set_option maxRecDepth 100000
set_option maxHeartbeats 4000000
/-! law -/
namespace K5
open PySem PySem.Spec PyProof.Rows L2 TL NumText
section
variable {P : Program} {w : World} {K : PySem.W.Frag} {mg : Str → Option Value} {base : Heap}
theorem sc_Law : FnScope ["_law_cells", "_law_m", "_law_turn", "_law_own", "_law_k", "_law_value_so"] ["_law_cells"] (defScope sLaw) := ⟨rfl, rfl, rfl, by decide +kernel, rfl, by decide +kernel, by decide +kernel⟩
theorem ok_law {f : Addr} {fd : FuncData} (B : Blt mg) (FD : FunD K "law" "law" (defArgs sLaw) (defBody sLaw) (defScope sLaw) [] [] f fd)
    (D_law_begun : ∀ sc0 : Addr, Df P w K mg base CX0 1 "_law_begun" ["_law_cells"] (spBegun K sc0))
    (D_law_kind : ∀ sc0 : Addr, Df P w K mg base CX0 3 "_law_kind" ["_law_m"] (spKindM K sc0))
    (D_law_value : ∀ sc0 : Addr, Df P w K mg base CX0 3 "_law_value" ["_law_m", "_law_own"] (spValueM K sc0))
    (D_law_refused_right : ∀ sc0 : Addr, Df P w K mg base CX0 8 "_law_refused_right" ["_law_m", "_law_own", "_law_value_so"] (spRefused K sc0))
    (D_law_big_kind : ∀ sc0 : Addr, Df P w K mg base CX0 3 "_law_big_kind" ["_law_m"] (spBig K sc0))
    (D_law_number_text : ∀ sc0 : Addr, Df P w K mg base CX0 3 "_law_number_text" ["_law_m"] (spNumText K sc0))
    (d_law_value_right : Df P w K mg base CX0 8 "_law_value_right" ["_law_own", "_law_value_so"] spValueRight)
    (d_law_text_right : Df P w K mg base CX0 8 "_law_text_right" ["_law_own", "_law_text"] spTextRight) : FnOk P w K mg base CX0 9 f fd ["_law_cells"] (spLaw K) := by
  refine FD.ok sc_Law (fun vs H Q E h => ?_) (fun cdv A outer s H vs Q E hr h => ?_)
  · obtain ⟨a, ns, rfl, _⟩ := h
    rfl
  · obtain ⟨a, ns, rfl, hS, hl, k⟩ := h
    have sc := sc_Law
    have d_law_begun := D_law_begun a
    have d_law_kind := D_law_kind a
    have d_law_value := D_law_value a
    have d_law_refused_right := D_law_refused_right a
    have d_law_big_kind := D_law_big_kind a
    have d_law_number_text := D_law_number_text a
    suffices g : ∃ t, PSs (cxOf CX0 P w K mg base ["_law_cells", "_law_m", "_law_turn", "_law_own", "_law_k", "_law_value_so"] "law" (defScope sLaw) f cdv A outer s H E).nox (defBody sLaw) t ∧ t { nx := fun _ H' => Q .non H', rt := Q } (start ["_law_cells", "_law_m", "_law_turn", "_law_own", "_law_k", "_law_value_so"] [.ref a]) H by
      obtain ⟨t, ht, hq⟩ := g
      exact ⟨t, ht.nox, hq⟩
    refine ⟨_, (pss_cons (ps_set (i := 1) sc.nd rfl (Or.inl rfl) (pe_d0 d_law_begun hr rfl (by decide) (pa_cons (pv 0) pa_nil)))
      (pss_cons (ps_for PassesOwn.never rfl (pi_range1 rfl B.range_ (pa_cons (pe_op op_add pe_int (pe_op op_mulW pe_int (pe_callB (call_min2 rfl) rfl B.min_ bo_min (pa_cons pe_int (pa_cons (pe_callB call_len rfl B.len_ bo_len (pa_cons (pv 0) pa_nil)) pa_nil))))) pa_nil)) (pg_name (i := 2) sc.nd rfl (Or.inl rfl)) (pss_cons (ps_set (i := 3) sc.nd rfl (Or.inl rfl) (pe_d0 d_law_kind hr rfl (by decide) (pa_cons (pv 1) pa_nil)))
      (pss_cons (ps_for PassesOwn.never rfl (pi_range1 rfl B.range_ (pa_cons pe_int pa_nil)) (pg_name (i := 4) sc.nd rfl (Or.inl rfl)) (pss_cons (ps_set (i := 5) sc.nd rfl (Or.inl rfl) (pe_d0 d_law_value hr rfl (by decide) (pa_cons (pv 1) (pa_cons (pv 3) pa_nil))))
      (pss_one (ps_if (PW.pt (pw_or (pt_not (pt_val (pe_d0 d_law_value_right hr rfl (by decide) (pa_cons (pv 3) (pa_cons (pv 5) pa_nil))))) (pw_or1 (pt_not (pt_val (pe_d0 d_law_refused_right hr rfl (by decide) (pa_cons (pv 1) (pa_cons (pv 3) (pa_cons (pv 5) pa_nil))))))))) (pss_one (ps_ret pe_bl)) pss_nil))))
      (pss_cons (ps_set (i := 3) sc.nd rfl (Or.inl rfl) (pe_d0 d_law_big_kind hr rfl (by decide) (pa_cons (pv 1) pa_nil)))
      (pss_one (ps_for PassesOwn.never rfl (pi_range1 rfl B.range_ (pa_cons pe_int pa_nil)) (pg_name (i := 4) sc.nd rfl (Or.inl rfl)) (pss_one (ps_if (pt_not (pt_val (pe_d0 d_law_text_right hr rfl (by decide) (pa_cons (pv 3) (pa_cons (pe_d0 d_law_number_text hr rfl (by decide) (pa_cons (pv 1) pa_nil)) pa_nil))))) (pss_one (ps_ret pe_bl)) pss_nil))))))))
      (pss_one (ps_ret pe_bl)))), ?_⟩
    dsimp only [tRet, tAndV, tOrV, tNotV, tNot, tAnd, tOr, tCB, tCons, tNil, tC, tVar, tOp, tUn, tTest, tB, tIfS, tSeq, tNext, tDrop, tAsg, gName, tIf, tChain, tCallS, tTup, tLst, rI0, rI, rU, rEq, rNe, tSl, tPart, tNoPart, rIxT, rIxS, rSlS, rIn, tIf, tPar, tM1, tMkSup, tDGet, sDPut, rIxL, tDisp, tPairs, rIx, CwR.tReplC, rNewStrs, tDNewK]
    refine ⟨_, rfl, ns, rfl, hS, hl, fun m H1 s1 M1 => ?_⟩
    have hS1 := s1.seq hS
    have hml : (ns.map V.int).length = ns.length := List.length_map ..
    refine ⟨_, rfl, _, _, rfl, .inl ⟨_, hS1, rfl⟩, _, _, rfl, _, _, rfl, rfl, wide_mul (a := 10) (b := 10) (by decide) (by split <;> omega) (by decide) (by decide) (by decide), _, _, rfl, rfl, _, rfl, by split <;> omega, by split <;> omega, ?_⟩
    refine for_it walk_range (fun i σ' H' => ∃ t o kk v, σ' = [some (.ref a), some (.ref m), t, o, kk, v] ∧ MAt K a H' m (1000 * (i : Nat))) ⟨none, none, none, none, rfl, M1.up (by omega)⟩ (fun _ _ _ _ _ => trivial) ?_ ?_
    · rintro i x σ' H2 H2' hi ⟨t, o, kk, vv, rfl, M2⟩ ⟨rfl, rfl⟩
      have hi2 : i ≤ 42 := by split at hi <;> omega
      dsimp only [gName]
      dsimp only [tRet, tAndV, tOrV, tNotV, tNot, tAnd, tOr, tCB, tCons, tNil, tC, tVar, tOp, tUn, tTest, tB, tIfS, tSeq, tNext, tDrop, tAsg, gName, tIf, tChain, tCallS, tTup, tLst, rI0, rI, rU, rEq, rNe, tSl, tPart, tNoPart, rIxT, rIxS, rSlS, rIn, tIf, tPar, tM1, tMkSup, tDGet, sDPut, rIxL, tDisp, tPairs, rIx, CwR.tReplC, rNewStrs, tDNewK]
      refine ⟨_, rfl, m, _, rfl, M2, by omega, fun kd a' H3 ho hk c3 M3 => ?_⟩
      refine ⟨_, rfl, by omega, by omega, ?_⟩
      refine for_it walk_range (fun j σ' H' => ∃ kk v, σ' = [some (.ref a), some (.ref m), some (.int (0 + (i : Nat))), some (.ref a'), kk, v] ∧ kd.At H' a' ∧ MAt K a H' m (1000 * (i : Nat) + 50 + 100 * (j : Nat))) ⟨kk, vv, rfl, hk, M3.up (by omega)⟩ (fun _ _ _ _ _ => trivial) ?_ ?_
      · rintro j x σ' H4 H4' hj ⟨kk, vv, rfl, hk4, M4⟩ ⟨rfl, rfl⟩
        have hj2 : j < 3 := hj
        dsimp only [gName]
        dsimp only [tRet, tAndV, tOrV, tNotV, tNot, tAnd, tOr, tCB, tCons, tNil, tC, tVar, tOp, tUn, tTest, tB, tIfS, tSeq, tNext, tDrop, tAsg, gName, tIf, tChain, tCallS, tTup, tLst, rI0, rI, rU, rEq, rNe, tSl, tPart, tNoPart, rIxT, rIxS, rSlS, rIn, tIf, tPar, tM1, tMkSup, tDGet, sDPut, rIxL, tDisp, tPairs, rIx, CwR.tReplC, rNewStrs, tDNewK]
        refine ⟨_, rfl, _, rfl, m, a', kd, _, rfl, hk4, ho, M4, by omega, fun v H5 hv c5 M5 => ?_⟩
        have hk5 := hk4.ch M4 c5
        refine ⟨_, rfl, _, rfl, a', kd, v, rfl, hk5, ho, hv, fun H6 s6 => ⟨_, rfl, iF rfl ?_⟩⟩
        have hk6 := hk5.same s6
        have M6 := M5.same s6
        refine ⟨_, rfl, _, rfl, _, rfl, m, a', kd, v, _, rfl, hk6, ho, hv, M6, by omega, fun H7 c7 M7 => ⟨_, rfl, iF rfl ?_⟩⟩
        exact ⟨_, _, rfl, hk6.ch M6 c7, M7.up (by omega)⟩
      · rintro σ' H4 ⟨kk, vv, rfl, hk4, M4⟩
        dsimp only [tRet, tAndV, tOrV, tNotV, tNot, tAnd, tOr, tCB, tCons, tNil, tC, tVar, tOp, tUn, tTest, tB, tIfS, tSeq, tNext, tDrop, tAsg, gName, tIf, tChain, tCallS, tTup, tLst, rI0, rI, rU, rEq, rNe, tSl, tPart, tNoPart, rIxT, rIxS, rSlS, rIn, tIf, tPar, tM1, tMkSup, tDGet, sDPut, rIxL, tDisp, tPairs, rIx, CwR.tReplC, rNewStrs, tDNewK]
        refine ⟨_, rfl, m, _, rfl, M4, by omega, fun kd a'' H5 hn ho hk c5 M5 => ?_⟩
        refine ⟨_, rfl, by omega, by omega, ?_⟩
        refine for_it walk_range (fun j σ' H' => ∃ kk v, σ' = [some (.ref a), some (.ref m), some (.int (0 + (i : Nat))), some (.ref a''), kk, v] ∧ kd.At H' a'' ∧ MAt K a H' m (1000 * (i : Nat) + 400 + 50 * (j : Nat))) ⟨kk, vv, rfl, hk, M5.up (by show _ + 50 + 100 * ((3 : Int).toNat : Int) + 50 ≤ _; omega)⟩ (fun _ _ _ _ _ => trivial) ?_ ?_
        · rintro j x σ' H6 H6' hj ⟨kk, vv, rfl, hk6, M6⟩ ⟨rfl, rfl⟩
          have hj2 : j < 4 := hj
          dsimp only [gName]
          dsimp only [tRet, tAndV, tOrV, tNotV, tNot, tAnd, tOr, tCB, tCons, tNil, tC, tVar, tOp, tUn, tTest, tB, tIfS, tSeq, tNext, tDrop, tAsg, gName, tIf, tChain, tCallS, tTup, tLst, rI0, rI, rU, rEq, rNe, tSl, tPart, tNoPart, rIxT, rIxS, rSlS, rIn, tIf, tPar, tM1, tMkSup, tDGet, sDPut, rIxL, tDisp, tPairs, rIx, CwR.tReplC, rNewStrs, tDNewK]
          refine ⟨_, rfl, _, rfl, m, _, rfl, M6, by omega, fun z H7 lz gz c7 M7 => ?_⟩
          refine ⟨a'', kd, z, rfl, hn, hk6.ch M6 c7, ho, lz, gz, fun H8 s8 => ⟨_, rfl, iF rfl ?_⟩⟩
          exact ⟨_, _, rfl, (hk6.ch M6 c7).same s8, (M7.same s8).up (by omega)⟩
        · rintro σ' H6 ⟨kk, vv, rfl, hk6, M6⟩
          exact ⟨_, _, _, _, rfl, M6.up (by show _ + 400 + 50 * ((4 : Int).toNat : Int) ≤ _; omega)⟩
    · rintro σ' H2 ⟨t, o, kk, vv, rfl, M2⟩
      exact k _
end
end K5
set_option Elab.async false
set_option maxRecDepth 100000
set_option maxHeartbeats 4000000
/-! what the top has written -/
namespace K5
open PySem PySem.Spec PyProof.Rows L2
theorem fdm {K : PySem.W.Frag} {x qual : Str} {st : Stmt} {f : Addr} {oc : Value} {od an : Option Addr} {osl : Array (Option Value)} {kV doc pm cdv ct : Value} (l : K.lookup f = some ⟨oc, od, .func (PySem.W.fnOf x qual (defArgs st) (defBody st) (defScope st) .none kV doc pm an cdv ct), osl⟩)
    (c : PySem.W.codeIn K cdv qual = true) (k : PySem.W.keepIn K (.ref f) = true) : FunD K x qual (defArgs st) (defBody st) (defScope st) [] [] f (PySem.W.fnOf x qual (defArgs st) (defBody st) (defScope st) .none kV doc pm an cdv ct) :=
  ⟨⟨oc, od, .none, kV, doc, pm, an, cdv, ct, osl, rfl, l, c, .inl ⟨rfl, rfl⟩, .inl rfl⟩, k⟩
structure Facts (P : Program) (K : PySem.W.Frag) (mg : Str → Option Value) (aM CB CV CU fV fU : Addr) : Prop where
  b : Blt mg
  m : Mon K mg aM
  v : SupC P K mg "BadValue" "value" CV fV
  u : SupC P K mg "Unfit" "cause" CU fU
  xv : ExcC K CV
  gB : mg "BulkError" = some (.ref CB)
  eB : PySem.W.exmOne K (.ref CV) (.ref CB) = some true
  eU : PySem.W.exmOne K (.ref CU) (.ref CU) = some true
  nV : PySem.W.findIn K (.ref CV) "value" = some none
  d_is_integer : Fd K mg "is_integer" sIsInt ["value"]
  d_is_between : Fd K mg "is_between" sIsBtw ["value", "least", "most"]
  d_is_sign : Fd K mg "is_sign" sIsSign ["sign"]
  d_is_text : Fd K mg "is_text" sIsText ["value", "least", "most"]
  d_check_text : Fd K mg "check_text" sChkText ["value"]
  d_are_bounds : Fd K mg "are_bounds" sBounds ["low", "high"]
  d_are_words : Fd K mg "are_words" sWords ["value"]
  d_is_kind : Fd K mg "is_kind" sIsKind ["value"]
  d_check_kind : Fd K mg "check_kind" sChkKind ["value"]
  d_is_value : Fd K mg "is_value" sIsValue ["kind", "value"]
  d_are_digits : Fd K mg "are_digits" sDigits ["text"]
  d_number_of : Fd K mg "number_of" sNumber ["kind", "text"]
  d_days_before : Fd K mg "days_before" sDaysB ["year"]
  d_days_in : Fd K mg "days_in" sDaysIn ["year", "month"]
  d_day_of : Fd K mg "day_of" sDayOf ["text"]
  d_filled : Fd K mg "filled" sFilled ["number", "width"]
  d_day_text : Fd K mg "day_text" sDayText ["number"]
  d_decimal_text : Fd K mg "decimal_text" sDecText ["value", "places"]
  d_convert : Fd K mg "convert" sConvert ["kind", "text"]
  d_show : Fd K mg "show" sShow ["kind", "value"]
  d_law_begun : Fd K mg "_law_begun" sBegun ["_law_cells"]
  d_law_next : Fd K mg "_law_next" sNext ["_law_m", "_law_total"]
  d_law_of : Fd K mg "_law_of" sOf ["_law_m", "_law_items"]
  d_law_kind : Fd K mg "_law_kind" sKindM ["_law_m"]
  d_law_value : Fd K mg "_law_value" sValueM ["_law_m", "_law_own"]
  d_law_big_kind : Fd K mg "_law_big_kind" sBig ["_law_m"]
  d_law_number_text : Fd K mg "_law_number_text" sNumText ["_law_m"]
  d_law_same : Fd K mg "_law_same" sSameT ["_law_own", "_law_shown"]
  d_law_value_right : Fd K mg "_law_value_right" sValueR ["_law_own", "_law_value_so"]
  d_law_text_right : Fd K mg "_law_text_right" sTextR ["_law_own", "_law_text"]
  d_law_refused_right : Fd K mg "_law_refused_right" sRefused ["_law_m", "_law_own", "_law_value_so"]
  lw : ∃ f fd, mg "law" = some (.ref f) ∧ FunD K "law" "law" (defArgs sLaw) (defBody sLaw) (defScope sLaw) [] [] f fd ∧ ∀ (s : Shared) (v : Value), BindsTo s fd ⟨[v], []⟩ [("_law_cells", v)]
theorem facts_mk {l : PySem.W.OpenLaw} {K : PySem.W.Frag} {h : Heap} {mg : Str → Option Value} {f0 f1 f2 f3 f4 f5 f6 f7 f8 f9 f10 f11 f12 f13 f14 f15 f16 f17 f18 f19 f20 f21 f22 f23 f24 f25 f26 f27 f28 f29 f30 f31 aM CB CV CU iV iU cdaV cdaU ccV ccU NV NU : Addr} (X : K.In h) (G : h.Ns mainGlobals mg)
  {od0 an0 : Option Addr} {sl0 : Array (Option Value)} {oc0 kV0 dc0 pm0 cd0 ct0 : Value}
  {od1 an1 : Option Addr} {sl1 : Array (Option Value)} {oc1 kV1 dc1 pm1 cd1 ct1 : Value}
  {od2 an2 : Option Addr} {sl2 : Array (Option Value)} {oc2 kV2 dc2 pm2 cd2 ct2 : Value}
  {od3 an3 odT : Option Addr} {sl3 slT : Array (Option Value)} {oc3 kV3 dc3 pm3 cd3 ct3 ocT : Value} {nT : Nat} {tT1 tT2 : Tok} {dT : Addr}
  {od4 an4 : Option Addr} {sl4 : Array (Option Value)} {oc4 kV4 dc4 pm4 cd4 ct4 : Value}
  {od5 an5 : Option Addr} {sl5 : Array (Option Value)} {oc5 kV5 dc5 pm5 cd5 ct5 : Value}
  {od6 an6 : Option Addr} {sl6 : Array (Option Value)} {oc6 kV6 dc6 pm6 cd6 ct6 : Value}
  {od7 an7 : Option Addr} {sl7 : Array (Option Value)} {oc7 kV7 dc7 pm7 cd7 ct7 : Value}
  {od8 an8 : Option Addr} {sl8 : Array (Option Value)} {oc8 kV8 dc8 pm8 cd8 ct8 : Value}
  {od9 an9 : Option Addr} {sl9 : Array (Option Value)} {oc9 kV9 dc9 pm9 cd9 ct9 : Value}
  {od10 an10 : Option Addr} {sl10 : Array (Option Value)} {oc10 kV10 dc10 pm10 cd10 ct10 : Value}
  {od11 an11 : Option Addr} {sl11 : Array (Option Value)} {oc11 kV11 dc11 pm11 cd11 ct11 : Value}
  {od12 an12 : Option Addr} {sl12 : Array (Option Value)} {oc12 kV12 dc12 pm12 cd12 ct12 : Value}
  {od13 an13 : Option Addr} {sl13 : Array (Option Value)} {oc13 kV13 dc13 pm13 cd13 ct13 : Value}
  {od14 an14 : Option Addr} {sl14 : Array (Option Value)} {oc14 kV14 dc14 pm14 cd14 ct14 : Value}
  {od15 an15 : Option Addr} {sl15 : Array (Option Value)} {oc15 kV15 dc15 pm15 cd15 ct15 : Value}
  {od16 an16 : Option Addr} {sl16 : Array (Option Value)} {oc16 kV16 dc16 pm16 cd16 ct16 : Value}
  {od17 an17 : Option Addr} {sl17 : Array (Option Value)} {oc17 kV17 dc17 pm17 cd17 ct17 : Value}
  {od18 an18 : Option Addr} {sl18 : Array (Option Value)} {oc18 kV18 dc18 pm18 cd18 ct18 : Value}
  {od19 an19 : Option Addr} {sl19 : Array (Option Value)} {oc19 kV19 dc19 pm19 cd19 ct19 : Value}
  {od20 an20 : Option Addr} {sl20 : Array (Option Value)} {oc20 kV20 dc20 pm20 cd20 ct20 : Value}
  {od21 an21 : Option Addr} {sl21 : Array (Option Value)} {oc21 kV21 dc21 pm21 cd21 ct21 : Value}
  {od22 an22 : Option Addr} {sl22 : Array (Option Value)} {oc22 kV22 dc22 pm22 cd22 ct22 : Value}
  {od23 an23 : Option Addr} {sl23 : Array (Option Value)} {oc23 kV23 dc23 pm23 cd23 ct23 : Value}
  {od24 an24 : Option Addr} {sl24 : Array (Option Value)} {oc24 kV24 dc24 pm24 cd24 ct24 : Value}
  {od25 an25 : Option Addr} {sl25 : Array (Option Value)} {oc25 kV25 dc25 pm25 cd25 ct25 : Value}
  {od26 an26 : Option Addr} {sl26 : Array (Option Value)} {oc26 kV26 dc26 pm26 cd26 ct26 : Value}
  {od27 an27 : Option Addr} {sl27 : Array (Option Value)} {oc27 kV27 dc27 pm27 cd27 ct27 : Value}
  {od28 an28 : Option Addr} {sl28 : Array (Option Value)} {oc28 kV28 dc28 pm28 cd28 ct28 : Value}
  {od29 an29 : Option Addr} {sl29 : Array (Option Value)} {oc29 kV29 dc29 pm29 cd29 ct29 : Value}
  {od30 an30 : Option Addr} {sl30 : Array (Option Value)} {oc30 kV30 dc30 pm30 cd30 ct30 : Value}
  {od31 an31 : Option Addr} {sl31 : Array (Option Value)} {oc31 kV31 dc31 pm31 cd31 ct31 : Value}
  {t_MOST_DIGITS : Tok}
  {t_MOST_NUMBER : Tok}
  {t_MOST_PLACES : Tok}
  {t_MOST_LETTERS : Tok}
  {t_MOST_WORDS : Tok}
  {t_MOST_WORD : Tok}
  {t_MOST_TEXT : Tok}
  {t_BARRED : Tok}
  {t_LAST_DAY : Tok}
  {t_DIGITS : Tok}
  {odM : Option Addr} {slM : Array (Option Value)} {nM : Nat} {u0 u1 u2 u3 u4 u5 u6 u7 u8 u9 u10 u11 : Tok}
  {oclB : Value} {odB : Option Addr} {cdB : ClassData} {oslB : Array (Option Value)}
  {nmV qV : Str} {bsV bmV : List Value} {snV : List Str} {subV : List Value} {abV : Bool} {colV : Option Bool} {ddV : Option Addr} {m0V m1V m2V m3V m5V : Option Value}
  {odIV anIV : Option Addr} {slIV : Array (Option Value)} {ocIV kVIV dcIV pmIV ctIV : Value} {cclV : Value} {cddV : Option Addr} {vsV : Array Value} {ccsV : Array (Option Value)} {fileV : Str} {tfV : Tok} {clV : Value} {cldV : Option Addr} {cslV : Array (Option Value)} {msgV : Str} {p1V p2V q1V q2V q3V q4V q5V q6V q7V q8V q9V q0V : Pos}
  {nmU qU : Str} {bsU bmU : List Value} {snU : List Str} {subU : List Value} {abU : Bool} {colU : Option Bool} {ddU : Option Addr} {m0U m1U m2U m3U m5U : Option Value}
  {odIU anIU : Option Addr} {slIU : Array (Option Value)} {ocIU kVIU dcIU pmIU ctIU : Value} {cclU : Value} {cddU : Option Addr} {vsU : Array Value} {ccsU : Array (Option Value)} {fileU : Str} {tfU : Tok} {clU : Value} {cldU : Option Addr} {cslU : Array (Option Value)} {msgU : Str} {p1U p2U q1U q2U q3U q4U q5U q6U q7U q8U q9U q0U : Pos}
  (a0 : PySem.W.nsIn K mainGlobals "is_integer" = some (some (.ref f0)))
  (l0 : K.lookup f0 = some ⟨oc0, od0, .func (PySem.W.fnOf "is_integer" "is_integer" (defArgs sIsInt) (defBody sIsInt) (defScope sIsInt) .none kV0 dc0 pm0 an0 cd0 ct0), sl0⟩)
  (c0 : PySem.W.codeIn K cd0 "is_integer" = true)
  (k0 : PySem.W.keepIn K (.ref f0) = true)
  (a1 : PySem.W.nsIn K mainGlobals "is_between" = some (some (.ref f1)))
  (l1 : K.lookup f1 = some ⟨oc1, od1, .func (PySem.W.fnOf "is_between" "is_between" (defArgs sIsBtw) (defBody sIsBtw) (defScope sIsBtw) .none kV1 dc1 pm1 an1 cd1 ct1), sl1⟩)
  (c1 : PySem.W.codeIn K cd1 "is_between" = true)
  (k1 : PySem.W.keepIn K (.ref f1) = true)
  (a2 : PySem.W.nsIn K mainGlobals "is_sign" = some (some (.ref f2)))
  (l2 : K.lookup f2 = some ⟨oc2, od2, .func (PySem.W.fnOf "is_sign" "is_sign" (defArgs sIsSign) (defBody sIsSign) (defScope sIsSign) .none kV2 dc2 pm2 an2 cd2 ct2), sl2⟩)
  (c2 : PySem.W.codeIn K cd2 "is_sign" = true)
  (k2 : PySem.W.keepIn K (.ref f2) = true)
  (a3 : PySem.W.nsIn K mainGlobals "is_text" = some (some (.ref f3)))
  (l3 : K.lookup f3 = some ⟨oc3, od3, .func (PySem.W.fnOf "is_text" "is_text" (defArgs sIsText) (defBody sIsText) (defScope sIsText) (.ref dT) kV3 dc3 pm3 an3 cd3 ct3), sl3⟩)
  (lT : K.lookup dT = some ⟨ocT, odT, .seq #[.int 0 tT1, .int 20000 tT2] nT, slT⟩)
  (c3 : PySem.W.codeIn K cd3 "is_text" = true)
  (k3 : PySem.W.keepIn K (.ref f3) = true)
  (a4 : PySem.W.nsIn K mainGlobals "check_text" = some (some (.ref f4)))
  (l4 : K.lookup f4 = some ⟨oc4, od4, .func (PySem.W.fnOf "check_text" "check_text" (defArgs sChkText) (defBody sChkText) (defScope sChkText) .none kV4 dc4 pm4 an4 cd4 ct4), sl4⟩)
  (c4 : PySem.W.codeIn K cd4 "check_text" = true)
  (k4 : PySem.W.keepIn K (.ref f4) = true)
  (a5 : PySem.W.nsIn K mainGlobals "are_bounds" = some (some (.ref f5)))
  (l5 : K.lookup f5 = some ⟨oc5, od5, .func (PySem.W.fnOf "are_bounds" "are_bounds" (defArgs sBounds) (defBody sBounds) (defScope sBounds) .none kV5 dc5 pm5 an5 cd5 ct5), sl5⟩)
  (c5 : PySem.W.codeIn K cd5 "are_bounds" = true)
  (k5 : PySem.W.keepIn K (.ref f5) = true)
  (a6 : PySem.W.nsIn K mainGlobals "are_words" = some (some (.ref f6)))
  (l6 : K.lookup f6 = some ⟨oc6, od6, .func (PySem.W.fnOf "are_words" "are_words" (defArgs sWords) (defBody sWords) (defScope sWords) .none kV6 dc6 pm6 an6 cd6 ct6), sl6⟩)
  (c6 : PySem.W.codeIn K cd6 "are_words" = true)
  (k6 : PySem.W.keepIn K (.ref f6) = true)
  (a7 : PySem.W.nsIn K mainGlobals "is_kind" = some (some (.ref f7)))
  (l7 : K.lookup f7 = some ⟨oc7, od7, .func (PySem.W.fnOf "is_kind" "is_kind" (defArgs sIsKind) (defBody sIsKind) (defScope sIsKind) .none kV7 dc7 pm7 an7 cd7 ct7), sl7⟩)
  (c7 : PySem.W.codeIn K cd7 "is_kind" = true)
  (k7 : PySem.W.keepIn K (.ref f7) = true)
  (a8 : PySem.W.nsIn K mainGlobals "check_kind" = some (some (.ref f8)))
  (l8 : K.lookup f8 = some ⟨oc8, od8, .func (PySem.W.fnOf "check_kind" "check_kind" (defArgs sChkKind) (defBody sChkKind) (defScope sChkKind) .none kV8 dc8 pm8 an8 cd8 ct8), sl8⟩)
  (c8 : PySem.W.codeIn K cd8 "check_kind" = true)
  (k8 : PySem.W.keepIn K (.ref f8) = true)
  (a9 : PySem.W.nsIn K mainGlobals "is_value" = some (some (.ref f9)))
  (l9 : K.lookup f9 = some ⟨oc9, od9, .func (PySem.W.fnOf "is_value" "is_value" (defArgs sIsValue) (defBody sIsValue) (defScope sIsValue) .none kV9 dc9 pm9 an9 cd9 ct9), sl9⟩)
  (c9 : PySem.W.codeIn K cd9 "is_value" = true)
  (k9 : PySem.W.keepIn K (.ref f9) = true)
  (a10 : PySem.W.nsIn K mainGlobals "are_digits" = some (some (.ref f10)))
  (l10 : K.lookup f10 = some ⟨oc10, od10, .func (PySem.W.fnOf "are_digits" "are_digits" (defArgs sDigits) (defBody sDigits) (defScope sDigits) .none kV10 dc10 pm10 an10 cd10 ct10), sl10⟩)
  (c10 : PySem.W.codeIn K cd10 "are_digits" = true)
  (k10 : PySem.W.keepIn K (.ref f10) = true)
  (a11 : PySem.W.nsIn K mainGlobals "number_of" = some (some (.ref f11)))
  (l11 : K.lookup f11 = some ⟨oc11, od11, .func (PySem.W.fnOf "number_of" "number_of" (defArgs sNumber) (defBody sNumber) (defScope sNumber) .none kV11 dc11 pm11 an11 cd11 ct11), sl11⟩)
  (c11 : PySem.W.codeIn K cd11 "number_of" = true)
  (k11 : PySem.W.keepIn K (.ref f11) = true)
  (a12 : PySem.W.nsIn K mainGlobals "days_before" = some (some (.ref f12)))
  (l12 : K.lookup f12 = some ⟨oc12, od12, .func (PySem.W.fnOf "days_before" "days_before" (defArgs sDaysB) (defBody sDaysB) (defScope sDaysB) .none kV12 dc12 pm12 an12 cd12 ct12), sl12⟩)
  (c12 : PySem.W.codeIn K cd12 "days_before" = true)
  (k12 : PySem.W.keepIn K (.ref f12) = true)
  (a13 : PySem.W.nsIn K mainGlobals "days_in" = some (some (.ref f13)))
  (l13 : K.lookup f13 = some ⟨oc13, od13, .func (PySem.W.fnOf "days_in" "days_in" (defArgs sDaysIn) (defBody sDaysIn) (defScope sDaysIn) .none kV13 dc13 pm13 an13 cd13 ct13), sl13⟩)
  (c13 : PySem.W.codeIn K cd13 "days_in" = true)
  (k13 : PySem.W.keepIn K (.ref f13) = true)
  (a14 : PySem.W.nsIn K mainGlobals "day_of" = some (some (.ref f14)))
  (l14 : K.lookup f14 = some ⟨oc14, od14, .func (PySem.W.fnOf "day_of" "day_of" (defArgs sDayOf) (defBody sDayOf) (defScope sDayOf) .none kV14 dc14 pm14 an14 cd14 ct14), sl14⟩)
  (c14 : PySem.W.codeIn K cd14 "day_of" = true)
  (k14 : PySem.W.keepIn K (.ref f14) = true)
  (a15 : PySem.W.nsIn K mainGlobals "filled" = some (some (.ref f15)))
  (l15 : K.lookup f15 = some ⟨oc15, od15, .func (PySem.W.fnOf "filled" "filled" (defArgs sFilled) (defBody sFilled) (defScope sFilled) .none kV15 dc15 pm15 an15 cd15 ct15), sl15⟩)
  (c15 : PySem.W.codeIn K cd15 "filled" = true)
  (k15 : PySem.W.keepIn K (.ref f15) = true)
  (a16 : PySem.W.nsIn K mainGlobals "day_text" = some (some (.ref f16)))
  (l16 : K.lookup f16 = some ⟨oc16, od16, .func (PySem.W.fnOf "day_text" "day_text" (defArgs sDayText) (defBody sDayText) (defScope sDayText) .none kV16 dc16 pm16 an16 cd16 ct16), sl16⟩)
  (c16 : PySem.W.codeIn K cd16 "day_text" = true)
  (k16 : PySem.W.keepIn K (.ref f16) = true)
  (a17 : PySem.W.nsIn K mainGlobals "decimal_text" = some (some (.ref f17)))
  (l17 : K.lookup f17 = some ⟨oc17, od17, .func (PySem.W.fnOf "decimal_text" "decimal_text" (defArgs sDecText) (defBody sDecText) (defScope sDecText) .none kV17 dc17 pm17 an17 cd17 ct17), sl17⟩)
  (c17 : PySem.W.codeIn K cd17 "decimal_text" = true)
  (k17 : PySem.W.keepIn K (.ref f17) = true)
  (a18 : PySem.W.nsIn K mainGlobals "convert" = some (some (.ref f18)))
  (l18 : K.lookup f18 = some ⟨oc18, od18, .func (PySem.W.fnOf "convert" "convert" (defArgs sConvert) (defBody sConvert) (defScope sConvert) .none kV18 dc18 pm18 an18 cd18 ct18), sl18⟩)
  (c18 : PySem.W.codeIn K cd18 "convert" = true)
  (k18 : PySem.W.keepIn K (.ref f18) = true)
  (a19 : PySem.W.nsIn K mainGlobals "show" = some (some (.ref f19)))
  (l19 : K.lookup f19 = some ⟨oc19, od19, .func (PySem.W.fnOf "show" "show" (defArgs sShow) (defBody sShow) (defScope sShow) .none kV19 dc19 pm19 an19 cd19 ct19), sl19⟩)
  (c19 : PySem.W.codeIn K cd19 "show" = true)
  (k19 : PySem.W.keepIn K (.ref f19) = true)
  (a20 : PySem.W.nsIn K mainGlobals "_law_begun" = some (some (.ref f20)))
  (l20 : K.lookup f20 = some ⟨oc20, od20, .func (PySem.W.fnOf "_law_begun" "_law_begun" (defArgs sBegun) (defBody sBegun) (defScope sBegun) .none kV20 dc20 pm20 an20 cd20 ct20), sl20⟩)
  (c20 : PySem.W.codeIn K cd20 "_law_begun" = true)
  (k20 : PySem.W.keepIn K (.ref f20) = true)
  (a21 : PySem.W.nsIn K mainGlobals "_law_next" = some (some (.ref f21)))
  (l21 : K.lookup f21 = some ⟨oc21, od21, .func (PySem.W.fnOf "_law_next" "_law_next" (defArgs sNext) (defBody sNext) (defScope sNext) .none kV21 dc21 pm21 an21 cd21 ct21), sl21⟩)
  (c21 : PySem.W.codeIn K cd21 "_law_next" = true)
  (k21 : PySem.W.keepIn K (.ref f21) = true)
  (a22 : PySem.W.nsIn K mainGlobals "_law_of" = some (some (.ref f22)))
  (l22 : K.lookup f22 = some ⟨oc22, od22, .func (PySem.W.fnOf "_law_of" "_law_of" (defArgs sOf) (defBody sOf) (defScope sOf) .none kV22 dc22 pm22 an22 cd22 ct22), sl22⟩)
  (c22 : PySem.W.codeIn K cd22 "_law_of" = true)
  (k22 : PySem.W.keepIn K (.ref f22) = true)
  (a23 : PySem.W.nsIn K mainGlobals "_law_kind" = some (some (.ref f23)))
  (l23 : K.lookup f23 = some ⟨oc23, od23, .func (PySem.W.fnOf "_law_kind" "_law_kind" (defArgs sKindM) (defBody sKindM) (defScope sKindM) .none kV23 dc23 pm23 an23 cd23 ct23), sl23⟩)
  (c23 : PySem.W.codeIn K cd23 "_law_kind" = true)
  (k23 : PySem.W.keepIn K (.ref f23) = true)
  (a24 : PySem.W.nsIn K mainGlobals "_law_value" = some (some (.ref f24)))
  (l24 : K.lookup f24 = some ⟨oc24, od24, .func (PySem.W.fnOf "_law_value" "_law_value" (defArgs sValueM) (defBody sValueM) (defScope sValueM) .none kV24 dc24 pm24 an24 cd24 ct24), sl24⟩)
  (c24 : PySem.W.codeIn K cd24 "_law_value" = true)
  (k24 : PySem.W.keepIn K (.ref f24) = true)
  (a25 : PySem.W.nsIn K mainGlobals "_law_big_kind" = some (some (.ref f25)))
  (l25 : K.lookup f25 = some ⟨oc25, od25, .func (PySem.W.fnOf "_law_big_kind" "_law_big_kind" (defArgs sBig) (defBody sBig) (defScope sBig) .none kV25 dc25 pm25 an25 cd25 ct25), sl25⟩)
  (c25 : PySem.W.codeIn K cd25 "_law_big_kind" = true)
  (k25 : PySem.W.keepIn K (.ref f25) = true)
  (a26 : PySem.W.nsIn K mainGlobals "_law_number_text" = some (some (.ref f26)))
  (l26 : K.lookup f26 = some ⟨oc26, od26, .func (PySem.W.fnOf "_law_number_text" "_law_number_text" (defArgs sNumText) (defBody sNumText) (defScope sNumText) .none kV26 dc26 pm26 an26 cd26 ct26), sl26⟩)
  (c26 : PySem.W.codeIn K cd26 "_law_number_text" = true)
  (k26 : PySem.W.keepIn K (.ref f26) = true)
  (a27 : PySem.W.nsIn K mainGlobals "_law_same" = some (some (.ref f27)))
  (l27 : K.lookup f27 = some ⟨oc27, od27, .func (PySem.W.fnOf "_law_same" "_law_same" (defArgs sSameT) (defBody sSameT) (defScope sSameT) .none kV27 dc27 pm27 an27 cd27 ct27), sl27⟩)
  (c27 : PySem.W.codeIn K cd27 "_law_same" = true)
  (k27 : PySem.W.keepIn K (.ref f27) = true)
  (a28 : PySem.W.nsIn K mainGlobals "_law_value_right" = some (some (.ref f28)))
  (l28 : K.lookup f28 = some ⟨oc28, od28, .func (PySem.W.fnOf "_law_value_right" "_law_value_right" (defArgs sValueR) (defBody sValueR) (defScope sValueR) .none kV28 dc28 pm28 an28 cd28 ct28), sl28⟩)
  (c28 : PySem.W.codeIn K cd28 "_law_value_right" = true)
  (k28 : PySem.W.keepIn K (.ref f28) = true)
  (a29 : PySem.W.nsIn K mainGlobals "_law_text_right" = some (some (.ref f29)))
  (l29 : K.lookup f29 = some ⟨oc29, od29, .func (PySem.W.fnOf "_law_text_right" "_law_text_right" (defArgs sTextR) (defBody sTextR) (defScope sTextR) .none kV29 dc29 pm29 an29 cd29 ct29), sl29⟩)
  (c29 : PySem.W.codeIn K cd29 "_law_text_right" = true)
  (k29 : PySem.W.keepIn K (.ref f29) = true)
  (a30 : PySem.W.nsIn K mainGlobals "_law_refused_right" = some (some (.ref f30)))
  (l30 : K.lookup f30 = some ⟨oc30, od30, .func (PySem.W.fnOf "_law_refused_right" "_law_refused_right" (defArgs sRefused) (defBody sRefused) (defScope sRefused) .none kV30 dc30 pm30 an30 cd30 ct30), sl30⟩)
  (c30 : PySem.W.codeIn K cd30 "_law_refused_right" = true)
  (k30 : PySem.W.keepIn K (.ref f30) = true)
  (a31 : PySem.W.nsIn K mainGlobals "law" = some (some (.ref f31)))
  (l31 : K.lookup f31 = some ⟨oc31, od31, .func (PySem.W.fnOf "law" "law" (defArgs sLaw) (defBody sLaw) (defScope sLaw) .none kV31 dc31 pm31 an31 cd31 ct31), sl31⟩)
  (c31 : PySem.W.codeIn K cd31 "law" = true)
  (k31 : PySem.W.keepIn K (.ref f31) = true)
  (g_MOST_DIGITS : PySem.W.nsIn K mainGlobals "MOST_DIGITS" = some (some (.int 18 t_MOST_DIGITS)))
  (g_MOST_NUMBER : PySem.W.nsIn K mainGlobals "MOST_NUMBER" = some (some (.int 999999999999999999 t_MOST_NUMBER)))
  (g_MOST_PLACES : PySem.W.nsIn K mainGlobals "MOST_PLACES" = some (some (.int 9 t_MOST_PLACES)))
  (g_MOST_LETTERS : PySem.W.nsIn K mainGlobals "MOST_LETTERS" = some (some (.int 1000 t_MOST_LETTERS)))
  (g_MOST_WORDS : PySem.W.nsIn K mainGlobals "MOST_WORDS" = some (some (.int 20 t_MOST_WORDS)))
  (g_MOST_WORD : PySem.W.nsIn K mainGlobals "MOST_WORD" = some (some (.int 20 t_MOST_WORD)))
  (g_MOST_TEXT : PySem.W.nsIn K mainGlobals "MOST_TEXT" = some (some (.int 20000 t_MOST_TEXT)))
  (g_BARRED : PySem.W.nsIn K mainGlobals "BARRED" = some (some (.int 37 t_BARRED)))
  (g_LAST_DAY : PySem.W.nsIn K mainGlobals "LAST_DAY" = some (some (.int 3652059 t_LAST_DAY)))
  (g_DIGITS : PySem.W.nsIn K mainGlobals "DIGITS" = some (some (.str "0123456789" t_DIGITS)))
  (z_isinstance : PySem.W.nsIn K mainGlobals "isinstance" = some none)
  (z_int : PySem.W.nsIn K mainGlobals "int" = some none)
  (z_bool : PySem.W.nsIn K mainGlobals "bool" = some none)
  (z_str : PySem.W.nsIn K mainGlobals "str" = some none)
  (z_tuple : PySem.W.nsIn K mainGlobals "tuple" = some none)
  (z_len : PySem.W.nsIn K mainGlobals "len" = some none)
  (z_ord : PySem.W.nsIn K mainGlobals "ord" = some none)
  (z_all : PySem.W.nsIn K mainGlobals "all" = some none)
  (z_sum : PySem.W.nsIn K mainGlobals "sum" = some none)
  (z_sorted : PySem.W.nsIn K mainGlobals "sorted" = some none)
  (z_max : PySem.W.nsIn K mainGlobals "max" = some none)
  (z_min : PySem.W.nsIn K mainGlobals "min" = some none)
  (z_range : PySem.W.nsIn K mainGlobals "range" = some none)
  (z_enumerate : PySem.W.nsIn K mainGlobals "enumerate" = some none)
  (z_repr : PySem.W.nsIn K mainGlobals "repr" = some none)
  (z_super : PySem.W.nsIn K mainGlobals "super" = some none)
  (g_MONTHS : PySem.W.nsIn K mainGlobals "MONTHS" = some (some (.ref aM)))
  (lM : K.lookup aM = some ⟨.type "tuple", odM, .seq #[.int 31 u0, .int 28 u1, .int 31 u2, .int 30 u3, .int 31 u4, .int 30 u5, .int 31 u6, .int 31 u7, .int 30 u8, .int 31 u9, .int 30 u10, .int 31 u11] nM, slM⟩)
  (aB : PySem.W.nsIn K mainGlobals "BulkError" = some (some (.ref CB)))
  (xB : K.lookup CB = some ⟨oclB, odB, .cls cdB, oslB⟩)
  (iB : PySem.W.findIn K (.ref CB) "__init__" = some (some (.builtin "ValueError.__init__")))
  (aCV : PySem.W.nsIn K mainGlobals "BadValue" = some (some (.ref CV)))
  (xLV : K.lookup CV = some (PySem.excClassObj nmV qV CV NV bsV bmV true snV subV abV colV ddV m0V m1V m2V m3V m5V "ValueError.__new__"))
  (rvV : PySem.HandSPX.refsVE bmV = true)
  (mBV : cdB.mro = bmV)
  (saV : PySem.W.findIn K (.ref CV) "__setattr__" = some (some (.builtin "object.__setattr__")))
  (gaV : PySem.W.findIn K (.ref CV) "__getattribute__" = some (some (.builtin "BaseException.__getattribute__")))
  (ggV : PySem.W.findIn K (.ref CV) "__getattr__" = some none)
  (nbV : PySem.W.findIn K (.ref CV) "value" = some none)
  (i1V : PySem.W.findIn K (.ref CV) "__init__" = some (some (.ref iV)))
  (tiV : PySem.W.typeIn K (.ref iV) = some (.type "function"))
  (lIV : K.lookup iV = some ⟨ocIV, odIV, .func (PySem.W.ksFn "__init__" "BadValue.__init__" (K5.sA "value" p1V p2V) (K5.sB "value" msgV q1V q2V q3V q4V q5V q6V q7V q8V q9V q0V) (K5.sS "value") .none kVIV dcIV pmIV anIV (.ref cdaV) ctIV ccV), slIV⟩)
  (cIV : PySem.W.codeIn K (.ref cdaV) "BadValue.__init__" = true)
  (cfV : K.lookup cdaV = some ⟨cclV, cddV, .fields vsV, ccsV⟩)
  (cgV : vsV[2]? = some (.str fileV tfV))
  (chV : ((l.prog.main.file : Str) == fileV) = true)
  (ccVl : K.lookup ccV = some ⟨clV, cldV, .cell (some (.ref CV)), cslV⟩)
  (scV : K5.SupCall msgV q1V q2V q3V q4V q5V)
  (kCV : PySem.W.keepIn K (.ref CV) = true)
  (eCV : PySem.W.subIn K (.ref CV) (.type "BaseException") = some true)
  (vCV : PySem.W.subIn K (.ref CV) (.type "ValueError") = some true)
  (slV : PySem.W.mroIn K CV (.ref CV) = some true)
  (tCV : PySem.W.typeIn K (.ref CV) = some (.type "type"))
  (hCV : PySem.W.hasDictIn K CV = true)
  (aCU : PySem.W.nsIn K mainGlobals "Unfit" = some (some (.ref CU)))
  (xLU : K.lookup CU = some (PySem.excClassObj nmU qU CU NU bsU bmU true snU subU abU colU ddU m0U m1U m2U m3U m5U "ValueError.__new__"))
  (rvU : PySem.HandSPX.refsVE bmU = true)
  (mBU : cdB.mro = bmU)
  (saU : PySem.W.findIn K (.ref CU) "__setattr__" = some (some (.builtin "object.__setattr__")))
  (gaU : PySem.W.findIn K (.ref CU) "__getattribute__" = some (some (.builtin "BaseException.__getattribute__")))
  (ggU : PySem.W.findIn K (.ref CU) "__getattr__" = some none)
  (nbU : PySem.W.findIn K (.ref CU) "cause" = some none)
  (i1U : PySem.W.findIn K (.ref CU) "__init__" = some (some (.ref iU)))
  (tiU : PySem.W.typeIn K (.ref iU) = some (.type "function"))
  (lIU : K.lookup iU = some ⟨ocIU, odIU, .func (PySem.W.ksFn "__init__" "Unfit.__init__" (K5.sA "cause" p1U p2U) (K5.sB "cause" msgU q1U q2U q3U q4U q5U q6U q7U q8U q9U q0U) (K5.sS "cause") .none kVIU dcIU pmIU anIU (.ref cdaU) ctIU ccU), slIU⟩)
  (cIU : PySem.W.codeIn K (.ref cdaU) "Unfit.__init__" = true)
  (cfU : K.lookup cdaU = some ⟨cclU, cddU, .fields vsU, ccsU⟩)
  (cgU : vsU[2]? = some (.str fileU tfU))
  (chU : ((l.prog.main.file : Str) == fileU) = true)
  (ccUl : K.lookup ccU = some ⟨clU, cldU, .cell (some (.ref CU)), cslU⟩)
  (scU : K5.SupCall msgU q1U q2U q3U q4U q5U)
  (kCU : PySem.W.keepIn K (.ref CU) = true)
  (eCU : PySem.W.subIn K (.ref CU) (.type "BaseException") = some true)
  (vCU : PySem.W.subIn K (.ref CU) (.type "ValueError") = some true)
  (slU : PySem.W.mroIn K CU (.ref CU) = some true)
  (tCU : PySem.W.typeIn K (.ref CU) = some (.type "type"))
  (hCU : PySem.W.hasDictIn K CU = true)
  (opq : PySem.W.nsIn K cStatics "thirdparty.any" = some none)
  (ptop : (l.prog.main.scope.names.lookup ("super" : Str)).isSome = false)
  (xm : PySem.W.mroIn K CV (.type "object") = some true)
  (xa : PySem.W.findIn K (.ref CV) "__class__" = some (some (.builtin "object.__class__")))
  (xn : PySem.W.specialIn K (.builtin "object.__class__") "__get__" = some (some (.builtin "getset_descriptor.__get__")))
  (xt : PySem.W.takesIn K (.builtin "object.__class__") = some true)
  (bB : PySem.W.subIn K (.ref CB) (.type "BaseException") = some true)
  (hB : PySem.W.hasDictIn K CB = true)
  (tB : PySem.W.typeIn K (.ref CB) = some (.type "type"))
  (sVB : PySem.W.subIn K (.ref CV) (.ref CB) = some true)
  (sUU : PySem.W.subIn K (.ref CU) (.ref CU) = some true) :
    Facts l.prog K mg aM CB CV CU iV iU := by
  have g := fun {x : Str} {u : Value} (e : PySem.W.nsIn K mainGlobals x = some (some u)) => PySem.W.mg_of X G e
  have z := fun {x : Str} (e : PySem.W.nsIn K mainGlobals x = some none) => PySem.W.mg_none_of X G e
  have al : PySem.W.alongIn K "__init__" cdB.mro = some (some (.builtin "ValueError.__init__")) := by
    have e := iB
    unfold PySem.W.findIn at e
    simp only [xB] at e
    exact e
  have FT : FunD K "is_text" "is_text" (defArgs sIsText) (defBody sIsText) (defScope sIsText) [.int 0, .int 20000] [] f3 _ := ⟨⟨oc3, od3, .ref dT, kV3, dc3, pm3, an3, cd3, ct3, sl3, rfl, l3, c3, .inr ⟨by simp, dT, _, [.int 0 tT1, .int 20000 tT2], nT, rfl, lT, rfl, .cons ⟨_, rfl⟩ (.cons ⟨_, rfl⟩ .nil)⟩, .inl rfl⟩, k3⟩
  obtain ⟨dsT, rT, bT⟩ := FT.binds1 (ps := ["value", "least", "most"]) 3 2 (by simp) rfl fun T kV doc pm an cdv ct us its h1 h2 => match us, its, h1, h2 with | [_, _, _], [_, _], _, _ => ⟨_, rfl, rfl⟩
  cases rT
  refine { b := ?_, m := ⟨g g_MONTHS, fun H => .inr ⟨_, _, _, lM, rfl, rfl, by show 12 ≤ sizeLine; decide, ?_⟩⟩, v := ?_, u := ?_, xv := ⟨gaV, ggV, eCV, hCV, xa, xn, xt, xm⟩, gB := g aB, eB := PySem.W.exm_ref bB hB tB sVB, eU := PySem.W.exm_ref eCU hCU tCU sUU, nV := nbV, d_is_integer := ⟨_, _, [], fdm l0 c0 k0, g a0, (fdm (st := sIsInt) l0 c0 k0).bindsN fun _ _ _ _ _ _ us hl => match us, hl with | [_], _ => rfl⟩, d_is_between := ⟨_, _, [], fdm l1 c1 k1, g a1, (fdm (st := sIsBtw) l1 c1 k1).bindsN fun _ _ _ _ _ _ us hl => match us, hl with | [_, _, _], _ => rfl⟩, d_is_sign := ⟨_, _, [], fdm l2 c2 k2, g a2, (fdm (st := sIsSign) l2 c2 k2).bindsN fun _ _ _ _ _ _ us hl => match us, hl with | [_], _ => rfl⟩, d_is_text := ⟨_, _, _, FT, g a3, bT⟩, d_check_text := ⟨_, _, [], fdm l4 c4 k4, g a4, (fdm (st := sChkText) l4 c4 k4).bindsN fun _ _ _ _ _ _ us hl => match us, hl with | [_], _ => rfl⟩, d_are_bounds := ⟨_, _, [], fdm l5 c5 k5, g a5, (fdm (st := sBounds) l5 c5 k5).bindsN fun _ _ _ _ _ _ us hl => match us, hl with | [_, _], _ => rfl⟩, d_are_words := ⟨_, _, [], fdm l6 c6 k6, g a6, (fdm (st := sWords) l6 c6 k6).bindsN fun _ _ _ _ _ _ us hl => match us, hl with | [_], _ => rfl⟩, d_is_kind := ⟨_, _, [], fdm l7 c7 k7, g a7, (fdm (st := sIsKind) l7 c7 k7).bindsN fun _ _ _ _ _ _ us hl => match us, hl with | [_], _ => rfl⟩, d_check_kind := ⟨_, _, [], fdm l8 c8 k8, g a8, (fdm (st := sChkKind) l8 c8 k8).bindsN fun _ _ _ _ _ _ us hl => match us, hl with | [_], _ => rfl⟩, d_is_value := ⟨_, _, [], fdm l9 c9 k9, g a9, (fdm (st := sIsValue) l9 c9 k9).bindsN fun _ _ _ _ _ _ us hl => match us, hl with | [_, _], _ => rfl⟩, d_are_digits := ⟨_, _, [], fdm l10 c10 k10, g a10, (fdm (st := sDigits) l10 c10 k10).bindsN fun _ _ _ _ _ _ us hl => match us, hl with | [_], _ => rfl⟩, d_number_of := ⟨_, _, [], fdm l11 c11 k11, g a11, (fdm (st := sNumber) l11 c11 k11).bindsN fun _ _ _ _ _ _ us hl => match us, hl with | [_, _], _ => rfl⟩, d_days_before := ⟨_, _, [], fdm l12 c12 k12, g a12, (fdm (st := sDaysB) l12 c12 k12).bindsN fun _ _ _ _ _ _ us hl => match us, hl with | [_], _ => rfl⟩, d_days_in := ⟨_, _, [], fdm l13 c13 k13, g a13, (fdm (st := sDaysIn) l13 c13 k13).bindsN fun _ _ _ _ _ _ us hl => match us, hl with | [_, _], _ => rfl⟩, d_day_of := ⟨_, _, [], fdm l14 c14 k14, g a14, (fdm (st := sDayOf) l14 c14 k14).bindsN fun _ _ _ _ _ _ us hl => match us, hl with | [_], _ => rfl⟩, d_filled := ⟨_, _, [], fdm l15 c15 k15, g a15, (fdm (st := sFilled) l15 c15 k15).bindsN fun _ _ _ _ _ _ us hl => match us, hl with | [_, _], _ => rfl⟩, d_day_text := ⟨_, _, [], fdm l16 c16 k16, g a16, (fdm (st := sDayText) l16 c16 k16).bindsN fun _ _ _ _ _ _ us hl => match us, hl with | [_], _ => rfl⟩, d_decimal_text := ⟨_, _, [], fdm l17 c17 k17, g a17, (fdm (st := sDecText) l17 c17 k17).bindsN fun _ _ _ _ _ _ us hl => match us, hl with | [_, _], _ => rfl⟩, d_convert := ⟨_, _, [], fdm l18 c18 k18, g a18, (fdm (st := sConvert) l18 c18 k18).bindsN fun _ _ _ _ _ _ us hl => match us, hl with | [_, _], _ => rfl⟩, d_show := ⟨_, _, [], fdm l19 c19 k19, g a19, (fdm (st := sShow) l19 c19 k19).bindsN fun _ _ _ _ _ _ us hl => match us, hl with | [_, _], _ => rfl⟩, d_law_begun := ⟨_, _, [], fdm l20 c20 k20, g a20, (fdm (st := sBegun) l20 c20 k20).bindsN fun _ _ _ _ _ _ us hl => match us, hl with | [_], _ => rfl⟩, d_law_next := ⟨_, _, [], fdm l21 c21 k21, g a21, (fdm (st := sNext) l21 c21 k21).bindsN fun _ _ _ _ _ _ us hl => match us, hl with | [_, _], _ => rfl⟩, d_law_of := ⟨_, _, [], fdm l22 c22 k22, g a22, (fdm (st := sOf) l22 c22 k22).bindsN fun _ _ _ _ _ _ us hl => match us, hl with | [_, _], _ => rfl⟩, d_law_kind := ⟨_, _, [], fdm l23 c23 k23, g a23, (fdm (st := sKindM) l23 c23 k23).bindsN fun _ _ _ _ _ _ us hl => match us, hl with | [_], _ => rfl⟩, d_law_value := ⟨_, _, [], fdm l24 c24 k24, g a24, (fdm (st := sValueM) l24 c24 k24).bindsN fun _ _ _ _ _ _ us hl => match us, hl with | [_, _], _ => rfl⟩, d_law_big_kind := ⟨_, _, [], fdm l25 c25 k25, g a25, (fdm (st := sBig) l25 c25 k25).bindsN fun _ _ _ _ _ _ us hl => match us, hl with | [_], _ => rfl⟩, d_law_number_text := ⟨_, _, [], fdm l26 c26 k26, g a26, (fdm (st := sNumText) l26 c26 k26).bindsN fun _ _ _ _ _ _ us hl => match us, hl with | [_], _ => rfl⟩, d_law_same := ⟨_, _, [], fdm l27 c27 k27, g a27, (fdm (st := sSameT) l27 c27 k27).bindsN fun _ _ _ _ _ _ us hl => match us, hl with | [_, _], _ => rfl⟩, d_law_value_right := ⟨_, _, [], fdm l28 c28 k28, g a28, (fdm (st := sValueR) l28 c28 k28).bindsN fun _ _ _ _ _ _ us hl => match us, hl with | [_, _], _ => rfl⟩, d_law_text_right := ⟨_, _, [], fdm l29 c29 k29, g a29, (fdm (st := sTextR) l29 c29 k29).bindsN fun _ _ _ _ _ _ us hl => match us, hl with | [_, _], _ => rfl⟩, d_law_refused_right := ⟨_, _, [], fdm l30 c30 k30, g a30, (fdm (st := sRefused) l30 c30 k30).bindsN fun _ _ _ _ _ _ us hl => match us, hl with | [_, _, _], _ => rfl⟩, lw := ⟨_, _, g a31, fdm l31 c31 k31, fun s v => (fdm (st := sLaw) l31 c31 k31).bindsA (ps := ["_law_cells"]) (fun _ _ _ _ _ _ us hl => match us, hl with | [_], _ => rfl) s [v] rfl⟩ }
  · exact { isinstance_ := z z_isinstance, int_ := z z_int, bool_ := z z_bool, str_ := z z_str, tuple_ := z z_tuple, len_ := z z_len, ord_ := z z_ord, all_ := z z_all, sum_ := z z_sum, sorted_ := z z_sorted, max_ := z z_max, min_ := z z_min, range_ := z z_range, enumerate_ := z z_enumerate, repr_ := z z_repr, MOST_DIGITS := ⟨_, g g_MOST_DIGITS⟩, MOST_NUMBER := ⟨_, g g_MOST_NUMBER⟩, MOST_PLACES := ⟨_, g g_MOST_PLACES⟩, MOST_LETTERS := ⟨_, g g_MOST_LETTERS⟩, MOST_WORDS := ⟨_, g g_MOST_WORDS⟩, MOST_WORD := ⟨_, g g_MOST_WORD⟩, MOST_TEXT := ⟨_, g g_MOST_TEXT⟩, BARRED := ⟨_, g g_BARRED⟩, LAST_DAY := ⟨_, g g_LAST_DAY⟩, DIGITS := ⟨_, g g_DIGITS⟩ }
  · exact .cons ⟨_, rfl⟩ (.cons ⟨_, rfl⟩ (.cons ⟨_, rfl⟩ (.cons ⟨_, rfl⟩ (.cons ⟨_, rfl⟩ (.cons ⟨_, rfl⟩ (.cons ⟨_, rfl⟩ (.cons ⟨_, rfl⟩ (.cons ⟨_, rfl⟩ (.cons ⟨_, rfl⟩ (.cons ⟨_, rfl⟩ (.cons ⟨_, rfl⟩ (.nil))))))))))))
  · exact { gC := g aCV, gS := z z_super, cls := ⟨_, _, _, _, _, _, _, _, _, _, _, _, _, _, _, xLV, rvV, mBV ▸ al⟩, sa := saV, ga := gaV, gg := ggV, noN := nbV, iC := i1V, tC := tiV, kC := kCV, exC := eCV, exV := vCV, slf := slV, tyC := tCV, hdC := hCV, opq := opq,
             fn := ⟨_, _, _, _, _, _, _, _, _, _, _, _, _, _, _, _, _, _, _, _, _, _, _, _, lIV, cIV, ⟨_, _, _, _, _, _, cfV, cgV, chV⟩, ⟨_, _, _, ccVl⟩, scV⟩, sw := fun _ _ _ _ _ => by rfl, ptop := ptop }
  · exact { gC := g aCU, gS := z z_super, cls := ⟨_, _, _, _, _, _, _, _, _, _, _, _, _, _, _, xLU, rvU, mBU ▸ al⟩, sa := saU, ga := gaU, gg := ggU, noN := nbU, iC := i1U, tC := tiU, kC := kCU, exC := eCU, exV := vCU, slf := slU, tyC := tCU, hdC := hCU, opq := opq,
             fn := ⟨_, _, _, _, _, _, _, _, _, _, _, _, _, _, _, _, _, _, _, _, _, _, _, _, lIU, cIU, ⟨_, _, _, _, _, _, cfU, cgU, chU⟩, ⟨_, _, _, ccUl⟩, scU⟩, sw := fun _ _ _ _ _ => by rfl, ptop := ptop }
end K5
set_option Elab.async false
set_option maxRecDepth 100000
namespace K5
open PySem PySem.Spec PyProof.Rows L2
theorem all_mk {l : PySem.W.OpenLaw} {w : World} {K : PySem.W.Frag} {mg : Str → Option Value} {fa aM CB CV CU fV fU : Addr} (Fx : Facts l.prog K mg aM CB CV CU fV fU) (hfa : mg "law" = some (.ref fa)) :
    ∃ fd : FuncData, (∀ (s : Shared) (v : Value), BindsTo s fd ⟨[v], []⟩ [("_law_cells", v)]) ∧ ∀ base : Heap, K.In base → base.Ns mainGlobals mg → FnOk l.prog w K mg base CX0 9 fa fd ["_law_cells"] (spLaw K) := by
  obtain ⟨f, fd, hm, FD, hB⟩ := Fx.lw
  have e := hfa.symm.trans hm
  cases e
  refine ⟨fd, hB, fun base hK hN => ?_⟩
  have e_is_integer := ok_is_integer (P := l.prog) (w := w) (K := K) (base := base)  Fx.b Fx.d_is_integer 
  have e_is_between := ok_is_between (P := l.prog) (w := w) (K := K) (base := base)  Fx.b Fx.d_is_between e_is_integer
  have e_is_sign := ok_is_sign (P := l.prog) (w := w) (K := K) (base := base)  Fx.b Fx.d_is_sign 
  have e_is_text := ok_is_text (P := l.prog) (w := w) (K := K) (base := base)  Fx.b Fx.d_is_text e_is_sign
  have e_check_text := ok_check_text (P := l.prog) (w := w) (K := K) (base := base)  Fx.b Fx.d_check_text e_is_sign
  have e_are_bounds := ok_are_bounds (P := l.prog) (w := w) (K := K) (base := base)  Fx.b Fx.d_are_bounds e_is_between
  have e_are_words := ok_are_words (P := l.prog) (w := w) (K := K) (base := base)  Fx.b Fx.d_are_words e_is_text
  have e_is_kind := ok_is_kind (P := l.prog) (w := w) (K := K) (base := base)  Fx.b Fx.d_is_kind e_is_between e_are_bounds e_are_words
  have e_check_kind := ok_check_kind (P := l.prog) (w := w) (K := K) (base := base)  Fx.b Fx.d_check_kind e_is_kind
  have e_is_value := ok_is_value (P := l.prog) (w := w) (K := K) (base := base)  Fx.b Fx.d_is_value e_is_between e_is_text e_check_kind
  have e_are_digits := ok_are_digits (P := l.prog) (w := w) (K := K) (base := base)  Fx.b Fx.d_are_digits 
  have e_number_of := ok_number_of (P := l.prog) (w := w) (K := K) (base := base) Fx.u Fx.b Fx.d_number_of e_are_digits
  have e_days_before := ok_days_before (P := l.prog) (w := w) (K := K) (base := base)  Fx.b Fx.d_days_before 
  have e_days_in := ok_days_in (P := l.prog) (w := w) (K := K) (base := base) Fx.m Fx.b Fx.d_days_in 
  have e_day_of := ok_day_of (P := l.prog) (w := w) (K := K) (base := base)  Fx.b Fx.d_day_of e_are_digits e_days_before e_days_in
  have e_filled := ok_filled (P := l.prog) (w := w) (K := K) (base := base)  Fx.b Fx.d_filled 
  have e_day_text := ok_day_text (P := l.prog) (w := w) (K := K) (base := base)  Fx.b Fx.d_day_text e_days_before e_days_in e_filled
  have e_decimal_text := ok_decimal_text (P := l.prog) (w := w) (K := K) (base := base)  Fx.b Fx.d_decimal_text e_filled
  have e_convert := ok_convert (P := l.prog) (w := w) (K := K) (base := base) Fx.u Fx.b Fx.d_convert e_check_text e_check_kind e_number_of e_day_of
  have e_show := ok_show (P := l.prog) (w := w) (K := K) (base := base) Fx.v Fx.b Fx.d_show e_is_value e_day_text e_decimal_text
  have e_law_begun := fun z : Addr => ok_law_begun (P := l.prog) (w := w) (K := K) (base := base) (sc0 := z)  Fx.b Fx.d_law_begun 
  have e_law_next := fun z : Addr => ok_law_next (P := l.prog) (w := w) (K := K) (base := base) (sc0 := z)  Fx.b Fx.d_law_next 
  have e_law_of := fun z : Addr => ok_law_of (P := l.prog) (w := w) (K := K) (base := base) (sc0 := z)  Fx.b Fx.d_law_of (e_law_next z)
  have e_law_kind := fun z : Addr => ok_law_kind (P := l.prog) (w := w) (K := K) (base := base) (sc0 := z)  Fx.b Fx.d_law_kind (e_law_next z) (e_law_of z)
  have e_law_value := fun z : Addr => ok_law_value (P := l.prog) (w := w) (K := K) (base := base) (sc0 := z)  Fx.b Fx.d_law_value (e_law_next z) (e_law_of z)
  have e_law_big_kind := fun z : Addr => ok_law_big_kind (P := l.prog) (w := w) (K := K) (base := base) (sc0 := z)  Fx.b Fx.d_law_big_kind (e_law_next z) (e_law_of z)
  have e_law_number_text := fun z : Addr => ok_law_number_text (P := l.prog) (w := w) (K := K) (base := base) (sc0 := z)  Fx.b Fx.d_law_number_text (e_law_next z) (e_law_of z)
  have e_law_same := ok_law_same (P := l.prog) (w := w) (K := K) (base := base)  Fx.b Fx.d_law_same 
  have e_law_value_right := ok_law_value_right (P := l.prog) (w := w) (K := K) (base := base) (CU := CU) (CV := CV)  Fx.b Fx.d_law_value_right e_convert e_show e_law_same
  have e_law_text_right := ok_law_text_right (P := l.prog) (w := w) (K := K) (base := base) Fx.b Fx.u.gC Fx.eU Fx.d_law_text_right e_convert e_show
  have e_law_refused_right := fun z : Addr => ok_law_refused_right (P := l.prog) (w := w) (K := K) (base := base) (sc0 := z) Fx.b Fx.gB Fx.v.gC Fx.eB Fx.xv Fx.nV Fx.d_law_refused_right e_show (e_law_of z)
  exact ok_law (P := l.prog) (w := w) (base := base) Fx.b FD e_law_begun e_law_kind e_law_value e_law_refused_right e_law_big_kind e_law_number_text e_law_value_right e_law_text_right
theorem walk {l : PySem.W.OpenLaw} {q : Program} {loose : List Str} {XP : (Str → Option Value) → Heap → Prop} {YP : World → Heap → Prop} {d : DefRec} {K : Params → PySem.W.Frag} (hn : l.most = some 63) (hdf : d.params.defaults = [])
    (hY : ∀ (w : World) (h : Heap), YP w h → (K w.params).In h)
    (F : ∀ (w : World) (mg : Str → Option Value) (fa : Addr) (h : Heap), (K w.params).In h → h.Ns mainGlobals mg → mg d.name = some (.ref fa) →
      ∃ fd : FuncData, (∀ (s : Shared) (u : Value), BindsTo s fd ⟨[u], []⟩ [("_law_cells", u)]) ∧ ∀ base : Heap, (K w.params).In base → base.Ns mainGlobals mg → FnOk l.prog w (K w.params) mg base CX0 9 fa fd ["_law_cells"] (spLaw (K w.params))) :
    PySem.W.WalkO q loose XP YP l.row.toRowW d [] (fun f vs => PySem.call f vs) :=
  L2.walk_of (n := 63) (k := 9) (x := "_law_cells") (CX := fun _ => CX0) (sp := fun w => spLaw (K w.params)) hn (by decide) hdf ⟨rfl, by decide, by decide⟩ hY F (fun _ _ a ns hl _ hS => ⟨a, ns, rfl, hS, hl, fun _ => rfl⟩) fun _ _ _ _ _ z => z
end K5
open PySem PySem.W PyProof.Rows in
set_option maxRecDepth 100000 in
set_option maxHeartbeats 0 in
theorem PySem.Challenge.cw_bulkload_k05_whole_shown_shortest_holds : PySem.Challenge.rw_bulkload_k05_whole_shown_shortest.Holds := by
  w_on; o_law; k_head; (case hw => w_witness2)
  k_fill
  refine K5.walk (l := PySem.Challenge.rw_bulkload_k05_whole_shown_shortest) rfl rfl (fun w h Y => PySem.W.kIn_of Y) ?F
  case F =>
    intro w mg fa h KX G hmg
    refine' K5.all_mk (l := PySem.Challenge.rw_bulkload_k05_whole_shown_shortest) (K5.facts_mk (l := PySem.Challenge.rw_bulkload_k05_whole_shown_shortest) KX G ?a0 ?l0 ?c0 ?k0 ?a1 ?l1 ?c1 ?k1 ?a2 ?l2 ?c2 ?k2 ?a3 ?l3 ?lT ?c3 ?k3 ?a4 ?l4 ?c4 ?k4 ?a5 ?l5 ?c5 ?k5 ?a6 ?l6 ?c6 ?k6 ?a7 ?l7 ?c7 ?k7 ?a8 ?l8 ?c8 ?k8 ?a9 ?l9 ?c9 ?k9 ?a10 ?l10 ?c10 ?k10 ?a11 ?l11 ?c11 ?k11 ?a12 ?l12 ?c12 ?k12 ?a13 ?l13 ?c13 ?k13 ?a14 ?l14 ?c14 ?k14 ?a15 ?l15 ?c15 ?k15 ?a16 ?l16 ?c16 ?k16 ?a17 ?l17 ?c17 ?k17 ?a18 ?l18 ?c18 ?k18 ?a19 ?l19 ?c19 ?k19 ?a20 ?l20 ?c20 ?k20 ?a21 ?l21 ?c21 ?k21 ?a22 ?l22 ?c22 ?k22 ?a23 ?l23 ?c23 ?k23 ?a24 ?l24 ?c24 ?k24 ?a25 ?l25 ?c25 ?k25 ?a26 ?l26 ?c26 ?k26 ?a27 ?l27 ?c27 ?k27 ?a28 ?l28 ?c28 ?k28 ?a29 ?l29 ?c29 ?k29 ?a30 ?l30 ?c30 ?k30 ?a31 ?l31 ?c31 ?k31 ?g_MOST_DIGITS ?g_MOST_NUMBER ?g_MOST_PLACES ?g_MOST_LETTERS ?g_MOST_WORDS ?g_MOST_WORD ?g_MOST_TEXT ?g_BARRED ?g_LAST_DAY ?g_DIGITS ?z_isinstance ?z_int ?z_bool ?z_str ?z_tuple ?z_len ?z_ord ?z_all ?z_sum ?z_sorted ?z_max ?z_min ?z_range ?z_enumerate ?z_repr ?z_super ?g_MONTHS ?lM ?aB ?xB ?iB ?aCV ?xLV ?rvV ?mBV ?saV ?gaV ?ggV ?nbV ?i1V ?tiV ?lIV ?cIV ?cfV ?cgV ?chV ?ccVl ?scV ?kCV ?eCV ?vCV ?slV ?tCV ?hCV ?aCU ?xLU ?rvU ?mBU ?saU ?gaU ?ggU ?nbU ?i1U ?tiU ?lIU ?cIU ?cfU ?cgU ?chU ?ccUl ?scU ?kCU ?eCU ?vCU ?slU ?tCU ?hCU ?opq ?ptop ?xm ?xa ?xn ?xt ?bB ?hB ?tB ?sVB ?sUU) hmg
    (case a0 => k_is)
    (case l0 => k_is)
    (case c0 => k_is)
    (case k0 => k_is)
    (case a1 => k_is)
    (case l1 => k_is)
    (case c1 => k_is)
    (case k1 => k_is)
    (case a2 => k_is)
    (case l2 => k_is)
    (case c2 => k_is)
    (case k2 => k_is)
    (case a3 => k_is)
    (case l3 => k_is)
    (case lT => k_is)
    (case c3 => k_is)
    (case k3 => k_is)
    (case a4 => k_is)
    (case l4 => k_is)
    (case c4 => k_is)
    (case k4 => k_is)
    (case a5 => k_is)
    (case l5 => k_is)
    (case c5 => k_is)
    (case k5 => k_is)
    (case a6 => k_is)
    (case l6 => k_is)
    (case c6 => k_is)
    (case k6 => k_is)
    (case a7 => k_is)
    (case l7 => k_is)
    (case c7 => k_is)
    (case k7 => k_is)
    (case a8 => k_is)
    (case l8 => k_is)
    (case c8 => k_is)
    (case k8 => k_is)
    (case a9 => k_is)
    (case l9 => k_is)
    (case c9 => k_is)
    (case k9 => k_is)
    (case a10 => k_is)
    (case l10 => k_is)
    (case c10 => k_is)
    (case k10 => k_is)
    (case a11 => k_is)
    (case l11 => k_is)
    (case c11 => k_is)
    (case k11 => k_is)
    (case a12 => k_is)
    (case l12 => k_is)
    (case c12 => k_is)
    (case k12 => k_is)
    (case a13 => k_is)
    (case l13 => k_is)
    (case c13 => k_is)
    (case k13 => k_is)
    (case a14 => k_is)
    (case l14 => k_is)
    (case c14 => k_is)
    (case k14 => k_is)
    (case a15 => k_is)
    (case l15 => k_is)
    (case c15 => k_is)
    (case k15 => k_is)
    (case a16 => k_is)
    (case l16 => k_is)
    (case c16 => k_is)
    (case k16 => k_is)
    (case a17 => k_is)
    (case l17 => k_is)
    (case c17 => k_is)
    (case k17 => k_is)
    (case a18 => k_is)
    (case l18 => k_is)
    (case c18 => k_is)
    (case k18 => k_is)
    (case a19 => k_is)
    (case l19 => k_is)
    (case c19 => k_is)
    (case k19 => k_is)
    (case a20 => k_is)
    (case l20 => k_is)
    (case c20 => k_is)
    (case k20 => k_is)
    (case a21 => k_is)
    (case l21 => k_is)
    (case c21 => k_is)
    (case k21 => k_is)
    (case a22 => k_is)
    (case l22 => k_is)
    (case c22 => k_is)
    (case k22 => k_is)
    (case a23 => k_is)
    (case l23 => k_is)
    (case c23 => k_is)
    (case k23 => k_is)
    (case a24 => k_is)
    (case l24 => k_is)
    (case c24 => k_is)
    (case k24 => k_is)
    (case a25 => k_is)
    (case l25 => k_is)
    (case c25 => k_is)
    (case k25 => k_is)
    (case a26 => k_is)
    (case l26 => k_is)
    (case c26 => k_is)
    (case k26 => k_is)
    (case a27 => k_is)
    (case l27 => k_is)
    (case c27 => k_is)
    (case k27 => k_is)
    (case a28 => k_is)
    (case l28 => k_is)
    (case c28 => k_is)
    (case k28 => k_is)
    (case a29 => k_is)
    (case l29 => k_is)
    (case c29 => k_is)
    (case k29 => k_is)
    (case a30 => k_is)
    (case l30 => k_is)
    (case c30 => k_is)
    (case k30 => k_is)
    (case a31 => k_is)
    (case l31 => k_is)
    (case c31 => k_is)
    (case k31 => k_is)
    (case g_MOST_DIGITS => k_is)
    (case g_MOST_NUMBER => k_is)
    (case g_MOST_PLACES => k_is)
    (case g_MOST_LETTERS => k_is)
    (case g_MOST_WORDS => k_is)
    (case g_MOST_WORD => k_is)
    (case g_MOST_TEXT => k_is)
    (case g_BARRED => k_is)
    (case g_LAST_DAY => k_is)
    (case g_DIGITS => k_is)
    (case z_isinstance => k_is)
    (case z_int => k_is)
    (case z_bool => k_is)
    (case z_str => k_is)
    (case z_tuple => k_is)
    (case z_len => k_is)
    (case z_ord => k_is)
    (case z_all => k_is)
    (case z_sum => k_is)
    (case z_sorted => k_is)
    (case z_max => k_is)
    (case z_min => k_is)
    (case z_range => k_is)
    (case z_enumerate => k_is)
    (case z_repr => k_is)
    (case z_super => k_is)
    (case g_MONTHS => k_is)
    (case lM => k_is)
    (case aB => k_is)
    (case xB => k_is)
    (case iB => k_is)
    (case aCV => k_is)
    (case xLV => k_is)
    (case rvV => first | rfl | decide | k_is)
    (case mBV => rfl)
    (case saV => k_is)
    (case gaV => k_is)
    (case ggV => k_is)
    (case nbV => k_is)
    (case i1V => k_is)
    (case tiV => k_is)
    (case lIV => k_is)
    (case cIV => k_is)
    (case cfV => k_is)
    (case cgV => rfl)
    (case chV => first | rfl | decide | k_is)
    (case ccVl => k_is)
    (case scV => exact fun env => ⟨_, rfl⟩)
    (case kCV => k_is)
    (case eCV => k_is)
    (case vCV => k_is)
    (case slV => k_is)
    (case tCV => k_is)
    (case hCV => k_is)
    (case aCU => k_is)
    (case xLU => k_is)
    (case rvU => first | rfl | decide | k_is)
    (case mBU => rfl)
    (case saU => k_is)
    (case gaU => k_is)
    (case ggU => k_is)
    (case nbU => k_is)
    (case i1U => k_is)
    (case tiU => k_is)
    (case lIU => k_is)
    (case cIU => k_is)
    (case cfU => k_is)
    (case cgU => rfl)
    (case chU => first | rfl | decide | k_is)
    (case ccUl => k_is)
    (case scU => exact fun env => ⟨_, rfl⟩)
    (case kCU => k_is)
    (case eCU => k_is)
    (case vCU => k_is)
    (case slU => k_is)
    (case tCU => k_is)
    (case hCU => k_is)
    (case opq => k_is)
    (case ptop => first | rfl | decide | k_is)
    (case xm => k_is)
    (case xa => k_is)
    (case xn => k_is)
    (case xt => k_is)
    (case bB => k_is)
    (case hB => k_is)
    (case tB => k_is)
    (case sVB => k_is)
    (case sUU => first | rfl | k_is)
