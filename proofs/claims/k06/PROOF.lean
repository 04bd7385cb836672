import PyProof.Rows.All
import Wide.All
import OpenK.AllK
import Wide.FinOn
import PySem.Challenge.RW_siftstore_k06_strings_of_any_form
import HandS.ForMost
import HandS.Set
import HandS.SetFor
import HandS.SetTxt0
import PyProof.Rows.SortShellAny
import KE.GoesEnum
import HandS.Walk
import HandS.Ends
import HandS.IsInst
import HandS.Dict
import PyProof.ReprLen
import HandS.Wide
import HandS.Steps
import KE.KIntText
import HandS.Evl
import HandS.Flow
import HandS.Conv
import HandS.ExcInit
import KE.KExcSuper
import HandS.WordsExc
import HandS.Replace
import HandS.Star
import HandS.Strs
import HandS.OwnEq
import HandS.TryOnly
import HandS.ExcField
import HandS.ExcIs
import KE.KExcIs
import HandS.Lambda
import HandS.EndOwn
import HandS.NestedK
import HandS.MakeKwOnly
import PyProof.StrBlock2
import HandS.NoneIn
import KE.KDictDisplayH
import HandS.RaiseMore
import HandS.Style
import HandS.Sort
import HandS.Text
import HandS.TupAny
set_option Elab.async false
set_option linter.all false
set_option maxRecDepth 100000
/-! Trees of pattern strings, and the reading of a string from the left as a relation (success alone). -/
namespace Sf4
/-- a tree, letters as codes -/
inductive Tr where
  | place (s : List Nat)
  | chain (l : List Tr)
  | choice (l : List Tr)
  | count (a : Nat) (b : Option Nat) (t : Tr)
  | capture (n : List Nat) (t : Tr)
  | empty
abbrev Nm := List (List Nat)
/-- from a place, with names, a tree is read; then the place behind it, and the names -/
abbrev Rel (α : Type) := Nat → Nm → α → Nat → Nm → Prop
def LETc : List Nat := [32, 48, 49, 50, 51, 52, 53, 54, 55, 56, 57, 95] ++ (List.range 26).map (· + 97)
def digit (c : Nat) : Prop := 48 ≤ c ∧ c ≤ 57
def small (c : Nat) : Prop := 97 ≤ c ∧ c ≤ 122
/-- the signs that one goes on in a chain with -/
def starts (Z : List Nat) (p : Nat) : Prop := ∃ c, Z[p]? = some c ∧ (c ∈ LETc ∨ c = 46 ∨ c = 91 ∨ c = 40 ∨ c = 60)
/-- a number written with one or two digits, at most 20 -/
inductive RNum (Z : List Nat) : Nat → Nat → Nat → Prop where
  | one {p c : Nat} : Z[p]? = some c → digit c → (∀ e, Z[p + 1]? = some e → ¬ digit e) → RNum Z p (c - 48) (p + 1)
  | two {p c d : Nat} : Z[p]? = some c → digit c → c ≠ 48 → Z[p + 1]? = some d → digit d → (∀ e, Z[p + 2]? = some e → ¬ digit e) → 10 * (c - 48) + (d - 48) ≤ 20 → RNum Z p (10 * (c - 48) + (d - 48)) (p + 2)
/-- what stands between brackets: letters alone (ranges and ^ are not told) -/
inductive RSome (Z : List Nat) : Nat → List Nat → Nat → Prop where
  | last {p c : Nat} : Z[p]? = some c → c ∈ LETc → Z[p + 1]? = some 93 → RSome Z p [c] (p + 2)
  | next {p c q : Nat} {s : List Nat} : Z[p]? = some c → c ∈ LETc → Z[p + 1]? ≠ some 45 → Z[p + 1]? ≠ some 93 → RSome Z (p + 1) s q → RSome Z p (c :: s) q
/-- a name: small letters up to the colon -/
inductive RName (Z : List Nat) : Nat → List Nat → Nat → Prop where
  | nil {p : Nat} : Z[p]? = some 58 → RName Z p [] p
  | cons {p c q : Nat} {s : List Nat} : Z[p]? = some c → small c → RName Z (p + 1) s q → RName Z p (c :: s) q
/-- a unit; C reads what stands within parentheses, if one may still open any -/
inductive RUnit (Z : List Nat) (can : Prop) (C : Rel Tr) : Rel Tr where
  | letter {p c : Nat} {nm : Nm} : Z[p]? = some c → c ∈ LETc → RUnit Z can C p nm (.place [c]) (p + 1) nm
  | dot {p : Nat} {nm : Nm} : Z[p]? = some 46 → RUnit Z can C p nm (.place LETc) (p + 1) nm
  | cls {p q : Nat} {s : List Nat} {nm : Nm} : Z[p]? = some 91 → Z[p + 1]? ≠ some 94 → RSome Z (p + 1) s q → RUnit Z can C p nm (.place (LETc.filter fun c => decide (c ∈ s))) q nm
  | nothing {p : Nat} {nm : Nm} : can → Z[p]? = some 40 → Z[p + 1]? = some 41 → RUnit Z can C p nm .empty (p + 2) nm
  | group {p q : Nat} {t : Tr} {nm nm' : Nm} : can → Z[p]? = some 40 → Z[p + 1]? ≠ some 41 → C (p + 1) nm t q nm' → Z[q]? = some 41 → RUnit Z can C p nm t (q + 1) nm'
  | capture {p q r : Nat} {n : List Nat} {t : Tr} {nm nm' : Nm} : can → Z[p]? = some 60 → RName Z (p + 1) n q → 1 ≤ n.length → n.length ≤ 8 → n ∉ nm → C (q + 1) (nm ++ [n]) t r nm' → Z[r]? = some 62 → RUnit Z can C p nm (.capture n t) (r + 1) nm'
def cnt : Nat → Option (Nat × Option Nat)
  | 42 => some (0, none)
  | 43 => some (1, none)
  | 63 => some (0, some 1)
  | _ => none
inductive RItem (Z : List Nat) (U : Rel Tr) : Rel Tr where
  | plain {p q : Nat} {t : Tr} {nm nm' : Nm} : U p nm t q nm' → (∀ c, Z[q]? = some c → cnt c = none ∧ c ≠ 123) → RItem Z U p nm t q nm'
  | sign {p q c a : Nat} {b : Option Nat} {t : Tr} {nm nm' : Nm} : U p nm t q nm' → Z[q]? = some c → cnt c = some (a, b) → RItem Z U p nm (.count a b t) (q + 1) nm'
  | just {p q a r : Nat} {t : Tr} {nm nm' : Nm} : U p nm t q nm' → Z[q]? = some 123 → RNum Z (q + 1) a r → Z[r]? = some 125 → RItem Z U p nm (.count a (some a) t) (r + 1) nm'
  | least {p q a r : Nat} {t : Tr} {nm nm' : Nm} : U p nm t q nm' → Z[q]? = some 123 → RNum Z (q + 1) a r → Z[r]? = some 44 → Z[r + 1]? = some 125 → RItem Z U p nm (.count a none t) (r + 2) nm'
  | both {p q a b r s : Nat} {t : Tr} {nm nm' : Nm} : U p nm t q nm' → Z[q]? = some 123 → RNum Z (q + 1) a r → Z[r]? = some 44 → RNum Z (r + 1) b s → a ≤ b → Z[s]? = some 125 → RItem Z U p nm (.count a (some b) t) (s + 1) nm'
/-- one and more of R, as long as it goes on; g: the place where the next one begins -/
inductive RMany (R : Rel Tr) (go : Nat → Prop) (g : Nat → Nat) : Rel (List Tr) where
  | last {p q : Nat} {t : Tr} {nm nm' : Nm} : R p nm t q nm' → ¬ go q → RMany R go g p nm [t] q nm'
  | next {p q r : Nat} {t : Tr} {ts : List Tr} {nm nm' nm2 : Nm} : R p nm t q nm' → go q → RMany R go g (g q) nm' ts r nm2 → RMany R go g p nm (t :: ts) r nm2
def RChain (Z : List Nat) (I : Rel Tr) : Rel Tr := fun p nm t q nm' => ∃ ts, RMany I (starts Z) id p nm ts q nm' ∧ ((∃ x, ts = [x] ∧ t = x) ∨ (2 ≤ ts.length ∧ t = .chain ts))
def RChoice (Z : List Nat) (H : Rel Tr) : Rel Tr := fun p nm t q nm' => ∃ ts, RMany H (fun q => Z[q]? = some 124) (· + 1) p nm ts q nm' ∧ ((∃ x, ts = [x] ∧ t = x) ∨ (2 ≤ ts.length ∧ t = .choice ts))
/-- an expression in which so many parentheses may still be opened within one another -/
def RC (Z : List Nat) : Nat → Rel Tr
  | 0 => RChoice Z (RChain Z (RItem Z (RUnit Z False fun _ _ _ _ _ => False)))
  | d + 1 => RChoice Z (RChain Z (RItem Z (RUnit Z True (RC Z d))))
/-- a whole string -/
def RWhole (Z : List Nat) (l : Bool) (t : Tr) (r : Bool) (nm : Nm) : Prop := ∃ q, Z[0]? = (if l then some 94 else Z[0]?) ∧ (l = false → Z[0]? ≠ some 94) ∧ RC Z 8 (if l then 1 else 0) [] t q nm ∧ (if r then Z[q]? = some 36 ∧ q + 1 = Z.length else q = Z.length)
end Sf4
/-! The string of a tree, and how many parentheses it opens within one another. -/
namespace Sf4
def isCh : Tr → Bool
  | .chain _ => true
  | _ => false
def isAl : Tr → Bool
  | .choice _ => true
  | _ => false
def isCo : Tr → Bool
  | .count _ _ _ => true
  | _ => false
def grp (b : Bool) (x : List Nat) : List Nat := if b then 40 :: (x ++ [41]) else x
def num (n : Nat) : List Nat := if n < 10 then [48 + n] else [48 + n / 10, 48 + n % 10]
def cntS (a : Nat) : Option Nat → List Nat
  | none => if a = 0 then [42] else if a = 1 then [43] else 123 :: (num a ++ [44, 125])
  | some b => if a = 0 ∧ b = 1 then [63] else if a = b then 123 :: (num a ++ [125]) else 123 :: (num a ++ 44 :: (num b ++ [125]))
mutual
def prn : Tr → List Nat
  | .place s => if s = LETc then [46] else if s.length = 1 then s else 91 :: (s ++ [93])
  | .empty => [40, 41]
  | .capture n t => 60 :: (n ++ 58 :: (prn t ++ [62]))
  | .chain l => prnCh l
  | .choice l => prnAl l
  | .count a b t => grp (isCh t || isAl t || isCo t) (prn t) ++ cntS a b
def prnCh : List Tr → List Nat
  | [] => []
  | t :: r => grp (isCh t || isAl t) (prn t) ++ prnCh r
def prnAl : List Tr → List Nat
  | [] => []
  | t :: r => grp (isAl t) (prn t) ++ prnMo r
def prnMo : List Tr → List Nat
  | [] => []
  | t :: r => 124 :: (grp (isAl t) (prn t) ++ prnMo r)
end
mutual
/-- how many parentheses stand open at once in the string -/
def opn : Tr → Nat
  | .place _ => 0
  | .empty => 1
  | .capture _ t => opn t + 1
  | .chain l => opnCh l
  | .choice l => opnAl l
  | .count _ _ t => opn t + (if isCh t || isAl t || isCo t then 1 else 0)
def opnCh : List Tr → Nat
  | [] => 0
  | t :: r => max (opn t + (if isCh t || isAl t then 1 else 0)) (opnCh r)
def opnAl : List Tr → Nat
  | [] => 0
  | t :: r => max (opn t + (if isAl t then 1 else 0)) (opnAl r)
end
mutual
/-- the names of the captures from the left -/
def nms : Tr → Nm
  | .place _ => []
  | .empty => []
  | .capture n t => n :: nms t
  | .chain l => nmsL l
  | .choice l => nmsL l
  | .count _ _ t => nms t
def nmsL : List Tr → Nm
  | [] => []
  | t :: r => nms t ++ nmsL r
end
mutual
/-- a tree as the law draws it -/
def wf : Tr → Prop
  | .place s => s ≠ [] ∧ (LETc.filter fun c => decide (c ∈ s)) = s
  | .empty => True
  | .capture n t => 1 ≤ n.length ∧ n.length ≤ 8 ∧ (∀ c ∈ n, small c) ∧ wf t
  | .chain l => 2 ≤ l.length ∧ wfL l
  | .choice l => 2 ≤ l.length ∧ wfL l
  | .count a b t => a ≤ 20 ∧ (∀ c, b = some c → a ≤ c ∧ c ≤ 20) ∧ wf t
def wfL : List Tr → Prop
  | [] => True
  | t :: r => wf t ∧ wfL r
end
end Sf4
/-! The string of a tree is read back. -/
namespace Sf4
def st (c : Nat) : Prop := c ∈ LETc ∨ c = 46 ∨ c = 91 ∨ c = 40 ∨ c = 60
theorem let_not : ∀ c ∈ LETc, cnt c = none ∧ c ≠ 123 ∧ c ≠ 41 ∧ c ≠ 124 ∧ c ≠ 62 ∧ c ≠ 36 ∧ c ≠ 93 ∧ c ≠ 94 ∧ c ≠ 45 ∧ c ≠ 46 ∧ c ≠ 91 := by decide
theorem st_not {c : Nat} (h : st c) : cnt c = none ∧ c ≠ 123 ∧ c ≠ 41 ∧ c ≠ 124 ∧ c ≠ 62 ∧ c ≠ 36 := by
  rcases h with h | rfl | rfl | rfl | rfl
  · obtain ⟨a, b, c, d, e, f, _⟩ := let_not c h
    exact ⟨a, b, c, d, e, f⟩
  all_goals decide
variable {Z r : List Nat} {p : Nat}
theorem atN {x : List Nat} (h : Z.drop p = x ++ r) : Z.drop (p + x.length) = r := by
  rw [← List.drop_drop, h, List.drop_left]
theorem atH (h : Z.drop p = r) : Z[p]? = r.head? := by rw [← h, List.head?_drop]
theorem atC {c : Nat} (h : Z.drop p = c :: r) : Z[p]? = some c ∧ Z.drop (p + 1) = r := ⟨atH h, atN (x := [c]) h⟩
theorem place_sub {s : List Nat} (h : (LETc.filter fun c => decide (c ∈ s)) = s) : ∀ c ∈ s, c ∈ LETc := fun c hc => by
  rw [← h] at hc
  exact (List.mem_filter.mp hc).1
mutual
theorem prn_head : ∀ {t : Tr}, wf t → ∃ c r, prn t = c :: r ∧ st c
  | .place s, h => by
    unfold wf at h
    unfold prn
    by_cases h1 : s = LETc
    · rw [if_pos h1]
      exact ⟨46, [], rfl, .inr (.inl rfl)⟩
    · rw [if_neg h1]
      by_cases h2 : s.length = 1
      · rw [if_pos h2]
        match s, h2 with
        | [c], _ => exact ⟨c, [], rfl, .inl (place_sub h.2 c List.mem_cons_self)⟩
      · rw [if_neg h2]
        exact ⟨91, _, rfl, .inr (.inr (.inl rfl))⟩
  | .empty, _ => ⟨40, [41], by unfold prn <;> rfl, .inr (.inr (.inr (.inl rfl)))⟩
  | .capture n t, _ => ⟨60, _, by unfold prn <;> rfl, .inr (.inr (.inr (.inr rfl)))⟩
  | .chain [], h => by
    unfold wf at h
    exact absurd h.1 (by decide)
  | .chain (t :: l), h => by
    unfold wf wfL at h
    obtain ⟨c, r, e, s⟩ := grp_head (isCh t || isAl t) (prn_head h.2.1)
    exact ⟨c, r ++ prnCh l, by rw [prn, prnCh, e] <;> rfl, s⟩
  | .choice [], h => by
    unfold wf at h
    exact absurd h.1 (by decide)
  | .choice (t :: l), h => by
    unfold wf wfL at h
    obtain ⟨c, r, e, s⟩ := grp_head (isAl t) (prn_head h.2.1)
    exact ⟨c, r ++ prnMo l, by rw [prn, prnAl, e] <;> rfl, s⟩
  | .count a b t, h => by
    unfold wf at h
    obtain ⟨c, r, e, s⟩ := grp_head (isCh t || isAl t || isCo t) (prn_head h.2.2)
    exact ⟨c, r ++ cntS a b, by unfold prn; rw [e] <;> rfl, s⟩
theorem grp_head {x : List Nat} (b : Bool) (h : ∃ c r, x = c :: r ∧ st c) : ∃ c r, grp b x = c :: r ∧ st c := by
  cases b with
  | true => exact ⟨40, _, rfl, .inr (.inr (.inr (.inl rfl)))⟩
  | false => exact h
end
theorem rd_num {a : Nat} (ha : a ≤ 20) (h : Z.drop p = num a ++ r) (hr : ∀ e, r.head? = some e → ¬ digit e) : RNum Z p a (p + (num a).length) := by
  unfold num at *
  by_cases h1 : a < 10
  · rw [if_pos h1] at h ⊢
    have z := atC (c := 48 + a) (r := r) h
    have q := RNum.one (p := p) z.1 ⟨by omega, by omega⟩ (fun e he => hr e (by rw [← he, atH z.2]))
    rw [show 48 + a - 48 = a by omega] at q
    exact q
  · rw [if_neg h1] at h ⊢
    have z := atC (c := 48 + a / 10) (r := (48 + a % 10) :: r) h
    have z2 := atC z.2
    have q := RNum.two (p := p) z.1 ⟨by omega, by omega⟩ (by omega) z2.1 ⟨by omega, by omega⟩ (fun e he => hr e (by rw [← he, atH z2.2])) (by omega)
    rw [show 10 * (48 + a / 10 - 48) + (48 + a % 10 - 48) = a by omega] at q
    exact q
end Sf4
namespace Sf4
variable {Z r : List Nat} {p : Nat}
def RU (Z : List Nat) : Nat → Rel Tr
  | 0 => RUnit Z False fun _ _ _ _ _ => False
  | d + 1 => RUnit Z True (RC Z d)
theorem RC_eq (Z : List Nat) (d : Nat) : RC Z d = RChoice Z (RChain Z (RItem Z (RU Z d))) := by
  cases d <;> rfl
theorem rd_some : ∀ {s : List Nat} {p : Nat}, s ≠ [] → (∀ c ∈ s, c ∈ LETc) → Z.drop p = s ++ 93 :: r → RSome Z p s (p + s.length + 1)
  | [], _, h, _, _ => absurd rfl h
  | [c], p, _, hs, h => by
    have z := atC (c := c) (r := 93 :: r) h
    exact .last z.1 (hs c List.mem_cons_self) (atC z.2).1
  | c :: d :: s, p, _, hs, h => by
    have z := atC (c := c) (r := d :: (s ++ 93 :: r)) h
    have z2 := atC z.2
    have hd := let_not d (hs d (List.mem_cons_of_mem _ List.mem_cons_self))
    have q := rd_some (s := d :: s) (p := p + 1) (fun z => by cases z) (fun e he => hs e (List.mem_cons_of_mem _ he)) z.2
    rw [show p + 1 + (d :: s).length + 1 = p + (c :: d :: s).length + 1 by simp only [List.length_cons]; omega] at q
    refine .next z.1 (hs c List.mem_cons_self) (fun e => ?_) (fun e => ?_) q
    · rw [z2.1] at e
      exact hd.2.2.2.2.2.2.2.2.1 (Option.some.inj e)
    · rw [z2.1] at e
      exact hd.2.2.2.2.2.2.1 (Option.some.inj e)
theorem rd_name : ∀ {n : List Nat} {p : Nat}, (∀ c ∈ n, small c) → Z.drop p = n ++ 58 :: r → RName Z p n (p + n.length)
  | [], p, _, h => .nil (atC h).1
  | c :: n, p, hn, h => by
    have z := atC (c := c) (r := n ++ 58 :: r) h
    have q := rd_name (n := n) (p := p + 1) (fun e he => hn e (List.mem_cons_of_mem _ he)) z.2
    rw [show p + 1 + n.length = p + (c :: n).length by simp only [List.length_cons]; omega] at q
    exact .cons z.1 (hn c List.mem_cons_self) q
theorem nodig {e c : Nat} {r : List Nat} (h : (c :: r).head? = some e) (hc : ¬ digit c) : ¬ digit e := by
  obtain rfl : c = e := Option.some.inj h
  exact hc
theorem rd_cnt {U : Rel Tr} {q a : Nat} {b : Option Nat} {t : Tr} {nm nm' : Nm} (u : U p nm t q nm') (h : Z.drop q = cntS a b ++ r) (ha : a ≤ 20) (hb : ∀ c, b = some c → a ≤ c ∧ c ≤ 20) : RItem Z U p nm (.count a b t) (q + (cntS a b).length) nm' := by
  cases b with
  | none =>
    unfold cntS at *
    dsimp only at h ⊢
    by_cases h0 : a = 0
    · rw [if_pos h0] at h ⊢
      subst h0
      exact .sign u (atC (c := 42) h).1 rfl
    · rw [if_neg h0] at h ⊢
      by_cases h1 : a = 1
      · rw [if_pos h1] at h ⊢
        subst h1
        exact .sign u (atC (c := 43) h).1 rfl
      · rw [if_neg h1] at h ⊢
        have z := atC (c := 123) (r := num a ++ 44 :: 125 :: r) (by rw [h]; simp)
        have z2 := atN z.2
        have z3 := atC z2
        have q1 := RItem.least u z.1 (rd_num ha z.2 fun e he => nodig he (by unfold digit; omega)) z3.1 (atC z3.2).1
        rw [show q + 1 + (num a).length + 2 = q + (123 :: (num a ++ [44, 125])).length by simp only [List.length_cons, List.length_append, List.length_nil]; omega] at q1
        exact q1
  | some b =>
    obtain ⟨h1, h2⟩ := hb b rfl
    unfold cntS at *
    dsimp only at h ⊢
    by_cases h0 : a = 0 ∧ b = 1
    · rw [if_pos h0] at h ⊢
      obtain ⟨rfl, rfl⟩ := h0
      exact .sign u (atC (c := 63) h).1 rfl
    · rw [if_neg h0] at h ⊢
      by_cases h3 : a = b
      · rw [if_pos h3] at h ⊢
        subst h3
        have z := atC (c := 123) (r := num a ++ 125 :: r) (by rw [h]; simp)
        have q1 := RItem.just u z.1 (rd_num ha z.2 fun e he => nodig he (by unfold digit; omega)) (atC (atN z.2)).1
        rw [show q + 1 + (num a).length + 1 = q + (123 :: (num a ++ [125])).length by simp only [List.length_cons, List.length_append, List.length_nil]; omega] at q1
        exact q1
      · rw [if_neg h3] at h ⊢
        have z := atC (c := 123) (r := num a ++ 44 :: (num b ++ 125 :: r)) (by rw [h]; simp)
        have z2 := atC (atN z.2)
        have z3 := atC (atN z2.2)
        have q1 := RItem.both u z.1 (rd_num ha z.2 fun e he => nodig he (by unfold digit; omega)) z2.1 (rd_num h2 z2.2 fun e he => nodig he (by unfold digit; omega)) h1 z3.1
        rw [show q + 1 + (num a).length + 1 + (num b).length + 1 = q + (123 :: (num a ++ 44 :: (num b ++ [125]))).length by simp only [List.length_cons, List.length_append, List.length_nil]; omega] at q1
        exact q1
end Sf4
namespace Sf4
def stopC (r : List Nat) : Prop := ∀ c, r.head? = some c → c = 41 ∨ c = 62 ∨ c = 36
def stopH (r : List Nat) : Prop := ∀ c, r.head? = some c → ¬ st c ∧ cnt c = none ∧ c ≠ 123
def stopI (r : List Nat) : Prop := ∀ c, r.head? = some c → cnt c = none ∧ c ≠ 123
theorem stopC.h {r : List Nat} (h : stopC r) : stopH r := fun c hc => by
  rcases h c hc with rfl | rfl | rfl
  all_goals exact ⟨fun z => by rcases z with z | z | z | z | z <;> revert z <;> decide, by decide, by decide⟩
theorem stopH.i {r : List Nat} (h : stopH r) : stopI r := fun c hc => (h c hc).2
theorem stopBar (r : List Nat) : stopH (124 :: r) := fun c hc => by
  obtain rfl : 124 = c := Option.some.inj hc
  exact ⟨fun z => by rcases z with z | z | z | z | z <;> revert z <;> decide, by decide, by decide⟩
theorem stClose (r : List Nat) (c : Nat) (h : c = 41 ∨ c = 62 ∨ c = 36) : stopC (c :: r) := fun e he => by
  obtain rfl : c = e := Option.some.inj he
  exact h
variable {Z r : List Nat} {p d : Nat} {nm nm' : Nm} {t : Tr}
/-- a tree in parentheses is a unit -/
theorem rd_grp (hw : wf t) (h : Z.drop p = grp true (prn t) ++ r) (hc : RC Z d (p + 1) nm t (p + 1 + (prn t).length) nm') : RU Z (d + 1) p nm t (p + (grp true (prn t)).length) nm' := by
  have z := atC (c := 40) (r := prn t ++ 41 :: r) (by rw [h]; simp [grp])
  obtain ⟨c, x, e, s⟩ := prn_head hw
  have z1 : Z[p + 1]? = some c := (atC (c := c) (r := x ++ 41 :: r) (by rw [z.2, e] <;> rfl)).1
  have z2 := (atC (c := 41) (atN z.2)).1
  have q := RUnit.group (can := True) True.intro z.1 (by rw [z1]; exact fun y => (st_not s).2.2.1 (Option.some.inj y)) hc z2
  rw [show p + 1 + (prn t).length + 1 = p + (grp true (prn t)).length by simp only [grp, if_true, List.length_cons, List.length_append, List.length_nil]; omega] at q
  exact q
theorem rd_place {s : List Nat} (hw : wf (.place s)) (h : Z.drop p = prn (.place s) ++ r) : RU Z d p nm (.place s) (p + (prn (.place s)).length) nm := by
  have key : ∀ (can : Prop) (C : Rel Tr), RUnit Z can C p nm (.place s) (p + (prn (.place s)).length) nm := fun can C => by
    unfold wf at hw
    unfold prn at *
    by_cases h1 : s = LETc
    · rw [if_pos h1] at h ⊢
      rw [h1]
      exact .dot (atC (c := 46) h).1
    · rw [if_neg h1] at h ⊢
      by_cases h2 : s.length = 1
      · rw [if_pos h2] at h ⊢
        match s, h2 with
        | [c], _ => exact .letter (atC (c := c) h).1 (place_sub hw.2 c List.mem_cons_self)
      · rw [if_neg h2] at h ⊢
        have z := atC (c := 91) (r := s ++ 93 :: r) (by rw [h]; simp)
        have q := rd_some hw.1 (place_sub hw.2) z.2
        obtain ⟨c, x, e⟩ : ∃ c x, s = c :: x := by
          cases s with
          | nil => exact absurd rfl hw.1
          | cons c x => exact ⟨c, x, rfl⟩
        have z1 : Z[p + 1]? = some c := (atC (c := c) (r := x ++ 93 :: r) (by rw [z.2, e] <;> rfl)).1
        have hl := let_not c (place_sub hw.2 c (by rw [e]; exact List.mem_cons_self))
        have u := RUnit.cls (can := can) (C := C) (nm := nm) z.1 (by rw [z1]; exact fun y => hl.2.2.2.2.2.2.2.1 (Option.some.inj y)) q
        rw [hw.2, show p + 1 + s.length + 1 = p + (91 :: (s ++ [93])).length by simp only [List.length_cons, List.length_append, List.length_nil]; omega] at u
        exact u
  cases d with
  | zero => exact key _ _
  | succ d => exact key _ _
end Sf4
namespace Sf4
/-- the string of t is read back -/
def Rd (t : Tr) : Prop := ∀ (Z r : List Nat) (p d : Nat) (nm : Nm), wf t → opn t ≤ d → (nm ++ nms t).Nodup → Z.drop p = prn t ++ r → stopC r → RC Z d p nm t (p + (prn t).length) (nm ++ nms t)
variable {Z r : List Nat} {p d : Nat} {nm : Nm} {t : Tr}
theorem unit_of (n1 : isCh t = false) (n2 : isAl t = false) (n3 : isCo t = false) (ih : ∀ t', sizeOf t' < sizeOf t → Rd t') (hw : wf t) (ho : opn t ≤ d) (hn : (nm ++ nms t).Nodup) (h : Z.drop p = prn t ++ r) : RU Z d p nm t (p + (prn t).length) (nm ++ nms t) := by
  cases t with
  | chain l => cases n1
  | choice l => cases n2
  | count a b t => cases n3
  | place s =>
    have q := rd_place (d := d) (nm := nm) hw h
    rw [show nms (.place s) = [] by unfold nms <;> rfl, List.append_nil]
    exact q
  | empty =>
    unfold opn at ho
    rw [show nms .empty = [] by unfold nms <;> rfl, List.append_nil]
    rw [show prn .empty = [40, 41] by unfold prn <;> rfl] at h ⊢
    cases d with
    | zero => omega
    | succ d =>
      have z := atC (c := 40) (r := 41 :: r) h
      exact .nothing True.intro z.1 (atC z.2).1
  | capture n t =>
    have e1 : prn (.capture n t) = 60 :: (n ++ 58 :: (prn t ++ [62])) := by rw [prn]
    have e2 : nms (.capture n t) = n :: nms t := by rw [nms]
    have e3 : opn (.capture n t) = opn t + 1 := by rw [opn]
    rw [e3] at ho
    rw [e2] at hn ⊢
    rw [e1] at h ⊢
    unfold wf at hw
    cases d with
    | zero => omega
    | succ d =>
      have z := atC (c := 60) (r := n ++ 58 :: (prn t ++ 62 :: r)) (by rw [h]; simp)
      have z2 := atC (atN z.2)
      have e4 : nm ++ n :: nms t = (nm ++ [n]) ++ nms t := by simp
      rw [e4] at hn ⊢
      have q := ih t (by simp; omega) Z (62 :: r) (p + 1 + n.length + 1) d (nm ++ [n]) hw.2.2.2 (by omega) hn z2.2 (stClose _ _ (.inr (.inl rfl)))
      have z3 := (atC (atN z2.2)).1
      have nin : n ∉ nm := fun hm => by
        have := (List.nodup_append.mp (List.nodup_append.mp hn).1).2.2 n hm n List.mem_cons_self
        exact this rfl
      have u := RUnit.capture (can := True) True.intro z.1 (rd_name hw.2.2.1 z.2) hw.1 hw.2.1 nin q z3
      rw [show p + 1 + n.length + 1 + (prn t).length + 1 = p + (60 :: (n ++ 58 :: (prn t ++ [62]))).length by simp only [List.length_cons, List.length_append, List.length_nil]; omega] at u
      exact u
theorem item_of (n1 : isCh t = false) (n2 : isAl t = false) (ih : ∀ t', sizeOf t' < sizeOf t → Rd t') (hw : wf t) (ho : opn t ≤ d) (hn : (nm ++ nms t).Nodup) (h : Z.drop p = prn t ++ r) (hr : stopI r) : RItem Z (RU Z d) p nm t (p + (prn t).length) (nm ++ nms t) := by
  cases hc : isCo t with
  | false => exact .plain (unit_of n1 n2 hc ih hw ho hn h) fun c hc => hr c (by rw [← atH (atN h)]; exact hc)
  | true =>
    cases t with
    | count a b t =>
      have e1 : prn (.count a b t) = grp (isCh t || isAl t || isCo t) (prn t) ++ cntS a b := by rw [prn]
      have e2 : nms (.count a b t) = nms t := by rw [nms]
      have e3 : opn (.count a b t) = opn t + (if (isCh t || isAl t || isCo t) = true then 1 else 0) := by rw [opn]
      rw [e3] at ho
      rw [e2] at hn ⊢
      rw [e1] at h ⊢
      unfold wf at hw
      have lt : sizeOf t < sizeOf (Tr.count a b t) := by simp; omega
      have u : RU Z d p nm t (p + (grp (isCh t || isAl t || isCo t) (prn t)).length) (nm ++ nms t) := by
        cases hb : (isCh t || isAl t || isCo t) with
        | true =>
          rw [hb] at ho h
          cases d with
          | zero => simp at ho
          | succ d =>
            have z := atC (c := 40) (r := prn t ++ 41 :: (cntS a b ++ r)) (by rw [h]; simp [grp])
            exact rd_grp hw.2.2 (r := cntS a b ++ r) (by rw [h, List.append_assoc]) (ih t lt Z (41 :: (cntS a b ++ r)) (p + 1) d nm hw.2.2 (by simp at ho; omega) hn z.2 (stClose _ _ (.inl rfl)))
        | false =>
          rw [hb] at ho h
          simp only [Bool.or_eq_false_iff] at hb
          exact unit_of (r := cntS a b ++ r) hb.1.1 hb.1.2 hb.2 (fun t' l => ih t' (Nat.lt_trans l lt)) hw.2.2 (by simpa using ho) hn (by rw [h, List.append_assoc] <;> rfl)
      have q := rd_cnt (r := r) u (atN (by rw [h, List.append_assoc])) hw.1 hw.2.1
      rw [Nat.add_assoc, ← List.length_append] at q
      exact q
    | _ => cases hc
end Sf4
namespace Sf4
variable {Z r : List Nat} {p d : Nat} {nm : Nm} {t : Tr}
theorem grpR_of (ht : Rd t) (hw : wf t) (ho : opn t + 1 ≤ d) (hn : (nm ++ nms t).Nodup) (h : Z.drop p = grp true (prn t) ++ r) : RU Z d p nm t (p + (grp true (prn t)).length) (nm ++ nms t) := by
  cases d with
  | zero => omega
  | succ d =>
    have z := atC (c := 40) (r := prn t ++ 41 :: r) (by rw [h]; simp [grp])
    exact rd_grp hw h (ht Z (41 :: r) (p + 1) d nm hw (by omega) hn z.2 (stClose _ _ (.inl rfl)))
theorem itemG_of (ht : Rd t) (ih : ∀ t', sizeOf t' < sizeOf t → Rd t') (hw : wf t) (ho : opn t + (if (isCh t || isAl t) = true then 1 else 0) ≤ d) (hn : (nm ++ nms t).Nodup) (h : Z.drop p = grp (isCh t || isAl t) (prn t) ++ r) (hr : stopI r) :
    RItem Z (RU Z d) p nm t (p + (grp (isCh t || isAl t) (prn t)).length) (nm ++ nms t) := by
  cases hb : (isCh t || isAl t) with
  | true =>
    rw [hb] at ho h
    exact .plain (grpR_of ht hw (by simpa using ho) hn h) fun c hc => hr c (by rw [← atH (atN h)]; exact hc)
  | false =>
    rw [hb] at ho h
    simp only [Bool.or_eq_false_iff] at hb
    exact item_of hb.1 hb.2 ih hw (by simpa using ho) hn h hr
theorem many_ch : ∀ (l : List Tr) {p : Nat} {nm : Nm}, l ≠ [] → (∀ t ∈ l, Rd t ∧ ∀ t', sizeOf t' < sizeOf t → Rd t') → wfL l → opnCh l ≤ d → (nm ++ nmsL l).Nodup → Z.drop p = prnCh l ++ r → stopH r →
    RMany (RItem Z (RU Z d)) (starts Z) id p nm l (p + (prnCh l).length) (nm ++ nmsL l)
  | [], _, _, h, _, _, _, _, _, _ => absurd rfl h
  | [t], p, nm, _, ih, hw, ho, hn, h, hr => by
    unfold wfL at hw
    rw [opnCh, opnCh] at ho
    rw [nmsL, nmsL, List.append_nil] at hn ⊢
    rw [prnCh, prnCh, List.append_nil] at h ⊢
    obtain ⟨i1, i2⟩ := ih t List.mem_cons_self
    refine .last (itemG_of i1 i2 hw.1 (by omega) hn h hr.i) fun ⟨c, hc, hs⟩ => ?_
    rw [atH (atN h)] at hc
    exact (hr c hc).1 hs
  | t :: u :: l, p, nm, _, ih, hw, ho, hn, h, hr => by
    rw [wfL] at hw
    rw [opnCh] at ho
    rw [nmsL] at hn ⊢
    rw [prnCh] at h ⊢
    obtain ⟨i1, i2⟩ := ih t List.mem_cons_self
    have hd : ∃ c x, prnCh (u :: l) ++ r = c :: x ∧ st c := by
      have hu := hw.2
      rw [wfL] at hu
      obtain ⟨c, x, e, s⟩ := grp_head (isCh u || isAl u) (prn_head hu.1)
      exact ⟨c, x ++ prnCh l ++ r, by rw [prnCh, e] <;> rfl, s⟩
    obtain ⟨c, x, e, s⟩ := hd
    rw [List.append_assoc] at h
    have hq := atN h
    have a1 : (nm ++ nms t).Nodup := by
      rw [← List.append_assoc] at hn
      exact (List.nodup_append.mp hn).1
    have m := many_ch (u :: l) (p := p + (grp (isCh t || isAl t) (prn t)).length) (nm := nm ++ nms t) (fun z => by cases z) (fun t' ht' => ih t' (List.mem_cons_of_mem _ ht')) hw.2 (by omega) (by rw [List.append_assoc]; exact hn) hq hr
    rw [List.append_assoc, Nat.add_assoc, ← List.length_append] at m
    refine .next (itemG_of i1 i2 hw.1 (by omega) a1 h fun c' hc' => ?_) ⟨c, by rw [atH hq, e] <;> rfl, s⟩ m
    rw [e] at hc'
    obtain rfl : c = c' := Option.some.inj hc'
    exact ⟨(st_not s).1, (st_not s).2.1⟩
end Sf4
namespace Sf4
variable {Z r : List Nat} {p d : Nat} {nm : Nm} {t : Tr}
theorem noStart {q : Nat} (h : Z.drop q = r) (hr : stopH r) : ¬ starts Z q := fun ⟨c, hc, hs⟩ => by
  rw [atH h] at hc
  exact (hr c hc).1 hs
theorem noBar {q : Nat} (h : Z.drop q = r) (hr : stopC r) : ¬ Z[q]? = some 124 := fun hc => by
  rw [atH h] at hc
  rcases hr _ hc with z | z | z <;> cases z
theorem chain_of (n2 : isAl t = false) (ih : ∀ t', sizeOf t' < sizeOf t → Rd t') (hw : wf t) (ho : opn t ≤ d) (hn : (nm ++ nms t).Nodup) (h : Z.drop p = prn t ++ r) (hr : stopH r) : RChain Z (RItem Z (RU Z d)) p nm t (p + (prn t).length) (nm ++ nms t) := by
  cases hc : isCh t with
  | false => exact ⟨[t], .last (item_of hc n2 ih hw ho hn h hr.i) (noStart (atN h) hr), .inl ⟨t, rfl, rfl⟩⟩
  | true =>
    cases t with
    | chain l =>
      rw [opn] at ho
      rw [nms] at hn ⊢
      rw [prn] at h ⊢
      unfold wf at hw
      have lt : ∀ t ∈ l, sizeOf t < sizeOf (Tr.chain l) := fun t ht => by
        have z := List.sizeOf_lt_of_mem ht
        simp
        omega
      refine ⟨l, many_ch l (fun z => by rw [z] at hw; exact absurd hw.1 (by decide)) (fun t ht => ⟨ih t (lt t ht), fun t' l' => ih t' (Nat.lt_trans l' (lt t ht))⟩) hw.2 ho hn h hr, .inr ⟨hw.1, rfl⟩⟩
    | _ => cases hc
theorem chainG_of (ht : Rd t) (ih : ∀ t', sizeOf t' < sizeOf t → Rd t') (hw : wf t) (ho : opn t + (if isAl t = true then 1 else 0) ≤ d) (hn : (nm ++ nms t).Nodup) (h : Z.drop p = grp (isAl t) (prn t) ++ r) (hr : stopH r) :
    RChain Z (RItem Z (RU Z d)) p nm t (p + (grp (isAl t) (prn t)).length) (nm ++ nms t) := by
  cases hb : isAl t with
  | true =>
    rw [hb] at ho h
    exact ⟨[t], .last (.plain (grpR_of ht hw (by simpa using ho) hn h) fun c hc => hr.i c (by rw [← atH (atN h)]; exact hc)) (noStart (atN h) hr), .inl ⟨t, rfl, rfl⟩⟩
  | false =>
    rw [hb] at ho h
    exact chain_of hb ih hw (by simpa using ho) hn h hr
theorem many_al : ∀ (l : List Tr) (t : Tr) {p : Nat} {nm : Nm}, (∀ x ∈ t :: l, Rd x ∧ ∀ t', sizeOf t' < sizeOf x → Rd t') → wfL (t :: l) → opnAl (t :: l) ≤ d → (nm ++ nmsL (t :: l)).Nodup → Z.drop p = (grp (isAl t) (prn t) ++ prnMo l) ++ r → stopC r →
    RMany (RChain Z (RItem Z (RU Z d))) (fun q => Z[q]? = some 124) (· + 1) p nm (t :: l) (p + (grp (isAl t) (prn t) ++ prnMo l).length) (nm ++ nmsL (t :: l))
  | [], t, p, nm, ih, hw, ho, hn, h, hr => by
    rw [wfL] at hw
    rw [opnAl, opnAl] at ho
    rw [nmsL, nmsL, List.append_nil] at hn ⊢
    rw [prnMo, List.append_nil] at h ⊢
    obtain ⟨i1, i2⟩ := ih t List.mem_cons_self
    exact .last (chainG_of i1 i2 hw.1 (by omega) hn h hr.h) (noBar (atN h) hr)
  | u :: l, t, p, nm, ih, hw, ho, hn, h, hr => by
    rw [wfL] at hw
    rw [opnAl] at ho
    rw [nmsL] at hn ⊢
    rw [prnMo] at h ⊢
    obtain ⟨i1, i2⟩ := ih t List.mem_cons_self
    rw [List.append_assoc] at h
    have hq := atN h
    have z := atC (c := 124) (r := (grp (isAl u) (prn u) ++ prnMo l) ++ r) hq
    have a1 : (nm ++ nms t).Nodup := by
      rw [← List.append_assoc] at hn
      exact (List.nodup_append.mp hn).1
    have m := many_al l u (p := p + (grp (isAl t) (prn t)).length + 1) (nm := nm ++ nms t) (fun x hx => ih x (List.mem_cons_of_mem _ hx)) hw.2 (by omega) (by rw [List.append_assoc]; exact hn) z.2 hr
    rw [List.append_assoc, show p + (grp (isAl t) (prn t)).length + 1 + (grp (isAl u) (prn u) ++ prnMo l).length = p + (grp (isAl t) (prn t) ++ 124 :: (grp (isAl u) (prn u) ++ prnMo l)).length by simp only [List.length_cons, List.length_append]; omega] at m
    exact .next (chainG_of i1 i2 hw.1 (by omega) a1 h (stopBar _)) z.1 m
theorem rd_step (t : Tr) (ih : ∀ t', sizeOf t' < sizeOf t → Rd t') : Rd t := fun Z r p d nm hw ho hn h hr => by
  rw [RC_eq]
  cases hb : isAl t with
  | false => exact ⟨[t], .last (chain_of hb ih hw ho hn h hr.h) (noBar (atN h) hr), .inl ⟨t, rfl, rfl⟩⟩
  | true =>
    cases t with
    | choice l =>
      rw [opn] at ho
      rw [nms] at hn ⊢
      rw [prn] at h ⊢
      unfold wf at hw
      have lt : ∀ t ∈ l, sizeOf t < sizeOf (Tr.choice l) := fun t ht => by
        have z := List.sizeOf_lt_of_mem ht
        simp
        omega
      cases l with
      | nil => exact absurd hw.1 (by decide)
      | cons x l =>
        rw [prnAl] at h ⊢
        exact ⟨x :: l, many_al l x (fun t ht => ⟨ih t (lt t ht), fun t' l' => ih t' (Nat.lt_trans l' (lt t ht))⟩) hw.2 ho hn h hr, .inr ⟨hw.1, rfl⟩⟩
    | _ => cases hb
/-- each string of a tree is read back -/
theorem rd_all (t : Tr) : Rd t := rd_step t fun t' _ => rd_all t'
termination_by sizeOf t
end Sf4
namespace Sf4
theorem st_94 {c : Nat} (h : st c) : c ≠ 94 := by
  rcases h with h | rfl | rfl | rfl | rfl
  · exact (let_not c h).2.2.2.2.2.2.2.1
  all_goals decide
def wstr (l : Bool) (t : Tr) (r : Bool) : List Nat := (if l then [94] else []) ++ (prn t ++ (if r then [36] else []))
theorem rd_whole (l r : Bool) {t : Tr} (hw : wf t) (ho : opn t ≤ 8) (hn : (nms t).Nodup) : RWhole (wstr l t r) l t r (nms t) := by
  have hs : stopC (if r then [36] else []) := fun c hc => by
    cases r with
    | true =>
      obtain rfl : 36 = c := Option.some.inj hc
      exact .inr (.inr rfl)
    | false => cases hc
  have hd : (wstr l t r).drop (if l then 1 else 0) = prn t ++ (if r then [36] else []) := by
    cases l <;> rfl
  have q := rd_all t (wstr l t r) (if r then [36] else []) (if l then 1 else 0) 8 [] hw ho (by rw [List.nil_append]; exact hn) hd hs
  rw [List.nil_append] at q
  refine ⟨_, ?_, fun e => ?_, q, ?_⟩
  · cases l <;> rfl
  · subst e
    obtain ⟨c, x, e, s⟩ := prn_head hw
    rw [wstr, e]
    exact fun z => st_94 s (Option.some.inj z)
  · cases r with
    | true =>
      refine ⟨by rw [atH (atN hd)] <;> rfl, ?_⟩
      cases l <;> simp [wstr] <;> omega
    | false =>
      show _ = _
      cases l <;> simp [wstr] <;> omega
end Sf4
/-! Sets of texts: set(list or tuple of texts), sorted of such a set, at any size below the scan's. -/
namespace Sf
open PySem PySem.Spec PyProof.Rows L2 PySem.Froz
/-- the members behind one more text -/
def insT (l : List Str) (x : Str) : List Str := if x ∈ l then l else x :: l
theorem insT_nodup {l : List Str} {x : Str} (h : l.Nodup) : (insT l x).Nodup := by
  unfold insT
  split
  · exact h
  · rename_i hx
    exact List.nodup_cons.mpr ⟨hx, h⟩
theorem insT_mem {l : List Str} {x y : Str} : y ∈ insT l x ↔ y ∈ l ∨ y = x := by
  unfold insT
  split
  · rename_i hx
    exact ⟨.inl, fun z => z.elim id fun e => e ▸ hx⟩
  · rw [List.mem_cons]
    exact Or.comm
theorem insT_len {l : List Str} {x : Str} : (insT l x).length ≤ l.length + 1 := by
  unfold insT
  split
  · omega
  · exact Nat.le_refl _
def toSet (xs : List Str) : List Str := xs.foldl insT []
theorem fold_mem (y : Str) : ∀ (xs l : List Str), y ∈ xs.foldl insT l ↔ y ∈ l ∨ y ∈ xs
  | [], l => by simp
  | x :: r, l => by
    rw [List.foldl_cons, fold_mem y r, insT_mem, List.mem_cons]
    constructor
    · rintro ((h | h) | h)
      · exact .inl h
      · exact .inr (.inl h)
      · exact .inr (.inr h)
    · rintro (h | h | h)
      · exact .inl (.inl h)
      · exact .inl (.inr h)
      · exact .inr h
theorem toSet_mem {y : Str} {xs : List Str} : y ∈ toSet xs ↔ y ∈ xs := by
  unfold toSet
  rw [fold_mem]
  simp
theorem toSet_snoc (xs : List Str) (x : Str) : toSet (xs ++ [x]) = insT (toSet xs) x := by
  unfold toSet
  rw [List.foldl_append] <;> rfl
section
variable {P : Program} {w : World} {A : Around} {E : Value → Shared → Prop} {s : Shared}
theorem addTx_ris {h : Int} {v : Value} {D : SD} (r : Ris D.2.2.place.toList) : Ris (addTx h v D).2.2.place.toList ∧ (addTx h v D).2.2.led = D.2.2.led := by
  have r1 := layNew_ris D.2.2 D.1 h v r
  have l1 := layNew_led D.2.2 D.1 h v
  unfold addTx tailTx
  generalize layNew D.2.2 D.1 h v = L at r1 l1
  have hp : (if L.2.1.plain = true then { L.2.1 with plain := false } else L.2.1).place = L.2.1.place := by split <;> rfl
  have hl : (if L.2.1.plain = true then { L.2.1 with plain := false } else L.2.1).led = L.2.1.led := by split <;> rfl
  generalize (if L.2.1.plain = true then { L.2.1 with plain := false } else L.2.1) = t2 at hp hl
  split
  · exact ⟨relayAll_ris _ _ _, (relayAll_led _ _ _).trans (hl.trans l1)⟩
  · exact ⟨by show Ris t2.place.toList; rw [hp]; exact r1, hl.trans l1⟩
/-- at a stands a set of just the texts l, each once, which can be walked -/
def TxSet (P : Program) (w : World) (h : Heap) (a : Addr) (l : List Str) : Prop :=
  ∃ D : SD, h.get? a = some (sObj "set" D) ∧ TxOk P w D l ∧ l.Nodup ∧ Ris D.2.2.place.toList ∧ (w.params.followText "set-order" = true ∨ D.2.2.led = true)
theorem TxSet.at {h h' : Heap} {a : Addr} {l : List Str} (R : TxSet P w h a l) (k : ∀ o, h.get? a = some o → h'.get? a = some o) : TxSet P w h' a l := by
  obtain ⟨D, e, r⟩ := R
  exact ⟨D, k _ e, r⟩
theorem TxSet.new {h : Heap} {a : Addr} (e : h.get? a = some { cls := .type "set", dict := none, data := .set #[] 0 (.fresh 0 0 (!w.params.followText "set-order")) }) : TxSet P w h a [] := by
  refine ⟨(#[], 0, .fresh 0 0 (!w.params.followText "set-order")), e, TxOk.nil (by rfl), List.nodup_nil, List.Pairwise.nil, ?_⟩
  show _ ∨ (!w.params.followText "set-order") = true
  cases w.params.followText "set-order"
  · exact .inr rfl
  · exact .inl rfl
/-- a text that is in is not laid again -/
theorem add_held {a : Addr} {D : SD} {l : List Str} {k : Str} {u : Tok} {Q : Bool → Shared → Prop} (ho : s.heap.get? a = some (sObj "set" D)) (F : TxOk P w D l) (hk : k ∈ l) (hb : l.length < scanBound)
    (h : ∀ b, Q b s) : wpAny (model P w) A (setAddHashed a (.str k u) (hashStr w k)) Q E s := by
  obtain ⟨es, ep, t⟩ := D
  have sz : es.size < scanBound := by
    have e : es.size = l.length := F.sz
    omega
  obtain ⟨e, he, hi⟩ := (F.mem k).mp hk
  cases hf : List.findIdx? (fun e => (strKind P w).is k e.2) es.toList with
  | none =>
    have c := List.findIdx?_eq_none_iff.mp hf e he
    rw [hi] at c
    cases c
  | some j =>
    unfold setAddHashed setAddHashedIn
    refine wpAny_holding (wpAny_bind (wpAny_setState_of ho rfl F.fit ?_))
    dsimp only
    rw [byScan_of rfl sz F.el]
    simp only [↓reduceIte]
    unfold setAddByScan
    refine wpAny_bind (wpAny_bind (wpAny_rule (wpAny_bind (wpAny_setScan_of (knd := strKind P w) (k := k) (is_str k u) ho rfl F.fit F.el ?_))))
    rw [hf]
    exact wpAny_pure (wpAny_pure (h _))
/-- the set's add of any text -/
theorem add_any {a : Addr} {l : List Str} {k : Str} {u : Tok} {Q : Bool → Shared → Prop} (R : TxSet P w s.heap a l) (hb : l.length + 1 < scanBound)
    (h : ∀ b h', (∀ c o, c ≠ a → s.heap.get? c = some o → h'.get? c = some o) → TxSet P w h' a (insT l k) → Q b { s with heap := h', toks := s.toks + 1 }) :
    wpAny (model P w) A (setAdd a (.str k u)) Q E s := by
  obtain ⟨D, ho, F, nd, r, led⟩ := R
  unfold setAdd
  refine wpAny_holding (wpAny_bind ((strKind P w).pyHash (is_str k u) ?_))
  by_cases hk : k ∈ l
  · refine add_held (s := { s with toks := s.toks + 1 }) ho F hk (by omega) fun b => h b s.heap (fun _ _ _ e => e) ?_
    unfold insT
    rw [if_pos hk]
    exact ⟨D, ho, F, nd, r, led⟩
  · refine add_x (s := { s with toks := s.toks + 1 }) ho F hk hb (h true _ (fun c o ne e => (Heap.get?_update_other _ _ ne.symm).trans e) ?_)
    obtain ⟨r2, l2⟩ := addTx_ris (h := hashStr w k) (v := Value.str k u) r
    unfold insT
    rw [if_neg hk]
    exact ⟨_, get_upd _ ho rfl, add_ok u F, List.nodup_cons.mpr ⟨hk, nd⟩, r2, led.imp id fun z => l2.trans z⟩
/-- set.update's turns over a walk of texts -/
theorem upd_texts {I : Addr} {fp wr : List Addr} {xs : List Str} {Pv : Nat → Value → Prop} {St : Nat → Heap → Prop} {R : Result → Shared → Prop} (W : Walks P w A.in1 I fp wr xs.length Pv St) (a : Addr) (na : a ∉ fp)
    (hv : ∀ i v, Pv i v → ∃ x t, xs[i]? = some x ∧ v = .str x t) (hx : xs.length + 1 < scanBound) :
    ∀ (m i : Nat) (s : Shared), i + m = xs.length → St i s.heap → TxSet P w s.heap a (toSet (xs.take i)) →
      (∀ h' tk, (∀ b o, b ≠ a → b ∉ wr → s.heap.get? b = some o → h'.get? b = some o) → TxSet P w h' a (toSet xs) → R (.ok (.ret .none)) { s with heap := h', toks := tk }) →
      codeAny (model P w) A (.builtin "set.update.loop" ⟨[.ref a, .ref I], []⟩) R s := by
  have nw : a ∉ wr := fun z => na (W.sub _ z)
  intro m
  induction m with
  | zero =>
    intro i s e st T k
    have ei : i = xs.length := by omega
    subst ei
    rw [List.take_length] at T
    refine codeAny_builtin F.entry_set_update_loop ?_
    rw [Around.under_plainId F.plain_set_update_loop _]
    refine wpAny_bind (W.done s _ _ st fun h' tk kk => ?_)
    exact wpAny_pure (k h' tk (fun b o _ hb e => kk b o hb e) (T.at fun o e => kk a o nw e))
  | succ m ih =>
    intro i s e st T k
    have hi : i < xs.length := by omega
    refine codeAny_builtin F.entry_set_update_loop ?_
    rw [Around.under_plainId F.plain_set_update_loop _]
    refine wpAny_bind (W.item i s _ _ hi st fun v h1 tk1 hp st1 k1 => ?_)
    obtain ⟨x, t, hxi, rfl⟩ := hv i v hp
    have hlen : ∀ l : List Str, (toSet l).length ≤ l.length := fun l => by
      have q : ∀ (l acc : List Str), (l.foldl insT acc).length ≤ acc.length + l.length := by
        intro l
        induction l with
        | nil => intro acc; exact Nat.le_refl _
        | cons y r ih2 =>
          intro acc
          have b1 := ih2 (insT acc y)
          have b2 := insT_len (l := acc) (x := y)
          rw [List.foldl_cons, List.length_cons]
          omega
      have q2 := q l []
      rw [List.length_nil] at q2
      unfold toSet
      omega
    refine wpAny_bind (m := holding [Value.str x t] (setAdd a (.str x t))) (wpAny_holding (add_any (s := { s with heap := h1, toks := tk1 }) (T.at fun o e => k1 a o nw e) (by
      have b1 := hlen (xs.take i)
      rw [List.length_take] at b1
      omega) fun b h2 k2 T2 => ?_))
    refine wpAny_pure ⟨plainId_quiet F.plain_set_update_loop _, ih (i + 1) _ (by omega) (W.frame _ _ _ st1 fun b hb o e => k2 b o (fun z => na (z ▸ hb)) e) ?_ fun h3 tk3 k3 T3 => k h3 tk3 (fun b o nb hb e => k3 b o nb hb (k2 b o nb (k1 b o hb e))) T3⟩
    rw [List.take_add_one, hxi]
    show TxSet P w h2 a (toSet (xs.take i ++ [x]))
    rw [toSet_snoc]
    exact T2
/-- what is walked: a list or a tuple of texts -/
def SeqAt2 (s : Shared) (l : Addr) (xs : List Str) : Prop := ∃ items : Array Value, StrsAre items.toList xs ∧ (s.heap.IsList l items ∨ s.heap.IsTuple l items)
theorem strs_get : ∀ {us : List Value} {xs : List Str} {i : Nat} {v : Value}, StrsAre us xs → us[i]? = some v → ∃ x t, xs[i]? = some x ∧ v = .str x t
  | _, _, _, _, .nil, h => by simp at h
  | _, _, 0, _, .cons n t _, h => by
    rw [List.getElem?_cons_zero] at h
    exact ⟨n, t, rfl, (Option.some.inj h).symm⟩
  | _, _, i + 1, _, .cons n t r, h => by
    rw [List.getElem?_cons_succ] at h
    exact strs_get (i := i) r h
set_option maxHeartbeats 4000000 in
theorem call_setT {l : Addr} {xs : List Str} {Q : Value → Shared → Prop} (hh : A.handled = none) (hl : SeqAt2 s l xs) (hx : xs.length + 1 < scanBound)
    (h : ∀ (h' : Heap) (tk : Nat), (∀ b o, s.heap.get? b = some o → h'.get? b = some o) → TxSet P w h' s.heap.objs.size (toSet xs) → Q (.ref s.heap.objs.size) { s with heap := h', toks := tk }) :
    wpAny (model P w) A (call (.type "set") [.ref l]) Q E s := by
  obtain ⟨c, tl, hmro⟩ := PySem.F.called_set.mro
  have q1 := PySem.F.called_set.made
  have q2 := PySem.F.called_set.sub
  have q3 := PySem.F.called_set.notType
  have q4 := PySem.F.called_set.canCreate
  have q5 := PySem.F.typeCall_set_1 (.ref l)
  refine wpAny_call (codeAny_of_tree (wpAny_pure ⟨Code.quiet_builtin _ (by decide +kernel), codeAny_builtin PySem.F.entry_type_call ?_⟩))
  rw [Around.under_plain (weight_type_call_type "set" [.ref l] []) rfl]
  repeat (any_goals (first | assumption | wp_step))
  generalize hO : ({ cls := .type "set", dict := none, data := .set #[] 0 (.fresh 0 0 (!w.params.followText "set-order")) } : Obj) = O
  have hS : (s.heap.push O).get? s.heap.objs.size = some O := Heap.get?_push_size _ (by rw [← hO]; rfl)
  have hT : Shared.TypeIs { s with heap := s.heap.push O } (.ref s.heap.objs.size) "set" := ⟨_, hS, by rw [← hO]⟩
  refine codeAny_mono (code_set_led1 (.ref l) (E := E) (Q₁ := fun obj s₁ => obj = .ref s.heap.objs.size ∧ s₁ = { s with heap := s.heap.push O }) ⟨rfl, by rw [hO]⟩) fun r s₁ hr => ?_
  cases r with
  | error e => exact hr
  | ok fl =>
    cases fl with
    | ret obj =>
      obtain ⟨rfl, rfl⟩ := hr
      have q6 := PySem.F.called_set.init.lookup
      have q7 := PySem.F.called_set.init.bind (.ref s.heap.objs.size)
      repeat (any_goals (first | assumption | wp_step))
      refine codeAny_mono (codeAny_call_builtin (R := wants (fun r s₂ => r = .none ∧ ∃ h' tk, s₂ = { s with heap := h', toks := tk } ∧ (∀ b o, s.heap.get? b = some o → h'.get? b = some o) ∧ TxSet P w h' s.heap.objs.size (toSet xs)) E)
        PySem.F.called_set.init.plain PySem.F.entry_set_init (check_set_init_1 hT ?_)) fun r₂ s₂ hr₂ => ?_
      · have hneI : ∀ {b : Addr} {o : Obj}, s.heap.get? b = some o → b ≠ (s.heap.push O).objs.size := fun e => by
          rw [Heap.size_push]
          exact Nat.ne_of_lt (Nat.lt_succ_of_lt (Heap.lt_size e))
        have hh3 : A.in1.in1.in1.handled = none := by simp [hh]
        have fin : ∀ (h' : Heap) (tk : Nat), (∀ b o, b ≠ s.heap.objs.size → b ∉ [(s.heap.push O).objs.size] → ((s.heap.push O)).get? b = some o → h'.get? b = some o) → ∀ b o, s.heap.get? b = some o → h'.get? b = some o := fun h' tk k b o e =>
          k b o (Nat.ne_of_lt (Heap.lt_size e)) (fun z => hneI e (List.mem_singleton.mp z)) (Heap.get?_push_of_some _ e)
        obtain ⟨items, hi, hli⟩ := hl
        have hsz : items.size = xs.length := by rw [← StrsAre.length hi, Array.length_toList]
        have hv : ∀ (i : Nat) (v : Value), items[i]? = some v → ∃ x t, xs[i]? = some x ∧ v = .str x t := fun i v e => strs_get hi (by rw [Array.getElem?_toList]; exact e)
        rcases hli with hli | hli
        · obtain ⟨ol, hol, hcl, nl, hdl⟩ := id hli
          obtain ⟨ocls, odict, odata, oslots⟩ := ol
          simp only at hcl hdl
          subst hcl; subst hdl
          have hol' : (s.heap.push O).get? l = some { cls := .type "list", dict := odict, data := .seq items nl, slots := oslots } := Heap.get?_push_of_some _ hol
          have q8 := PySem.F.sub_list_set
          have q9 := PySem.F.sub_list_frozenset
          have q10 : (Value.type "list" == Value.type "dict") = false := by decide
          have hl1 : (s.heap.push O).IsList l items := ⟨_, hol', rfl, nl, rfl⟩
          have nf : s.heap.objs.size ∉ [(s.heap.push O).objs.size, l] := by
            rw [Heap.size_push, List.mem_cons, List.mem_singleton, not_or]
            exact ⟨Nat.ne_of_lt (Nat.lt_succ_self _), Nat.ne_of_gt (Heap.lt_size hol)⟩
          have W := Walks.list (prog := P) (w := w) hh3 (s.heap.push O).objs.size l (hneI hol) items
          rw [hsz] at W
          subst hO
          unfold Builtin.«set.__init__» noKeywords Builtin.Frozenset.updateFrom
          generalize hPI : pyIter = PI
          wp_walk
          subst hPI
          refine wpAny_pyIter_list hl1 ?_
          refine wpAny_bind (wpAny_runValue ?_)
          refine upd_texts W s.heap.objs.size nf hv hx xs.length 0 _ (Nat.zero_add _) ⟨⟨_, Heap.get?_push_size _ rfl, rfl, rfl⟩, hl1.push _⟩ (TxSet.new (Heap.get?_push_of_some _ hS)) fun h' tk k T => ?_
          exact wpAny_pure (wpAny_pure ⟨rfl, h', tk, rfl, fin h' tk fun b o n1 n2 e => k b o n1 n2 (Heap.get?_push_of_some _ e), T⟩)
        · obtain ⟨ol, hol, hcl, nl, hdl⟩ := id hli
          obtain ⟨ocls, odict, odata, oslots⟩ := ol
          simp only at hcl hdl
          subst hcl; subst hdl
          have hol' : (s.heap.push O).get? l = some { cls := .type "tuple", dict := odict, data := .seq items nl, slots := oslots } := Heap.get?_push_of_some _ hol
          have q8 := PySem.F.sub_tuple_set
          have q9 := PySem.F.sub_tuple_frozenset
          have q10 : (Value.type "tuple" == Value.type "dict") = false := by decide
          have hl1 : (s.heap.push O).IsTuple l items := ⟨_, hol', rfl, nl, rfl⟩
          have nf : s.heap.objs.size ∉ [(s.heap.push O).objs.size, l] := by
            rw [Heap.size_push, List.mem_cons, List.mem_singleton, not_or]
            exact ⟨Nat.ne_of_lt (Nat.lt_succ_self _), Nat.ne_of_gt (Heap.lt_size hol)⟩
          have W := Walks.tuple (prog := P) (w := w) hh3 (s.heap.push O).objs.size l (hneI hol) items
          rw [hsz] at W
          subst hO
          unfold Builtin.«set.__init__» noKeywords Builtin.Frozenset.updateFrom
          generalize hPI : pyIter = PI
          wp_walk
          subst hPI
          refine wpAny_pyIter_tuple hl1 ?_
          refine wpAny_bind (wpAny_runValue ?_)
          refine upd_texts W s.heap.objs.size nf hv hx xs.length 0 _ (Nat.zero_add _) ⟨⟨_, Heap.get?_push_size _ rfl, rfl, rfl⟩, hl1.push _⟩ (TxSet.new (Heap.get?_push_of_some _ hS)) fun h' tk k T => ?_
          exact wpAny_pure (wpAny_pure ⟨rfl, h', tk, rfl, fin h' tk fun b o n1 n2 e => k b o n1 n2 (Heap.get?_push_of_some _ e), T⟩)
      · cases r₂ with
        | error e => exact hr₂
        | ok fl₂ =>
          cases fl₂ with
          | ret r =>
            obtain ⟨rfl, h', tk, rfl, k, T⟩ := hr₂
            repeat (any_goals (first | assumption | wp_step))
            exact h _ _ k T
          | _ => exact hr₂.elim
    | _ => exact hr.elim
end
end Sf
namespace Sf
open PySem PySem.Spec PyProof.Rows L2 PySem.Froz
section
variable {P : Program} {w : World} {A : Around} {E : Value → Shared → Prop} {s : Shared}
/-- the texts of the entries -/
theorem rows_strs : ∀ (l : List (Int × Value)), (∀ e ∈ l, ∃ x t, e.2 = Value.str x t) → ∃ xs, StrsAre (l.map (·.2)) xs
  | [], _ => ⟨[], .nil⟩
  | e :: l, h => by
    obtain ⟨x, t, ex⟩ := h e List.mem_cons_self
    obtain ⟨xs, r⟩ := rows_strs l fun u hu => h u (List.mem_cons_of_mem _ hu)
    refine ⟨x :: xs, ?_⟩
    rw [List.map_cons, ex]
    exact .cons x t r
theorem strs_mem : ∀ {us : List Value} {xs : List Str}, StrsAre us xs → ∀ k : Str, k ∈ xs ↔ ∃ v ∈ us, (Value.isStrOf k v) = true
  | _, _, .nil, k => by simp
  | _, _, .cons n t r, k => by
    rw [List.mem_cons, strs_mem r k]
    constructor
    · rintro (h | ⟨v, hv, e⟩)
      · exact ⟨.str n t, List.mem_cons_self, by rw [h]; simp [Value.isStrOf]⟩
      · exact ⟨v, List.mem_cons_of_mem _ hv, e⟩
    · rintro ⟨v, hv, e⟩
      rcases List.mem_cons.mp hv with rfl | hv
      · left
        obtain ⟨t', e'⟩ := Value.isStrOf_shape e
        injection e' with e1 _
        exact e1.symm
      · exact .inr ⟨v, hv, e⟩
theorem strs_perm {us vs : List Value} (p : us.Perm vs) : ∀ {xs : List Str}, StrsAre vs xs → ∃ ys, StrsAre us ys ∧ ys.Perm xs := by
  induction p with
  | nil => intro xs h; exact ⟨xs, h, .refl _⟩
  | cons v p ih =>
    intro xs h
    cases h with
    | cons n t r =>
      obtain ⟨ys, h1, h2⟩ := ih r
      exact ⟨n :: ys, .cons n t h1, h2.cons n⟩
  | swap u v l =>
    intro xs h
    cases h with
    | cons n t r =>
      cases r with
      | cons m t2 r2 => exact ⟨m :: n :: _, .cons m t2 (.cons n t r2), .swap _ _ _⟩
  | trans p q ih1 ih2 =>
    intro xs h
    obtain ⟨ys, h1, h2⟩ := ih2 h
    obtain ⟨zs, h3, h4⟩ := ih1 h1
    exact ⟨zs, h3, h4.trans h2⟩
theorem perm_of_sub : ∀ (l m : List Str), l.Nodup → (∀ x ∈ l, x ∈ m) → m.length ≤ l.length → l.Perm m
  | [], m, _, _, h => by
    have e : m = [] := List.eq_nil_of_length_eq_zero (Nat.le_zero.mp h)
    rw [e]
  | x :: l, m, nd, sub, h => by
    obtain ⟨m1, m2, rfl⟩ := List.append_of_mem (sub x List.mem_cons_self)
    obtain ⟨n1, n2⟩ := List.nodup_cons.mp nd
    have p : l.Perm (m1 ++ m2) := perm_of_sub l (m1 ++ m2) n2 (fun y hy => by
      have q := sub y (List.mem_cons_of_mem _ hy)
      rw [List.mem_append, List.mem_cons] at q
      rw [List.mem_append]
      rcases q with q | q | q
      · exact .inl q
      · exact absurd (q ▸ hy) n1
      · exact .inr q) (by
      rw [List.length_append, List.length_cons, List.length_cons] at h
      rw [List.length_append]
      omega)
    exact (p.cons x).trans List.perm_middle.symm
set_option maxHeartbeats 2000000 in
theorem sorted_txset {a : Addr} {l : List Str} {Q : Value → Shared → Prop} (R : TxSet P w s.heap a l) (hh : A.handled = none) (hb : l.length < scanBound)
    (h : ∀ s' p (out : Array Value) (c : Nat) (ys : List Str), (∀ b o, s.heap.get? b = some o → s'.heap.get? b = some o) → s'.gens = s.gens → s'.os = s.os → s.heap.objs.size ≤ p →
      s'.heap.get? p = some (seqObj "list" out c) → StrsAre out.toList ys → sortedS ys = true → ys.Perm l → Q (.ref p) s') :
    wpAny (model P w) A (call (.builtin "sorted") [.ref a]) Q E s := by
  obtain ⟨⟨es, ep, t⟩, ho, F, nd, r, led⟩ := R
  have hsz : es.size = l.length := F.sz
  have hes : es.size < scanBound := by omega
  refine Calls.call_function_entry kind_sorted plain_sorted entry_sorted (args_sorted1 _) ?_
  unfold Builtin.«sorted»
  refine wpAny_bind (m := checkCount "sorted" 1 1 _) (wpAny_pure (wpAny_bind (collect_set (A := A.in1) hh ⟨_, ho, rfl, rfl⟩ F.fit hes r led fun s1 vs k1 hz g1 o1 pm0 => ?_)))
  have pm : vs.Perm (es.toList.map (·.2)) := pm0
  have hel : ∀ e ∈ es.toList, ∃ x t, e.2 = Value.str x t := fun e he => by
    obtain ⟨⟨k, hk, _⟩, _⟩ := F.el e he
    obtain ⟨t', e'⟩ := Value.isStrOf_shape (x := k) (v := e.2) hk
    exact ⟨k, t', e'⟩
  obtain ⟨xs0, hx0⟩ := rows_strs es.toList hel
  obtain ⟨xs, hxs, pxs⟩ := strs_perm pm hx0
  have len0 : xs0.length = l.length := by rw [← StrsAre.length hx0, List.length_map, Array.length_toList, hsz]
  have pl : xs0.Perm l := by
    have mem : ∀ k, k ∈ xs0 ↔ k ∈ l := fun k => by
      rw [strs_mem hx0 k]
      refine Iff.trans ?_ (F.mem k).symm
      constructor
      · rintro ⟨v, hv, e⟩
        obtain ⟨en, he, rfl⟩ := List.mem_map.mp hv
        exact ⟨en, he, e⟩
      · rintro ⟨en, he, e⟩
        exact ⟨en.2, List.mem_map.mpr ⟨en, he, rfl⟩, e⟩
    exact (perm_of_sub l xs0 nd (fun k hk => (mem k).mpr hk) (Nat.le_of_eq len0)).symm
  have vlen : vs.length ≤ sizeLine := by
    have q := pm.length_eq
    rw [List.length_map, Array.length_toList] at q
    exact Nat.le_trans (Nat.le_of_eq q) (fits_of_scanBound hes)
  refine wpAny_bind (wpAny_newList ?_ vlen)
  have hoL : (s1.heap.push (seqObj "list" vs.toArray 0)).get? s1.heap.objs.size = some (seqObj "list" vs.toArray 0) := Heap.get?_push_size _ rfl
  refine wpAny_bind (wpAny_holding (wpAny_call_entry slot_list_sort ⟨_, hoL, rfl⟩ entry_list_sort (list_sort_treeKAny strKind_oneLt hoL hxs.keysOf (fun v₁ v₂ rest e => keyKind_strs (by rw [← e]; exact hxs)) vlen fun st' a1 a2 => ⟨_, rfl, ?_⟩) (args_list_sort _)))
  obtain ⟨ys, y1, y2, y3⟩ := sorted_out_str hxs a1 a2
  obtain ⟨c, hc⟩ := sortedHeap_at (vs := vs) (out := (arrOf st').map (·.2)) hoL
  refine wpAny_pure ⟨_, rfl, h _ s1.heap.objs.size _ c ys (fun b u e => ?_) g1 o1 hz hc y1 y3 (y2.trans (pxs.trans pl))⟩
  have q := k1 b u e
  have hlt := Heap.lt_size q
  refine Eq.trans (sortedHeap_old (Nat.ne_of_lt hlt) ?_) (Heap.get?_push_of_some _ q)
  rw [size_push']
  exact Nat.lt_succ_of_lt hlt
end
section
variable {X : Cx}
/-- a set of the texts l at a -/
def SetTx (P : Program) (w : World) (a : Addr) (l : List Str) : HO := .ext fun h => TxSet P w h a l
theorem setTx_ok {P : Program} {w : World} {H : Hp} {h : Heap} {a : Addr} {l : List Str} (R : TxSet P w h a l) : ObjOk P w H h a (SetTx P w a l) := by
  have ⟨D, e, _⟩ := R
  exact ⟨R, ⟨_, e⟩, fun h1 h2 p k => TxSet.at p k⟩
/-- set(texts) -/
def rSetTx (K : PySem.W.Frag) (P : Program) (w : World) : List V → Hp → VK → Prop := fun vs H Q => ∃ (a : Addr) (xs : List Str), vs = [.ref a] ∧ (SqL K H a (xs.map V.str) ∨ SqT K H a (xs.map V.str)) ∧ xs.length + 1 < scanBound ∧
  ∀ p, H p = none → Q (.ref p) (upd H p (SetTx P w p (toSet xs)))
theorem cr_setTx (hc : X.calm = true) : CallR X (.type "set") (rSetTx X.K X.prog X.w) := by
  intro pins s σ H vs us Q I r h
  obtain ⟨a, xs, rfl, hs, hx, q⟩ := h
  rw [Vals.ref1 r]
  have hl : SeqAt2 s a xs := by
    rcases hs with hs | hs
    · obtain ⟨its, rv, pl, _⟩ := I.list hs
      exact ⟨its.toArray, rv.strs, .inl pl.isList⟩
    · obtain ⟨its, rv, pl, _⟩ := I.tuple hs
      obtain ⟨o, e1, e2, e3⟩ := pl
      exact ⟨its.toArray, rv.strs, .inr ⟨o, e1, e2, e3⟩⟩
  refine call_setT (I.ok.hd hc) hl hx fun h' tk k T => ?_
  exact ⟨.ref _, upd H s.heap.objs.size (SetTx X.prog X.w s.heap.objs.size (toSet xs)), I.laid (t' := tk) k (Nat.le_refl _) (setTx_ok T), rfl, q _ (I.hok.fresh (Nat.le_refl _))⟩
/-- sorted(set of texts) -/
def rSortedTx (P : Program) (w : World) : List V → Hp → VK → Prop := fun vs H Q => ∃ (a : Addr) (l : List Str), vs = [.ref a] ∧ H a = some (SetTx P w a l) ∧ l.length < scanBound ∧
  ∀ (ys : List Str) p, sortedS ys = true → ys.Perm l → H p = none → Q (.ref p) (upd H p (.lst (ys.map V.str)))
theorem cr_sortedTx (hc : X.calm = true) : CallR X (.builtin "sorted") (rSortedTx X.prog X.w) := by
  intro pins s σ H vs us Q I r h
  obtain ⟨a, l, rfl, ha, hb, q⟩ := h
  rw [Vals.ref1 r]
  refine sorted_txset (I.hok a _ ha).1 (I.ok.hd hc) hb fun s' p out c ys k g o hp hg hi h1 h2 => ?_
  have hn : H p = none := I.hok.fresh hp
  have hlen : (ys.map V.str).length ≤ sizeLine := by
    rw [List.length_map, h2.length_eq]
    exact fits_of_scanBound hb
  have e : s' = { s with heap := s'.heap, gens := s'.gens, drawn := s'.drawn, toks := s'.toks } := by
    cases s'
    cases s
    cases o
    rfl
  rw [e]
  exact ⟨.ref p, upd H p (.lst (ys.map V.str)), I.call (ch := []) (Un.laid k hp hn) (I.hok.laid k hp ⟨hlen, out.toList, c, vals_of_strs hi, hg⟩) (by rw [g]; exact I.bare) (fun _ z => nomatch z), rfl, q ys p h1 h2 hn⟩
/-- sorted(list of texts), any length -/
def rSortedTL (K : PySem.W.Frag) : List V → Hp → VK → Prop := fun vs H Q => ∃ (a : Addr) (xs : List Str), vs = [.ref a] ∧ SqL K H a (xs.map V.str) ∧
  ∀ (ys : List Str) p, sortedS ys = true → ys.Perm xs → H p = none → Q (.ref p) (upd H p (.lst (ys.map V.str)))
theorem cr_sortedTL : CallR X (.builtin "sorted") (rSortedTL X.K) := by
  intro pins s σ H vs us Q I r h
  obtain ⟨a, xs, rfl, hs, q⟩ := h
  obtain ⟨its, rv, hl, hz⟩ := I.list hs
  rw [Vals.ref1 r]
  refine sorted_strsAny hl.isList rv.strs (by rw [← rv.length]; exact hz) fun out ys h1 h2 h3 => ?_
  obtain ⟨ep, he⟩ := sortedAll_at s.heap its out
  have hlen : (ys.map V.str).length ≤ sizeLine := by
    rw [List.length_map, h2.length_eq]
    rw [List.length_map] at hz
    exact hz
  exact ⟨.ref _, upd H (s.heap.objs.size + 1) (.lst (ys.map V.str)), I.laid (t' := s.toks) (fun _ _ => sortedAll_old) (Nat.le_succ _) ⟨hlen, out.toList, ep, vals_of_strs h1, he⟩, rfl, q ys _ h3 h2 (I.hok.fresh (Nat.le_succ _))⟩
end
end Sf
namespace Sf
open PySem PySem.Spec PyProof.Rows L2
/-- two texts walked side by side, the signs in new pairs -/
def Itz2 (x y : Str) : It :=
  ⟨fun i _ => i < x.cps.size ∧ i < y.cps.size,
    fun i H v H' => ∃ T c d, v = .ref T ∧ H T = none ∧ H' = upd H T (.tup [.str ⟨#[c]⟩, .str ⟨#[d]⟩]) ∧ x.cps[i]? = some c ∧ y.cps[i]? = some d,
    fun i _ => i = min x.cps.size y.cps.size⟩
def StZ (x y : Str) (t u : Tok) (z TI TO i1 i2 : Addr) (i : Nat) (h : Heap) : Prop :=
  IsZip h z TI TO .none ∧ IsTupOf2 h TI (.ref i1) (.ref i2) ∧ (∃ a1 a2, IsTupOf2 h TO a1 a2) ∧ h.IsStrIter i1 (strIterType x) x t i ∧ h.IsStrIter i2 (strIterType y) y u i
theorem turn_zip2 {P : Program} {w : World} {K : PySem.W.Frag} {elts : List Expr} {kk : Nat} {tpos : Pos} {z TI TO i1 i2 : Addr} {x y : Str} {t u : Tok} (S : ZipSep2 z TI TO i1 i2 [i1] [i2]) :
    Turn P w K (.Tuple elts kk tpos) (Itz2 x y) [z, TI, TO, i1, i2] z (StZ x y t u z TI TO i1 i2) where
  mem := by simp
  obj := fun i h st c hc => by
    obtain ⟨hz, hTI, ⟨a1, a2, hTO⟩, ⟨o1, e1, _, d1⟩, ⟨o2, e2, _, d2⟩⟩ := st
    have e' : c = z ∨ c = TI ∨ c = TO ∨ c = i1 ∨ c = i2 := by simpa using hc
    rcases e' with q | q | q | q | q
    · rw [q]
      exact ⟨_, hz, fun v r => nomatch r⟩
    · rw [q]
      exact ⟨_, hTI, fun v r => nomatch r⟩
    · rw [q]
      exact ⟨_, hTO, fun v r => nomatch r⟩
    · exact ⟨o1, by rw [q]; exact e1, fun v r => nomatch d1.symm.trans r⟩
    · exact ⟨o2, by rw [q]; exact e2, fun v r => nomatch d2.symm.trans r⟩
  keep := fun i h h' st k => by
    obtain ⟨hz, hTI, ⟨a1, a2, hTO⟩, ⟨o1, e1, r1⟩, ⟨o2, e2, r2⟩⟩ := st
    exact ⟨k z (by simp) _ hz, k TI (by simp) _ hTI, ⟨a1, a2, k TO (by simp) _ hTO⟩, ⟨o1, k i1 (by simp) _ e1, r1⟩, ⟨o2, k i2 (by simp) _ e2, r2⟩⟩
  item := by
    intro X hP hw hK hc i pins s σ H E I hf st hg
    subst hP hw hK
    have W := WalksT.zipD2 (prog := X.prog) (w := X.w) (A := X.A) S (Draws.text (A := X.A.in1) (I.ok.hd hc) i1 x t) (Draws.text (A := X.A.in1) (I.ok.hd hc) i2 y u)
    refine W.item i s _ _ (by have a1 := hg.1; have a2 := hg.2; omega) st fun T vals h1 tk1 hp hT hI hm k1 => ?_
    obtain ⟨v1, v2, ⟨c, t1, hc1, rfl⟩, ⟨d, t2, hd1, rfl⟩, rfl⟩ := hp
    refine ⟨_, rfl, W.go elts kk tpos i T { s with heap := h1, toks := tk1 } _ _ hm fun h2 st2 k2 => ?_⟩
    have hlt : ∀ b ∈ [z, TI, TO, i1, i2], b < s.heap.objs.size := by
      obtain ⟨hz, hTI, ⟨a1, a2, hTO⟩, ⟨o1, e1, _⟩, ⟨o2, e2, _⟩⟩ := st
      intro b hb
      have e' : b = z ∨ b = TI ∨ b = TO ∨ b = i1 ∨ b = i2 := by simpa using hb
      rcases e' with q | q | q | q | q
      · exact q ▸ Heap.lt_size hz
      · exact q ▸ Heap.lt_size hTI
      · exact q ▸ Heap.lt_size hTO
      · exact q ▸ Heap.lt_size e1
      · exact q ▸ Heap.lt_size e2
    have sub : ∀ b, b ∉ [z, TI, TO, i1, i2] → b ∉ [z, TO, i1, i2] := fun b hb => by
      simp only [List.mem_cons, List.not_mem_nil, or_false, not_or] at hb ⊢
      exact ⟨hb.1, hb.2.2⟩
    obtain ⟨oT, eT, cT, nT, dT⟩ := hI
    have hT2 : h2.get? T = some oT := k2 T oT (W.apart i T h1 hm) eT
    have new : ObjOk X.prog X.w (upd H T (.tup [.str ⟨#[c]⟩, .str ⟨#[d]⟩])) h2 T (.tup [.str ⟨#[c]⟩, .str ⟨#[d]⟩]) :=
      ⟨by show 2 ≤ sizeLine; decide, [.str ⟨#[c]⟩ t1, .str ⟨#[d]⟩ t2], .cons ⟨t1, rfl⟩ (.cons ⟨t2, rfl⟩ .nil), ⟨oT, hT2, cT, nT, dT⟩⟩
    refine ⟨.ref T, _, I.turnedNew (t' := tk1) (ch := [z, TI, TO, i1, i2]) (fun b o hb e => k2 b o (sub b hb) (k1 b o (sub b hb) e)) hf hT new, rfl, ⟨T, c, d, rfl, I.hok.fresh hT, rfl, hc1, hd1⟩, st2, fun b hb => ?_⟩
    rw [upd_ne (Nat.ne_of_lt (Nat.lt_of_lt_of_le (hlt b hb) hT))]
    exact (hf b hb).1
  done := by
    intro X hP hw hK hc i pins s σ H E I hf st hg
    subst hP hw hK
    have e : i = min x.cps.size y.cps.size := hg
    rw [e] at st
    have W := WalksT.zipD2 (prog := X.prog) (w := X.w) (A := X.A) S (Draws.text (A := X.A.in1) (I.ok.hd hc) i1 x t) (Draws.text (A := X.A.in1) (I.ok.hd hc) i2 y u)
    refine W.done s _ _ st fun h' tk k => ⟨rfl, I.turnedL (t' := tk) (ch := [z, TI, TO, i1, i2]) (fun b o hb q => k b o (fun m => hb ?_) q) hf⟩
    simp only [List.mem_cons, List.not_mem_nil, or_false] at m ⊢
    rcases m with m | m | m | m
    · exact .inl m
    · exact .inr (.inr (.inl m))
    · exact .inr (.inr (.inr (.inl m)))
    · exact .inr (.inr (.inr (.inr m)))
  self := fun A i s Q E st h => wpAny_pyIter_zip st.1 h
/-- for a, b in zip(text, text) -/
def iZip2 (ta : TA) : TI := fun σ H R => ta σ H fun vs H1 => ∃ x y, vs = [.str x, .str y] ∧ R (Itz2 x y) H1
theorem pi_zip2 {X : Cx} {e e2 : Expr} {ta : TA} {p pos tpos : Pos} {elts : List Expr} {kk : Nat} (hg : Gl X "zip") (hm : X.mg "zip" = none) (ha : PA X [e, e2] ta)
    (hs : starEach [e, e2] X.env = (false, eval e X.env) :: starEach [e2] X.env := by rfl) (hp : (backTo pos (starEach [e2] X.env)).any (·.1) = false := by rfl) :
    PI X (.Tuple elts kk tpos) (.Call (.Name "zip" p) [e, e2] [] pos) (iZip2 ta) := by
  refine ⟨fun pins s σ H R I h => Call_ (ld_blt I hg hm PyProof.Rows.boot_zip (PyProof.Rows.callWith_type1 (thn (ha.run pos pins s σ H _ I h) fun us s1 ⟨vs, H1, I1, r1, q1⟩ => ?_) hs hp))⟩
  obtain ⟨x, y, rfl, q⟩ := q1
  cases r1 with
  | cons r rr =>
    cases rr with
    | cons r' rr =>
      cases rr
      obtain ⟨t, rfl⟩ := r
      obtain ⟨u, rfl⟩ := r'
      refine zip_begins2 (begins_text x t) (begins_text y u) trivial trivial fun h' hz hTI hTO g1 g2 hsz k => wpAny_pyIter_zip hz ?_
      refine ⟨s1.heap.objs.size + 4, [s1.heap.objs.size + 4, s1.heap.objs.size + 2, s1.heap.objs.size + 3, s1.heap.objs.size, s1.heap.objs.size + 1], _, _, H1, rfl, I1.kept (t' := s1.toks) k,
        turn_zip2 (x := x) (y := y) (t := t) (u := u) (zip_sep2 (fp1 := []) (fp2 := []) (fun _ h => nomatch h) (fun _ h => nomatch h)), ⟨hz, hTI, ⟨_, _, hTO⟩, ⟨_, g1, rfl, rfl⟩, ⟨_, g2, rfl, rfl⟩⟩, fun c hc => ?_, q⟩
      have le : s1.heap.objs.size ≤ c := by
        have e' : c = s1.heap.objs.size + 4 ∨ c = s1.heap.objs.size + 2 ∨ c = s1.heap.objs.size + 3 ∨ c = s1.heap.objs.size ∨ c = s1.heap.objs.size + 1 := by simpa using hc
        have l0 : ∀ j, s1.heap.objs.size ≤ s1.heap.objs.size + j := fun j => Nat.le_add_right _ j
        rcases e' with z | z | z | z | z
        · rw [z]; exact l0 4
        · rw [z]; exact l0 2
        · rw [z]; exact l0 3
        · rw [z]; exact l0 0
        · rw [z]; exact l0 1
      exact I1.fpOk le (I1.hok.fresh le)
theorem walk_zip2 {x y : Str} {n : Nat} (hn : n = min x.cps.size y.cps.size) : Walk (Itz2 x y) n (fun _ => True)
    (fun i H v H' => ∃ T c d, v = .ref T ∧ H T = none ∧ H' = upd H T (.tup [.str ⟨#[c]⟩, .str ⟨#[d]⟩]) ∧ x.cps[i]? = some c ∧ y.cps[i]? = some d) :=
  ⟨fun i _ hi _ => ⟨by omega, by omega⟩, fun _ _ => hn, fun _ _ _ _ _ _ y => y⟩
end Sf
namespace Sf
open PySem PySem.Spec PyProof.Rows L2
theorem ltc_tot : ∀ a b : List Nat, ltCps a b = false → ltCps b a = false → a = b
  | [], [], _, _ => rfl
  | [], _ :: _, h, _ => by simp [ltCps] at h
  | _ :: _, [], _, h => by simp [ltCps] at h
  | x :: a, y :: b, h1, h2 => by
    simp only [ltCps, Bool.or_eq_false_iff, Bool.and_eq_false_iff, decide_eq_false_iff_not, beq_eq_false_iff_ne] at h1 h2
    have e : x = y := by omega
    subst e
    have h3 : ltCps a b = false := h1.2.resolve_left (fun z => z rfl)
    have h4 : ltCps b a = false := h2.2.resolve_left (fun z => z rfl)
    rw [ltc_tot a b h3 h4]
theorem ltc_trans : ∀ a b c : List Nat, ltCps b a = false → ltCps c b = false → ltCps c a = false
  | [], _, [], _, _ => rfl
  | [], [], _ :: _, _, h => by simp [ltCps]
  | [], _ :: _, _ :: _, h, _ => by simp [ltCps]
  | _ :: _, [], _, h, _ => by simp [ltCps] at h
  | _ :: _, _ :: _, [], _, h => by simp [ltCps] at h
  | x :: a, y :: b, z :: c, h1, h2 => by
    simp only [ltCps, Bool.or_eq_false_iff, Bool.and_eq_false_iff, decide_eq_false_iff_not, beq_eq_false_iff_ne] at h1 h2 ⊢
    refine ⟨by omega, ?_⟩
    by_cases e : z = x
    · right
      have e1 : y = x := by omega
      exact ltc_trans a b c (h1.2.resolve_left (fun q => q e1)) (h2.2.resolve_left (fun q => q (e.trans e1.symm)))
    · exact .inl e
def leS (a b : Str) : Prop := ltCps b.cps.toList a.cps.toList = false
theorem risingS_pw : ∀ (p : Str) (l : List Str), risingS p l = true → (∀ x ∈ l, leS p x) ∧ l.Pairwise leS
  | p, [], _ => ⟨(fun _ h => nomatch h), .nil⟩
  | p, x :: r, h => by
    simp only [risingS, Bool.and_eq_true, Bool.not_eq_true'] at h
    obtain ⟨h1, h2⟩ := risingS_pw x r h.2
    refine ⟨fun y hy => ?_, .cons h1 h2⟩
    rcases List.mem_cons.mp hy with rfl | hy
    · exact h.1
    · exact ltc_trans _ _ _ h.1 (h1 y hy)
theorem sortedS_pw : ∀ {l : List Str}, sortedS l = true → l.Pairwise leS
  | [], _ => .nil
  | x :: r, h => .cons (risingS_pw x r h).1 (risingS_pw x r h).2
theorem leS_anti {a b : Str} (h1 : leS a b) (h2 : leS b a) : a = b := Str.ext' (Array.toList_inj.mp (ltc_tot _ _ h2 h1))
theorem pw_uniq {l m : List Str} (h1 : l.Pairwise leS) (h2 : m.Pairwise leS) (p : l.Perm m) : l = m := p.eq_of_pairwise (fun _ _ _ _ => leS_anti) h1 h2
theorem sortedS_uniq {l m : List Str} (h1 : sortedS l = true) (h2 : sortedS m = true) (p : l.Perm m) : l = m := pw_uniq (sortedS_pw h1) (sortedS_pw h2) p
theorem insT_fold_nodup : ∀ (xs l : List Str), l.Nodup → (xs.foldl insT l).Nodup
  | [], l, h => h
  | x :: r, l, h => insT_fold_nodup r _ (insT_nodup h)
theorem toSet_nodup (xs : List Str) : (toSet xs).Nodup := insT_fold_nodup xs [] List.nodup_nil
theorem toSet_perm {xs ys : List Str} (h : ∀ k, k ∈ xs ↔ k ∈ ys) : (toSet xs).Perm (toSet ys) := by
  refine (List.perm_ext_iff_of_nodup (toSet_nodup xs) (toSet_nodup ys)).mpr fun k => ?_
  rw [toSet_mem, toSet_mem, h]
/-- ys is what sorted(set(xs)) gives -/
def SrtOf (xs ys : List Str) : Prop := sortedS ys = true ∧ ys.Perm (toSet xs)
theorem SrtOf.uniq {xs xs' ys ys' : List Str} (a : SrtOf xs ys) (b : SrtOf xs' ys') (h : ∀ k, k ∈ xs ↔ k ∈ xs') : ys = ys' :=
  sortedS_uniq a.1 b.1 (a.2.trans ((toSet_perm h).trans b.2.symm))
theorem SrtOf.mem {xs ys : List Str} (a : SrtOf xs ys) {k : Str} : k ∈ ys ↔ k ∈ xs := by rw [a.2.mem_iff, toSet_mem]
/-! ### pairs -/
def two (a b : Nat) : Str := ⟨#[a, b]⟩
def one (a : Nat) : Str := ⟨#[a]⟩
def tx (l : List Nat) : Str := ⟨l.toArray⟩
def prs : List Nat → List Str
  | a :: b :: r => two a b :: prs (b :: r)
  | _ => []
theorem prs_snoc : ∀ (z : List Nat) (a b : Nat), prs (z ++ [a, b]) = prs (z ++ [a]) ++ [two a b]
  | [], a, b => rfl
  | [x], a, b => rfl
  | x :: y :: z, a, b => by
    exact congrArg (two x y :: ·) (prs_snoc (y :: z) a b)
def pin (t : List Nat) : List Str := prs (94 :: (t ++ [36]))
theorem prs_len : ∀ l : List Nat, (prs l).length = l.length - 1
  | [] => rfl
  | [_] => rfl
  | a :: b :: r => by
    show (prs (b :: r)).length + 1 = _
    rw [prs_len (b :: r)]
    simp
theorem prs_get : ∀ (l : List Nat) (i a b : Nat), l[i]? = some a → l[i + 1]? = some b → (prs l)[i]? = some (two a b)
  | [], i, a, b, h, _ => by simp at h
  | [_], 0, a, b, _, h => by simp at h
  | [_], i + 1, a, b, h, _ => by simp at h
  | x :: y :: r, 0, a, b, h1, h2 => by
    simp at h1 h2
    subst h1; subst h2
    rfl
  | x :: y :: r, i + 1, a, b, h1, h2 => prs_get (y :: r) i a b h1 h2
/-! ### texts over some letters -/
def lst (t : List Nat) : Nat := (94 :: t).getLast (List.cons_ne_nil _ _)
theorem lst_nil : lst [] = 94 := rfl
theorem lst_snoc (t : List Nat) (c : Nat) : lst (t ++ [c]) = c := by
  unfold lst
  show ((94 :: t) ++ [c]).getLast _ = c
  exact List.getLast_concat
theorem prs_more (t : List Nat) (c : Nat) : prs (94 :: (t ++ [c])) = prs (94 :: t) ++ [two (lst t) c] := by
  have e : 94 :: t = (94 :: t).dropLast ++ [lst t] := (List.dropLast_concat_getLast (List.cons_ne_nil 94 t)).symm
  have q := prs_snoc (94 :: t).dropLast (lst t) c
  rw [← e] at q
  rw [← q]
  refine congrArg prs ?_
  rw [show (94 :: t).dropLast ++ [lst t, c] = ((94 :: t).dropLast ++ [lst t]) ++ [c] by rw [List.append_assoc] <;> rfl, ← e] <;> rfl
theorem pin_eq (t : List Nat) : pin t = prs (94 :: t) ++ [two (lst t) 36] := prs_more t 36
def chn (m : Str → Bool) (t : List Nat) : Bool := (prs (94 :: t)).all m
theorem chn_snoc (m : Str → Bool) (t : List Nat) (c : Nat) : chn m (t ++ [c]) = (chn m t && m (two (lst t) c)) := by
  unfold chn
  rw [prs_more, List.all_append]
  simp
def alw (m : Str → Bool) (t : List Nat) : Bool := (pin t).all m
theorem alw_eq (m : Str → Bool) (t : List Nat) : alw m t = (chn m t && m (two (lst t) 36)) := by
  unfold alw chn
  rw [pin_eq, List.all_append]
  simp
def more1 (L : List Nat) (t : List Nat) : List (List Nat) := L.map fun c => t ++ [c]
def lev (L : List Nat) : Nat → List (List Nat)
  | 0 => [[]]
  | n + 1 => (lev L n).flatMap (more1 L)
def allT (L : List Nat) : Nat → List (List Nat)
  | 0 => [[]]
  | n + 1 => allT L n ++ lev L (n + 1)
def rws (m : Str → Bool) (L : List Nat) (n : Nat) : List (List Nat) := (lev L n).filter (chn m)
def mor (m : Str → Bool) (L : List Nat) (t : List Nat) : List (List Nat) := (L.filter fun c => m (two (lst t) c)).map fun c => t ++ [c]
theorem mor_eq (m : Str → Bool) (L : List Nat) (t : List Nat) : (more1 L t).filter (chn m) = if chn m t = true then mor m L t else [] := by
  unfold more1 mor
  induction L with
  | nil => simp
  | cons c L ih =>
    rw [List.map_cons, List.filter_cons, ih, chn_snoc, List.filter_cons]
    cases h1 : chn m t <;> cases h2 : m (two (lst t) c) <;> simp
theorem rws_succ (m : Str → Bool) (L : List Nat) (n : Nat) : rws m L (n + 1) = (rws m L n).flatMap (mor m L) := by
  unfold rws
  show ((lev L n).flatMap (more1 L)).filter (chn m) = _
  induction lev L n with
  | nil => rfl
  | cons t r ih =>
    rw [List.flatMap_cons, List.filter_append, ih, mor_eq, List.filter_cons]
    split
    · rw [List.flatMap_cons]
    · rfl
def endOk (m : Str → Bool) (t : List Nat) : Bool := m (two (lst t) 36)
/-- what the walk has found behind n turns -/
def fnd (m : Str → Bool) (L : List Nat) : Nat → List (List Nat)
  | 0 => []
  | n + 1 => fnd m L n ++ (rws m L n).filter (endOk m)
theorem fnd_eq (m : Str → Bool) (L : List Nat) : ∀ n, fnd m L (n + 1) = (allT L n).filter (alw m)
  | 0 => by
    show [] ++ ([[]].filter (chn m)).filter (endOk m) = [[]].filter (alw m)
    rw [List.nil_append, List.filter_filter]
    refine List.filter_congr fun t _ => ?_
    rw [alw_eq, Bool.and_comm] <;> rfl
  | n + 1 => by
    show fnd m L (n + 1) ++ ((lev L (n + 1)).filter (chn m)).filter (endOk m) = (allT L n ++ lev L (n + 1)).filter (alw m)
    rw [fnd_eq m L n, List.filter_append, List.filter_filter]
    refine congrArg _ (List.filter_congr fun t _ => ?_)
    rw [alw_eq, Bool.and_comm] <;> rfl
theorem lev_len (L : List Nat) (k : Nat) (h : L.length ≤ k) : ∀ n, (lev L n).length ≤ k ^ n
  | 0 => Nat.le_refl _
  | n + 1 => by
    have b : ∀ l : List (List Nat), (l.flatMap (more1 L)).length = l.length * L.length := by
      intro l
      induction l with
      | nil => simp
      | cons t r ih =>
        rw [List.flatMap_cons, List.length_append, ih]
        unfold more1
        rw [List.length_map, List.length_cons, Nat.add_mul]
        omega
    show ((lev L n).flatMap (more1 L)).length ≤ _
    rw [b, Nat.pow_succ]
    exact Nat.mul_le_mul (lev_len L k h n) h
theorem lev_mem {L : List Nat} : ∀ {n : Nat} {t : List Nat}, t ∈ lev L n → t.length = n ∧ ∀ c ∈ t, c ∈ L
  | 0, t, h => by
    have e : t = [] := List.mem_singleton.mp h
    subst e
    exact ⟨rfl, fun _ h => nomatch h⟩
  | n + 1, t, h => by
    obtain ⟨u, hu, ht⟩ := List.mem_flatMap.mp h
    obtain ⟨c, hc, rfl⟩ := List.mem_map.mp ht
    obtain ⟨h1, h2⟩ := lev_mem hu
    refine ⟨by rw [List.length_append, h1] <;> rfl, fun d hd => ?_⟩
    rcases List.mem_append.mp hd with q | q
    · exact h2 d q
    · exact List.mem_singleton.mp q ▸ hc
theorem allT_mem {L : List Nat} : ∀ {n : Nat} {t : List Nat}, t ∈ allT L n → t.length ≤ n ∧ ∀ c ∈ t, c ∈ L
  | 0, t, h => by
    have q := lev_mem (L := L) (n := 0) h
    exact ⟨Nat.le_of_eq q.1, q.2⟩
  | n + 1, t, h => by
    rcases List.mem_append.mp h with q | q
    · have r := allT_mem q
      exact ⟨Nat.le_succ_of_le r.1, r.2⟩
    · have r := lev_mem q
      exact ⟨Nat.le_of_eq r.1, r.2⟩
end Sf
/-! Defs that must know that no repr is under way around them: the same promises as a def's, with this known of the surroundings. -/
namespace Sf
open PySem PySem.Spec PyProof.Rows L2
/-- a def's promise where no repr is under way -/
structure FnG (P : Program) (w : World) (K : PySem.W.Frag) (mg : Str → Option Value) (base : Heap) (k : Nat) (f : Addr) (fd : FuncData) (ps : List Str) (sp : Sp) : Prop where
  cnt : ∀ xs Hh W Ex, sp xs Hh W Ex → xs.length = ps.length
  go : ∀ (A : Around) (out : List Env) (st : Shared) (Hh : Hp) (ar : Args) (ys : List Value) (xs : List V) (W : VK) (Ex : XK), Room k A → A.guards = some [] → Env0 P w K mg base A out st Hh → BindsTo st fd ar (ps.zip ys) → Vals xs ys → sp xs Hh W Ex →
    codeAny (model P w) A (.call (.ref f) ar) (CR CX0 out P w Hh st W Ex) st
section
variable {P : Program} {w : World} {K : PySem.W.Frag} {mg : Str → Option Value} {base : Heap}
theorem okG {x qual : Str} {st : Stmt} {f : Addr} {fd : FuncData} {N ps : List Str} {k : Nat} {sp : Sp} (F : Fun K x qual st f fd) (S : FnScope N ps (defScope st)) (cnt : ∀ xs Hh W Ex, sp xs Hh W Ex → xs.length = ps.length)
    (body : ∀ (cdv : Value) (A : Around) (out : List Env) (sh : Shared) (Hh : Hp) (xs : List V) (W : VK) (Ex : XK), Room k (A.deeper (envOfC qual (defScope st) sh.heap.objs.size f cdv)) → A.guards = some [] → sp xs Hh W Ex →
      ∃ t, PSs (cxOf CX0 P w K mg base N qual (defScope st) f cdv A out sh Hh Ex).nox (defBody st) t ∧ t { nx := fun _ H' => W .non H', rt := W } (start N xs) Hh) : FnG P w K mg base (k + 1) f fd ps sp := by
  obtain ⟨oc, od, kV, doc, pm, an, cdv, ct, osl, rfl, look, code⟩ := F.ex
  refine ⟨cnt, fun A out sh Hh ar ys xs W Ex room gd e0 bind rel prom => ?_⟩
  have count := cnt _ _ _ _ prom
  have here : K.In sh.heap := e0.mod.kin.keeps fun p ob e => (e0.bs p ob e).1
  have calm : sh.heap.NoLimit := e0.mod.nolimit.keeps fun p ob e => (e0.bs p ob e).1
  have kinds : ∀ z ∈ ps.zip ys, (defScope st).names.lookup z.1 = some .local ∨ ((defScope st).names.lookup z.1 = some .cell ∧ ((cellsFrom (sh.heap.objs.size + 1) (defScope st).names []).lookup z.1).isSome = true) := fun ⟨nm, vl⟩ hz =>
    (S.par nm (List.of_mem_zip hz).1).elim .inl fun c => .inr ⟨c, PySem.W.cellsFrom_some _ _ _ (.inl c)⟩
  refine codeAny_call_function room.depth (here _ _ look) rfl S.co S.gen rfl (PySem.W.codeRec_of here code) (bind _ _ _ _ (wpAny_newFunctionEnv_cells S.kind kinds fun env ee sh1 ent => ?_))
  subst ee
  refine ⟨calm.keeps ent.toInCall.keep, codeAny_func ?_⟩
  obtain ⟨t, walk, start1⟩ := body cdv A out sh Hh xs W Ex (room.deeper _) gd prom
  have I := inv_start (CX := CX0) (E := Ex) S room.hd e0 count rel ent
  refine wpAny_mono (walk.nox.run [] sh1 (start N xs) Hh _ I start1) (fun how sh2 done => ?_) fun ex sh2 done => done
  match how, done with
  | .ret u, ⟨v, σ2, H2, J, rv, qv⟩ => exact ⟨v, H2, J.os, J.bare, J.base, J.hok, rv, qv⟩
  | .next, ⟨σ2, H2, J, qv⟩ => exact ⟨V.non, H2, J.os, J.bare, J.base, J.hok, rfl, qv⟩
  | .brk, ⟨_, _, _, no⟩ => exact no.elim
  | .cont, ⟨_, _, _, no⟩ => exact no.elim
/-- such a def called from another one -/
theorem pe_callG {X : Cx} {k : Nat} {f : Addr} {fd : FuncData} {ps : List Str} {sp : Sp} {x : Str} {p pos : Pos} {e : Expr} {es : List Expr} {t : TA} (F : FnG X.prog X.w X.K X.mg X.base k f fd ps sp) (room : Room k X.A) (gd : X.A.guards = some []) (hg : Gl X x) (hm : X.mg x = some (.ref f))
    (kp : PySem.W.keepIn X.K (.ref f) = true) (hb : Binds X.K fd ps []) (ha : PA X (e :: es) t) (hx : Passes CX0 X E0) (hdb : (x == ("__debug__" : Str)) = false := by decide)
    (he : starEach (e :: es) X.env = (false, eval e X.env) :: starEach es X.env := by rfl) (hpl : (backTo pos (starEach es X.env)).any (·.1) = false := by rfl) : PE X (.Call (.Name x p) (e :: es) [] pos) (tCall sp [] E0 t) :=
  ⟨fun pins sh σ Hh W I prom => wpAny_Call_Name_kw (ld_glob I hg hm
    (PySem.W.callWith_K (h₀ := X.base) I.ok.mod.kin kp (thn (ha.run pos pins sh σ Hh _ I prom) fun ys s1 ⟨xs, H1, I1, rel, q⟩ => ⟨I1.kIn, by
      have q : sp (xs ++ []) H1 W E0 := q
      rw [List.append_nil] at q
      have len1 : (ys ++ ([] : List Value)).length = ps.length := by
        rw [List.append_nil, ← rel.length]
        exact F.cnt _ _ _ _ q
      have bd := hb s1 ys I1.kIn len1
      rw [List.append_nil] at bd
      refine wpAny_call (codeAny_mono (F.go X.A X.stack s1 H1 ⟨ys, []⟩ ys xs W E0 room gd I1.env0 bd rel q) fun r s2 ends => ?_)
      match r, ends with
      | .error ex, z => exact hx pins σ H1 s1 ex s2 I1 z
      | .ok (.ret u), z => exact I1.after z
      | .ok .next, z => exact z.elim
      | .ok .brk, z => exact z.elim
      | .ok .cont, z => exact z.elim⟩) he hpl) hdb)⟩
/-- the law's own call, where its def is such a one -/
theorem law_callG {mb : Str → Option Value} {k : Nat} {fa a : Addr} {fd : FuncData} {x : Str} {sp : Sp} {sh : Shared} {us : List Value} {ns : List Int} (KX : K.In sh.heap) (hm : sh.heap.Ns mainGlobals mg) (hb : sh.heap.Ns builtinsNs mb) (hbb : ∀ y : Str, y ≠ "__name__" → mb y = bootBuiltins y)
    (lim : sh.heap.NoLimit) (gens : sh.gens = #[]) (at_ : sh.heap.get? a = some { cls := .type "list", data := .seq us.toArray }) (hints : IntsAre us ns) (fits : ns.length ≤ sizeLine) (room : Room k callerA)
    (F : ∀ b : Heap, K.In b → b.Ns mainGlobals mg → FnG P w K mg b k fa fd [x] sp) (bind : ∀ (s : Shared) (u : Value), BindsTo s fd ⟨[u], []⟩ [(x, u)]) (prom : ∀ Hh : Hp, SqL K Hh a (ns.map V.int) → sp [.ref a] Hh (fun v _ => v = .bl true) E0) :
    codeAny (model P w) callerA (.call (.ref fa) ⟨[.ref a], []⟩) (fun r s' => r = .ok (.ret (.bool true)) ∧ OldK sh.heap s'.heap ∧ s'.os = sh.os ∧ AllBare s'.gens) sh := by
  have rel := vals_ints hints
  have lens : us.length ≤ sizeLine := by
    rw [hints.length]
    exact fits
  -- what is tracked: the script's list alone, unless the module has it
  obtain ⟨Hh, only, hS⟩ : ∃ Hh : Hp, (∀ b u, Hh b = some u → b = a ∧ K.lookup a = none ∧ u = .frz { cls := .type "list", data := .seq us.toArray } (.lst (ns.map V.int))) ∧ SqL K Hh a (ns.map V.int) := by
    cases hk : K.lookup a with
    | some ob =>
      obtain rfl : ob = _ := Option.some.inj ((KX a ob hk).symm.trans at_)
      exact ⟨fun _ => none, (fun _ _ z => nomatch z), .inr ⟨_, us.toArray, _, hk, rfl, rfl, rfl, by rw [List.size_toArray]; exact lens, by simpa using rel⟩⟩
    | none =>
      refine ⟨fun b => if b = a then some (.frz { cls := .type "list", data := .seq us.toArray } (.lst (ns.map V.int))) else none, fun b u z => ?_, .inl (.inr ⟨_, if_pos rfl⟩)⟩
      dsimp only at z
      by_cases e : b = a
      · rw [if_pos e] at z
        exact ⟨e, rfl, (Option.some.inj z).symm⟩
      · rw [if_neg e] at z
        cases z
  have notK : ∀ b o, K.lookup b = some o → Hh b = none := fun b o e => by
    cases q : Hh b with
    | none => rfl
    | some u =>
      obtain ⟨e1, e2, _⟩ := only b u q
      rw [e1, e2] at e
      cases e
  have notD : ∀ (b : Addr) (o : Obj) (es : Array DictEntry) (ep : Nat), sh.heap.get? b = some o → o.data = .dict es ep → Hh b = none := fun b o es ep e d => by
    cases q : Hh b with
    | none => rfl
    | some u =>
      obtain ⟨e1, _, _⟩ := only b u q
      rw [e1, at_] at e
      cases e
      cases d
  have space : ∀ {b : Addr} {m : Str → Option Value}, sh.heap.Ns b m → (hidT sh.heap Hh).Ns b m := fun {b m} ⟨o, es, ep, e, d, r⟩ => ⟨o, es, ep, hidT_get e (notD b o es ep e d), d, r⟩
  have inB : K.In (hidT sh.heap Hh) := fun b o e => hidT_get (KX b o e) (notK b o e)
  have md : Mod K mg (hidT sh.heap Hh) := ⟨inB, space hm, ⟨mb, space hb, hbb⟩, lim.elim fun mc z => ⟨mc, space z.1, z.2⟩⟩
  have held : HOk P w Hh sh.heap := fun b u z => by
    obtain ⟨e1, _, e3⟩ := only b u z
    subst e1
    subst e3
    exact ⟨at_, by rw [List.length_map]; exact fits, us, _, rel, at_⟩
  have e0 : Env0 P w K mg (hidT sh.heap Hh) callerA [] sh Hh := ⟨rfl, md, fun b o e => of_hidT e, Nat.le_of_eq (hidT_size _ _), trivial, (fun b z => nomatch z), held, .of_eq gens⟩
  refine codeAny_mono ((F _ inB (space hm)).go callerA [] sh Hh ⟨[.ref a], []⟩ [.ref a] [.ref a] _ _ room rfl e0 (bind sh (.ref a)) (.cons rfl .nil) (prom Hh hS)) fun r s2 done => ?_
  match r, done with
  | .error ex, z => exact absurd z (by
      intro z
      exact z)
  | .ok .next, z => exact z.elim
  | .ok .brk, z => exact z.elim
  | .ok .cont, z => exact z.elim
  | .ok (.ret u), ⟨v, H2, os, bare, un, held2, rv, qv⟩ =>
    obtain rfl : v = .bl true := qv
    obtain rfl : u = Value.bool true := rv
    refine ⟨rfl, OldK.of_keep fun b o e => ?_, os, bare⟩
    cases q : Hh b with
    | none => exact un.keep b o e q (fun z => nomatch z) (fun z => nomatch z)
    | some t =>
      obtain ⟨e1, _, e3⟩ := only b t q
      rw [e3] at q
      obtain ⟨g1, _⟩ := held b _ q
      obtain ⟨g2, _⟩ := held2 b _ (un.frzs b _ _ q)
      rw [e] at g1
      cases g1
      exact g2
/-- the end of a claim whose law is such a def -/
theorem walk_G {l : PySem.W.OpenLaw} {n k : Nat} {q : Program} {loose : List Str} {XP : (Str → Option Value) → Heap → Prop} {YP : World → Heap → Prop} {d : DefRec} {KK : Params → PySem.W.Frag} {sp : World → Sp} {x : Str} (most : l.most = some n) (few : n ≤ sizeLine) (nodef : d.params.defaults = []) (room : Room k callerA)
    (hY : ∀ (w : World) (h : Heap), YP w h → (KK w.params).In h)
    (F : ∀ (w : World) (mg : Str → Option Value) (fa : Addr) (h : Heap), (KK w.params).In h → h.Ns mainGlobals mg → mg d.name = some (.ref fa) →
      ∃ fd : FuncData, (∀ (s : Shared) (u : Value), BindsTo s fd ⟨[u], []⟩ [(x, u)]) ∧ ∀ b : Heap, (KK w.params).In b → b.Ns mainGlobals mg → FnG l.prog w (KK w.params) mg b k fa fd [x] (sp w))
    (prom : ∀ (w : World) (Hh : Hp) (a : Addr) (ns : List Int), ns.length ≤ n → SqL (KK w.params) Hh a (ns.map V.int) → sp w [.ref a] Hh (fun v _ => v = .bl true) E0) :
    PySem.W.WalkO q loose XP YP l.row.toRowW d [] (fun f vs => PySem.call f vs) :=
  Att.attach_call most nodef fun w s0 s1 mg mb fa o pm cd doc a vs ns G Y _ _ _ hmg hobj hints hlen hg => by
    have KX := hY w _ Y
    obtain ⟨fd, bind, hF⟩ := F w mg fa _ KX G.T.g hmg
    exact law_callG KX G.T.g G.T.b G.T.builtins G.T.nolimit hg hobj hints (Nat.le_trans hlen few) room hF bind fun Hh hS => prom w Hh a ns hlen hS
end
end Sf
/-! Values of any kind, as trees of data on the tracked heap: None, bools, ints, texts, lists, tuples, dicts with one text as key; their repr, their isinstance. -/
namespace Sf
open PySem PySem.Spec PyProof.Rows L2
mutual
/-- v is the data d; no object of it stands at p; with g none of its lists at the modules' own place -/
inductive Od (g : Bool) (p : Addr) (H : Hp) : V → PyData → Prop
  | non : Od g p H .non .none
  | bl (b : Bool) : Od g p H (.bl b) (.bool b)
  | int (i : Int) : Od g p H (.int i) (.int i)
  | str (x : Str) : Od g p H (.str x) (.str x)
  | lst {a : Addr} {xs : List V} {ds : List PyData} : a ≠ p → (g = true → a ≠ sysModules) → H a = some (.lst xs) → OdAll g p H xs ds → Od g p H (.ref a) (.list ds)
  | tup {a : Addr} {xs : List V} {ds : List PyData} : a ≠ p → H a = some (.tup xs) → OdAll g p H xs ds → Od g p H (.ref a) (.tuple ds)
  | dic0 {a : Addr} : g = true → a ≠ p → H a = some (.dK []) → Od g p H (.ref a) (.dict [])
  | dic1 {a : Addr} {x : Str} {v : V} {d : PyData} : g = true → a ≠ p → H a = some (.dK [(.inr x, v)]) → Od g p H v d → Od g p H (.ref a) (.dict [(.str x, d)])
inductive OdAll (g : Bool) (p : Addr) (H : Hp) : List V → List PyData → Prop
  | nil : OdAll g p H [] []
  | cons {v : V} {vs : List V} {d : PyData} {ds : List PyData} : Od g p H v d → OdAll g p H vs ds → OdAll g p H (v :: vs) (d :: ds)
end
section
variable {g : Bool} {p : Addr} {H H' : Hp}
mutual
theorem Od.mono (k : ∀ b o, b ≠ p → H b = some o → H' b = some o) : ∀ {d : PyData} {v : V}, Od g p H v d → Od g p H' v d
  | .none, _, h => by
    cases h
    exact .non
  | .bool b, _, h => by
    cases h
    exact .bl b
  | .int i, _, h => by
    cases h
    exact .int i
  | .str x, _, h => by
    cases h
    exact .str x
  | .list ds, _, h => by
    cases h with
    | lst n1 n2 e t => exact .lst n1 n2 (k _ _ n1 e) (OdAll.mono k t)
  | .tuple ds, _, h => by
    cases h with
    | tup n1 e t => exact .tup n1 (k _ _ n1 e) (OdAll.mono k t)
  | .dict [], _, h => by
    cases h with
    | dic0 g1 n1 e => exact .dic0 g1 n1 (k _ _ n1 e)
  | .dict [(.str x, d)], _, h => by
    cases h with
    | dic1 g1 n1 e t => exact .dic1 g1 n1 (k _ _ n1 e) (Od.mono k t)
  | .dict ((.none, _) :: _), _, h => by cases h
  | .dict ((.bool _, _) :: _), _, h => by cases h
  | .dict ((.int _, _) :: _), _, h => by cases h
  | .dict ((.list _, _) :: _), _, h => by cases h
  | .dict ((.tuple _, _) :: _), _, h => by cases h
  | .dict ((.dict _, _) :: _), _, h => by cases h
  | .dict ((.str _, _) :: _ :: _), _, h => by cases h
theorem OdAll.mono (k : ∀ b o, b ≠ p → H b = some o → H' b = some o) : ∀ {ds : List PyData} {vs : List V}, OdAll g p H vs ds → OdAll g p H' vs ds
  | [], _, h => by
    cases h
    exact .nil
  | d :: ds, _, h => by
    cases h with
    | cons h1 h2 => exact .cons (Od.mono k h1) (OdAll.mono k h2)
end
theorem OdAll.len : ∀ {ds : List PyData} {vs : List V}, OdAll g p H vs ds → vs.length = ds.length
  | [], _, h => by
    cases h
    rfl
  | d :: ds, _, h => by
    cases h with
    | cons h1 h2 =>
      rw [List.length_cons, List.length_cons, h2.len]
theorem OdAll.get : ∀ {ds : List PyData} {vs : List V} {i : Nat} {v : V}, OdAll g p H vs ds → vs[i]? = some v → ∃ d, ds[i]? = some d ∧ Od g p H v d
  | [], _, _, _, h, e => by
    cases h
    cases e
  | d :: ds, _, 0, _, h, e => by
    cases h with
    | cons h1 h2 =>
      obtain rfl := Option.some.inj e
      exact ⟨d, rfl, h1⟩
  | d :: ds, _, i + 1, _, h, e => by
    cases h with
    | cons h1 h2 => exact h2.get (i := i) e
theorem OdAll.strs : ∀ (xs : List Str), OdAll g p H (xs.map V.str) (xs.map PyData.str)
  | [] => .nil
  | x :: xs => .cons (.str x) (OdAll.strs xs)
theorem OdAll.app : ∀ {ds es : List PyData} {vs us : List V}, OdAll g p H vs ds → OdAll g p H us es → OdAll g p H (vs ++ us) (ds ++ es)
  | [], es, _, us, h, k => by
    cases h
    exact k
  | d :: ds, es, _, us, h, k => by
    cases h with
    | cons h1 h2 => exact .cons h1 (h2.app k)
/-- texts alone, as a list of texts -/
theorem OdAll.isStrs : ∀ {ds : List PyData} {vs : List V}, OdAll g p H vs ds → (∀ d ∈ ds, ∃ x, d = .str x) → ∃ ts : List Str, vs = ts.map V.str ∧ ds = ts.map PyData.str
  | [], _, h, _ => by
    cases h
    exact ⟨[], rfl, rfl⟩
  | d :: ds, _, h, a => by
    cases h with
    | cons h1 h2 =>
      obtain ⟨x, rfl⟩ := a d List.mem_cons_self
      cases h1
      obtain ⟨ts, e1, e2⟩ := h2.isStrs fun z hz => a z (List.mem_cons_of_mem _ hz)
      exact ⟨x :: ts, by rw [e1] <;> rfl, by rw [e2] <;> rfl⟩
mutual
theorem Od.weak : ∀ {d : PyData} {v : V}, Od false p H v d → d.hasDict = false
  | .none, _, _ => rfl
  | .bool b, _, _ => rfl
  | .int i, _, _ => rfl
  | .str x, _, _ => rfl
  | .list ds, _, h => by
    cases h with
    | lst _ _ _ t =>
      simp only [PyData.hasDict]
      exact OdAll.weak t
  | .tuple ds, _, h => by
    cases h with
    | tup _ _ t =>
      simp only [PyData.hasDict]
      exact OdAll.weak t
  | .dict _, _, h => by
    cases h with
    | dic0 g1 => cases g1
    | dic1 g1 => cases g1
theorem OdAll.weak : ∀ {ds : List PyData} {vs : List V}, OdAll false p H vs ds → PyData.hasDictAll ds = false
  | [], _, _ => rfl
  | d :: ds, _, h => by
    cases h with
    | cons h1 h2 =>
      simp only [PyData.hasDictAll]
      rw [Od.weak h1, OdAll.weak h2] <;> rfl
end
end
section
variable {X : Cx} {pins : List (Addr × Obj)} {σ : L2.St} {g : Bool} {p : Addr} {H : Hp} {s : Shared}
theorem one_pair {knd : KeyKind X.prog X.w Key} {es : List DictEntry} {kv : Key × Value} (h : Pairs knd es [kv]) : ∃ e, es = [e] ∧ knd.is kv.1 e.key = true ∧ e.val = kv.2 := by
  cases h with
  | cons h1 h2 h3 =>
    cases h3
    exact ⟨_, rfl, h1, h2⟩
theorem no_pair {knd : KeyKind X.prog X.w Key} {es : List DictEntry} (h : Pairs knd es []) : es = [] := by
  cases h
  rfl
mutual
theorem Od.reads (I : Inv X pins σ H s) : ∀ (d : PyData) (v : V) (u : Value), Od g p H v d → RelV v u → ∃ as, Reads s.heap u d as ∧ (g = true → sysModules ∉ as)
  | .none, _, _, h, r => by
    cases h
    cases r
    exact ⟨_, .none, fun _ => List.not_mem_nil⟩
  | .bool b, _, _, h, r => by
    cases h
    cases r
    exact ⟨_, .bool b, fun _ => List.not_mem_nil⟩
  | .int i, _, _, h, r => by
    cases h
    obtain ⟨t, rfl⟩ := r
    exact ⟨_, .int i t, fun _ => List.not_mem_nil⟩
  | .str x, _, _, h, r => by
    cases h
    obtain ⟨t, rfl⟩ := r
    exact ⟨_, .str x t, fun _ => List.not_mem_nil⟩
  | .list ds, _, _, h, r => by
    cases h with
    | lst n1 n2 e t =>
      cases r
      obtain ⟨_, its, n, rv, h1⟩ := (show ObjOk X.prog X.w H s.heap _ (.lst _) from I.hok _ _ e)
      obtain ⟨as, hr, hn⟩ := OdAll.reads I ds _ its t rv
      refine ⟨_, .list h1 rfl rfl hr, fun q z => ?_⟩
      rcases List.mem_cons.mp z with z | z
      · exact n2 q z.symm
      · exact hn q z
  | .tuple ds, _, _, h, r => by
    cases h with
    | tup n1 e t =>
      cases r
      obtain ⟨_, its, rv, o, h1, h2, n, h3⟩ := (show ObjOk X.prog X.w H s.heap _ (.tup _) from I.hok _ _ e)
      obtain ⟨as, hr, hn⟩ := OdAll.reads I ds _ its t rv
      exact ⟨_, .tuple h1 h2 h3 hr, hn⟩
  | .dict [], _, _, h, r => by
    cases h with
    | dic0 g1 n1 e =>
      cases r
      obtain ⟨_, n2, vs, kv, o, es, ep, h1, h2, h3, _, h4, _⟩ := (show ObjOk X.prog X.w H s.heap _ (.dK _) from I.hok _ _ e)
      cases kv
      have e0 := no_pair h4
      refine ⟨_, .dict (as := []) (bs := []) h1 h2.1 h3 (by rw [e0]; exact .nil) (by rw [e0]; exact .nil), fun _ z => ?_⟩
      rcases List.mem_cons.mp z with z | z
      · exact (beq_eq_false_iff_ne.mp n2) z.symm
      · exact List.not_mem_nil z
  | .dict [(.str x, d)], _, _, h, r => by
    cases h with
    | dic1 g1 n1 e t =>
      cases r
      obtain ⟨_, n2, vs, kv, o, es, ep, h1, h2, h3, _, h4, _⟩ := (show ObjOk X.prog X.w H s.heap _ (.dK _) from I.hok _ _ e)
      cases kv with
      | @cons _ kw _ _ q1 q2 =>
        cases q2
        obtain ⟨k1, w1⟩ := kw
        obtain ⟨q3, q4⟩ := q1
        obtain ⟨e1, ee, e2, e3⟩ := one_pair h4
        obtain rfl : Sum.inr x = k1 := q3
        obtain ⟨as, hr, hn⟩ := Od.reads I d _ w1 t q4
        obtain ⟨y, tk, ey, ek⟩ : ∃ y tk, (Sum.inr x : Key) = Sum.inr y ∧ e1.key = Value.str y tk := by
          rcases keyIs_shape (k := Sum.inr x) (v := e1.key) e2 with ⟨i, tk, z, _⟩ | ⟨y, tk, z, z2⟩
          · cases z
          · exact ⟨y, tk, z, z2⟩
        cases ey
        refine ⟨_, .dict (as := []) (bs := as ++ []) h1 h2.1 h3 ?_ ?_, fun q z => ?_⟩
        · rw [ee]
          show ReadsAll s.heap [e1.key] [PyData.str x] []
          rw [ek]
          exact .cons (as := []) (.str x tk) .nil
        · rw [ee]
          show ReadsAll s.heap [e1.val] [d] (as ++ [])
          rw [e3]
          exact .cons hr .nil
        · rcases List.mem_cons.mp z with z | z
          · exact (beq_eq_false_iff_ne.mp n2) z.symm
          · have z : sysModules ∈ as ++ [] := z
            rw [List.append_nil] at z
            exact hn q z
  | .dict ((.none, _) :: _), _, _, h, _ => by cases h
  | .dict ((.bool _, _) :: _), _, _, h, _ => by cases h
  | .dict ((.int _, _) :: _), _, _, h, _ => by cases h
  | .dict ((.list _, _) :: _), _, _, h, _ => by cases h
  | .dict ((.tuple _, _) :: _), _, _, h, _ => by cases h
  | .dict ((.dict _, _) :: _), _, _, h, _ => by cases h
  | .dict ((.str _, _) :: _ :: _), _, _, h, _ => by cases h
theorem OdAll.reads (I : Inv X pins σ H s) : ∀ (ds : List PyData) (vs : List V) (us : List Value), OdAll g p H vs ds → Vals vs us → ∃ as, ReadsAll s.heap us ds as ∧ (g = true → sysModules ∉ as)
  | [], _, _, h, r => by
    cases h
    cases r
    exact ⟨_, .nil, fun _ => List.not_mem_nil⟩
  | d :: ds, _, _, h, r => by
    cases h with
    | cons h1 h2 =>
      cases r with
      | cons r1 r2 =>
        obtain ⟨as, q1, n1⟩ := Od.reads I d _ _ h1 r1
        obtain ⟨bs, q2, n2⟩ := OdAll.reads I ds _ _ h2 r2
        refine ⟨_, .cons q1 q2, fun q z => ?_⟩
        rcases List.mem_append.mp z with z | z
        · exact n1 q z
        · exact n2 q z
end
/-- data that is small enough to be shown -/
structure Sm (n m : Nat) (d : PyData) : Prop where
  sh : d.showable = true
  lv : d.leavesShort 40 = true
  wt : d.weight ≤ n
  dp : d.depth ≤ m
theorem Sm.fits {n m : Nat} {d : PyData} (h : Sm n m d) (hn : n ≤ 100000) : d.shown.length ≤ sizeLine := by
  have h1 := PyData.shown_le 40 (by decide) d h.lv
  have h2 : (40 + 2) * d.weight ≤ 42 * 100000 := Nat.mul_le_mul (by decide) (Nat.le_trans h.wt hn)
  exact Nat.le_trans (show _ ≤ 4200040 by omega) (by decide)
/-- repr of any such value -/
def rRepr : List V → Hp → VK → Prop := fun vs H Q => ∃ (v : V) (g : Bool) (p : Addr) (d : PyData) (n m : Nat), vs = [v] ∧ Od g p H v d ∧ Sm n m d ∧ n ≤ 100000 ∧ m ≤ 60 ∧ Q (.str d.shown) H
theorem cr_repr (hg : X.A.guards = some []) (hu : X.A.units + 64 < cLine) : CallR X (.builtin "repr") rRepr := by
  intro pins s σ H vs us Q I r h
  obtain ⟨v, g, p, d, n, m, rfl, ho, sm, hn, hm, q⟩ := h
  obtain ⟨u, rfl, r1⟩ := vals1 r
  obtain ⟨as, rd, nm⟩ := Od.reads I d v u ho r1
  have fit := sm.fits hn
  have dep : d.depth ≤ 60 := Nat.le_trans sm.dp hm
  have big : d.hasDict = true → sysModules ∉ as := fun z => by
    cases g with
    | true => exact nm rfl
    | false =>
      rw [ho.weak] at z
      cases z
  cases rd with
  | none => exact PySem.P.repr_of_none ⟨.str _, H, I.tok _, ⟨_, rfl⟩, q⟩
  | bool b => exact PySem.P.repr_of_bool ⟨.str _, H, I.tok _, ⟨_, rfl⟩, q⟩
  | int i t => exact PySem.P.repr_of_int (by simpa [PyData.showable] using sm.sh) ⟨.str _, H, I.tok _, ⟨_, rfl⟩, q⟩
  | str x t => exact PySem.P.repr_of_str ⟨.str _, H, I.tok _, ⟨_, rfl⟩, q⟩ fit
  | list h1 h2 h3 h4 => exact repr_of_reads' (.list h1 h2 h3 h4) sm.sh big hg (by omega) (fun _ _ e => e) (fun h' u tk k => ⟨.str _, H, I.kept k, ⟨_, rfl⟩, q⟩) fit
  | tuple h1 h2 h3 h4 => exact repr_of_reads' (.tuple h1 h2 h3 h4) sm.sh big hg (by omega) (fun _ _ e => e) (fun h' u tk k => ⟨.str _, H, I.kept k, ⟨_, rfl⟩, q⟩) fit
  | dict h1 h2 h3 h4 h5 => exact repr_of_reads' (.dict h1 h2 h3 h4 h5) sm.sh big hg (by omega) (fun _ _ e => e) (fun h' u tk k => ⟨.str _, H, I.kept k, ⟨_, rfl⟩, q⟩) fit
/-- a list that is written out, with where it does not stand -/
def tLstN (t : TA) : TE := fun σ H Q => t σ H fun xs H1 => xs.length ≤ sizeLine ∧ ∀ l, H1 l = none → l ≠ sysModules → Q (.ref l) (upd H1 l (.lst xs))
theorem pe_lstN {es : List Expr} {t : TA} {pos : Pos} (h : PA X es t) : PE X (.List es pos) (tLstN t) :=
  ⟨fun pins s σ H Q I hq => wpAny_List_spliced (thn (h.run pos pins s σ H _ I hq) fun us s1 ⟨xs, H1, I1, r, z, q⟩ => ⟨by
    rw [← r.length]
    exact z, .ref s1.heap.objs.size, upd H1 s1.heap.objs.size (.lst xs), I1.laid (t' := s1.toks) (fun b u e => Heap.get?_push_of_some _ e) (Nat.le_refl _) ⟨z, us, 0, r, Heap.get?_push_size _ rfl⟩, rfl,
      q _ (I1.hok.fresh (Nat.le_refl _)) (Ne.symm (Nat.ne_of_lt I1.big))⟩)⟩
/-! ### isinstance -/
def tyN : PyData → String
  | .none => "NoneType"
  | .bool _ => "bool"
  | .int _ => "int"
  | .str _ => "str"
  | .list _ => "list"
  | .tuple _ => "tuple"
  | .dict _ => "dict"
theorem Od.ty {K : PySem.W.Frag} : ∀ {d : PyData} {v : V}, Od g p H v d → TyX K H v (.type (tyN d))
  | _, _, .non => .base .non
  | _, _, .bl b => .base (.bl b)
  | _, _, .int i => .base (.int i)
  | _, _, .str x => .base (.str x)
  | _, _, .lst _ _ e _ => .base (.lst e)
  | _, _, .tup _ e _ => .base (.tup e)
  | _, _, .dic0 _ _ e => .base (.dK e)
  | _, _, .dic1 _ _ e _ => .base (.dK e)
def isS : PyData → Bool
  | .str _ => true
  | _ => false
def isT : PyData → Bool
  | .tuple _ => true
  | _ => false
theorem kit_str (d : PyData) : kitB (tyN d) "str" = some (isS d) := by
  cases d <;> (simp only [tyN, isS, isT]; decide +kernel)
theorem kit_tup (d : PyData) : kitB (tyN d) "tuple" = some (isT d) := by
  cases d <;> (simp only [tyN, isS, isT]; decide +kernel)
/-- isinstance(v, str) -/
theorem isi_str {K : PySem.W.Frag} {d : PyData} {v : V} {Q : VK} (h : Od g p H v d) (q : Q (.bl (isS d)) H) : rIsi K [v, .ty "str"] H Q := ⟨v, .ty "str", _, _, _, rfl, .ty "str", h.ty, kit_ty (kit_str d), q⟩
/-- isinstance(v, tuple) -/
theorem isi_tup {K : PySem.W.Frag} {d : PyData} {v : V} {Q : VK} (h : Od g p H v d) (q : Q (.bl (isT d)) H) : rIsi K [v, .ty "tuple"] H Q := ⟨v, .ty "tuple", _, _, _, rfl, .ty "tuple", h.ty, kit_ty (kit_tup d), q⟩
end
end Sf
/-! The program's text, by places; the reader's object; trees on the heap. -/
namespace Sf4
open PySem PySem.Spec PyProof.Rows L2 Sf
def topS (i : Nat) : Stmt := PySem.Challenge.pw_siftstore_k06_strings_of_any_form.main.body.getD i (.Pass ⟨0, 0, 0, 0⟩)
abbrev cRd : Stmt := topS 23
abbrev sRp : Stmt := topS 24
abbrev sSize : Stmt := topS 26
abbrev cWr : Stmt := topS 27
abbrev sWrt : Stmt := topS 28
abbrev sIsI : Stmt := topS 31
abbrev cPat : Stmt := topS 32
abbrev sRI : Stmt := inClass cRd 0
abbrev sSign : Stmt := inClass cRd 1
abbrev sSkips : Stmt := inClass cRd 2
abbrev sDemand : Stmt := inClass cRd 3
abbrev sWhole : Stmt := inClass cRd 4
abbrev sChoice : Stmt := inClass cRd 5
abbrev sChain : Stmt := inClass cRd 6
abbrev sItem : Stmt := inClass cRd 7
abbrev sNumber : Stmt := inClass cRd 8
abbrev sUnit : Stmt := inClass cRd 9
abbrev sGroup : Stmt := inClass cRd 10
abbrev sCapture : Stmt := inClass cRd 11
abbrev sClass : Stmt := inClass cRd 12
abbrev sPart : Stmt := inClass cRd 13
/-- a method, where it stands -/
structure Mt (K : PySem.W.Frag) (C : Addr) (x qual : Str) (st : Stmt) (ps : List Str) (f : Addr) (fd : FuncData) : Prop where
  F : Fun K x qual st f fd
  b : Binds K fd ps []
  m : Meth K C x f
def LSs : Str := Str.ofString " 0123456789_abcdefghijklmnopqrstuvwxyz"
/-- what the reader's methods find -/
structure RT (K : PySem.W.Frag) (w : World) (mg : Str → Option Value) (C : Addr) (f : Nat → Addr) (fd : Nat → FuncData) (tk : Nat → Tok) (cd : Addr) (ces : Array DictEntry) (cn : Nat) (ct : Nat → Addr) : Prop where
  cl : Cls K C
  nStr : NoAttr K C "string"
  nSp : NoAttr K C "spot"
  nNm : NoAttr K C "names"
  nMo : NoAttr K C "many_open"
  mI : Mt K C "__init__" "PatternReader.__init__" sRI ["self", "string"] (f 0) (fd 0)
  mSign : Mt K C "sign" "PatternReader.sign" sSign ["self"] (f 1) (fd 1)
  mSkips : Mt K C "skips" "PatternReader.skips" sSkips ["self", "sign"] (f 2) (fd 2)
  mDemand : Mt K C "demand" "PatternReader.demand" sDemand ["self", "is_right"] (f 3) (fd 3)
  mWhole : Mt K C "read_whole" "PatternReader.read_whole" sWhole ["self"] (f 4) (fd 4)
  mChoice : Mt K C "read_choice" "PatternReader.read_choice" sChoice ["self"] (f 5) (fd 5)
  mChain : Mt K C "read_chain" "PatternReader.read_chain" sChain ["self"] (f 6) (fd 6)
  mItem : Mt K C "read_item" "PatternReader.read_item" sItem ["self"] (f 7) (fd 7)
  mNumber : Mt K C "read_number" "PatternReader.read_number" sNumber ["self"] (f 8) (fd 8)
  mUnit : Mt K C "read_unit" "PatternReader.read_unit" sUnit ["self"] (f 9) (fd 9)
  mGroup : Mt K C "read_group" "PatternReader.read_group" sGroup ["self"] (f 10) (fd 10)
  mCapture : Mt K C "read_capture" "PatternReader.read_capture" sCapture ["self"] (f 11) (fd 11)
  mClass : Mt K C "read_class" "PatternReader.read_class" sClass ["self"] (f 12) (fd 12)
  mPart : Mt K C "read_part" "PatternReader.read_part" sPart ["self"] (f 13) (fd 13)
  gLet : mg "LETTERS" = some (.str LSs (tk 0))
  gBeg : mg "BEGIN" = some (.str (Str.ofString "^") (tk 1))
  gEnd : mg "END" = some (.str (Str.ofString "$") (tk 2))
  gDig : mg "DIGITS" = some (.str (Str.ofString "0123456789") (tk 3))
  gSma : mg "SMALL" = some (.str (Str.ofString "abcdefghijklmnopqrstuvwxyz") (tk 4))
  gMS : mg "MOST_SIGNS" = some (.int 60 (tk 5))
  gMO : mg "MOST_OPEN" = some (.int 8 (tk 6))
  gMN : mg "MOST_NAME" = some (.int 8 (tk 7))
  gMC : mg "MOST_COUNT" = some (.int 20 (tk 8))
  gPl : mg "PLACE" = some (.str (Str.ofString "place") (tk 9))
  gCh : mg "CHAIN" = some (.str (Str.ofString "chain") (tk 10))
  gAl : mg "CHOICE" = some (.str (Str.ofString "choice") (tk 11))
  gCo : mg "COUNT" = some (.str (Str.ofString "count") (tk 12))
  gCa : mg "CAPTURE" = some (.str (Str.ofString "capture") (tk 13))
  gEm : mg "EMPTY" = some (.str (Str.ofString "empty") (tk 14))
  gCs : mg "COUNTS" = some (.ref cd)
  kd : KDict K w cd ces cn
  c1 : PySem.W.nsIn K cd (Str.ofString "*") = some (some (.ref (ct 0)))
  c2 : PySem.W.nsIn K cd (Str.ofString "+") = some (some (.ref (ct 1)))
  c3 : PySem.W.nsIn K cd (Str.ofString "?") = some (some (.ref (ct 2)))
  c0 : ∀ z : Str, z ≠ Str.ofString "*" → z ≠ Str.ofString "+" → z ≠ Str.ofString "?" → PySem.W.nsIn K cd z = some none
  t1 : ∀ H : Hp, SqT K H (ct 0) [.int 0, .non]
  t2 : ∀ H : Hp, SqT K H (ct 1) [.int 1, .non]
  t3 : ∀ H : Hp, SqT K H (ct 2) [.int 0, .int 1]
  mkC : Mk K C (f 0)
  gC : mg "PatternReader" = some (.ref C)
  zisi : mg "isinstance" = none
  zlen : mg "len" = none
  zint : mg "int" = none
  zstr : mg "str" = none
  ztup : mg "tuple" = none
theorem smU {H : Hp} {p : Addr} {o : HO} (h : H p = none) : Same H (upd H p o) := fun b u e => by
  rw [upd_ne (ne_of_none e h)]
  exact e
/-! ### the object -/
def rf (Z : List Nat) (s : Nat) (l : Addr) (m : Int) : List (Str × V) := [("string", .str (tx Z)), ("spot", .int s), ("names", .ref l), ("many_open", .int m)]
theorem lk_eq {k : Str} {v : V} {r : List (Str × V)} : List.lookup k ((k, v) :: r) = some v := by
  have hb : (k == k) = true := beq_iff_eq.mpr rfl
  simp only [List.lookup, hb]
theorem lk_ne {k g : Str} {v : V} {r : List (Str × V)} (h : ¬ k = g) : List.lookup k ((g, v) :: r) = List.lookup k r := by
  have hb : (k == g) = false := beq_eq_false_iff_ne.mpr h
  simp only [List.lookup, hb]
theorem pt_eq {k : Str} {v x : V} {r : List (Str × V)} : putF k v ((k, x) :: r) = (k, v) :: r := if_pos rfl
theorem pt_ne {k g : Str} {v x : V} {r : List (Str × V)} (h : ¬ g = k) : putF k v ((g, x) :: r) = (g, x) :: putF k v r := if_neg h
section
variable {Z : List Nat} {s : Nat} {l : Addr} {m : Int}
theorem rf_string : (rf Z s l m).lookup ("string" : Str) = some (.str (tx Z)) := lk_eq
theorem rf_spot : (rf Z s l m).lookup ("spot" : Str) = some (.int s) := (lk_ne (by decide +kernel)).trans lk_eq
theorem rf_names : (rf Z s l m).lookup ("names" : Str) = some (.ref l) := (lk_ne (by decide +kernel)).trans ((lk_ne (by decide +kernel)).trans lk_eq)
theorem rf_open : (rf Z s l m).lookup ("many_open" : Str) = some (.int m) := (lk_ne (by decide +kernel)).trans ((lk_ne (by decide +kernel)).trans ((lk_ne (by decide +kernel)).trans lk_eq))
theorem rf_no {k : Str} (h1 : ¬ k = "string") (h2 : ¬ k = "spot") (h3 : ¬ k = "names") (h4 : ¬ k = "many_open") : (rf Z s l m).lookup k = none := (lk_ne h1).trans ((lk_ne h2).trans ((lk_ne h3).trans ((lk_ne h4).trans rfl)))
theorem rf_pspot (s' : Nat) : putF "spot" (.int s') (rf Z s l m) = rf Z s' l m := (pt_ne (by decide +kernel)).trans (by rw [pt_eq] <;> rfl)
theorem rf_popen (m' : Int) : putF "many_open" (.int m') (rf Z s l m) = rf Z s l m' := (pt_ne (by decide +kernel)).trans (by rw [pt_ne (by decide +kernel), pt_ne (by decide +kernel), pt_eq] <;> rfl)
end
def nmV (nm : Nm) : List V := nm.map fun n => V.str (tx n)
/-- the reader at p with its names' list at l -/
structure RdA (C : Addr) (Z : List Nat) (p dx l : Addr) (H : Hp) (s : Nat) (nm : Nm) (m : Int) : Prop where
  e : H p = some (.ins C dx (rf Z s l m))
  n : H l = some (.lst (nmV nm))
  k : nm.length ≤ s
  z : Z.length ≤ 60
/-- all else stands as it stood -/
def K2 (p l : Addr) (H H' : Hp) : Prop := ∀ b o, b ≠ p → b ≠ l → H b = some o → H' b = some o
theorem K2.refl (p l : Addr) (H : Hp) : K2 p l H H := fun _ _ _ _ h => h
theorem K2.trans {p l : Addr} {H H1 H2 : Hp} (a : K2 p l H H1) (b : K2 p l H1 H2) : K2 p l H H2 := fun c o n1 n2 h => b c o n1 n2 (a c o n1 n2 h)
theorem K2.same {p l : Addr} {H H1 : Hp} (a : Same H H1) : K2 p l H H1 := fun c o _ _ h => a c o h
theorem K2.p {p l : Addr} {H : Hp} {o : HO} : K2 p l H (upd H p o) := fun c u n _ h => by
  rw [upd_ne n]
  exact h
theorem K2.l {p l : Addr} {H : Hp} {o : HO} : K2 p l H (upd H l o) := fun c u _ n h => by
  rw [upd_ne n]
  exact h
section
variable {C p dx l : Addr} {Z : List Nat} {H H' : Hp} {s : Nat} {nm : Nm} {m : Int}
theorem RdA.ne (R : RdA C Z p dx l H s nm m) : p ≠ l := ne_of R.e R.n (by intro z; cases z)
theorem RdA.spot (R : RdA C Z p dx l H s nm m) (s' : Nat) (h : s ≤ s') : RdA C Z p dx l (upd H p (.ins C dx (putF "spot" (.int s') (rf Z s l m)))) s' nm m := ⟨by rw [upd_same, rf_pspot], by rw [upd_ne R.ne.symm]; exact R.n, Nat.le_trans R.k h, R.z⟩
theorem RdA.opn (R : RdA C Z p dx l H s nm m) (m' : Int) : RdA C Z p dx l (upd H p (.ins C dx (putF "many_open" (.int m') (rf Z s l m)))) s nm m' := ⟨by rw [upd_same, rf_popen], by rw [upd_ne R.ne.symm]; exact R.n, R.k, R.z⟩
theorem RdA.nam (R : RdA C Z p dx l H s nm m) (n : List Nat) (h : nm.length < s) : RdA C Z p dx l (upd H l (.lst (nmV nm ++ [.str (tx n)]))) s (nm ++ [n]) m := ⟨by rw [upd_ne R.ne]; exact R.e, by rw [upd_same]; unfold nmV; rw [List.map_append] <;> rfl, by rw [List.length_append, List.length_singleton]; omega, R.z⟩
theorem RdA.up (R : RdA C Z p dx l H s nm m) (a : Same H H') : RdA C Z p dx l H' s nm m := ⟨a _ _ R.e, a _ _ R.n, R.k, R.z⟩
theorem RdA.p0 (R : RdA C Z p dx l H s nm m) {b : Addr} (h : H b = none) : b ≠ p := fun z => by
  have := R.e
  rw [← z, h] at this
  cases this
theorem RdA.l0 (R : RdA C Z p dx l H s nm m) {b : Addr} (h : H b = none) : b ≠ l := fun z => by
  have := R.n
  rw [← z, h] at this
  cases this
/-- a list of one's own that is new changes nothing of what stood ahead of it -/
theorem K2.put {H3 H4 : Hp} {D : Addr} {o : HO} (k3 : K2 p l H H3) (k4 : K2 p l H H4) (n : H3 D = none) : K2 p l H (upd H4 D o) := fun c u n1 n2 h => by
  rw [upd_ne (ne_of_none (k3 c u n1 n2 h) n)]
  exact k4 c u n1 n2 h
theorem RdA.wr (R : RdA C Z p dx l H s nm m) {D : Addr} {o : HO} (n1 : D ≠ p) (n2 : D ≠ l) : RdA C Z p dx l (upd H D o) s nm m := ⟨by rw [upd_ne n1.symm]; exact R.e, by rw [upd_ne n2.symm]; exact R.n, R.k, R.z⟩
theorem RdA.tp (R : RdA C Z p dx l H s nm m) {b : Addr} {xs : List V} (h : H b = some (.tup xs)) : b ≠ p ∧ b ≠ l := by
  refine ⟨fun z => ?_, fun z => ?_⟩
  · have := R.e
    rw [← z, h] at this
    cases this
  · have := R.n
    rw [← z, h] at this
    cases this
end
/-! ### trees -/
def plW : Str := Str.ofString "place"
def chW : Str := Str.ofString "chain"
def alW : Str := Str.ofString "choice"
def coW : Str := Str.ofString "count"
def caW : Str := Str.ofString "capture"
def emW : Str := Str.ofString "empty"
def mst : Option Nat → V
  | none => .non
  | some b => .int b
mutual
/-- v is the tree -/
inductive TrO (H : Hp) : V → Tr → Prop
  | place {a : Addr} {s : List Nat} : H a = some (.tup [.str plW, .str (tx s)]) → TrO H (.ref a) (.place s)
  | chain {a b : Addr} {vs : List V} {l : List Tr} : H a = some (.tup [.str chW, .ref b]) → H b = some (.tup vs) → TrOs H vs l → TrO H (.ref a) (.chain l)
  | choice {a b : Addr} {vs : List V} {l : List Tr} : H a = some (.tup [.str alW, .ref b]) → H b = some (.tup vs) → TrOs H vs l → TrO H (.ref a) (.choice l)
  | count {a : Addr} {c : Nat} {d : Option Nat} {v : V} {t : Tr} : H a = some (.tup [.str coW, .int c, mst d, v]) → TrO H v t → TrO H (.ref a) (.count c d t)
  | capture {a : Addr} {n : List Nat} {v : V} {t : Tr} : H a = some (.tup [.str caW, .str (tx n), v]) → TrO H v t → TrO H (.ref a) (.capture n t)
  | empty {a : Addr} : H a = some (.tup [.str emW]) → TrO H (.ref a) .empty
inductive TrOs (H : Hp) : List V → List Tr → Prop
  | nil : TrOs H [] []
  | cons {v : V} {vs : List V} {t : Tr} {ts : List Tr} : TrO H v t → TrOs H vs ts → TrOs H (v :: vs) (t :: ts)
end
/-- tuples stay -/
def KT (H H' : Hp) : Prop := ∀ b xs, H b = some (.tup xs) → H' b = some (.tup xs)
theorem KT.trans {H H1 H2 : Hp} (a : KT H H1) (b : KT H1 H2) : KT H H2 := fun c xs h => b c xs (a c xs h)
theorem KT.same {H H1 : Hp} (a : Same H H1) : KT H H1 := fun c xs h => a c _ h
theorem RdA.kt {C p dx l : Addr} {Z : List Nat} {H H' : Hp} {s : Nat} {nm : Nm} {m : Int} (R : RdA C Z p dx l H s nm m) (k : K2 p l H H') : KT H H' := fun b xs h => k b _ (R.tp h).1 (R.tp h).2 h
mutual
theorem TrO.mono {H H' : Hp} (k : KT H H') : ∀ {t : Tr} {v : V}, TrO H v t → TrO H' v t
  | .place s, _, h => by
    cases h with
    | place e => exact .place (k _ _ e)
  | .chain l, _, h => by
    cases h with
    | chain e e2 r => exact .chain (k _ _ e) (k _ _ e2) (TrOs.mono k r)
  | .choice l, _, h => by
    cases h with
    | choice e e2 r => exact .choice (k _ _ e) (k _ _ e2) (TrOs.mono k r)
  | .count c d t, _, h => by
    cases h with
    | count e r => exact .count (k _ _ e) (TrO.mono k r)
  | .capture n t, _, h => by
    cases h with
    | capture e r => exact .capture (k _ _ e) (TrO.mono k r)
  | .empty, _, h => by
    cases h with
    | empty e => exact .empty (k _ _ e)
theorem TrOs.mono {H H' : Hp} (k : KT H H') : ∀ {ts : List Tr} {vs : List V}, TrOs H vs ts → TrOs H' vs ts
  | [], _, h => by
    cases h
    exact .nil
  | t :: ts, _, h => by
    cases h with
    | cons e r => exact .cons (TrO.mono k e) (TrOs.mono k r)
end
theorem TrOs.len {H : Hp} : ∀ {ts : List Tr} {vs : List V}, TrOs H vs ts → vs.length = ts.length
  | [], _, h => by
    cases h
    rfl
  | t :: ts, _, h => by
    cases h with
    | cons e r => rw [List.length_cons, List.length_cons, r.len]
theorem TrOs.snoc {H : Hp} : ∀ {ts : List Tr} {vs : List V} {v : V} {t : Tr}, TrOs H vs ts → TrO H v t → TrOs H (vs ++ [v]) (ts ++ [t])
  | [], _, _, _, h, k => by
    cases h
    exact .cons k .nil
  | t :: ts, _, _, _, h, k => by
    cases h with
    | cons e r => exact .cons e (r.snoc k)
/-! ### signs -/
def sg (Z : List Nat) (s : Nat) : List Nat := (Z.drop s).take 1
theorem sg_some {Z : List Nat} {s c : Nat} (h : Z[s]? = some c) : sg Z s = [c] := by
  unfold sg
  obtain ⟨hl, e⟩ := List.getElem?_eq_some_iff.mp h
  rw [List.drop_eq_getElem_cons hl, e] <;> rfl
theorem sg_none {Z : List Nat} {s : Nat} (h : Z[s]? = none) : sg Z s = [] := by
  unfold sg
  rw [List.drop_eq_nil_of_le (List.getElem?_eq_none_iff.mp h)] <;> rfl
theorem tx_inj {a b : List Nat} (h : tx a = tx b) : a = b := by
  have h := congrArg (fun z : Str => z.cps.toList) h
  exact h
theorem sg_ne {Z : List Nat} {s c : Nat} (h : Z[s]? ≠ some c) : tx (sg Z s) ≠ tx [c] := fun z => by
  have z := tx_inj z
  cases e : Z[s]? with
  | none =>
    rw [sg_none e] at z
    cases z
  | some d =>
    rw [sg_some e] at z
    cases z
    exact h e
theorem tx_len (Z : List Nat) : (tx Z).length = Z.length := by
  show Z.toArray.size = Z.length
  rw [List.size_toArray]
theorem cut_sub (Z : List Nat) (a b : Nat) : cutS (tx Z) (some (a : Int)) (some (b : Int)) = tx ((Z.drop a).take (b - a)) := by
  unfold cutS HT.sIx
  have hl : (tx Z).length = Z.length := tx_len Z
  have n1 : ¬ ((a : Int) < 0) := by omega
  have n2 : ¬ ((b : Int) < 0) := by omega
  dsimp only
  rw [hl, if_neg n1, if_neg n2, Int.toNat_natCast, Int.toNat_natCast]
  show tx ((Z.drop (min a Z.length)).take (min b Z.length - min a Z.length)) = _
  congr 1
  apply List.ext_getElem?
  intro i
  rw [List.getElem?_take, List.getElem?_take, List.getElem?_drop, List.getElem?_drop]
  by_cases h : a + i < Z.length
  · have e1 : min a Z.length = a := by omega
    rw [e1]
    by_cases h2 : i < b - a
    · rw [if_pos h2, if_pos (by omega)]
    · rw [if_neg h2, if_neg (by omega)]
  · have e1 : Z[a + i]? = none := List.getElem?_eq_none_iff.mpr (by omega)
    rw [e1]
    by_cases h2 : i < min b Z.length - min a Z.length
    · have e2 : Z[min a Z.length + i]? = none := List.getElem?_eq_none_iff.mpr (by omega)
      rw [e2]
      split <;> split <;> rfl
    · rw [if_neg h2]
      split <;> rfl
theorem sg_cut (Z : List Nat) (s : Nat) : cutS (tx Z) (some (s : Int)) (some ((s : Int) + 1)) = tx (sg Z s) := by
  have h := cut_sub Z s (s + 1)
  rw [show s + 1 - s = 1 by omega] at h
  exact h
theorem tx_len60 {Z : List Nat} (h : Z.length ≤ 60) : (tx Z).length ≤ sizeLine := by
  rw [tx_len]
  exact Nat.le_trans h (by decide)
end Sf4
namespace Sf4
open PySem PySem.Spec PyProof.Rows L2 Sf
theorem scSign : FnScope ["self"] ["self"] (defScope sSign) := ⟨rfl, rfl, rfl, by decide +kernel, rfl, by decide +kernel, by decide +kernel⟩
theorem scSkips : FnScope ["self", "sign"] ["self", "sign"] (defScope sSkips) := ⟨rfl, rfl, rfl, by decide +kernel, rfl, by decide +kernel, by decide +kernel⟩
theorem scDemand : FnScope ["self", "is_right"] ["self", "is_right"] (defScope sDemand) := ⟨rfl, rfl, rfl, by decide +kernel, rfl, by decide +kernel, by decide +kernel⟩
def spSign (C : Addr) : Sp := fun vs H Q _ => ∃ (Z : List Nat) (p dx l : Addr) (s : Nat) (nm : Nm) (m : Int), vs = [.ref p] ∧ RdA C Z p dx l H s nm m ∧ Q (.str (tx (sg Z s))) H
def spSkips (C : Addr) : Sp := fun vs H Q _ => ∃ (Z : List Nat) (p dx l : Addr) (s : Nat) (nm : Nm) (m : Int) (c : Nat), vs = [.ref p, .str (tx [c])] ∧ RdA C Z p dx l H s nm m ∧
  (Z[s]? = some c → ∀ H', RdA C Z p dx l H' (s + 1) nm m → K2 p l H H' → Q (.bl true) H') ∧ (Z[s]? ≠ some c → Q (.bl false) H)
def spDemand (C : Addr) : Sp := fun vs H Q _ => ∃ (p : Addr), vs = [.ref p, .bl true] ∧ Q .non H
section
variable {P : Program} {w : World} {K : PySem.W.Frag} {mg : Str → Option Value} {base : Heap} {C : Addr} {f : Nat → Addr} {fd : Nat → FuncData} {tk : Nat → Tok} {cd : Addr} {ces : Array DictEntry} {cn : Nat} {ct : Nat → Addr}
theorem ok_sign (T : RT K w mg C f fd tk cd ces cn ct) : FnOk P w K mg base CX0 1 (f 1) (fd 1) ["self"] (spSign C) := by
  refine T.mSign.F.ok scSign (fun vs H Q E h => ?_) (fun cdv A outer s H vs Q E hr h => ?_)
  · obtain ⟨Z, p, dx, l, s, nm, m, rfl, _⟩ := h
    rfl
  · obtain ⟨Z, p, dx, l, s, nm, m, rfl, R, q⟩ := h
    refine ⟨_, pss_one (ps_ret (pe_slice sl_str (pe_fld (pv 0) rfl) (po_some (pe_fld (pv 0) rfl)) (po_some (pe_op op_add (pe_fld (pv 0) rfl) pe_int)))), ?_⟩
    refine ⟨.ref p, rfl, p, C, dx, _, _, rfl, R.e, T.cl, T.nStr, rf_string, .ref p, rfl, p, C, dx, _, _, rfl, R.e, T.cl, T.nSp, rf_spot, _, rfl, .ref p, rfl, p, C, dx, _, _, rfl, R.e, T.cl, T.nSp, rf_spot, _, _, rfl, rfl, _, rfl, _, rfl, tx_len60 R.z, ?_⟩
    rw [sg_cut]
    exact q
theorem ok_skips (T : RT K w mg C f fd tk cd ces cn ct) : FnOk P w K mg base CX0 2 (f 2) (fd 2) ["self", "sign"] (spSkips C) := by
  refine T.mSkips.F.ok scSkips (fun vs H Q E h => ?_) (fun cdv A outer s H vs Q E hr h => ?_)
  · obtain ⟨Z, p, dx, l, s, nm, m, c, rfl, _⟩ := h
    rfl
  · obtain ⟨Z, p, dx, l, s, nm, m, c, rfl, R, q1, q2⟩ := h
    refine ⟨_, pss_cons (ps_if (pt_cmpR op_ne (pe_meth0 (pv 0) T.cl T.mSign.m (ok_sign T) hr T.mSign.b .nil pass0) (pv 1) (nomark _)) (pss_one (ps_ret pe_bl)) pss_nil)
      (pss_cons (ps_fldaug (pv 0) pe_int in_add) (pss_one (ps_ret pe_bl))), ?_⟩
    have nS : (rf Z s l m).lookup ("sign" : Str) = none := rf_no (by decide +kernel) (by decide +kernel) (by decide +kernel) (by decide +kernel)
    refine ⟨.ref p, rfl, p, dx, _, rfl, R.e, nS, Z, p, dx, l, s, nm, m, rfl, R, .str (tx [c]), rfl, rfl, _, rfl, ?_⟩
    by_cases h : Z[s]? = some c
    · rw [sg_some h]
      refine iteNS rfl ?_
      refine ⟨.ref p, rfl, p, C, dx, _, _, rfl, R.e, T.cl, T.nSp, rf_spot, _, _, rfl, rfl, dx, _, R.e, (show 4 < 1000 by decide), ?_⟩
      exact q1 h _ (R.spot (s + 1) (Nat.le_succ s)) K2.p
    · have n : ¬ (V.str (tx (sg Z s)) = V.str (tx [c])) := fun z => sg_ne h (V.str.inj z)
      rw [decide_eq_false n]
      exact iteT (q2 h)
theorem ok_demand (T : RT K w mg C f fd tk cd ces cn ct) : FnOk P w K mg base CX0 1 (f 3) (fd 3) ["self", "is_right"] (spDemand C) := by
  refine T.mDemand.F.ok scDemand (fun vs H Q E h => ?_) (fun cdv A outer s H vs Q E hr h => ?_)
  · obtain ⟨p, rfl, _⟩ := h
    rfl
  · obtain ⟨p, rfl, q⟩ := h
    refine ⟨_, pss_one (ps_if (pt_not (pt_val (pv 1))) pss_never pss_nil), ?_⟩
    exact ⟨.bl true, rfl, true, rfl, iteF q⟩
end
end Sf4
namespace Sf4
open PySem PySem.Spec PyProof.Rows L2 Sf
theorem scNumber : FnScope ["self", "begin", "word"] ["self"] (defScope sNumber) := ⟨rfl, rfl, rfl, by decide +kernel, rfl, by decide +kernel, by decide +kernel⟩
theorem scPart : FnScope ["self", "first", "last"] ["self"] (defScope sPart) := ⟨rfl, rfl, rfl, by decide +kernel, rfl, by decide +kernel, by decide +kernel⟩
/-- int(text) -/
theorem call_intT {X : Cx} : CallR X (.type "int") (fun xs H Q => ∃ (x : Str) (n : Int), xs = [.str x] ∧ PySem.intText? x = some n ∧ x.length ≤ 640 ∧ Q (.int n) H) := by
  intro pins s σ H xs us Q I r h
  obtain ⟨x, n, rfl, hn, hl, q⟩ := h
  obtain ⟨u, rfl, r1⟩ := vals1 r
  obtain ⟨t1, rfl⟩ := r1
  exact PySem.W.KIN.call_text hn hl ⟨.int n, H, I.tok _, ⟨_, rfl⟩, q⟩
def spNumber (C : Addr) : Sp := fun vs H Q _ => ∃ (Z : List Nat) (p dx l : Addr) (s : Nat) (nm : Nm) (m : Int) (v q : Nat), vs = [.ref p] ∧ RdA C Z p dx l H s nm m ∧ RNum Z s v q ∧
  ∀ H', RdA C Z p dx l H' q nm m → K2 p l H H' → Q (.int v) H'
def spPart (C : Addr) : Sp := fun vs H Q _ => ∃ (Z : List Nat) (p dx l : Addr) (s : Nat) (nm : Nm) (m : Int) (c : Nat), vs = [.ref p] ∧ RdA C Z p dx l H s nm m ∧ Z[s]? = some c ∧ c ∈ LETc ∧ Z[s + 1]? ≠ some 45 ∧
  ∀ H', RdA C Z p dx l H' (s + 1) nm m → K2 p l H H' → Q (.str (tx [c])) H'
theorem one_num : ∀ c, c < 58 → 48 ≤ c → PySem.intText? (tx [c]) = some (((c - 48 : Nat) : Int)) := by decide +kernel
theorem two_num : ∀ c, c < 58 → ∀ d, d < 58 → 48 ≤ c → 48 ≤ d → PySem.intText? (tx [c, d]) = some (((10 * (c - 48) + (d - 48) : Nat) : Int)) := by decide +kernel
theorem digS (c : Nat) : c ∈ (Str.ofString "0123456789").cps.toList ↔ digit c := by
  rw [show (Str.ofString "0123456789").cps.toList = [48, 49, 50, 51, 52, 53, 54, 55, 56, 57] by decide +kernel]
  by_cases h : c < 128
  · exact (show ∀ c, c < 128 → (c ∈ [48, 49, 50, 51, 52, 53, 54, 55, 56, 57] ↔ 48 ≤ c ∧ c ≤ 57) by decide +kernel) c h
  · exact ⟨fun z => absurd ((show ∀ d ∈ [48, 49, 50, 51, 52, 53, 54, 55, 56, 57], d < 128 by decide +kernel) c z) h, fun z => absurd (Nat.lt_of_le_of_lt z.2 (by decide)) h⟩
theorem take_one {Z : List Nat} {s c : Nat} (h : Z[s]? = some c) : (Z.drop s).take 1 = [c] := sg_some h
theorem take_two {Z : List Nat} {s c d : Nat} (h : Z[s]? = some c) (h2 : Z[s + 1]? = some d) : (Z.drop s).take 2 = [c, d] := by
  obtain ⟨hl, e⟩ := List.getElem?_eq_some_iff.mp h
  obtain ⟨hl2, e2⟩ := List.getElem?_eq_some_iff.mp h2
  rw [List.drop_eq_getElem_cons hl, e, List.drop_eq_getElem_cons hl2, e2] <;> rfl
/-- what the word of a number is like -/
theorem num_word {Z : List Nat} {s v q : Nat} (h : RNum Z s v q) : ∃ (c : Nat) (r : List Nat), (Z.drop s).take (q - s) = c :: r ∧ r.length ≤ 1 ∧ (c :: r = [48] ∨ c ≠ 48) ∧ PySem.intText? (tx (c :: r)) = some ((v : Nat) : Int) ∧ v ≤ 20 ∧ s < q ∧
    (∀ i, s ≤ i → i < q → ∃ c, Z[i]? = some c ∧ digit c) ∧ ∀ e, Z[q]? = some e → ¬ digit e := by
  cases h with
  | one h1 h2 h3 =>
    rename_i c
    refine ⟨c, [], ?_, Nat.zero_le _, ?_, ?_, ?_, Nat.lt_succ_self _, fun i h4 h5 => ?_, h3⟩
    · rw [show s + 1 - s = 1 by omega]
      exact take_one h1
    · by_cases z : c = 48
      · exact .inl (by rw [z])
      · exact .inr z
    · exact one_num c (by have := h2.2; omega) h2.1
    · have := h2.2
      omega
    · obtain rfl : i = s := by omega
      exact ⟨c, h1, h2⟩
  | two h1 h2 h3 h4 h5 h6 h7 =>
    rename_i c d
    refine ⟨c, [d], ?_, Nat.le_refl _, .inr h3, ?_, h7, by omega, fun i h8 h9 => ?_, h6⟩
    · rw [show s + 2 - s = 2 by omega]
      exact take_two h1 h4
    · exact two_num c (by have := h2.2; omega) d (by have := h5.2; omega) h2.1 h5.1
    · by_cases z : i = s
      · exact z ▸ ⟨c, h1, h2⟩
      · obtain rfl : i = s + 1 := by omega
        exact ⟨d, h4, h5⟩
theorem em_ne {c : Nat} {r : List Nat} : ¬ (V.str (tx (c :: r)) = V.str (Str.ofString "")) := fun z => by
  have z := congrArg (fun z : Str => z.cps.toList) (V.str.inj z)
  have z : c :: r = (Str.ofString "").cps.toList := z
  rw [show (Str.ofString "").cps.toList = [] by decide +kernel] at z
  cases z
theorem em_eq : V.str (tx []) = V.str (Str.ofString "") := by decide +kernel
theorem LS_cps : LSs.cps.toList = LETc := by decide +kernel
theorem inLS {c : Nat} : c ∈ LSs.cps.toList ↔ c ∈ LETc := by rw [LS_cps]
section
variable {P : Program} {w : World} {K : PySem.W.Frag} {mg : Str → Option Value} {base : Heap} {C : Addr} {f : Nat → Addr} {fd : Nat → FuncData} {tk : Nat → Tok} {cd : Addr} {ces : Array DictEntry} {cn : Nat} {ct : Nat → Addr}
theorem ok_number (T : RT K w mg C f fd tk cd ces cn ct) : FnOk P w K mg base CX0 2 (f 8) (fd 8) ["self"] (spNumber C) := by
  refine T.mNumber.F.ok scNumber (fun vs H Q E h => ?_) (fun cdv A outer s H vs Q E hr h => ?_)
  · obtain ⟨Z, p, dx, l, s, nm, m, v, q, rfl, _⟩ := h
    rfl
  · obtain ⟨Z, p, dx, l, s, nm, m, v, e, rfl, R, hn, q⟩ := h
    obtain ⟨c, r, hw, hr1, h48, hi, hv, hse, hd, hend⟩ := num_word hn
    have G := ok_sign (P := P) (base := base) T
    refine ⟨_, pss_cons (ps_set (i := 1) scNumber.nd rfl (.inl rfl) (pe_fld (pv 0) rfl))
      (Evl.pss_cut (ps_while PassesOwn.never (PW.pt (pw_and (pt_cmpR op_ne (pe_meth0 (pv 0) T.cl T.mSign.m G hr T.mSign.b .nil pass0) pe_str (nomark _))
          (pw_and1 (pt_cmpR op_in_sign (pe_meth0 (pv 0) T.cl T.mSign.m G hr T.mSign.b .nil pass0) (pe_glob (v := .str (Str.ofString "0123456789")) rfl T.gDig ⟨_, rfl⟩) rfl))))
        (pss_one (ps_fldaug (pv 0) pe_int in_add)))
      (pss_cons (ps_set (i := 2) scNumber.nd rfl (.inl rfl) (pe_slice sl_str (pe_fld (pv 0) rfl) (po_some (pv 1)) (po_some (pe_fld (pv 0) rfl))))
      (Evl.pss_cut (ps_expr (pe_meth (pv 0) T.cl T.mDemand.m (ok_demand T) (hr.mono (by decide)) T.mDemand.b .nil pass0 (pa_cons
          (pe_and (pe_chain op_le op_le pe_int (pe_callB call_len_str (by rfl) T.zlen PySem.boot_len (pa_cons (pv 2) pa_nil))
              (pe_callB call_len_str (by rfl) T.zlen PySem.boot_len (pa_cons (pe_callTy call_str_int (by rfl) T.zstr (by decide +kernel) (pa_cons (pe_glob (v := .int 20) rfl T.gMC ⟨_, rfl⟩) pa_nil)) pa_nil)))
            (pe_one (pe_or (pe_cmpR op_eq (pv 2) pe_str (nomark _)) (pe_one (pe_cmpR op_ne (pe_ix ix_str (pv 2) pe_int (fun _ _ => rfl)) pe_str (nomark _)))))) pa_nil)))
      (pss_cons (ps_expr (pe_meth (pv 0) T.cl T.mDemand.m (ok_demand T) hr T.mDemand.b .nil pass0 (pa_cons
          (pe_cmpR op_le (pe_callTy call_intT (by rfl) T.zint PySem.Pv.boot_int (pa_cons (pv 2) pa_nil)) (pe_glob (v := .int 20) rfl T.gMC ⟨_, rfl⟩) (nomark _)) pa_nil)))
      (pss_one (ps_ret (pe_callTy call_intT (by rfl) T.zint PySem.Pv.boot_int (pa_cons (pv 2) pa_nil)))))))), ?_⟩
    have nS : ∀ s', (rf Z s' l m).lookup ("sign" : Str) = none := fun _ => rf_no (by decide +kernel) (by decide +kernel) (by decide +kernel) (by decide +kernel)
    have nD : ∀ s', (rf Z s' l m).lookup ("demand" : Str) = none := fun _ => rf_no (by decide +kernel) (by decide +kernel) (by decide +kernel) (by decide +kernel)
    refine ⟨.ref p, rfl, p, C, dx, _, _, rfl, R.e, T.cl, T.nSp, rf_spot, ?_⟩
    refine ⟨fun σ H1 => σ = [some (.ref p), some (.int s), none] ∧ RdA C Z p dx l H1 e nm m ∧ K2 p l H H1, ?_, fun σ H1 hM => ?_⟩
    · refine ⟨fun n σ H1 => ∃ s1, n = e - s1 ∧ s ≤ s1 ∧ s1 ≤ e ∧ σ = [some (.ref p), some (.int s), none] ∧ RdA C Z p dx l H1 s1 nm m ∧ K2 p l H H1, ⟨_, s, rfl, Nat.le_refl _, Nat.le_of_lt hse, rfl, R, K2.refl _ _ _⟩, ?_⟩
      rintro n σ H1 ⟨s1, rfl, ha, hb, rfl, R1, k1⟩
      refine ⟨.ref p, rfl, p, dx, _, rfl, R1.e, nS _, Z, p, dx, l, s1, nm, m, rfl, R1, rfl, _, rfl, ?_⟩
      by_cases hlt : s1 < e
      · obtain ⟨d, hz, hdd⟩ := hd s1 ha hlt
        rw [sg_some hz, decide_eq_false em_ne]
        refine iteT ⟨.ref p, rfl, p, dx, _, rfl, R1.e, nS _, Z, p, dx, l, s1, nm, m, rfl, R1, d, _, by rw [sg_some hz] <;> rfl, rfl, _, rfl, ?_⟩
        rw [decide_eq_true ((digS d).mpr hdd)]
        refine iteT ⟨fun σ' H' => ∃ s2, s2 = s1 + 1 ∧ σ' = [some (.ref p), some (.int s), none] ∧ RdA C Z p dx l H' s2 nm m ∧ K2 p l H H', fun σ' H' ⟨s2, h1, h2, h3, h4⟩ => ⟨e - s2, by omega, s2, rfl, by omega, by omega, h2, h3, h4⟩, ?_⟩
        refine ⟨.ref p, rfl, p, C, dx, _, _, rfl, R1.e, T.cl, T.nSp, rf_spot, _, _, rfl, rfl, dx, _, R1.e, (show 4 < 1000 by decide), ?_⟩
        exact ⟨s1 + 1, rfl, rfl, R1.spot (s1 + 1) (Nat.le_succ s1), k1.trans K2.p⟩
      · obtain rfl : s1 = e := by omega
        cases hz : Z[s1]? with
        | none =>
          rw [sg_none hz, decide_eq_true em_eq]
          exact iteF (iteF ⟨rfl, R1, k1⟩)
        | some d =>
          rw [sg_some hz, decide_eq_false em_ne]
          refine iteT ⟨.ref p, rfl, p, dx, _, rfl, R1.e, nS _, Z, p, dx, l, s1, nm, m, rfl, R1, d, _, by rw [sg_some hz] <;> rfl, rfl, _, rfl, ?_⟩
          rw [decide_eq_false fun z => hend d hz ((digS d).mp z)]
          exact iteF ⟨rfl, R1, k1⟩
    obtain ⟨rfl, R1, k1⟩ := hM
    refine ⟨.ref p, rfl, p, C, dx, _, _, rfl, R1.e, T.cl, T.nStr, rf_string, .int s, rfl, s, rfl, .ref p, rfl, p, C, dx, _, _, rfl, R1.e, T.cl, T.nSp, rf_spot, e, rfl, tx Z, rfl, tx_len60 R.z, ?_⟩
    rw [cut_sub, hw]
    have hl : (tx (c :: r)).length = r.length + 1 := tx_len _
    have hL : (tx (c :: r)).length ≤ sizeLine := by
      rw [hl]
      exact Nat.le_trans (show r.length + 1 ≤ 2 by omega) (by decide)
    have hL2 : (tx (c :: r)).length ≤ 640 := by
      rw [hl]
      omega
    have l2 : (toString (20 : Int) : Str).length = 2 := by decide +kernel
    refine ⟨fun σ H1 => σ = [some (.ref p), some (.int s), some (.str (tx (c :: r)))] ∧ RdA C Z p dx l H1 e nm m ∧ K2 p l H H1, ?_, fun σ H1 hM => ?_⟩
    refine ⟨.ref p, rfl, p, dx, _, rfl, R1.e, nD _, .str (tx (c :: r)), rfl, tx (c :: r), rfl, hL, _, _, rfl, rfl, _, rfl, ?_⟩
    rw [decide_eq_true (show (1 : Int) ≤ ((tx (c :: r)).length : Int) by rw [hl]; omega)]
    refine iteT ⟨20, rfl, by decide, _, rfl, by rw [l2]; decide, _, _, rfl, rfl, _, rfl, ?_⟩
    rw [decide_eq_true (show ((tx (c :: r)).length : Int) ≤ ((toString (20 : Int) : Str).length : Int) by rw [hl, l2]; omega)]
    refine iteT ⟨.str (tx (c :: r)), rfl, rfl, _, rfl, ?_⟩
    by_cases h0 : V.str (tx (c :: r)) = V.str (Str.ofString "0")
    · rw [decide_eq_true h0]
      exact iteT ⟨p, rfl, rfl, R1, k1⟩
    · rw [decide_eq_false h0]
      refine iteF ⟨.str (tx (c :: r)), rfl, tx (c :: r), 0, c, rfl, rfl, hL, atI_nat (j := 0) rfl, rfl, ?_⟩
      have nc : ¬ (V.str (⟨#[c]⟩ : Str) = V.str (Str.ofString "0")) := fun z => by
        have z := congrArg (fun z : Str => z.cps.toList) (V.str.inj z)
        have z : [c] = (Str.ofString "0").cps.toList := z
        rw [show (Str.ofString "0").cps.toList = [48] by decide +kernel] at z
        cases z
        rcases h48 with h48 | h48
        · exact h0 (by rw [h48]; decide +kernel)
        · exact h48 rfl
      rw [decide_eq_false nc]
      exact ⟨p, rfl, rfl, R1, k1⟩
    obtain ⟨rfl, R1, k1⟩ := hM
    refine ⟨.ref p, rfl, p, dx, _, rfl, R1.e, nD _, .str (tx (c :: r)), rfl, tx (c :: r), _, rfl, hi, hL2, _, _, rfl, rfl, ?_⟩
    refine ⟨p, ?_, .str (tx (c :: r)), rfl, tx (c :: r), _, rfl, hi, hL2, q _ R1 k1⟩
    show [V.ref p, V.bl (decide ((v : Int) ≤ 20))] = _
    rw [decide_eq_true (show ((v : Nat) : Int) ≤ 20 by omega)]
theorem ok_part (T : RT K w mg C f fd tk cd ces cn ct) : FnOk P w K mg base CX0 3 (f 13) (fd 13) ["self"] (spPart C) := by
  refine T.mPart.F.ok scPart (fun vs H Q E h => ?_) (fun cdv A outer s H vs Q E hr h => ?_)
  · obtain ⟨Z, p, dx, l, s, nm, m, c, rfl, _⟩ := h
    rfl
  · obtain ⟨Z, p, dx, l, s, nm, m, c, rfl, R, hz, hc, hn, q⟩ := h
    refine ⟨_, pss_cons (ps_set (i := 1) scPart.nd rfl (.inl rfl) (pe_meth0 (pv 0) T.cl T.mSign.m (ok_sign T) (hr.mono (by decide)) T.mSign.b .nil pass0))
      (pss_cons (ps_expr (pe_meth (pv 0) T.cl T.mDemand.m (ok_demand T) (hr.mono (by decide)) T.mDemand.b .nil pass0 (pa_cons
          (pe_and (pe_cmpR op_ne (pv 1) pe_str (nomark _)) (pe_one (pe_cmpR op_in_sign (pv 1) (pe_glob (v := .str LSs) rfl T.gLet ⟨_, rfl⟩) rfl))) pa_nil)))
      (pss_cons (ps_fldaug (pv 0) pe_int in_add)
      (pss_cons (ps_if (pt_not (pt_val (pe_meth (pv 0) T.cl T.mSkips.m (ok_skips T) hr T.mSkips.b .nil pass0 (pa_cons pe_str pa_nil)))) (pss_one (ps_ret (pv 1))) pss_nil) pss_never))), ?_⟩
    have nS : ∀ s', (rf Z s' l m).lookup ("sign" : Str) = none := fun _ => rf_no (by decide +kernel) (by decide +kernel) (by decide +kernel) (by decide +kernel)
    have nD : ∀ s', (rf Z s' l m).lookup ("demand" : Str) = none := fun _ => rf_no (by decide +kernel) (by decide +kernel) (by decide +kernel) (by decide +kernel)
    have nK : ∀ s', (rf Z s' l m).lookup ("skips" : Str) = none := fun _ => rf_no (by decide +kernel) (by decide +kernel) (by decide +kernel) (by decide +kernel)
    refine ⟨.ref p, rfl, p, dx, _, rfl, R.e, nS _, Z, p, dx, l, s, nm, m, rfl, R, ?_⟩
    rw [sg_some hz]
    refine ⟨.ref p, rfl, p, dx, _, rfl, R.e, nD _, _, rfl, rfl, _, rfl, ?_⟩
    rw [decide_eq_false em_ne]
    refine iteT ⟨_, rfl, c, _, rfl, rfl, p, ?_, ?_⟩
    · show [V.ref p, V.bl (decide (c ∈ LSs.cps.toList))] = _
      rw [decide_eq_true (inLS.mpr hc)]
    refine ⟨.ref p, rfl, p, C, dx, _, _, rfl, R.e, T.cl, T.nSp, rf_spot, _, _, rfl, rfl, dx, _, R.e, (show 4 < 1000 by decide), ?_⟩
    have R1 := R.spot (s + 1) (Nat.le_succ s)
    refine ⟨.ref p, rfl, p, dx, _, rfl, R1.e, nK _, Z, p, dx, l, s + 1, nm, m, 45, rfl, R1, fun z => absurd z hn, fun _ => ⟨false, rfl, iteT ?_⟩⟩
    exact ⟨_, rfl, q _ R1 K2.p⟩
end
end Sf4
namespace Sf4
open PySem PySem.Spec PyProof.Rows L2 Sf
def NCls : List Str := ["self", "is_other", "found", "letters", "letter"]
theorem scClass : FnScope NCls ["self"] (defScope sClass) := ⟨rfl, rfl, rfl, by decide +kernel, rfl, by decide +kernel, by decide +kernel⟩
def inC (ss : List Nat) : List Nat := LETc.filter fun c => decide (c ∈ ss)
def spClass (C : Addr) : Sp := fun vs H Q _ => ∃ (Z : List Nat) (p dx l : Addr) (s : Nat) (nm : Nm) (m : Int) (ss : List Nat) (q : Nat), vs = [.ref p] ∧ RdA C Z p dx l H s nm m ∧ Z[s]? ≠ some 94 ∧ RSome Z s ss q ∧
  ∀ H', RdA C Z p dx l H' q nm m → K2 p l H H' → Q (.str (tx (inC ss))) H'
/-- the first letter of a class, and what stands behind it -/
theorem some_first {Z : List Nat} {s q : Nat} {ss : List Nat} (h : RSome Z s ss q) : ∃ (c : Nat) (r : List Nat), ss = c :: r ∧ Z[s]? = some c ∧ c ∈ LETc ∧ Z[s + 1]? ≠ some 45 ∧ ((r = [] ∧ Z[s + 1]? = some 93 ∧ q = s + 2) ∨ (Z[s + 1]? ≠ some 93 ∧ RSome Z (s + 1) r q)) := by
  cases h with
  | last h1 h2 h3 => exact ⟨_, [], rfl, h1, h2, (fun z => by rw [h3] at z; cases z), .inl ⟨rfl, h3, rfl⟩⟩
  | next h1 h2 h3 h4 h5 => exact ⟨_, _, rfl, h1, h2, h3, .inr ⟨h4, h5⟩⟩
theorem some_letters {Z : List Nat} : ∀ {ss : List Nat} {s q : Nat}, RSome Z s ss q → ss.length ≤ Z.length - s ∧ ∀ c ∈ ss, c ∈ LETc
  | [], _, _, h => by cases h
  | c :: r, s, q, h => by
    have hlt : ∀ {c : Nat}, Z[s]? = some c → s < Z.length := fun e => (List.getElem?_eq_some_iff.mp e).1
    cases h with
    | last h1 h2 h3 =>
      have := hlt h1
      refine ⟨by show 1 ≤ _; omega, fun d hd => ?_⟩
      obtain rfl := List.mem_singleton.mp hd
      exact h2
    | next h1 h2 h3 h4 h5 =>
      have := hlt h1
      obtain ⟨i1, i2⟩ := some_letters h5
      refine ⟨by rw [List.length_cons]; omega, fun d hd => ?_⟩
      rcases List.mem_cons.mp hd with rfl | hd
      · exact h2
      · exact i2 d hd
theorem tx_app (a b : List Nat) : tx a ++ tx b = tx (a ++ b) := by
  refine TL.ext_tl ?_
  exact TL.tl_append (tx a) (tx b)
theorem inC_ne {Z : List Nat} {ss : List Nat} {s q : Nat} (h : RSome Z s ss q) : ∃ c r, inC ss = c :: r := by
  obtain ⟨c, r, rfl, _, hc, _⟩ := some_first h
  have : c ∈ inC (c :: r) := List.mem_filter.mpr ⟨hc, decide_eq_true List.mem_cons_self⟩
  cases e : inC (c :: r) with
  | nil =>
    rw [e] at this
    cases this
  | cons d t => exact ⟨d, t, rfl⟩
theorem joinL_ones : ∀ cs : List Nat, TL.joinL [] (cs.map fun c => [c]) = cs
  | [] => rfl
  | [c] => rfl
  | c :: d :: r => by
    show [c] ++ ([] ++ TL.joinL [] ((d :: r).map fun c => [c])) = _
    rw [joinL_ones (d :: r)] <;> rfl
theorem join_ones (cs : List Nat) : Txt.join (Str.ofString "") (cs.map fun c => (⟨#[c]⟩ : Str)) = tx cs := by
  rw [TL.join_eq]
  refine TL.ext_tl ?_
  rw [TL.tl_join, TL.tl, show (Str.ofString "").cps.toList = [] by decide +kernel, List.map_map]
  exact joinL_ones cs
theorem sum_ones (cs : List Nat) : ((cs.map fun c => (⟨#[c]⟩ : Str)).map (·.length)).sum = cs.length := by
  induction cs with
  | nil => rfl
  | cons c r ih =>
    rw [List.map_cons, List.map_cons, List.sum_cons, ih, List.length_cons]
    show 1 + r.length = r.length + 1
    omega
section
variable {P : Program} {w : World} {K : PySem.W.Frag} {mg : Str → Option Value} {base : Heap} {C : Addr} {f : Nat → Addr} {fd : Nat → FuncData} {tk : Nat → Tok} {cd : Addr} {ces : Array DictEntry} {cn : Nat} {ct : Nat → Addr}
theorem ok_class (T : RT K w mg C f fd tk cd ces cn ct) : FnOk P w K mg base CX0 4 (f 12) (fd 12) ["self"] (spClass C) := by
  refine T.mClass.F.ok scClass (fun vs H Q E h => ?_) (fun cdv A outer s H vs Q E hr h => ?_)
  · obtain ⟨Z, p, dx, l, s, nm, m, ss, q, rfl, _⟩ := h
    rfl
  · obtain ⟨Z, p, dx, l, s, nm, m, ss, e, rfl, R, hn, hS, q⟩ := h
    have GK := ok_skips (P := P) (base := base) T
    have GP := ok_part (P := P) (base := base) T
    refine ⟨_, pss_cons (ps_asg (pe_tup (pa_cons (pe_meth (pv 0) T.cl T.mSkips.m GK (hr.mono (by decide)) T.mSkips.b .nil pass0 (pa_cons pe_str pa_nil)) (pa_cons (pe_meth0 (pv 0) T.cl T.mPart.m GP hr T.mPart.b .nil pass0) pa_nil)))
        (pg_tup rfl (pgs_cons (pg_name (i := 1) scClass.nd rfl (.inr rfl)) (pgs_cons (pg_name (i := 2) scClass.nd rfl (.inr rfl)) pgs_nil))))
      (Evl.pss_cut (ps_while PassesOwn.never (pt_not (pt_val (pe_meth (pv 0) T.cl T.mSkips.m GK (hr.mono (by decide)) T.mSkips.b .nil pass0 (pa_cons pe_str pa_nil))))
        (pss_one (ps_set (i := 2) scClass.nd rfl (.inr rfl) (pe_op op_add_str (pv 2) (pe_meth0 (pv 0) T.cl T.mPart.m GP hr T.mPart.b .nil pass0)))))
      (pss_cons (ps_set (i := 3) scClass.nd rfl (.inl rfl) (pe_join pe_str (pe_lc (own := [("letter", 4)]) (g := gName 4) (tt := tTest (tOp rNe (tOp rInS (tVar 4) (tVar 2)) (tVar 1))) (te := tVar 4) rfl scClass.nd
          (pi_str (pe_glob (v := .str LSs) rfl T.gLet ⟨_, rfl⟩)) (blkOk_by (N := NCls) (sc := defScope sClass) (by decide +kernel)) (fun _ _ _ _ _ => pg_name (i := 4) scClass.nd rfl (Or.inl rfl))
          (fun _ _ _ _ _ => pts_one (pt_cmpR op_ne (pe_cmpR op_inS (pv 4) (pv 2) rfl) (pv 1) (nomark _))) (fun _ _ _ _ _ => pv 4))))
      (pss_cons (ps_expr (pe_meth (pv 0) T.cl T.mDemand.m (ok_demand T) (hr.mono (by decide)) T.mDemand.b .nil pass0 (pa_cons (pe_cmpR op_ne (pv 3) pe_str (nomark _)) pa_nil)))
      (pss_one (ps_ret (pv 3)))))), ?_⟩
    have nP : ∀ s', (rf Z s' l m).lookup ("read_part" : Str) = none := fun _ => rf_no (by decide +kernel) (by decide +kernel) (by decide +kernel) (by decide +kernel)
    have nD : ∀ s', (rf Z s' l m).lookup ("demand" : Str) = none := fun _ => rf_no (by decide +kernel) (by decide +kernel) (by decide +kernel) (by decide +kernel)
    have nK : ∀ s', (rf Z s' l m).lookup ("skips" : Str) = none := fun _ => rf_no (by decide +kernel) (by decide +kernel) (by decide +kernel) (by decide +kernel)
    obtain ⟨c, r, e1, hc1, hc2, hc3, hc4⟩ := some_first hS
    obtain ⟨sl1, sl2⟩ := some_letters hS
    have hZ := R.z
    refine ⟨.ref p, rfl, p, dx, _, rfl, R.e, nK _, Z, p, dx, l, s, nm, m, 94, rfl, R, fun z => absurd z hn, fun _ => ?_⟩
    refine ⟨.ref p, rfl, p, dx, _, rfl, R.e, nP _, Z, p, dx, l, s, nm, m, c, rfl, R, hc1, hc2, hc3, fun H1 R1 k1 => ?_⟩
    refine ⟨(show 2 ≤ sizeLine by decide), fun T0 n0 => ⟨T0, _, rfl, .inl (.inl upd_same), rfl, _, _, rfl, _, _, rfl, rfl, ?_⟩⟩
    have R2 := R1.up (smU (o := HO.tup [.bl false, .str (tx [c])]) n0)
    have k2 := k1.trans (K2.same (p := p) (l := l) (smU (o := HO.tup [.bl false, .str (tx [c])]) n0))
    refine ⟨fun σ H3 => σ = [some (.ref p), some (.bl false), some (.str (tx ss)), none, none] ∧ RdA C Z p dx l H3 e nm m ∧ K2 p l H H3, ?_, fun σ H3 hM => ?_⟩
    · refine ⟨fun n σ H3 => ∃ (s1 : Nat) (dn rt : List Nat), n = rt.length ∧ ss = dn ++ rt ∧ σ = [some (.ref p), some (.bl false), some (.str (tx dn)), none, none] ∧ RdA C Z p dx l H3 s1 nm m ∧ K2 p l H H3 ∧ ((rt = [] ∧ Z[s1]? = some 93 ∧ e = s1 + 1) ∨ (Z[s1]? ≠ some 93 ∧ RSome Z s1 rt e)), ⟨_, s + 1, [c], r, rfl, e1, rfl, R2, k2, hc4⟩, ?_⟩
      rintro n σ H3 ⟨s1, dn, rt, rfl, es, rfl, R3, k3, hw⟩
      refine ⟨.ref p, rfl, p, dx, _, rfl, R3.e, nK _, Z, p, dx, l, s1, nm, m, 93, rfl, R3, fun z H4 R4 k4 => ?_, fun z => ?_⟩
      · refine ⟨true, rfl, iteF ?_⟩
        rcases hw with ⟨rfl, _, rfl⟩ | ⟨w1, _⟩
        · rw [List.append_nil] at es
          subst es
          exact ⟨rfl, R4, k3.trans k4⟩
        · exact absurd z w1
      · refine ⟨false, rfl, iteT ?_⟩
        rcases hw with ⟨_, w1, _⟩ | ⟨_, w2⟩
        · exact absurd w1 z
        · obtain ⟨d, rt', e2, hd1, hd2, hd3, hd4⟩ := some_first w2
          subst e2
          refine ⟨fun σ' H' => ∃ (s2 : Nat), s2 = s1 + 1 ∧ σ' = [some (.ref p), some (.bl false), some (.str (tx (dn ++ [d]))), none, none] ∧ RdA C Z p dx l H' s2 nm m ∧ K2 p l H H', fun σ' H' ⟨s2, h1, h2, h3, h4⟩ => ⟨rt'.length, by rw [List.length_cons]; omega, s2, dn ++ [d], rt', rfl, by rw [es, List.append_assoc] <;> rfl, h2, h3, h4, by rw [h1]; exact hd4⟩, ?_⟩
          refine ⟨.str (tx dn), rfl, .ref p, rfl, p, dx, _, rfl, R3.e, nP _, Z, p, dx, l, s1, nm, m, d, rfl, R3, hd1, hd2, hd3, fun H4 R4 k4 => ?_⟩
          have hl : (tx dn).length = dn.length := tx_len dn
          have hle := congrArg List.length es
          rw [List.length_append] at hle
          refine ⟨_, _, rfl, rfl, ?_, s1 + 1, rfl, ?_, R4, k3.trans k4⟩
          · rw [tx_len, tx_len]
            refine Nat.le_trans (show dn.length + 1 ≤ 100 by omega) (by decide)
          · rw [tx_app] <;> rfl
    obtain ⟨rfl, R3, k3⟩ := hM
    refine ⟨⟨_, rfl⟩, LSs, rfl, fun D hD => ?_⟩
    have nDp := R3.p0 hD
    have nDl := R3.l0 hD
    refine lc_it (walk_str (z := LSs)) (fun i H4 => H4 D = some (.lst (((LETc.take i).filter fun c => decide (c ∈ ss)).map fun c => V.str ⟨#[c]⟩)) ∧ RdA C Z p dx l H4 e nm m ∧ K2 p l H H4)
      ⟨upd_same, R3.up (smU hD), k3.trans (K2.same (smU hD))⟩ (fun _ _ _ _ => True.intro) (fun i x H4 H4' hi hP hy => ?_) (fun H4 hP => ?_)
    · obtain ⟨e4, R4, k4⟩ := hP
      obtain ⟨rfl, d, hd, rfl⟩ := hy
      have hd : LETc[i]? = some d := by
        rw [← LS_cps, Array.getElem?_toList]
        exact hd
      have ht : LETc.take (i + 1) = LETc.take i ++ [d] := by
        obtain ⟨h1, h2⟩ := List.getElem?_eq_some_iff.mp hd
        rw [List.take_succ_eq_append_getElem h1, h2]
      refine ⟨rfl, .str ⟨#[d]⟩, rfl, .str (tx ss), rfl, d, _, rfl, rfl, .bl false, rfl, rfl, _, rfl, ?_⟩
      show if (!decide (V.bl (decide (d ∈ ss)) = V.bl false)) = true then _ else _
      by_cases hdd : d ∈ ss
      · rw [decide_eq_true hdd, decide_eq_false (show ¬ (V.bl true = V.bl false) from fun z => by cases z)]
        have ll : (((LETc.take i).filter fun c => decide (c ∈ ss)).map fun c => V.str ⟨#[c]⟩).length ≤ 38 := by
          rw [List.length_map]
          refine Nat.le_trans (List.length_filter_le _ _) (Nat.le_trans (List.length_take_le' _ _) (by decide +kernel))
        refine iteT ⟨.str ⟨#[d]⟩, rfl, _, e4, Nat.lt_of_le_of_lt ll (by decide), ?_, R4.wr nDp nDl, K2.put k3 k4 hD⟩
        rw [upd_same, ht, List.filter_append, List.filter_cons, decide_eq_true hdd, if_pos rfl, List.filter_nil, List.map_append] <;> rfl
      · rw [decide_eq_false hdd, decide_eq_true rfl]
        refine iteF ⟨?_, R4, k4⟩
        rw [ht, List.filter_append, List.filter_cons, decide_eq_false hdd, if_neg Bool.false_ne_true, List.filter_nil, List.append_nil]
        exact e4
    · obtain ⟨e4, R4, k4⟩ := hP
      have e5 : H4 D = some (.lst (((inC ss).map fun c => (⟨#[c]⟩ : Str)).map V.str)) := by
        rw [e4, List.map_map]
        refine congrArg (fun z => some (HO.lst (List.map _ (List.filter _ z)))) ?_
        exact List.take_of_length_le (by decide +kernel)
      have ll : (inC ss).length ≤ 38 := Nat.le_trans (List.length_filter_le _ _) (by decide +kernel)
      refine ⟨Str.ofString "", D, _, rfl, rfl, .inl (.inl (.inl e5)), ?_, ?_⟩
      · rw [sum_ones, show (Str.ofString "").length = 0 by decide +kernel]
        omega
      rw [join_ones]
      obtain ⟨d, t, e6⟩ := inC_ne hS
      refine ⟨.ref p, rfl, p, dx, _, rfl, R4.e, nD _, _, rfl, rfl, ?_⟩
      refine ⟨p, ?_, _, rfl, q _ R4 k4⟩
      show [V.ref p, V.bl (!decide (V.str (tx (inC ss)) = V.str (Str.ofString "")))] = _
      rw [e6, decide_eq_false em_ne] <;> rfl
end
end Sf4
namespace Sf4
open PySem PySem.Spec PyProof.Rows L2 Sf
/-! ### reading goes on -/
theorem lt_of {Z : List Nat} {p c : Nat} (h : Z[p]? = some c) : p < Z.length := (List.getElem?_eq_some_iff.mp h).1
structure Pgr (Z : List Nat) (R : Rel Tr) : Prop where
  go : ∀ {p : Nat} {nm : Nm} {t : Tr} {q : Nat} {nm' : Nm}, R p nm t q nm' → p < q ∧ q ≤ Z.length
theorem some_pgr {Z : List Nat} : ∀ {ss : List Nat} {p q : Nat}, RSome Z p ss q → p < q ∧ q ≤ Z.length
  | [], _, _, h => by cases h
  | c :: r, p, q, h => by
    cases h with
    | last h1 h2 h3 => exact ⟨by omega, by have := lt_of h3; omega⟩
    | next h1 h2 h3 h4 h5 =>
      have := some_pgr h5
      omega
theorem name_pgr {Z : List Nat} : ∀ {n : List Nat} {p q : Nat}, RName Z p n q → p ≤ q ∧ Z[q]? = some 58 ∧ q = p + n.length ∧ (Z.drop p).take (q - p) = n ∧ ∀ i, p ≤ i → i < q → ∃ c, Z[i]? = some c ∧ small c
  | [], p, q, h => by
    cases h with
    | nil h1 => exact ⟨Nat.le_refl _, h1, rfl, by rw [Nat.sub_self] <;> rfl, fun i h2 h3 => absurd h2 (by omega)⟩
  | c :: n, p, q, h => by
    cases h with
    | cons h1 h2 h3 =>
      obtain ⟨i1, i2, i3, i4, i5⟩ := name_pgr h3
      refine ⟨by omega, i2, by rw [List.length_cons]; omega, ?_, fun i h4 h5 => ?_⟩
      · obtain ⟨hl, e⟩ := List.getElem?_eq_some_iff.mp h1
        rw [List.drop_eq_getElem_cons hl, e, show q - p = (q - (p + 1)) + 1 by omega, List.take_succ_cons, i4]
      · by_cases z : i = p
        · exact z ▸ ⟨c, h1, h2⟩
        · exact i5 i (by omega) h5
theorem num_pgr {Z : List Nat} {p v q : Nat} (h : RNum Z p v q) : p < q := by
  obtain ⟨_, _, _, _, _, _, _, h, _⟩ := num_word h
  exact h
theorem unit_pgr {Z : List Nat} {can : Prop} {C : Rel Tr} (hC : Pgr Z C) : Pgr Z (RUnit Z can C) := by
  refine ⟨fun {p nm t q nm'} h => ?_⟩
  cases h with
  | letter h1 h2 => have := lt_of h1; omega
  | dot h1 => have := lt_of h1; omega
  | cls h1 h2 h3 => have := some_pgr h3; omega
  | nothing h1 h2 h3 => have := lt_of h3; omega
  | group h1 h2 h3 h4 h5 => have := hC.go h4; have := lt_of h5; omega
  | capture h1 h2 h3 h4 h5 h6 h7 h8 => have := hC.go h7; have := (name_pgr h3).1; have := lt_of h8; omega
theorem item_pgr {Z : List Nat} {U : Rel Tr} (hU : Pgr Z U) : Pgr Z (RItem Z U) := by
  refine ⟨fun {p nm t q nm'} h => ?_⟩
  cases h with
  | plain h1 h2 => exact hU.go h1
  | sign h1 h2 h3 => have := hU.go h1; have := lt_of h2; omega
  | just h1 h2 h3 h4 => have := hU.go h1; have := num_pgr h3; have := lt_of h4; omega
  | least h1 h2 h3 h4 h5 => have := hU.go h1; have := num_pgr h3; have := lt_of h5; omega
  | both h1 h2 h3 h4 h5 h6 h7 => have := hU.go h1; have := num_pgr h3; have := num_pgr h5; have := lt_of h7; omega
theorem many_pgr {Z : List Nat} {R : Rel Tr} {go : Nat → Prop} {g : Nat → Nat} (hR : Pgr Z R) (hg : ∀ q, q ≤ g q) : ∀ {ts : List Tr} {p q : Nat} {nm nm' : Nm}, RMany R go g p nm ts q nm' → p + ts.length ≤ q ∧ q ≤ Z.length ∧ 0 < ts.length
  | [], _, _, _, _, h => by cases h
  | t :: ts, p, q, nm, nm', h => by
    cases h with
    | last h1 h2 =>
      have := hR.go h1
      exact ⟨by show p + 1 ≤ q; omega, this.2, Nat.zero_lt_succ _⟩
    | next h1 h2 h3 =>
      have a := hR.go h1
      have b := many_pgr hR hg h3
      have c := hg (by assumption)
      refine ⟨by rw [List.length_cons]; omega, b.2.1, Nat.zero_lt_succ _⟩
theorem chain_pgr {Z : List Nat} {I : Rel Tr} (hI : Pgr Z I) : Pgr Z (RChain Z I) := by
  refine ⟨fun {p nm t q nm'} ⟨ts, h1, _⟩ => ?_⟩
  have := many_pgr hI (fun q => Nat.le_refl q) h1
  omega
theorem choice_pgr {Z : List Nat} {I : Rel Tr} (hI : Pgr Z I) : Pgr Z (RChoice Z I) := by
  refine ⟨fun {p nm t q nm'} ⟨ts, h1, _⟩ => ?_⟩
  have := many_pgr hI (fun q => Nat.le_succ q) h1
  omega
theorem no_pgr {Z : List Nat} : Pgr Z (fun _ _ _ _ _ => False) := ⟨fun h => h.elim⟩
theorem rc_pgr (Z : List Nat) : ∀ d, Pgr Z (RC Z d)
  | 0 => choice_pgr (chain_pgr (item_pgr (unit_pgr no_pgr)))
  | d + 1 => choice_pgr (chain_pgr (item_pgr (unit_pgr (rc_pgr Z d))))
theorem ru_pgr (Z : List Nat) : ∀ d, Pgr Z (RU Z d)
  | 0 => unit_pgr no_pgr
  | d + 1 => unit_pgr (rc_pgr Z d)
/-- what is left of many behind one -/
def RMore (R : Rel Tr) (go : Nat → Prop) (g : Nat → Nat) (q : Nat) (nm : Nm) (ts : List Tr) (r : Nat) (nm2 : Nm) : Prop := (ts = [] ∧ ¬ go q ∧ r = q ∧ nm2 = nm) ∨ (go q ∧ RMany R go g (g q) nm ts r nm2)
theorem many_first {R : Rel Tr} {go : Nat → Prop} {g : Nat → Nat} {p q : Nat} {nm nm2 : Nm} {ts : List Tr} (h : RMany R go g p nm ts q nm2) : ∃ t r q1 nm1, ts = t :: r ∧ R p nm t q1 nm1 ∧ RMore R go g q1 nm1 r q nm2 := by
  cases h with
  | last h1 h2 => exact ⟨_, _, _, _, rfl, h1, .inl ⟨rfl, h2, rfl, rfl⟩⟩
  | next h1 h2 h3 => exact ⟨_, _, _, _, rfl, h1, .inr ⟨h2, h3⟩⟩
theorem KT.lst {H : Hp} {a : Addr} {xs ys : List V} (h : H a = some (.lst xs)) : KT H (upd H a (.lst ys)) := fun b zs e => by
  rw [upd_ne (ne_of e h (by intro z; cases z))]
  exact e
/-! ### promises -/
/-- a method of the reader that reads by a relation -/
def spR (C : Addr) (d : Nat) (Rl : List Nat → Rel Tr) : Sp := fun vs H Q _ => ∃ (Z : List Nat) (p dx l : Addr) (s : Nat) (nm : Nm) (t : Tr) (q : Nat) (nm' : Nm), vs = [.ref p] ∧ d ≤ 8 ∧ RdA C Z p dx l H s nm (8 - (d : Int)) ∧ Rl Z s nm t q nm' ∧
  ∀ v H', TrO H' v t → RdA C Z p dx l H' q nm' (8 - (d : Int)) → K2 p l H H' → Q v H'
def RGrp (Z : List Nat) (d : Nat) : Rel Tr := fun p nm t q nm' => (Z[p]? = some 41 ∧ t = .empty ∧ q = p + 1 ∧ nm' = nm) ∨ (Z[p]? ≠ some 41 ∧ ∃ r, RC Z d p nm t r nm' ∧ Z[r]? = some 41 ∧ q = r + 1)
def RCap (Z : List Nat) (d : Nat) : Rel Tr := fun p nm t q nm' => ∃ n u r r', RName Z p n r ∧ 1 ≤ n.length ∧ n.length ≤ 8 ∧ n ∉ nm ∧ RC Z d (r + 1) (nm ++ [n]) u r' nm' ∧ Z[r']? = some 62 ∧ q = r' + 1 ∧ t = .capture n u
def rel0 (R : List Nat → Nat → Rel Tr) : Nat → List Nat → Rel Tr
  | 0 => fun _ _ _ _ _ _ => False
  | d + 1 => fun Z => R Z d
section
variable {P : Program} {w : World} {K : PySem.W.Frag} {mg : Str → Option Value} {base : Heap} {C : Addr} {f : Nat → Addr} {fd : Nat → FuncData} {tk : Nat → Tok} {cd : Addr} {ces : Array DictEntry} {cn : Nat} {ct : Nat → Addr}
theorem scGroup : FnScope ["self", "tree"] ["self"] (defScope sGroup) := ⟨rfl, rfl, rfl, by decide +kernel, rfl, by decide +kernel, by decide +kernel⟩
theorem scCapture : FnScope ["self", "begin", "name", "tree"] ["self"] (defScope sCapture) := ⟨rfl, rfl, rfl, by decide +kernel, rfl, by decide +kernel, by decide +kernel⟩
theorem smaS (c : Nat) : c ∈ (Str.ofString "abcdefghijklmnopqrstuvwxyz").cps.toList ↔ small c := by
  rw [show (Str.ofString "abcdefghijklmnopqrstuvwxyz").cps.toList = [97, 98, 99, 100, 101, 102, 103, 104, 105, 106, 107, 108, 109, 110, 111, 112, 113, 114, 115, 116, 117, 118, 119, 120, 121, 122] by decide +kernel]
  by_cases h : c < 128
  · exact (show ∀ c, c < 128 → (c ∈ [97, 98, 99, 100, 101, 102, 103, 104, 105, 106, 107, 108, 109, 110, 111, 112, 113, 114, 115, 116, 117, 118, 119, 120, 121, 122] ↔ 97 ≤ c ∧ c ≤ 122) by decide +kernel) c h
  · exact ⟨fun z => absurd ((show ∀ d ∈ [97, 98, 99, 100, 101, 102, 103, 104, 105, 106, 107, 108, 109, 110, 111, 112, 113, 114, 115, 116, 117, 118, 119, 120, 121, 122], d < 128 by decide +kernel) c z) h, fun z => absurd (Nat.lt_of_le_of_lt z.2 (by decide)) h⟩
theorem inV_nm {n : List Nat} : ∀ {nm : Nm}, n ∉ nm → inV (.str (tx n)) (nmV nm) = false := by
  intro nm h
  cases e : inV (.str (tx n)) (nmV nm) with
  | false => rfl
  | true =>
    exfalso
    obtain ⟨y, hy, ey⟩ := List.any_eq_true.mp e
    obtain ⟨m, hm, rfl⟩ := List.mem_map.mp hy
    exact h (tx_inj (of_decide_eq_true (by rw [← Bool.beq_eq_decide_eq]; exact ey) : tx m = tx n) ▸ hm)
/-- read_group, where an inner expression may be read -/
theorem ok_group (T : RT K w mg C f fd tk cd ces cn ct) {k d : Nat} (hk : 2 ≤ k) (G : FnOk P w K mg base CX0 k (f 5) (fd 5) ["self"] (spR C d fun Z => RC Z d)) : FnOk P w K mg base CX0 (k + 1) (f 10) (fd 10) ["self"] (spR C d fun Z => RGrp Z d) := by
  refine T.mGroup.F.ok scGroup (fun vs H Q E h => ?_) (fun cdv A outer s H vs Q E hr h => ?_)
  · obtain ⟨Z, p, dx, l, s, nm, t, q, nm', rfl, _⟩ := h
    rfl
  · obtain ⟨Z, p, dx, l, s, nm, t, e, nm', rfl, hd, R, hg, q⟩ := h
    have GK := ok_skips (P := P) (base := base) T
    refine ⟨_, pss_cons (ps_if (pt_val (pe_meth (pv 0) T.cl T.mSkips.m GK (hr.mono hk) T.mSkips.b .nil pass0 (pa_cons pe_str pa_nil))) (pss_one (ps_ret (pe_tup (pa_cons (pe_glob (v := .str emW) rfl T.gEm ⟨_, rfl⟩) pa_nil)))) pss_nil)
      (pss_cons (ps_set (i := 1) scGroup.nd rfl (.inl rfl) (pe_meth0 (pv 0) T.cl T.mChoice.m G hr T.mChoice.b .nil pass0))
      (pss_cons (ps_expr (pe_meth (pv 0) T.cl T.mDemand.m (ok_demand T) (hr.mono (Nat.le_trans (by decide) hk)) T.mDemand.b .nil pass0 (pa_cons (pe_meth (pv 0) T.cl T.mSkips.m GK (hr.mono hk) T.mSkips.b .nil pass0 (pa_cons pe_str pa_nil)) pa_nil)))
      (pss_one (ps_ret (pv 1))))), ?_⟩
    have nC : ∀ s' m', (rf Z s' l m').lookup ("read_choice" : Str) = none := fun _ _ => rf_no (by decide +kernel) (by decide +kernel) (by decide +kernel) (by decide +kernel)
    have nD : ∀ s' m', (rf Z s' l m').lookup ("demand" : Str) = none := fun _ _ => rf_no (by decide +kernel) (by decide +kernel) (by decide +kernel) (by decide +kernel)
    have nK : ∀ s' m', (rf Z s' l m').lookup ("skips" : Str) = none := fun _ _ => rf_no (by decide +kernel) (by decide +kernel) (by decide +kernel) (by decide +kernel)
    refine ⟨.ref p, rfl, p, dx, _, rfl, R.e, nK _ _, Z, p, dx, l, s, nm, _, 41, rfl, R, fun z H1 R1 k1 => ⟨true, rfl, iteT ?_⟩, fun z => ⟨false, rfl, iteF ?_⟩⟩
    · rcases hg with ⟨_, rfl, rfl, rfl⟩ | ⟨w1, _⟩
      · exact ⟨(show 1 ≤ sizeLine by decide), fun b hb => q _ _ (.empty upd_same) (R1.up (smU hb)) (k1.trans (K2.same (smU hb)))⟩
      · exact absurd z w1
    · rcases hg with ⟨w1, _⟩ | ⟨_, r, w2, w3, rfl⟩
      · exact absurd w1 z
      · refine ⟨.ref p, rfl, p, dx, _, rfl, R.e, nC _ _, Z, p, dx, l, s, nm, t, r, nm', rfl, hd, R, w2, fun v H1 o1 R1 k1 => ?_⟩
        refine ⟨.ref p, rfl, p, dx, _, rfl, R1.e, nD _ _, .ref p, rfl, p, dx, _, rfl, R1.e, nK _ _, Z, p, dx, l, r, nm', _, 41, rfl, R1, fun _ H2 R2 k2 => ?_, fun z => absurd w3 z⟩
        exact ⟨p, rfl, v, rfl, q v H2 (o1.mono (R1.kt k2)) R2 (k1.trans k2)⟩
theorem ok_capture (T : RT K w mg C f fd tk cd ces cn ct) {k d : Nat} (hk : 2 ≤ k) (G : FnOk P w K mg base CX0 k (f 5) (fd 5) ["self"] (spR C d fun Z => RC Z d)) : FnOk P w K mg base CX0 (k + 1) (f 11) (fd 11) ["self"] (spR C d fun Z => RCap Z d) := by
  refine T.mCapture.F.ok scCapture (fun vs H Q E h => ?_) (fun cdv A outer s H vs Q E hr h => ?_)
  · obtain ⟨Z, p, dx, l, s, nm, t, q, nm', rfl, _⟩ := h
    rfl
  · obtain ⟨Z, p, dx, l, s, nm, t, e, nm', rfl, hd, R, ⟨n, u, r, r', w1, w2, w3, w4, w5, w6, rfl, rfl⟩, q⟩ := h
    obtain ⟨g1, g2, g3, g4, g5⟩ := name_pgr w1
    have GS := ok_sign (P := P) (base := base) T
    have GK := ok_skips (P := P) (base := base) T
    have GD := ok_demand (P := P) (base := base) T
    have h1 : 1 ≤ k := Nat.le_trans (by decide) hk
    have hZ := R.z
    refine ⟨_, pss_cons (ps_set (i := 1) scCapture.nd rfl (.inl rfl) (pe_fld (pv 0) rfl))
      (Evl.pss_cut (ps_while PassesOwn.never (PW.pt (pw_and (pt_cmpR op_ne (pe_meth0 (pv 0) T.cl T.mSign.m GS (hr.mono h1) T.mSign.b .nil pass0) pe_str (nomark _))
          (pw_and1 (pt_cmpR op_in_sign (pe_meth0 (pv 0) T.cl T.mSign.m GS (hr.mono h1) T.mSign.b .nil pass0) (pe_glob (v := .str (Str.ofString "abcdefghijklmnopqrstuvwxyz")) rfl T.gSma ⟨_, rfl⟩) rfl))))
        (pss_one (ps_fldaug (pv 0) pe_int in_add)))
      (pss_cons (ps_set (i := 2) scCapture.nd rfl (.inl rfl) (pe_slice sl_str (pe_fld (pv 0) rfl) (po_some (pv 1)) (po_some (pe_fld (pv 0) rfl))))
      (pss_cons (ps_expr (pe_meth (pv 0) T.cl T.mDemand.m GD (hr.mono h1) T.mDemand.b .nil pass0 (pa_cons
          (pe_and (pe_chain op_le op_le pe_int (pe_callB call_len_str (by rfl) T.zlen PySem.boot_len (pa_cons (pv 2) pa_nil)) (pe_glob (v := .int 8) rfl T.gMN ⟨_, rfl⟩))
            (pe_and (pe_cmpR op_notIn_seq (pv 2) (pe_fld (pv 0) rfl) rfl) (pe_one (pe_meth (pv 0) T.cl T.mSkips.m GK (hr.mono hk) T.mSkips.b .nil pass0 (pa_cons pe_str pa_nil))))) pa_nil)))
      (pss_cons (ps_expr (pe_bm PySem.F.plainAttrs_list PySem.F.slot_list_append PySem.F.type_list_append mt_append (pe_fld (pv 0) rfl) (pa_cons (pv 2) pa_nil)))
      (pss_cons (ps_set (i := 3) scCapture.nd rfl (.inl rfl) (pe_meth0 (pv 0) T.cl T.mChoice.m G hr T.mChoice.b .nil pass0))
      (pss_cons (ps_expr (pe_meth (pv 0) T.cl T.mDemand.m GD (hr.mono h1) T.mDemand.b .nil pass0 (pa_cons (pe_meth (pv 0) T.cl T.mSkips.m GK (hr.mono hk) T.mSkips.b .nil pass0 (pa_cons pe_str pa_nil)) pa_nil)))
      (pss_one (ps_ret (pe_tup (pa_cons (pe_glob (v := .str caW) rfl T.gCa ⟨_, rfl⟩) (pa_cons (pv 2) (pa_cons (pv 3) pa_nil)))))))))))), ?_⟩
    have nC : ∀ s' m', (rf Z s' l m').lookup ("read_choice" : Str) = none := fun _ _ => rf_no (by decide +kernel) (by decide +kernel) (by decide +kernel) (by decide +kernel)
    have nS : ∀ s' m', (rf Z s' l m').lookup ("sign" : Str) = none := fun _ _ => rf_no (by decide +kernel) (by decide +kernel) (by decide +kernel) (by decide +kernel)
    have nD : ∀ s' m', (rf Z s' l m').lookup ("demand" : Str) = none := fun _ _ => rf_no (by decide +kernel) (by decide +kernel) (by decide +kernel) (by decide +kernel)
    have nK : ∀ s' m', (rf Z s' l m').lookup ("skips" : Str) = none := fun _ _ => rf_no (by decide +kernel) (by decide +kernel) (by decide +kernel) (by decide +kernel)
    refine ⟨.ref p, rfl, p, C, dx, _, _, rfl, R.e, T.cl, T.nSp, rf_spot, ?_⟩
    refine ⟨fun σ H1 => σ = [some (.ref p), some (.int s), none, none] ∧ RdA C Z p dx l H1 r nm (8 - (d : Int)) ∧ K2 p l H H1, ?_, fun σ H1 hM => ?_⟩
    · refine ⟨fun n σ H1 => ∃ s1, n = r - s1 ∧ s ≤ s1 ∧ s1 ≤ r ∧ σ = [some (.ref p), some (.int s), none, none] ∧ RdA C Z p dx l H1 s1 nm (8 - (d : Int)) ∧ K2 p l H H1, ⟨_, s, rfl, Nat.le_refl _, g1, rfl, R, K2.refl _ _ _⟩, ?_⟩
      rintro n σ H1 ⟨s1, rfl, ha, hb, rfl, R1, k1⟩
      refine ⟨.ref p, rfl, p, dx, _, rfl, R1.e, nS _ _, Z, p, dx, l, s1, nm, _, rfl, R1, rfl, _, rfl, ?_⟩
      by_cases hlt : s1 < r
      · obtain ⟨d, hz, hdd⟩ := g5 s1 ha hlt
        rw [sg_some hz, decide_eq_false em_ne]
        refine iteT ⟨.ref p, rfl, p, dx, _, rfl, R1.e, nS _ _, Z, p, dx, l, s1, nm, _, rfl, R1, d, _, by rw [sg_some hz] <;> rfl, rfl, _, rfl, ?_⟩
        rw [decide_eq_true ((smaS d).mpr hdd)]
        refine iteT ⟨fun σ' H' => ∃ s2, s2 = s1 + 1 ∧ σ' = [some (.ref p), some (.int s), none, none] ∧ RdA C Z p dx l H' s2 nm _ ∧ K2 p l H H', fun σ' H' ⟨s2, h1, h2, h3, h4⟩ => ⟨r - s2, by omega, s2, rfl, by omega, by omega, h2, h3, h4⟩, ?_⟩
        refine ⟨.ref p, rfl, p, C, dx, _, _, rfl, R1.e, T.cl, T.nSp, rf_spot, _, _, rfl, rfl, dx, _, R1.e, (show 4 < 1000 by decide), ?_⟩
        exact ⟨s1 + 1, rfl, rfl, R1.spot (s1 + 1) (Nat.le_succ s1), k1.trans K2.p⟩
      · obtain rfl : s1 = r := by omega
        rw [sg_some g2, decide_eq_false em_ne]
        refine iteT ⟨.ref p, rfl, p, dx, _, rfl, R1.e, nS _ _, Z, p, dx, l, s1, nm, _, rfl, R1, 58, _, by rw [sg_some g2] <;> rfl, rfl, _, rfl, ?_⟩
        rw [decide_eq_false fun z => absurd ((smaS 58).mp z).1 (by decide)]
        exact iteF ⟨rfl, R1, k1⟩
    obtain ⟨rfl, R1, k1⟩ := hM
    refine ⟨.ref p, rfl, p, C, dx, _, _, rfl, R1.e, T.cl, T.nStr, rf_string, .int s, rfl, s, rfl, .ref p, rfl, p, C, dx, _, _, rfl, R1.e, T.cl, T.nSp, rf_spot, r, rfl, tx Z, rfl, tx_len60 R.z, ?_⟩
    rw [cut_sub, g4]
    have hl : (tx n).length = n.length := tx_len n
    have hL : (tx n).length ≤ sizeLine := by
      rw [hl]
      exact Nat.le_trans w3 (by decide)
    refine ⟨.ref p, rfl, p, dx, _, rfl, R1.e, nD _ _, .str (tx n), rfl, tx n, rfl, hL, _, _, rfl, rfl, _, rfl, ?_⟩
    rw [decide_eq_true (show (1 : Int) ≤ ((tx n).length : Int) by rw [hl]; omega)]
    refine iteT ⟨_, _, rfl, rfl, ?_⟩
    show ∃ c, V.bl (decide (((tx n).length : Int) ≤ 8)) = .bl c ∧ _
    rw [decide_eq_true (show ((tx n).length : Int) ≤ 8 by rw [hl]; omega)]
    refine ⟨true, rfl, iteT ⟨.str (tx n), rfl, .ref p, rfl, p, C, dx, _, _, rfl, R1.e, T.cl, T.nNm, rf_names, l, nmV nm, rfl, .inl (.inl (.inl R1.n)), rfl, ?_, ?_⟩⟩
    · exact List.all_eq_true.mpr fun y hy => by
        obtain ⟨m, _, rfl⟩ := List.mem_map.mp hy
        rfl
    rw [inV_nm w4]
    refine ⟨true, rfl, iteT ⟨.ref p, rfl, p, dx, _, rfl, R1.e, nK _ _, Z, p, dx, l, r, nm, _, 58, rfl, R1, fun _ H2 R2 k2 => ?_, fun z => absurd g2 z⟩⟩
    refine ⟨p, rfl, ?_⟩
    have hnm : nm.length < r + 1 := Nat.lt_succ_of_le R1.k
    have hrZ := lt_of g2
    refine ⟨.ref p, rfl, p, C, dx, _, _, rfl, R2.e, T.cl, T.nNm, rf_names, .inl ⟨rfl, _, .inl (.inl R2.n)⟩, .str (tx n), rfl, l, _, _, rfl, rfl, R2.n, Nat.lt_of_le_of_lt (show (nmV nm).length ≤ 60 by unfold nmV; rw [List.length_map]; omega) (by decide), ?_⟩
    have R3 := R2.nam n hnm
    refine ⟨.ref p, rfl, p, dx, _, rfl, R3.e, nC _ _, Z, p, dx, l, r + 1, nm ++ [n], u, r', nm', rfl, hd, R3, w5, fun v H4 o4 R4 k4 => ?_⟩
    refine ⟨.ref p, rfl, p, dx, _, rfl, R4.e, nD _ _, .ref p, rfl, p, dx, _, rfl, R4.e, nK _ _, Z, p, dx, l, r', nm', _, 62, rfl, R4, fun _ H5 R5 k5 => ?_, fun z => absurd w6 z⟩
    refine ⟨p, rfl, .str (tx n), rfl, v, rfl, (show 3 ≤ sizeLine by decide), fun b hb => ?_⟩
    exact q _ _ (.capture upd_same ((o4.mono (R4.kt k5)).mono (KT.same (smU hb)))) (R5.up (smU hb)) ((k1.trans (k2.trans (K2.l.trans (k4.trans k5)))).trans (K2.same (smU hb)))
end
end Sf4
namespace Sf4
open PySem PySem.Spec PyProof.Rows L2 Sf
theorem scUnit : FnScope ["self", "sign", "tree"] ["self"] (defScope sUnit) := ⟨rfl, rfl, rfl, by decide +kernel, rfl, by decide +kernel, by decide +kernel⟩
theorem scItem : FnScope ["self", "part", "least", "most"] ["self"] (defScope sItem) := ⟨rfl, rfl, rfl, by decide +kernel, rfl, by decide +kernel, by decide +kernel⟩
theorem scChain : FnScope ["self", "parts"] ["self"] (defScope sChain) := ⟨rfl, rfl, rfl, by decide +kernel, rfl, by decide +kernel, by decide +kernel⟩
theorem scChoice : FnScope ["self", "parts"] ["self"] (defScope sChoice) := ⟨rfl, rfl, rfl, by decide +kernel, rfl, by decide +kernel, by decide +kernel⟩
theorem st_cps : (LSs ++ Str.ofString ".[(<").cps.toList = LETc ++ [46, 91, 40, 60] := by decide +kernel
theorem st_in {c : Nat} : c ∈ (LSs ++ Str.ofString ".[(<").cps.toList ↔ (c ∈ LETc ∨ c = 46 ∨ c = 91 ∨ c = 40 ∨ c = 60) := by
  rw [st_cps, List.mem_append]
  simp only [List.mem_cons, List.not_mem_nil, or_false]
theorem op_cps {c : Nat} : c ∈ (Str.ofString "(<").cps.toList ↔ (c = 40 ∨ c = 60) := by
  rw [show (Str.ofString "(<").cps.toList = [40, 60] by decide +kernel]
  simp only [List.mem_cons, List.not_mem_nil, or_false]
theorem unit_can {Z : List Nat} {can : Prop} {Ci : Rel Tr} {p q : Nat} {nm nm' : Nm} {t : Tr} (h : RUnit Z can Ci p nm t q nm') :
    (∃ c, Z[p]? = some c ∧ c ∈ LETc ∧ t = .place [c] ∧ q = p + 1 ∧ nm' = nm) ∨ (Z[p]? = some 46 ∧ t = .place LETc ∧ q = p + 1 ∧ nm' = nm) ∨ (Z[p]? = some 91 ∧ Z[p + 1]? ≠ some 94 ∧ ∃ ss, RSome Z (p + 1) ss q ∧ t = .place (inC ss) ∧ nm' = nm) ∨
    (can ∧ ((Z[p]? = some 40 ∧ ((Z[p + 1]? = some 41 ∧ t = .empty ∧ q = p + 1 + 1 ∧ nm' = nm) ∨ (Z[p + 1]? ≠ some 41 ∧ ∃ r, Ci (p + 1) nm t r nm' ∧ Z[r]? = some 41 ∧ q = r + 1))) ∨
      (Z[p]? = some 60 ∧ ∃ n u r r', RName Z (p + 1) n r ∧ 1 ≤ n.length ∧ n.length ≤ 8 ∧ n ∉ nm ∧ Ci (r + 1) (nm ++ [n]) u r' nm' ∧ Z[r']? = some 62 ∧ q = r' + 1 ∧ t = .capture n u))) := by
  cases h with
  | letter h1 h2 => exact .inl ⟨_, h1, h2, rfl, rfl, rfl⟩
  | dot h1 => exact .inr (.inl ⟨h1, rfl, rfl, rfl⟩)
  | cls h1 h2 h3 => exact .inr (.inr (.inl ⟨h1, h2, _, h3, rfl, rfl⟩))
  | nothing h1 h2 h3 => exact .inr (.inr (.inr ⟨h1, .inl ⟨h2, .inl ⟨h3, rfl, rfl, rfl⟩⟩⟩))
  | group h1 h2 h3 h4 h5 => exact .inr (.inr (.inr ⟨h1, .inl ⟨h2, .inr ⟨h3, _, h4, h5, rfl⟩⟩⟩))
  | capture h1 h2 h3 h4 h5 h6 h7 h8 => exact .inr (.inr (.inr ⟨h1, .inr ⟨h2, _, _, _, _, h3, h4, h5, h6, h7, h8, rfl, rfl⟩⟩))
theorem unit_cases {Z : List Nat} {d p q : Nat} {nm nm' : Nm} {t : Tr} (h : RU Z d p nm t q nm') :
    (∃ c, Z[p]? = some c ∧ c ∈ LETc ∧ t = .place [c] ∧ q = p + 1 ∧ nm' = nm) ∨ (Z[p]? = some 46 ∧ t = .place LETc ∧ q = p + 1 ∧ nm' = nm) ∨ (Z[p]? = some 91 ∧ Z[p + 1]? ≠ some 94 ∧ ∃ ss, RSome Z (p + 1) ss q ∧ t = .place (inC ss) ∧ nm' = nm) ∨
    (∃ e, d = e + 1 ∧ ((Z[p]? = some 40 ∧ RGrp Z e (p + 1) nm t q nm') ∨ (Z[p]? = some 60 ∧ RCap Z e (p + 1) nm t q nm'))) := by
  cases d with
  | zero =>
    rcases unit_can (h : RUnit Z False _ p nm t q nm') with h | h | h | h
    · exact .inl h
    · exact .inr (.inl h)
    · exact .inr (.inr (.inl h))
    · exact h.1.elim
  | succ e =>
    rcases unit_can (h : RUnit Z True (RC Z e) p nm t q nm') with h | h | h | h
    · exact .inl h
    · exact .inr (.inl h)
    · exact .inr (.inr (.inl h))
    · exact .inr (.inr (.inr ⟨e, rfl, h.2⟩))
section
variable {P : Program} {w : World} {K : PySem.W.Frag} {mg : Str → Option Value} {base : Heap} {C : Addr} {f : Nat → Addr} {fd : Nat → FuncData} {tk : Nat → Tok} {cd : Addr} {ces : Array DictEntry} {cn : Nat} {ct : Nat → Addr}
def spNo : Sp := fun _ _ _ _ => False
theorem ok_no {k : Nat} {g : Addr} {gd : FuncData} {ps : List Str} : FnOk P w K mg base CX0 k g gd ps spNo := ⟨fun _ _ _ _ h => h.elim, fun _ _ _ _ _ _ _ _ _ _ _ _ _ h => h.elim⟩
def spIn (C : Addr) (R : List Nat → Nat → Rel Tr) : Nat → Sp
  | 0 => spNo
  | d + 1 => spR C d fun Z => R Z d
theorem ok_unit (T : RT K w mg C f fd tk cd ces cn ct) {k d : Nat} (hk : 4 ≤ k) (GG : FnOk P w K mg base CX0 k (f 10) (fd 10) ["self"] (spIn C RGrp d)) (GC : FnOk P w K mg base CX0 k (f 11) (fd 11) ["self"] (spIn C RCap d)) :
    FnOk P w K mg base CX0 (k + 1) (f 9) (fd 9) ["self"] (spR C d fun Z => RU Z d) := by
  refine T.mUnit.F.ok scUnit (fun vs H Q E h => ?_) (fun cdv A outer s H vs Q E hr h => ?_)
  · obtain ⟨Z, p, dx, l, s, nm, t, q, nm', rfl, _⟩ := h
    rfl
  · obtain ⟨Z, p, dx, l, s, nm, t, e, nm', rfl, hd, R, hu, q⟩ := h
    have GS := ok_sign (P := P) (base := base) T
    have GD := ok_demand (P := P) (base := base) T
    have GL := ok_class (P := P) (base := base) T
    have h1 : 1 ≤ k := Nat.le_trans (by decide) hk
    refine ⟨_, pss_cons (ps_set (i := 1) scUnit.nd rfl (.inl rfl) (pe_meth0 (pv 0) T.cl T.mSign.m GS (hr.mono h1) T.mSign.b .nil pass0))
      (pss_cons (ps_expr (pe_meth (pv 0) T.cl T.mDemand.m GD (hr.mono h1) T.mDemand.b .nil pass0 (pa_cons (pe_cmpR op_ne (pv 1) pe_str (nomark _)) pa_nil)))
      (pss_cons (ps_fldaug (pv 0) pe_int in_add)
      (pss_cons (ps_if (pt_cmpR op_inS (pv 1) (pe_glob (v := .str LSs) rfl T.gLet ⟨_, rfl⟩) rfl) (pss_one (ps_ret (pe_tup (pa_cons (pe_glob (v := .str plW) rfl T.gPl ⟨_, rfl⟩) (pa_cons (pv 1) pa_nil))))) pss_nil)
      (pss_cons (ps_if (pt_cmpR op_eq (pv 1) pe_str (nomark _)) (pss_one (ps_ret (pe_tup (pa_cons (pe_glob (v := .str plW) rfl T.gPl ⟨_, rfl⟩) (pa_cons (pe_glob (v := .str LSs) rfl T.gLet ⟨_, rfl⟩) pa_nil))))) pss_nil)
      (pss_cons (ps_if (pt_cmpR op_eq (pv 1) pe_str (nomark _)) (pss_one (ps_ret (pe_tup (pa_cons (pe_glob (v := .str plW) rfl T.gPl ⟨_, rfl⟩) (pa_cons (pe_meth0 (pv 0) T.cl T.mClass.m GL (hr.mono hk) T.mClass.b .nil pass0) pa_nil))))) pss_nil)
      (pss_cons (ps_expr (pe_meth (pv 0) T.cl T.mDemand.m GD (hr.mono h1) T.mDemand.b .nil pass0 (pa_cons
          (pe_and (pe_cmpR op_inS (pv 1) pe_str rfl) (pe_one (pe_cmpR op_lt (pe_fld (pv 0) rfl) (pe_glob (v := .int 8) rfl T.gMO ⟨_, rfl⟩) (nomark _)))) pa_nil)))
      (pss_cons (ps_fldaug (pv 0) pe_int in_add)
      (pss_cons (ps_set (i := 2) scUnit.nd rfl (.inl rfl) (pe_ifExp (pt_cmpR op_eq (pv 1) pe_str (nomark _)) (pe_meth0 (pv 0) T.cl T.mGroup.m GG hr T.mGroup.b .nil pass0) (pe_meth0 (pv 0) T.cl T.mCapture.m GC hr T.mCapture.b .nil pass0)))
      (pss_cons (ps_fldaug (pv 0) pe_int in_sub)
      (pss_one (ps_ret (pv 2)))))))))))), ?_⟩
    have nS : ∀ s' m', (rf Z s' l m').lookup ("sign" : Str) = none := fun _ _ => rf_no (by decide +kernel) (by decide +kernel) (by decide +kernel) (by decide +kernel)
    have nD : ∀ s' m', (rf Z s' l m').lookup ("demand" : Str) = none := fun _ _ => rf_no (by decide +kernel) (by decide +kernel) (by decide +kernel) (by decide +kernel)
    have nG : ∀ s' m', (rf Z s' l m').lookup ("read_group" : Str) = none := fun _ _ => rf_no (by decide +kernel) (by decide +kernel) (by decide +kernel) (by decide +kernel)
    have nC : ∀ s' m', (rf Z s' l m').lookup ("read_capture" : Str) = none := fun _ _ => rf_no (by decide +kernel) (by decide +kernel) (by decide +kernel) (by decide +kernel)
    have nL : ∀ s' m', (rf Z s' l m').lookup ("read_class" : Str) = none := fun _ _ => rf_no (by decide +kernel) (by decide +kernel) (by decide +kernel) (by decide +kernel)
    have fin : ∀ {c : Nat}, Z[s]? = some c → Z[s]? = some c := fun h => h
    obtain ⟨c, hz⟩ : ∃ c, Z[s]? = some c := by
      have := (ru_pgr Z d).go hu
      exact ⟨_, List.getElem?_eq_getElem (by omega)⟩
    refine ⟨.ref p, rfl, p, dx, _, rfl, R.e, nS _ _, Z, p, dx, l, s, nm, _, rfl, R, ?_⟩
    rw [sg_some hz]
    refine ⟨.ref p, rfl, p, dx, _, rfl, R.e, nD _ _, .str (tx [c]), rfl, rfl, p, ?_, ?_⟩
    · show [V.ref p, V.bl (!decide (V.str (tx [c]) = V.str (Str.ofString "")))] = _
      rw [decide_eq_false em_ne] <;> rfl
    refine ⟨.ref p, rfl, p, C, dx, _, _, rfl, R.e, T.cl, T.nSp, rf_spot, _, _, rfl, rfl, dx, _, R.e, (show 4 < 1000 by decide), ?_⟩
    have R1 := R.spot (s + 1) (Nat.le_succ s)
    have k1 : K2 p l H (upd H p (.ins C dx (putF "spot" (.int ((s + 1 : Nat) : Int)) (rf Z s l (8 - (d : Int)))))) := K2.p
    have e1 : (upd H p (.ins C dx (putF "spot" (.int ((s : Int) + 1)) (rf Z s l (8 - (d : Int)))))) = (upd H p (.ins C dx (putF "spot" (.int ((s + 1 : Nat) : Int)) (rf Z s l (8 - (d : Int)))))) := rfl
    rw [e1]
    generalize upd H p (.ins C dx (putF "spot" (.int ((s + 1 : Nat) : Int)) (rf Z s l (8 - (d : Int))))) = H1 at R1 k1 ⊢
    refine ⟨.str (tx [c]), rfl, c, _, rfl, rfl, _, rfl, ?_⟩
    have neq : ∀ {c d : Nat}, c ≠ d → ¬ (V.str (tx [c]) = V.str (tx [d])) := fun h z => h (List.cons.inj (tx_inj (V.str.inj z))).1
    have s46 : V.str (Str.ofString ".") = V.str (tx [46]) := by decide +kernel
    have s91 : V.str (Str.ofString "[") = V.str (tx [91]) := by decide +kernel
    have s40 : V.str (Str.ofString "(") = V.str (tx [40]) := by decide +kernel
    have n46 : ¬ (46 ∈ LETc) := by decide
    have n91 : ¬ (91 ∈ LETc) := by decide
    have n40 : ¬ (40 ∈ LETc) := by decide
    have n60 : ¬ (60 ∈ LETc) := by decide
    rcases unit_cases hu with ⟨c', u1, u2, rfl, rfl, rfl⟩ | ⟨u1, rfl, rfl, rfl⟩ | ⟨u1, u2, ss, u3, rfl, rfl⟩ | ⟨d', rfl, u⟩
    · obtain rfl : c = c' := Option.some.inj (hz.symm.trans u1)
      rw [decide_eq_true (inLS.mpr u2)]
      exact iteT ⟨.str (tx [c]), rfl, (show 2 ≤ sizeLine by decide), fun b hb => q _ _ (.place upd_same) (R1.up (smU hb)) (k1.trans (K2.same (smU hb)))⟩
    · obtain rfl : c = 46 := Option.some.inj (hz.symm.trans u1)
      rw [decide_eq_false fun z => n46 (inLS.mp z)]
      refine iteF ⟨_, rfl, rfl, _, rfl, ?_⟩
      rw [s46, decide_eq_true rfl]
      refine iteT ⟨(show 2 ≤ sizeLine by decide), fun b hb => q _ _ (.place ?_) (R1.up (smU hb)) (k1.trans (K2.same (smU hb)))⟩
      rw [upd_same, show LSs = tx LETc by decide +kernel]
    · obtain rfl : c = 91 := Option.some.inj (hz.symm.trans u1)
      rw [decide_eq_false fun z => n91 (inLS.mp z)]
      refine iteF ⟨_, rfl, rfl, _, rfl, ?_⟩
      rw [s46, decide_eq_false (neq (by decide))]
      refine iteF ⟨_, rfl, rfl, _, rfl, ?_⟩
      rw [s91, decide_eq_true rfl]
      refine iteT ⟨.ref p, rfl, p, dx, _, rfl, R1.e, nL _ _, Z, p, dx, l, s + 1, _, _, ss, e, rfl, R1, u2, u3, fun H2 R2 k2 => ?_⟩
      exact ⟨(show 2 ≤ sizeLine by decide), fun b hb => q _ _ (.place upd_same) (R2.up (smU hb)) ((k1.trans k2).trans (K2.same (smU hb)))⟩
    have cc : c = 40 ∨ c = 60 := by
      rcases u with ⟨u, _⟩ | ⟨u, _⟩
      · exact .inl (Option.some.inj (hz.symm.trans u))
      · exact .inr (Option.some.inj (hz.symm.trans u))
    have nc : ¬ (c ∈ LETc) ∧ c ≠ 46 ∧ c ≠ 91 := by
      rcases cc with rfl | rfl
      · exact ⟨n40, by decide, by decide⟩
      · exact ⟨n60, by decide, by decide⟩
    rw [decide_eq_false fun z => nc.1 (inLS.mp z)]
    refine iteF ⟨_, rfl, rfl, _, rfl, ?_⟩
    rw [s46, decide_eq_false (neq nc.2.1)]
    refine iteF ⟨_, rfl, rfl, _, rfl, ?_⟩
    rw [s91, decide_eq_false (neq nc.2.2)]
    refine iteF ⟨.ref p, rfl, p, dx, _, rfl, R1.e, nD _ _, .str (tx [c]), rfl, c, _, rfl, rfl, ?_⟩
    rw [decide_eq_true (op_cps.mpr cc)]
    refine ⟨true, rfl, iteT ⟨.ref p, rfl, p, C, dx, _, _, rfl, R1.e, T.cl, T.nMo, rf_open, _, _, rfl, rfl, p, ?_, ?_⟩⟩
    · show [V.ref p, V.bl (decide (8 - ((d' + 1 : Nat) : Int) < 8))] = _
      rw [decide_eq_true (by omega)]
    refine ⟨.ref p, rfl, p, C, dx, _, _, rfl, R1.e, T.cl, T.nMo, rf_open, _, _, rfl, rfl, dx, _, R1.e, (show 4 < 1000 by decide), ?_⟩
    have em : (8 - ((d' + 1 : Nat) : Int)) + 1 = 8 - (d' : Int) := by omega
    rw [em]
    have R2 := R1.opn (8 - (d' : Int))
    have k2 : K2 p l H _ := k1.trans (K2.p (o := .ins C dx (putF "many_open" (.int (8 - (d' : Int))) (rf Z (s + 1) l (8 - ((d' + 1 : Nat) : Int))))))
    generalize upd H1 p (.ins C dx (putF "many_open" (.int (8 - (d' : Int))) (rf Z (s + 1) l (8 - ((d' + 1 : Nat) : Int))))) = H2 at R2 k2 ⊢
    have em2 : (8 - (d' : Int)) - 1 = 8 - ((d' + 1 : Nat) : Int) := by omega
    rcases u with ⟨u1, u2⟩ | ⟨u1, u2⟩
    · obtain rfl : c = 40 := Option.some.inj (hz.symm.trans u1)
      refine ⟨_, rfl, rfl, _, rfl, ?_⟩
      rw [s40, decide_eq_true rfl]
      refine iteT ⟨.ref p, rfl, p, dx, _, rfl, R2.e, nG _ _, Z, p, dx, l, s + 1, nm, t, e, nm', rfl, by omega, R2, u2, fun v H3 o3 R3 k3 => ?_⟩
      refine ⟨.ref p, rfl, p, C, dx, _, _, rfl, R3.e, T.cl, T.nMo, rf_open, _, _, rfl, rfl, dx, _, R3.e, (show 4 < 1000 by decide), v, rfl, ?_⟩
      rw [em2]
      exact q v _ (o3.mono (R3.kt K2.p)) (R3.opn _) ((k2.trans k3).trans K2.p)
    · obtain rfl : c = 60 := Option.some.inj (hz.symm.trans u1)
      refine ⟨_, rfl, rfl, _, rfl, ?_⟩
      rw [s40, decide_eq_false (neq (by decide))]
      refine iteF ⟨.ref p, rfl, p, dx, _, rfl, R2.e, nC _ _, Z, p, dx, l, s + 1, nm, t, e, nm', rfl, by omega, R2, u2, fun v H3 o3 R3 k3 => ?_⟩
      refine ⟨.ref p, rfl, p, C, dx, _, _, rfl, R3.e, T.cl, T.nMo, rf_open, _, _, rfl, rfl, dx, _, R3.e, (show 4 < 1000 by decide), v, rfl, ?_⟩
      rw [em2]
      exact q v _ (o3.mono (R3.kt K2.p)) (R3.opn _) ((k2.trans k3).trans K2.p)
end
end Sf4
namespace Sf4
open PySem PySem.Spec PyProof.Rows L2 Sf
section
variable {P : Program} {w : World} {K : PySem.W.Frag} {mg : Str → Option Value} {base : Heap} {C : Addr} {f : Nat → Addr} {fd : Nat → FuncData} {tk : Nat → Tok} {cd : Addr} {ces : Array DictEntry} {cn : Nat} {ct : Nat → Addr}
/-- what COUNTS tells of a sign -/
theorem cnt_of (T : RT K w mg C f fd tk cd ces cn ct) {c a : Nat} {b : Option Nat} (h : cnt c = some (a, b)) : ∃ t : Addr, PySem.W.nsIn K cd (tx [c]) = some (some (.ref t)) ∧ ∀ H : Hp, SqT K H t [.int a, mst b] := by
  have h42 : Str.ofString "*" = tx [42] := by decide +kernel
  have h43 : Str.ofString "+" = tx [43] := by decide +kernel
  have h63 : Str.ofString "?" = tx [63] := by decide +kernel
  by_cases e1 : c = 42
  · subst e1
    cases h
    exact ⟨ct 0, h42 ▸ T.c1, T.t1⟩
  by_cases e2 : c = 43
  · subst e2
    cases h
    exact ⟨ct 1, h43 ▸ T.c2, T.t2⟩
  by_cases e3 : c = 63
  · subst e3
    cases h
    exact ⟨ct 2, h63 ▸ T.c3, T.t3⟩
  exfalso
  unfold cnt at h
  split at h
  · exact e1 rfl
  · exact e2 rfl
  · exact e3 rfl
  · cases h
theorem cnt_no (T : RT K w mg C f fd tk cd ces cn ct) {Z : List Nat} {q : Nat} (h : ∀ c, Z[q]? = some c → cnt c = none) : PySem.W.nsIn K cd (tx (sg Z q)) = some none := by
  have h42 : Str.ofString "*" = tx [42] := by decide +kernel
  have h43 : Str.ofString "+" = tx [43] := by decide +kernel
  have h63 : Str.ofString "?" = tx [63] := by decide +kernel
  have k : ∀ d, cnt d ≠ none → tx (sg Z q) ≠ tx [d] := fun d hd z => by
    have z := tx_inj z
    cases e : Z[q]? with
    | none =>
      rw [sg_none e] at z
      cases z
    | some c =>
      rw [sg_some e] at z
      cases z
      exact hd (h _ e)
  exact T.c0 _ (h42 ▸ k 42 (by decide)) (h43 ▸ k 43 (by decide)) (h63 ▸ k 63 (by decide))
theorem ok_item (T : RT K w mg C f fd tk cd ces cn ct) {k d : Nat} (hk : 4 ≤ k) (G : FnOk P w K mg base CX0 k (f 9) (fd 9) ["self"] (spR C d fun Z => RU Z d)) : FnOk P w K mg base CX0 (k + 1) (f 7) (fd 7) ["self"] (spR C d fun Z => RItem Z (RU Z d)) := by
  refine T.mItem.F.ok scItem (fun vs H Q E h => ?_) (fun cdv A outer s H vs Q E hr h => ?_)
  · obtain ⟨Z, p, dx, l, s, nm, t, q, nm', rfl, _⟩ := h
    rfl
  · obtain ⟨Z, p, dx, l, s, nm, t, e, nm', rfl, hd, R, hi, q⟩ := h
    have GS := ok_sign (P := P) (base := base) T
    have GD := ok_demand (P := P) (base := base) T
    have GK := ok_skips (P := P) (base := base) T
    have GN := ok_number (P := P) (base := base) T
    have h1 : 1 ≤ k := Nat.le_trans (by decide) hk
    have h2 : 2 ≤ k := Nat.le_trans (by decide) hk
    refine ⟨_, pss_cons (ps_set (i := 1) scItem.nd rfl (.inl rfl) (pe_meth0 (pv 0) T.cl T.mUnit.m G hr T.mUnit.b .nil pass0))
      (pss_cons (ps_if (pt_cmpR (op_in_kd T.kd) (pe_meth0 (pv 0) T.cl T.mSign.m GS (hr.mono h1) T.mSign.b .nil pass0) (pe_glob (v := .ref cd) rfl T.gCs rfl) rfl)
          (pss_cons (ps_asg (pe_ix ix_kdict (pe_glob (v := .ref cd) rfl T.gCs rfl) (pe_meth0 (pv 0) T.cl T.mSign.m GS (hr.mono h1) T.mSign.b .nil pass0) (fun _ _ => rfl))
            (pg_tup rfl (pgs_cons (pg_name (i := 2) scItem.nd rfl (.inl rfl)) (pgs_cons (pg_name (i := 3) scItem.nd rfl (.inl rfl)) pgs_nil))))
          (pss_cons (ps_fldaug (pv 0) pe_int in_add)
          (pss_one (ps_ret (pe_tup (pa_cons (pe_glob (v := .str coW) rfl T.gCo ⟨_, rfl⟩) (pa_cons (pv 2) (pa_cons (pv 3) (pa_cons (pv 1) pa_nil)))))))))
          pss_nil)
      (pss_cons (ps_if (pt_not (pt_val (pe_meth (pv 0) T.cl T.mSkips.m GK (hr.mono h2) T.mSkips.b .nil pass0 (pa_cons pe_str pa_nil)))) (pss_one (ps_ret (pv 1))) pss_nil)
      (pss_cons (ps_asg2 (pe_meth0 (pv 0) T.cl T.mNumber.m GN (hr.mono h2) T.mNumber.b .nil pass0) (pg_name (i := 2) scItem.nd rfl (.inl rfl)) (pg_name (i := 3) scItem.nd rfl (.inl rfl)))
      (Evl.pss_cut (ps_if (pt_val (pe_meth (pv 0) T.cl T.mSkips.m GK (hr.mono h2) T.mSkips.b .nil pass0 (pa_cons pe_str pa_nil)))
          (pss_one (ps_set (i := 3) scItem.nd rfl (.inl rfl) (pe_ifExp (pt_cmpR op_eq (pe_meth0 (pv 0) T.cl T.mSign.m GS (hr.mono h1) T.mSign.b .nil pass0) pe_str (nomark _)) pe_non (pe_meth0 (pv 0) T.cl T.mNumber.m GN (hr.mono h2) T.mNumber.b .nil pass0))))
          pss_nil)
      (pss_cons (ps_expr (pe_meth (pv 0) T.cl T.mDemand.m GD (hr.mono h1) T.mDemand.b .nil pass0 (pa_cons
          (pe_and (pe_meth (pv 0) T.cl T.mSkips.m GK (hr.mono h2) T.mSkips.b .nil pass0 (pa_cons pe_str pa_nil))
            (pe_one (pe_or (pe_cmpR op_isN (pv 3) pe_non (nomark _)) (pe_one (pe_cmpR op_le (pv 2) (pv 3) (nomark _)))))) pa_nil)))
      (pss_one (ps_ret (pe_tup (pa_cons (pe_glob (v := .str coW) rfl T.gCo ⟨_, rfl⟩) (pa_cons (pv 2) (pa_cons (pv 3) (pa_cons (pv 1) pa_nil)))))))))))), ?_⟩
    have nS : ∀ s' m', (rf Z s' l m').lookup ("sign" : Str) = none := fun _ _ => rf_no (by decide +kernel) (by decide +kernel) (by decide +kernel) (by decide +kernel)
    have nD : ∀ s' m', (rf Z s' l m').lookup ("demand" : Str) = none := fun _ _ => rf_no (by decide +kernel) (by decide +kernel) (by decide +kernel) (by decide +kernel)
    have nK : ∀ s' m', (rf Z s' l m').lookup ("skips" : Str) = none := fun _ _ => rf_no (by decide +kernel) (by decide +kernel) (by decide +kernel) (by decide +kernel)
    have nU : ∀ s' m', (rf Z s' l m').lookup ("read_unit" : Str) = none := fun _ _ => rf_no (by decide +kernel) (by decide +kernel) (by decide +kernel) (by decide +kernel)
    have nN : ∀ s' m', (rf Z s' l m').lookup ("read_number" : Str) = none := fun _ _ => rf_no (by decide +kernel) (by decide +kernel) (by decide +kernel) (by decide +kernel)
    obtain ⟨u, r, nm1, hu, hc⟩ : ∃ u r nm1, RU Z d s nm u r nm1 ∧ ((u = t ∧ e = r ∧ nm' = nm1 ∧ ∀ c, Z[r]? = some c → cnt c = none ∧ c ≠ 123) ∨ (nm' = nm1 ∧ ∃ c a b, Z[r]? = some c ∧ cnt c = some (a, b) ∧ e = r + 1 ∧ t = .count a b u) ∨
        (nm' = nm1 ∧ Z[r]? = some 123 ∧ ∃ a b r1 r2, RNum Z (r + 1) a r1 ∧ t = .count a b u ∧ e = r2 + 1 ∧ Z[r2]? = some 125 ∧ ((b = some a ∧ r2 = r1) ∨ (b = none ∧ Z[r1]? = some 44 ∧ r2 = r1 + 1) ∨ (∃ b', b = some b' ∧ Z[r1]? = some 44 ∧ RNum Z (r1 + 1) b' r2 ∧ a ≤ b')))) := by
      cases hi with
      | plain h1 h2 => exact ⟨_, _, _, h1, .inl ⟨rfl, rfl, rfl, h2⟩⟩
      | sign h1 h2 h3 => exact ⟨_, _, _, h1, .inr (.inl ⟨rfl, _, _, _, h2, h3, rfl, rfl⟩)⟩
      | just h1 h2 h3 h4 => exact ⟨_, _, _, h1, .inr (.inr ⟨rfl, h2, _, _, _, _, h3, rfl, rfl, h4, .inl ⟨rfl, rfl⟩⟩)⟩
      | least h1 h2 h3 h4 h5 => exact ⟨_, _, _, h1, .inr (.inr ⟨rfl, h2, _, _, _, _, h3, rfl, rfl, h5, .inr (.inl ⟨rfl, h4, rfl⟩)⟩)⟩
      | both h1 h2 h3 h4 h5 h6 h7 => exact ⟨_, _, _, h1, .inr (.inr ⟨rfl, h2, _, _, _, _, h3, rfl, rfl, h7, .inr (.inr ⟨_, rfl, h4, h5, h6⟩)⟩)⟩
    refine ⟨.ref p, rfl, p, dx, _, rfl, R.e, nU _ _, Z, p, dx, l, s, nm, u, r, nm1, rfl, hd, R, hu, fun v H1 o1 R1 k1 => ?_⟩
    refine ⟨.ref p, rfl, p, dx, _, rfl, R1.e, nS _ _, Z, p, dx, l, r, nm1, _, rfl, R1, ?_⟩
    rcases hc with ⟨rfl, rfl, rfl, hp⟩ | ⟨rfl, c, a, b, hz, hcn, rfl, rfl⟩ | ⟨rfl, hz, a, b, r1, r2, hn, rfl, rfl, hz2, hb⟩
    · refine ⟨_, none, rfl, rfl, cnt_no T fun c h => (hp c h).1, _, rfl, iteF ?_⟩
      refine ⟨.ref p, rfl, p, dx, _, rfl, R1.e, nK _ _, Z, p, dx, l, e, nm', _, 123, rfl, R1, fun z => absurd rfl (hp _ z).2, fun _ => ⟨false, rfl, iteT ?_⟩⟩
      exact ⟨v, rfl, q v H1 o1 R1 k1⟩
    · obtain ⟨tp, c1, c2⟩ := cnt_of T hcn
      rw [sg_some hz]
      refine ⟨_, _, rfl, rfl, c1, _, rfl, iteT ?_⟩
      refine ⟨.ref p, rfl, p, dx, _, rfl, R1.e, nS _ _, Z, p, dx, l, r, nm', _, rfl, R1, ?_⟩
      rw [sg_some hz]
      refine ⟨cd, tx [c], .ref tp, rfl, rfl, ⟨ces, cn, _, T.kd.at_, T.kd.lit, c1, rfl⟩, tp, _, rfl, c2 _, rfl, _, _, rfl, _, _, rfl, rfl, ?_⟩
      refine ⟨.ref p, rfl, p, C, dx, _, _, rfl, R1.e, T.cl, T.nSp, rf_spot, _, _, rfl, rfl, dx, _, R1.e, (show 4 < 1000 by decide), ?_⟩
      have R2 := R1.spot (r + 1) (Nat.le_succ r)
      refine ⟨_, rfl, _, rfl, v, rfl, (show 4 ≤ sizeLine by decide), fun b' hb' => ?_⟩
      refine q _ _ (.count upd_same ((o1.mono (R1.kt K2.p)).mono (KT.same (smU hb')))) (R2.up (smU hb')) ((k1.trans K2.p).trans (K2.same (smU hb')))
    · refine ⟨_, none, rfl, rfl, cnt_no T fun c h => by rw [hz] at h; cases h; rfl, _, rfl, iteF ?_⟩
      refine ⟨.ref p, rfl, p, dx, _, rfl, R1.e, nK _ _, Z, p, dx, l, r, nm', _, 123, rfl, R1, fun _ H2 R2 k2 => ⟨true, rfl, iteF ?_⟩, fun z => absurd hz z⟩
      refine ⟨.ref p, rfl, p, dx, _, rfl, R2.e, nN _ _, Z, p, dx, l, r + 1, nm', _, a, r1, rfl, R2, hn, fun H3 R3 k3 => ?_⟩
      refine ⟨fun σ H4 => σ = [some (.ref p), some v, some (.int a), some (mst b)] ∧ RdA C Z p dx l H4 r2 nm' (8 - (d : Int)) ∧ K2 p l H1 H4, ?_, fun σ H4 hM => ?_⟩
      · have k13 := k2.trans k3
        rcases hb with ⟨rfl, rfl⟩ | ⟨rfl, h44, rfl⟩ | ⟨b', rfl, h44, hn2, _⟩
        · refine ⟨.ref p, rfl, p, dx, _, rfl, R3.e, nK _ _, Z, p, dx, l, r2, nm', _, 44, rfl, R3, fun z => ?_, fun _ => ⟨false, rfl, iteF ⟨rfl, R3, k13⟩⟩⟩
          rw [hz2] at z
          cases z
        · refine ⟨.ref p, rfl, p, dx, _, rfl, R3.e, nK _ _, Z, p, dx, l, r1, nm', _, 44, rfl, R3, fun _ H4 R4 k4 => ⟨true, rfl, iteT ?_⟩, fun z => absurd h44 z⟩
          refine ⟨.ref p, rfl, p, dx, _, rfl, R4.e, nS _ _, Z, p, dx, l, r1 + 1, nm', _, rfl, R4, ?_⟩
          rw [sg_some hz2]
          refine ⟨rfl, _, rfl, ?_⟩
          rw [show V.str (tx [125]) = V.str (Str.ofString "}") by decide +kernel, decide_eq_true rfl]
          exact iteT ⟨rfl, R4, k13.trans k4⟩
        · refine ⟨.ref p, rfl, p, dx, _, rfl, R3.e, nK _ _, Z, p, dx, l, r1, nm', _, 44, rfl, R3, fun _ H4 R4 k4 => ⟨true, rfl, iteT ?_⟩, fun z => absurd h44 z⟩
          refine ⟨.ref p, rfl, p, dx, _, rfl, R4.e, nS _ _, Z, p, dx, l, r1 + 1, nm', _, rfl, R4, ?_⟩
          have hne : Z[r1 + 1]? ≠ some 125 := fun z => by
            obtain ⟨_, _, _, _, _, _, _, hlt, hdg, _⟩ := num_word hn2
            obtain ⟨c, hc1, hc2⟩ := hdg (r1 + 1) (Nat.le_refl _) hlt
            rw [z] at hc1
            cases hc1
            exact absurd hc2.2 (by decide)
          refine ⟨rfl, _, rfl, ?_⟩
          rw [decide_eq_false fun z => sg_ne hne ((V.str.inj z).trans (show Str.ofString "}" = tx [125] by decide +kernel))]
          refine iteF ⟨.ref p, rfl, p, dx, _, rfl, R4.e, nN _ _, Z, p, dx, l, r1 + 1, nm', _, b', r2, rfl, R4, hn2, fun H5 R5 k5 => ?_⟩
          exact ⟨rfl, R5, (k13.trans k4).trans k5⟩
      obtain ⟨rfl, R4, k4⟩ := hM
      refine ⟨.ref p, rfl, p, dx, _, rfl, R4.e, nD _ _, .ref p, rfl, p, dx, _, rfl, R4.e, nK _ _, Z, p, dx, l, r2, nm', _, 125, rfl, R4, fun _ H5 R5 k5 => ?_, fun z => absurd hz2 z⟩
      refine ⟨true, rfl, iteT ⟨_, rfl, rfl, _, rfl, ?_⟩⟩
      have fin : ∀ {H6 : Hp}, H6 = H5 → ∀ b', H6 b' = none → Q (.ref b') (upd H6 b' (.tup [.str coW, .int a, mst b, v])) := fun {H6} e6 b' hb' => by
        subst e6
        exact q _ _ (.count upd_same ((o1.mono (R1.kt (k4.trans k5))).mono (KT.same (smU hb')))) (R5.up (smU hb')) ((k1.trans (k4.trans k5)).trans (K2.same (smU hb')))
      cases b with
      | none => exact iteT ⟨p, rfl, _, rfl, _, rfl, v, rfl, (show 4 ≤ sizeLine by decide), fin rfl⟩
      | some b' =>
        have hle : a ≤ b' := by
          rcases hb with ⟨h, _⟩ | ⟨h, _⟩ | ⟨b2, h, _, _, h2⟩
          · cases h
            exact Nat.le_refl _
          · cases h
          · cases h
            exact h2
        refine iteF ⟨_, rfl, _, rfl, _, _, rfl, rfl, p, ?_, _, rfl, _, rfl, v, rfl, (show 4 ≤ sizeLine by decide), fin rfl⟩
        show [V.ref p, V.bl (decide ((a : Int) ≤ (b' : Int)))] = _
        rw [decide_eq_true (by omega)]
end
end Sf4
namespace Sf4
open PySem PySem.Spec PyProof.Rows L2 Sf
section
variable {P : Program} {w : World} {K : PySem.W.Frag} {mg : Str → Option Value} {base : Heap} {C : Addr} {f : Nat → Addr} {fd : Nat → FuncData} {tk : Nat → Tok} {cd : Addr} {ces : Array DictEntry} {cn : Nat} {ct : Nat → Addr}
theorem ok_chain (T : RT K w mg C f fd tk cd ces cn ct) {k d : Nat} (hk : 4 ≤ k) (G : FnOk P w K mg base CX0 k (f 7) (fd 7) ["self"] (spR C d fun Z => RItem Z (RU Z d))) : FnOk P w K mg base CX0 (k + 1) (f 6) (fd 6) ["self"] (spR C d fun Z => RChain Z (RItem Z (RU Z d))) := by
  refine T.mChain.F.ok scChain (fun vs H Q E h => ?_) (fun cdv A outer s H vs Q E hr h => ?_)
  · obtain ⟨Z, p, dx, l, s, nm, t, q, nm', rfl, _⟩ := h
    rfl
  · obtain ⟨Z, p, dx, l, s, nm, t, e, nm', rfl, hd, R, ⟨ts, hm, ht⟩, q⟩ := h
    have GS := ok_sign (P := P) (base := base) T
    have h1 : 1 ≤ k := Nat.le_trans (by decide) hk
    refine ⟨_, pss_cons (ps_set (i := 1) scChain.nd rfl (.inl rfl) (pe_lst (pa_cons (pe_meth0 (pv 0) T.cl T.mItem.m G hr T.mItem.b .nil pass0) pa_nil)))
      (Evl.pss_cut (ps_while PassesOwn.never (PW.pt (pw_and (pt_cmpR op_ne (pe_meth0 (pv 0) T.cl T.mSign.m GS (hr.mono h1) T.mSign.b .nil pass0) pe_str (nomark _))
          (pw_and1 (pt_cmpR op_inS (pe_meth0 (pv 0) T.cl T.mSign.m GS (hr.mono h1) T.mSign.b .nil pass0) (pe_op op_add_str (pe_glob (v := .str LSs) rfl T.gLet ⟨_, rfl⟩) pe_str) rfl))))
        (pss_one (ps_expr (pe_bm PySem.F.plainAttrs_list PySem.F.slot_list_append PySem.F.type_list_append mt_append (pv 1) (pa_cons (pe_meth0 (pv 0) T.cl T.mItem.m G hr T.mItem.b .nil pass0) pa_nil)))))
      (pss_one (ps_ret (pe_ifExp (pt_cmpR op_eq (pe_callB call_len_seq (by rfl) T.zlen PySem.boot_len (pa_cons (pv 1) pa_nil)) pe_int (nomark _)) (pe_ix ix_list (pv 1) pe_int (fun _ _ => rfl))
        (pe_tup (pa_cons (pe_glob (v := .str chW) rfl T.gCh ⟨_, rfl⟩) (pa_cons (pe_tupleOf (by rfl) T.ztup (pv 1)) pa_nil))))))), ?_⟩
    have nS : ∀ s' m', (rf Z s' l m').lookup ("sign" : Str) = none := fun _ _ => rf_no (by decide +kernel) (by decide +kernel) (by decide +kernel) (by decide +kernel)
    have nI : ∀ s' m', (rf Z s' l m').lookup ("read_item" : Str) = none := fun _ _ => rf_no (by decide +kernel) (by decide +kernel) (by decide +kernel) (by decide +kernel)
    obtain ⟨t1, tr, q1, nm1, rfl, f1, f2⟩ := many_first hm
    have pg := item_pgr (ru_pgr Z d)
    have mp := many_pgr pg (fun q => Nat.le_refl q) hm
    have hZ := R.z
    refine ⟨.ref p, rfl, p, dx, _, rfl, R.e, nI _ _, Z, p, dx, l, s, nm, t1, q1, nm1, rfl, hd, R, f1, fun v H1 o1 R1 k1 => ⟨(show 1 ≤ sizeLine by decide), fun a ha => ?_⟩⟩
    have nap := R1.p0 ha
    have nal := R1.l0 ha
    refine ⟨fun σ H2 => ∃ vs, σ = [some (.ref p), some (.ref a)] ∧ H2 a = some (.lst vs) ∧ TrOs H2 vs (t1 :: tr) ∧ RdA C Z p dx l H2 e nm' (8 - (d : Int)) ∧ K2 p l H H2, ?_, fun σ H2 hM => ?_⟩
    · refine ⟨fun n σ H2 => ∃ s1 nm2 dn rt vs, n = rt.length ∧ t1 :: tr = dn ++ rt ∧ σ = [some (.ref p), some (.ref a)] ∧ H2 a = some (.lst vs) ∧ TrOs H2 vs dn ∧ RdA C Z p dx l H2 s1 nm2 (8 - (d : Int)) ∧ K2 p l H H2 ∧ RMore (RItem Z (RU Z d)) (starts Z) id s1 nm2 rt e nm',
        ⟨_, q1, nm1, [t1], tr, [v], rfl, rfl, rfl, upd_same, .cons (o1.mono (KT.same (smU ha))) .nil, R1.up (smU ha), k1.trans (K2.same (smU ha)), f2⟩, ?_⟩
      rintro n σ H2 ⟨s1, nm2, dn, rt, vs, rfl, es, rfl, ea, os, R2, k2, hw⟩
      refine ⟨.ref p, rfl, p, dx, _, rfl, R2.e, nS _ _, Z, p, dx, l, s1, nm2, _, rfl, R2, rfl, _, rfl, ?_⟩
      rcases hw with ⟨rfl, g1, rfl, rfl⟩ | ⟨g1, g2⟩
      · rw [List.append_nil] at es
        subst es
        cases hz : Z[e]? with
        | none =>
          rw [sg_none hz, decide_eq_true em_eq]
          exact iteF (iteF ⟨vs, rfl, ea, os, R2, k2⟩)
        | some c =>
          rw [sg_some hz, decide_eq_false em_ne]
          refine iteT ⟨.ref p, rfl, p, dx, _, rfl, R2.e, nS _ _, Z, p, dx, l, e, _, _, rfl, R2, _, _, rfl, rfl, (show LSs.length + (Str.ofString ".[(<").length ≤ sizeLine by decide +kernel), c, _, by rw [sg_some hz] <;> rfl, rfl, _, rfl, ?_⟩
          rw [decide_eq_false fun z => g1 ⟨c, hz, st_in.mp z⟩]
          exact iteF ⟨vs, rfl, ea, os, R2, k2⟩
      · obtain ⟨c, hz, hc⟩ := g1
        rw [sg_some hz, decide_eq_false em_ne]
        refine iteT ⟨.ref p, rfl, p, dx, _, rfl, R2.e, nS _ _, Z, p, dx, l, s1, _, _, rfl, R2, _, _, rfl, rfl, (show LSs.length + (Str.ofString ".[(<").length ≤ sizeLine by decide +kernel), c, _, by rw [sg_some hz] <;> rfl, rfl, _, rfl, ?_⟩
        rw [decide_eq_true (st_in.mpr hc)]
        obtain ⟨t2, tr2, q2, nm3, rfl, u1, u2⟩ := many_first g2
        have hle := congrArg List.length es
        rw [List.length_append, List.length_cons] at hle
        have hle2 := os.len
        refine iteT ⟨fun σ' H' => ∃ vs', σ' = [some (.ref p), some (.ref a)] ∧ H' a = some (.lst vs') ∧ TrOs H' vs' (dn ++ [t2]) ∧ RdA C Z p dx l H' q2 nm3 (8 - (d : Int)) ∧ K2 p l H H', fun σ' H' ⟨vs', h1, h2, h3, h4, h5⟩ => ⟨tr2.length, by rw [List.length_cons]; omega, q2, nm3, dn ++ [t2], tr2, vs', rfl, by rw [es, List.append_assoc] <;> rfl, h1, h2, h3, h4, h5, u2⟩, ?_⟩
        refine ⟨.ref a, rfl, .inl ⟨rfl, _, .inl (.inl ea)⟩, .ref p, rfl, p, dx, _, rfl, R2.e, nI _ _, Z, p, dx, l, s1, nm2, t2, q2, nm3, rfl, hd, R2, u1, fun v2 H3 o3 R3 k3 => ?_⟩
        have ea3 := k3 a _ nap nal ea
        refine ⟨a, _, _, rfl, rfl, ea3, Nat.lt_of_le_of_lt (show vs.length ≤ 100 by rw [List.length_cons] at mp; omega) (by decide), ?_⟩
        exact ⟨vs ++ [v2], rfl, upd_same, ((os.mono (R2.kt k3)).mono (KT.lst ea3)).snoc (o3.mono (KT.lst ea3)), R3.wr nap nal, K2.put k1 (k2.trans k3) ha⟩
    obtain ⟨vs, rfl, ea, os, R2, k2⟩ := hM
    have hlen := os.len
    refine ⟨.ref a, rfl, a, _, rfl, .inl (.inl (.inl ea)), rfl, _, rfl, ?_⟩
    rcases ht with ⟨x, ex, rfl⟩ | ⟨h2, rfl⟩
    · cases ex
      cases os with
      | cons o r =>
        cases r
        exact iteT ⟨.ref a, rfl, a, _, 0, _, rfl, rfl, .inl (.inl ea), atI_nat (j := 0) rfl, q _ _ o R2 k2⟩
    · have nd : ¬ (V.int (vs.length : Int) = V.int 1) := fun z => by
        have z := V.int.inj z
        omega
      rw [decide_eq_false nd]
      refine iteF ⟨.ref a, rfl, .inl ⟨a, _, rfl, .inl (.inl ea), fun b hb => ⟨(show 2 ≤ sizeLine by decide), fun b2 hb2 => ?_⟩⟩⟩
      have s1 := smU (o := HO.tup vs) hb
      have s2 := smU (o := HO.tup [.str chW, .ref b]) hb2
      exact q _ _ (.chain upd_same (s2 _ _ upd_same) (os.mono (KT.same (s1.trans s2)))) (R2.up (s1.trans s2)) (k2.trans (K2.same (s1.trans s2)))
theorem ok_choice (T : RT K w mg C f fd tk cd ces cn ct) {k d : Nat} (hk : 4 ≤ k) (G : FnOk P w K mg base CX0 k (f 6) (fd 6) ["self"] (spR C d fun Z => RChain Z (RItem Z (RU Z d)))) : FnOk P w K mg base CX0 (k + 1) (f 5) (fd 5) ["self"] (spR C d fun Z => RC Z d) := by
  refine T.mChoice.F.ok scChoice (fun vs H Q E h => ?_) (fun cdv A outer s H vs Q E hr h => ?_)
  · obtain ⟨Z, p, dx, l, s, nm, t, q, nm', rfl, _⟩ := h
    rfl
  · obtain ⟨Z, p, dx, l, s, nm, t, e, nm', rfl, hd, R, hm0, q⟩ := h
    rw [RC_eq] at hm0
    obtain ⟨ts, hm, ht⟩ := hm0
    have GK := ok_skips (P := P) (base := base) T
    have h2 : 2 ≤ k := Nat.le_trans (by decide) hk
    refine ⟨_, pss_cons (ps_set (i := 1) scChoice.nd rfl (.inl rfl) (pe_lst (pa_cons (pe_meth0 (pv 0) T.cl T.mChain.m G hr T.mChain.b .nil pass0) pa_nil)))
      (Evl.pss_cut (ps_while PassesOwn.never (pt_val (pe_meth (pv 0) T.cl T.mSkips.m GK (hr.mono h2) T.mSkips.b .nil pass0 (pa_cons pe_str pa_nil)))
        (pss_one (ps_expr (pe_bm PySem.F.plainAttrs_list PySem.F.slot_list_append PySem.F.type_list_append mt_append (pv 1) (pa_cons (pe_meth0 (pv 0) T.cl T.mChain.m G hr T.mChain.b .nil pass0) pa_nil)))))
      (pss_one (ps_ret (pe_ifExp (pt_cmpR op_eq (pe_callB call_len_seq (by rfl) T.zlen PySem.boot_len (pa_cons (pv 1) pa_nil)) pe_int (nomark _)) (pe_ix ix_list (pv 1) pe_int (fun _ _ => rfl))
        (pe_tup (pa_cons (pe_glob (v := .str alW) rfl T.gAl ⟨_, rfl⟩) (pa_cons (pe_tupleOf (by rfl) T.ztup (pv 1)) pa_nil))))))), ?_⟩
    have nK : ∀ s' m', (rf Z s' l m').lookup ("skips" : Str) = none := fun _ _ => rf_no (by decide +kernel) (by decide +kernel) (by decide +kernel) (by decide +kernel)
    have nI : ∀ s' m', (rf Z s' l m').lookup ("read_chain" : Str) = none := fun _ _ => rf_no (by decide +kernel) (by decide +kernel) (by decide +kernel) (by decide +kernel)
    obtain ⟨t1, tr, q1, nm1, rfl, f1, f2⟩ := many_first hm
    have pg := chain_pgr (item_pgr (ru_pgr Z d))
    have mp := many_pgr pg (fun q => Nat.le_succ q) hm
    have hZ := R.z
    refine ⟨.ref p, rfl, p, dx, _, rfl, R.e, nI _ _, Z, p, dx, l, s, nm, t1, q1, nm1, rfl, hd, R, f1, fun v H1 o1 R1 k1 => ⟨(show 1 ≤ sizeLine by decide), fun a ha => ?_⟩⟩
    have nap := R1.p0 ha
    have nal := R1.l0 ha
    refine ⟨fun σ H2 => ∃ vs, σ = [some (.ref p), some (.ref a)] ∧ H2 a = some (.lst vs) ∧ TrOs H2 vs (t1 :: tr) ∧ RdA C Z p dx l H2 e nm' (8 - (d : Int)) ∧ K2 p l H H2, ?_, fun σ H2 hM => ?_⟩
    · refine ⟨fun n σ H2 => ∃ s1 nm2 dn rt vs, n = rt.length ∧ t1 :: tr = dn ++ rt ∧ σ = [some (.ref p), some (.ref a)] ∧ H2 a = some (.lst vs) ∧ TrOs H2 vs dn ∧ RdA C Z p dx l H2 s1 nm2 (8 - (d : Int)) ∧ K2 p l H H2 ∧ RMore (RChain Z (RItem Z (RU Z d))) (fun q => Z[q]? = some 124) (· + 1) s1 nm2 rt e nm',
        ⟨_, q1, nm1, [t1], tr, [v], rfl, rfl, rfl, upd_same, .cons (o1.mono (KT.same (smU ha))) .nil, R1.up (smU ha), k1.trans (K2.same (smU ha)), f2⟩, ?_⟩
      rintro n σ H2 ⟨s1, nm2, dn, rt, vs, rfl, es, rfl, ea, os, R2, k2, hw⟩
      refine ⟨.ref p, rfl, p, dx, _, rfl, R2.e, nK _ _, Z, p, dx, l, s1, nm2, _, 124, rfl, R2, fun z H3 R3 k3 => ?_, fun z => ?_⟩
      · rcases hw with ⟨_, g1, _⟩ | ⟨g1, g2⟩
        · exact absurd z g1
        obtain ⟨t2, tr2, q2, nm3, rfl, u1, u2⟩ := many_first g2
        have hle := congrArg List.length es
        rw [List.length_append, List.length_cons] at hle
        have hle2 := os.len
        have ea3 := k3 a _ nap nal ea
        refine ⟨true, rfl, iteT ⟨fun σ' H' => ∃ vs', σ' = [some (.ref p), some (.ref a)] ∧ H' a = some (.lst vs') ∧ TrOs H' vs' (dn ++ [t2]) ∧ RdA C Z p dx l H' q2 nm3 (8 - (d : Int)) ∧ K2 p l H H', fun σ' H' ⟨vs', h1, h2, h3, h4, h5⟩ => ⟨tr2.length, by rw [List.length_cons]; omega, q2, nm3, dn ++ [t2], tr2, vs', rfl, by rw [es, List.append_assoc] <;> rfl, h1, h2, h3, h4, h5, u2⟩, ?_⟩⟩
        refine ⟨.ref a, rfl, .inl ⟨rfl, _, .inl (.inl ea3)⟩, .ref p, rfl, p, dx, _, rfl, R3.e, nI _ _, Z, p, dx, l, s1 + 1, nm2, t2, q2, nm3, rfl, hd, R3, u1, fun v2 H4 o4 R4 k4 => ?_⟩
        have ea4 := k4 a _ nap nal ea3
        refine ⟨a, _, _, rfl, rfl, ea4, Nat.lt_of_le_of_lt (show vs.length ≤ 100 by rw [List.length_cons] at mp; omega) (by decide), ?_⟩
        exact ⟨vs ++ [v2], rfl, upd_same, ((os.mono (R2.kt (k3.trans k4))).mono (KT.lst ea4)).snoc (o4.mono (KT.lst ea4)), R4.wr nap nal, K2.put k1 ((k2.trans k3).trans k4) ha⟩
      · rcases hw with ⟨rfl, g1, rfl, rfl⟩ | ⟨g1, _⟩
        · rw [List.append_nil] at es
          subst es
          exact ⟨false, rfl, iteF ⟨vs, rfl, ea, os, R2, k2⟩⟩
        · exact absurd g1 z
    obtain ⟨vs, rfl, ea, os, R2, k2⟩ := hM
    have hlen := os.len
    refine ⟨.ref a, rfl, a, _, rfl, .inl (.inl (.inl ea)), rfl, _, rfl, ?_⟩
    rcases ht with ⟨x, ex, rfl⟩ | ⟨h2, rfl⟩
    · cases ex
      cases os with
      | cons o r =>
        cases r
        exact iteT ⟨.ref a, rfl, a, _, 0, _, rfl, rfl, .inl (.inl ea), atI_nat (j := 0) rfl, q _ _ o R2 k2⟩
    · have nd : ¬ (V.int (vs.length : Int) = V.int 1) := fun z => by
        have z := V.int.inj z
        omega
      rw [decide_eq_false nd]
      refine iteF ⟨.ref a, rfl, .inl ⟨a, _, rfl, .inl (.inl ea), fun b hb => ⟨(show 2 ≤ sizeLine by decide), fun b2 hb2 => ?_⟩⟩⟩
      have s1 := smU (o := HO.tup vs) hb
      have s2 := smU (o := HO.tup [.str alW, .ref b]) hb2
      exact q _ _ (.choice upd_same (s2 _ _ upd_same) (os.mono (KT.same (s1.trans s2)))) (R2.up (s1.trans s2)) (k2.trans (K2.same (s1.trans s2)))
/-- read_choice, whatever is open -/
theorem ok_rc (T : RT K w mg C f fd tk cd ces cn ct) : ∀ d, FnOk P w K mg base CX0 (8 + 5 * d) (f 5) (fd 5) ["self"] (spR C d fun Z => RC Z d)
  | 0 => ok_choice T (k := 7) (by decide) (ok_chain T (k := 6) (by decide) (ok_item T (k := 5) (by decide) (ok_unit T (k := 4) (d := 0) (by decide) ok_no ok_no)))
  | d + 1 => by
    have G := ok_rc T d
    have GG : FnOk P w K mg base CX0 (9 + 5 * d) (f 10) (fd 10) ["self"] (spIn C RGrp (d + 1)) := (ok_group T (by omega) G).mono (by omega)
    have GC : FnOk P w K mg base CX0 (9 + 5 * d) (f 11) (fd 11) ["self"] (spIn C RCap (d + 1)) := (ok_capture T (by omega) G).mono (by omega)
    exact (ok_choice T (by omega) (ok_chain T (by omega) (ok_item T (by omega) (ok_unit T (by omega) GG GC)))).mono (by omega)
theorem scWhole : FnScope ["self", "is_left", "tree", "is_right"] ["self"] (defScope sWhole) := ⟨rfl, rfl, rfl, by decide +kernel, rfl, by decide +kernel, by decide +kernel⟩
def spWhole (C : Addr) : Sp := fun vs H Q _ => ∃ (Z : List Nat) (p dx l : Addr) (lb : Bool) (t : Tr) (rb : Bool) (nm : Nm), vs = [.ref p] ∧ RdA C Z p dx l H 0 [] 0 ∧ RWhole Z lb t rb nm ∧
  ∀ a v H', H' a = some (.tup [.bl lb, v, .bl rb]) → TrO H' v t → RdA C Z p dx l H' Z.length nm 0 → K2 p l H H' → Q (.ref a) H'
theorem ok_whole (T : RT K w mg C f fd tk cd ces cn ct) : FnOk P w K mg base CX0 49 (f 4) (fd 4) ["self"] (spWhole C) := by
  refine T.mWhole.F.ok scWhole (fun vs H Q E h => ?_) (fun cdv A outer s H vs Q E hr h => ?_)
  · obtain ⟨Z, p, dx, l, lb, t, rb, nm, rfl, _⟩ := h
    rfl
  · obtain ⟨Z, p, dx, l, lb, t, rb, nm, rfl, R, ⟨e, w1, w2, w3, w4⟩, q⟩ := h
    have GD := ok_demand (P := P) (base := base) T
    have GK := ok_skips (P := P) (base := base) T
    have G := ok_rc (P := P) (base := base) T 8
    refine ⟨_, Evl.pss_cut (ps_set (i := 1) scWhole.nd rfl (.inl rfl) (pe_meth (pv 0) T.cl T.mSkips.m GK (hr.mono (by decide)) T.mSkips.b .nil pass0 (pa_cons (pe_glob (v := .str (Str.ofString "^")) rfl T.gBeg ⟨_, rfl⟩) pa_nil)))
      (pss_cons (ps_set (i := 2) scWhole.nd rfl (.inl rfl) (pe_meth0 (pv 0) T.cl T.mChoice.m G hr T.mChoice.b .nil pass0))
      (Evl.pss_cut (ps_set (i := 3) scWhole.nd rfl (.inl rfl) (pe_meth (pv 0) T.cl T.mSkips.m GK (hr.mono (by decide)) T.mSkips.b .nil pass0 (pa_cons (pe_glob (v := .str (Str.ofString "$")) rfl T.gEnd ⟨_, rfl⟩) pa_nil)))
      (pss_cons (ps_expr (pe_meth (pv 0) T.cl T.mDemand.m GD (hr.mono (by decide)) T.mDemand.b .nil pass0 (pa_cons (pe_cmpR op_eq (pe_fld (pv 0) rfl) (pe_callB call_len_str (by rfl) T.zlen PySem.boot_len (pa_cons (pe_fld (pv 0) rfl) pa_nil)) (nomark _)) pa_nil)))
      (pss_one (ps_ret (pe_tup (pa_cons (pv 1) (pa_cons (pv 2) (pa_cons (pv 3) pa_nil))))))))), ?_⟩
    have nD : ∀ s' m', (rf Z s' l m').lookup ("demand" : Str) = none := fun _ _ => rf_no (by decide +kernel) (by decide +kernel) (by decide +kernel) (by decide +kernel)
    have nK : ∀ s' m', (rf Z s' l m').lookup ("skips" : Str) = none := fun _ _ => rf_no (by decide +kernel) (by decide +kernel) (by decide +kernel) (by decide +kernel)
    have nC : ∀ s' m', (rf Z s' l m').lookup ("read_choice" : Str) = none := fun _ _ => rf_no (by decide +kernel) (by decide +kernel) (by decide +kernel) (by decide +kernel)
    have hb : Str.ofString "^" = tx [94] := by decide +kernel
    have he : Str.ofString "$" = tx [36] := by decide +kernel
    refine ⟨fun σ H1 => σ = [some (.ref p), some (.bl lb), none, none] ∧ RdA C Z p dx l H1 (if lb then 1 else 0) [] 0 ∧ K2 p l H H1, ?_, fun σ H1 hM => ?_⟩
    · refine ⟨.ref p, rfl, p, dx, _, rfl, R.e, nK _ _, Z, p, dx, l, 0, [], _, 94, (by rw [hb] <;> rfl), R, fun z H1 R1 k1 => ?_, fun z => ?_⟩
      · cases lb with
        | true => exact ⟨rfl, R1, k1⟩
        | false => exact absurd z (w2 rfl)
      · cases lb with
        | true => exact absurd w1 z
        | false => exact ⟨rfl, R, K2.refl _ _ _⟩
    obtain ⟨rfl, R1, k1⟩ := hM
    refine ⟨.ref p, rfl, p, dx, _, rfl, R1.e, nC _ _, Z, p, dx, l, _, [], t, e, nm, rfl, Nat.le_refl 8, R1, w3, fun v H2 o2 R2 k2 => ?_⟩
    refine ⟨fun σ H3 => σ = [some (.ref p), some (.bl lb), some v, some (.bl rb)] ∧ TrO H3 v t ∧ RdA C Z p dx l H3 Z.length nm 0 ∧ K2 p l H H3, ?_, fun σ H3 hM => ?_⟩
    · refine ⟨.ref p, rfl, p, dx, _, rfl, R2.e, nK _ _, Z, p, dx, l, e, nm, _, 36, (by rw [he] <;> rfl), R2, fun z H3 R3 k3 => ?_, fun z => ?_⟩
      · cases rb with
        | true =>
          rw [if_pos rfl] at w4
          exact ⟨rfl, o2.mono (R2.kt k3), w4.2 ▸ R3, (k1.trans k2).trans k3⟩
        | false =>
          rw [if_neg Bool.false_ne_true] at w4
          rw [w4, List.getElem?_eq_none_iff.mpr (Nat.le_refl _)] at z
          cases z
      · cases rb with
        | true =>
          rw [if_pos rfl] at w4
          exact absurd w4.1 z
        | false =>
          rw [if_neg Bool.false_ne_true] at w4
          exact ⟨rfl, o2, w4 ▸ R2, k1.trans k2⟩
    obtain ⟨rfl, o3, R3, k3⟩ := hM
    refine ⟨.ref p, rfl, p, dx, _, rfl, R3.e, nD _ _, .ref p, rfl, p, C, dx, _, _, rfl, R3.e, T.cl, T.nSp, rf_spot, .ref p, rfl, p, C, dx, _, _, rfl, R3.e, T.cl, T.nStr, rf_string, tx Z, rfl, tx_len60 R.z, rfl, p, ?_, ?_⟩
    · show [V.ref p, V.bl (decide (V.int (Z.length : Int) = V.int ((tx Z).length : Int)))] = _
      rw [tx_len, decide_eq_true rfl]
    exact ⟨_, rfl, v, rfl, _, rfl, (show 3 ≤ sizeLine by decide), fun a ha => q a v _ upd_same (o3.mono (KT.same (smU ha))) (R3.up (smU ha)) (k3.trans (K2.same (smU ha)))⟩
end
end Sf4
namespace Sf4
open PySem PySem.Spec PyProof.Rows L2 Sf
theorem scRI : FnScope ["self", "string"] ["self", "string"] (defScope sRI) := ⟨rfl, rfl, rfl, by decide +kernel, rfl, by decide +kernel, by decide +kernel⟩
theorem scRp : FnScope ["value", "reader"] ["value"] (defScope sRp) := ⟨rfl, rfl, rfl, by decide +kernel, rfl, by decide +kernel, by decide +kernel⟩
def spRI (C : Addr) : Sp := fun vs H Q _ => ∃ (Z : List Nat) (p dx : Addr), vs = [.ref p, .str (tx Z)] ∧ H p = some (.ins C dx []) ∧ Z.length ≤ 60 ∧
  ∀ l H', RdA C Z p dx l H' 0 [] 0 → H l = none → (∀ b o, b ≠ p → H b = some o → H' b = some o) → Q .non H'
def spRp (C : Addr) : Sp := fun vs H Q _ => ∃ (Z : List Nat) (lb : Bool) (t : Tr) (rb : Bool) (nm : Nm), vs = [.str (tx Z)] ∧ Z.length ≤ 60 ∧ RWhole Z lb t rb nm ∧
  ∀ a b p dx l v H', H' a = some (.tup [.ref p, .ref b]) → H' b = some (.tup [.bl lb, v, .bl rb]) → TrO H' v t → RdA C Z p dx l H' Z.length nm 0 → Same H H' → Q (.ref a) H'
section
variable {P : Program} {w : World} {K : PySem.W.Frag} {mg : Str → Option Value} {base : Heap} {C : Addr} {f : Nat → Addr} {fd : Nat → FuncData} {tk : Nat → Tok} {cd : Addr} {ces : Array DictEntry} {cn : Nat} {ct : Nat → Addr}
theorem ok_ri (T : RT K w mg C f fd tk cd ces cn ct) : FnOk P w K mg base CX0 1 (f 0) (fd 0) ["self", "string"] (spRI C) := by
  refine T.mI.F.ok scRI (fun vs H Q E h => ?_) (fun cdv A outer s H vs Q E hr h => ?_)
  · obtain ⟨Z, p, dx, rfl, _⟩ := h
    rfl
  · obtain ⟨Z, p, dx, rfl, hp, hZ, q⟩ := h
    refine ⟨_, pss_cons (ps_fld (pv 0) (pv 1) rfl) (pss_cons (ps_fld (pv 0) pe_int rfl) (pss_cons (ps_fld (pv 0) (pe_lst pa_nil) rfl) (pss_one (ps_fld (pv 0) pe_int rfl)))), ?_⟩
    refine ⟨_, rfl, _, rfl, p, C, dx, _, rfl, hp, T.cl, T.nStr, (show 0 < 1000 by decide), ?_⟩
    refine ⟨_, rfl, p, C, dx, _, rfl, upd_same, T.cl, T.nSp, (show 1 < 1000 by decide), ?_⟩
    refine ⟨Nat.zero_le _, fun l hl => ?_⟩
    have npl : p ≠ l := fun z => by
      rw [← z, upd_same] at hl
      cases hl
    have hl0 : H l = none := by
      rw [upd_ne npl.symm, upd_ne npl.symm] at hl
      exact hl
    refine ⟨_, rfl, p, C, dx, _, rfl, (upd_ne npl).trans upd_same, T.cl, T.nNm, (show 2 < 1000 by decide), ?_⟩
    refine ⟨_, rfl, p, C, dx, _, rfl, upd_same, T.cl, T.nMo, (show 3 < 1000 by decide), ?_⟩
    refine q l _ ⟨by rw [upd_same] <;> rfl, by rw [upd_ne npl.symm, upd_ne npl.symm, upd_same] <;> rfl, Nat.le_refl 0, hZ⟩ hl0 fun b o nb e => ?_
    rw [upd_ne nb, upd_ne nb, upd_ne (ne_of_none e hl0), upd_ne nb, upd_ne nb]
    exact e
theorem ok_rp (T : RT K w mg C f fd tk cd ces cn ct) {g : Addr} {gd : FuncData} (F : Fun K "read_pattern" "read_pattern" sRp g gd) : FnOk P w K mg base CX0 50 g gd ["value"] (spRp C) := by
  refine F.ok scRp (fun vs H Q E h => ?_) (fun cdv A outer s H vs Q E hr h => ?_)
  · obtain ⟨Z, lb, t, rb, nm, rfl, _⟩ := h
    rfl
  · obtain ⟨Z, lb, t, rb, nm, rfl, hZ, hw, q⟩ := h
    have GI := ok_ri (P := P) (base := base) T
    have GW := ok_whole (P := P) (base := base) T
    refine ⟨_, pss_cons (ps_if (PW.pt (pw_or (pt_not (pt_val (pe_callB call_isi (by rfl) T.zisi PyProof.Rows.boot_isinstance (pa_cons (pv 0) (pa_cons (pe_bltn (by rfl) T.zstr PySem.Pv.boot_str (v := .ty "str") rfl) pa_nil)))))
        (pw_or1 (pt_cmpR op_gt (pe_callB call_len_str (by rfl) T.zlen PySem.boot_len (pa_cons (pv 0) pa_nil)) (pe_glob (v := .int 60) rfl T.gMS ⟨_, rfl⟩) (nomark _))))) pss_never pss_nil)
      (pss_cons (ps_set (i := 1) scRp.nd rfl (.inl rfl) (pe_make T.mkC GI (hr.mono (by decide)) rfl T.gC T.mI.b .nil pass0 (pa_cons (pv 0) pa_nil)))
      (pss_one (ps_ret (pe_tup (pa_cons (pv 1) (pa_cons (pe_meth0 (pv 1) T.cl T.mWhole.m GW hr T.mWhole.b .nil pass0) pa_nil)))))), ?_⟩
    have nW : ∀ s' l' m', (rf Z s' l' m').lookup ("read_whole" : Str) = none := fun _ _ _ => rf_no (by decide +kernel) (by decide +kernel) (by decide +kernel) (by decide +kernel)
    refine ⟨.str (tx Z), rfl, .str (tx Z), .ty "str", _, _, true, rfl, .ty "str", .base (.str _), kit_ty (a := "str") (b := "str") (by decide +kernel), true, rfl, iteF ?_⟩
    refine ⟨.str (tx Z), rfl, tx Z, rfl, tx_len60 hZ, _, _, rfl, rfl, ?_⟩
    refine ⟨_, rfl, ?_⟩
    rw [decide_eq_false (show ¬ ((60 : Int) < ((tx Z).length : Int)) by rw [tx_len]; omega)]
    refine iteF ⟨.str (tx Z), rfl, fun x dx nx ndx nex => ?_⟩
    refine ⟨Z, x, dx, rfl, upd_same, hZ, fun l H1 R1 hl k1 => ⟨rfl, ?_⟩⟩
    refine ⟨.ref x, rfl, .ref x, rfl, x, dx, _, rfl, R1.e, nW _ _ _, Z, x, dx, l, lb, t, rb, nm, rfl, R1, hw, fun b v H2 e2 o2 R2 k2 => ?_⟩
    refine ⟨(show 2 ≤ sizeLine by decide), fun a ha => ?_⟩
    have s2 := smU (o := HO.tup [.ref x, .ref b]) ha
    refine q a b x dx l v _ upd_same (s2 _ _ e2) (o2.mono (KT.same s2)) (R2.up s2) fun c o e => ?_
    have nl : H l = none := by
      by_cases z : l = x
      · exact z ▸ nx
      · rw [upd_ne z] at hl
        by_cases z2 : l = dx
        · exact z2 ▸ ndx
        · rw [upd_ne z2] at hl
          exact hl
    refine s2 _ _ (k2 c o (ne_of_none e nx) (ne_of_none e nl) (k1 c o (ne_of_none e nx) ?_))
    rw [upd_ne (ne_of_none e nx), upd_ne (ne_of_none e ndx)]
    exact e
end
end Sf4
/-! The reading of a pattern string as a function: what is read, or nothing. -/
namespace Sf6
open Sf4
def dg (c : Nat) : Bool := decide (48 ≤ c ∧ c ≤ 57)
def sm (c : Nat) : Bool := decide (97 ≤ c ∧ c ≤ 122)
def nval : List Nat → Nat
  | [c] => c - 48
  | [c, d] => 10 * (c - 48) + (d - 48)
  | _ => 0
/-- the run of signs from p on -/
def run (f : Nat → Bool) (Z : List Nat) (p : Nat) : List Nat := (Z.drop p).takeWhile f
def okW (w : List Nat) : Bool := decide (1 ≤ w.length ∧ w.length ≤ 2) && (decide (w = [48]) || decide (w.head? ≠ some 48))
def fNum (Z : List Nat) (p : Nat) : Option (Nat × Nat) := if okW (run dg Z p) = true ∧ nval (run dg Z p) ≤ 20 then some (nval (run dg Z p), p + (run dg Z p).length) else none
/-- both digits, or both small letters -/
def like (c e : Nat) : Bool := (dg c && dg e) || (sm c && sm e)
/-- the letters from one to another -/
def span (c e : Nat) : List Nat := (List.range (e - c + 1)).map (c + ·)
def fPart (Z : List Nat) (p : Nat) : Option (List Nat × Nat) := match Z[p]? with
  | none => none
  | some c => if c ∈ LETc then (if Z[p + 1]? = some 45 then (match Z[p + 2]? with
      | none => none
      | some e => if like c e = true ∧ c ≤ e then some (span c e, p + 3) else none) else some ([c], p + 1)) else none
/-- the parts that are left, behind those that were read -/
def fParts (Z : List Nat) : Nat → Nat → List Nat → Option (List Nat × Nat)
  | 0, _, _ => none
  | n + 1, p, ss => if Z[p]? = some 93 then some (ss, p + 1) else match fPart Z p with
    | none => none
    | some (s, q) => fParts Z n q (ss ++ s)
def cls (o : Bool) (ss : List Nat) : List Nat := LETc.filter fun c => decide (c ∈ ss) != o
def fCls (Z : List Nat) (p : Nat) : Option (List Nat × Nat) := match fPart Z (if Z[p]? = some 94 then p + 1 else p) with
  | none => none
  | some (s, q) => match fParts Z (Z.length + 1) q s with
    | none => none
    | some (ss, r) => if cls (decide (Z[p]? = some 94)) ss = [] then none else some (cls (decide (Z[p]? = some 94)) ss, r)
abbrev Rd6 := Nat → Nm → Option (Tr × Nat × Nm)
def fGrp (Z : List Nat) (C : Rd6) : Rd6 := fun p nm => if Z[p]? = some 41 then some (.empty, p + 1, nm) else match C p nm with
  | none => none
  | some (t, q, nm') => if Z[q]? = some 41 then some (t, q + 1, nm') else none
def okN (n : List Nat) (nm : Nm) : Bool := decide (1 ≤ n.length ∧ n.length ≤ 8) && decide (n ∉ nm)
def fCap (Z : List Nat) (C : Rd6) : Rd6 := fun p nm => if okN (run sm Z p) nm = true ∧ Z[p + (run sm Z p).length]? = some 58 then (match C (p + (run sm Z p).length + 1) (nm ++ [run sm Z p]) with
  | none => none
  | some (t, q, nm') => if Z[q]? = some 62 then some (.capture (run sm Z p) t, q + 1, nm') else none) else none
def fUnit (Z : List Nat) (can : Bool) (C : Rd6) : Rd6 := fun p nm => match Z[p]? with
  | none => none
  | some c => if c ∈ LETc then some (.place [c], p + 1, nm) else if c = 46 then some (.place LETc, p + 1, nm) else if c = 91 then (match fCls Z (p + 1) with
      | none => none
      | some (s, q) => some (.place s, q, nm))
    else if (c = 40 ∨ c = 60) ∧ can = true then (if c = 40 then fGrp Z C (p + 1) nm else fCap Z C (p + 1) nm) else none
def fCnt (Z : List Nat) (t : Tr) (q : Nat) (nm : Nm) : Option (Tr × Nat × Nm) := match fNum Z (q + 1) with
  | none => none
  | some (a, r) => if Z[r]? = some 44 then (if Z[r + 1]? = some 125 then some (.count a none t, r + 2, nm) else match fNum Z (r + 1) with
      | none => none
      | some (b, s) => if Z[s]? = some 125 ∧ a ≤ b then some (.count a (some b) t, s + 1, nm) else none)
    else if Z[r]? = some 125 then some (.count a (some a) t, r + 1, nm) else none
def fItem (Z : List Nat) (U : Rd6) : Rd6 := fun p nm => match U p nm with
  | none => none
  | some (t, q, nm') => match (Z[q]?).bind cnt with
    | some (a, b) => some (.count a b t, q + 1, nm')
    | none => if Z[q]? = some 123 then fCnt Z t q nm' else some (t, q, nm')
/-- those that are left, behind those that were read -/
def fMore (R : Rd6) (go : Nat → Bool) (g : Nat → Nat) : Nat → Nat → Nm → List Tr → Option (List Tr × Nat × Nm)
  | 0, _, _, _ => none
  | n + 1, q, nm, ts => if go q = true then (match R (g q) nm with
      | none => none
      | some (t, q', nm') => fMore R go g n q' nm' (ts ++ [t])) else some (ts, q, nm)
def goC (Z : List Nat) (q : Nat) : Bool := match Z[q]? with
  | none => false
  | some c => decide (c ∈ LETc ∨ c = 46 ∨ c = 91 ∨ c = 40 ∨ c = 60)
def goA (Z : List Nat) (q : Nat) : Bool := decide (Z[q]? = some 124)
def one (f : List Tr → Tr) : List Tr → Tr
  | [t] => t
  | ts => f ts
def fRow (Z : List Nat) (R : Rd6) (go : Nat → Bool) (g : Nat → Nat) (f : List Tr → Tr) : Rd6 := fun p nm => match R p nm with
  | none => none
  | some (t, q, nm') => match fMore R go g (Z.length + 1) q nm' [t] with
    | none => none
    | some (ts, r, nm2) => some (one f ts, r, nm2)
def fChain (Z : List Nat) (I : Rd6) : Rd6 := fRow Z I (goC Z) id .chain
def fChoice (Z : List Nat) (H : Rd6) : Rd6 := fRow Z H (goA Z) (· + 1) .choice
def nope : Rd6 := fun _ _ => none
def fC (Z : List Nat) : Nat → Rd6
  | 0 => fChoice Z (fChain Z (fItem Z (fUnit Z false nope)))
  | d + 1 => fChoice Z (fChain Z (fItem Z (fUnit Z true (fC Z d))))
def fU (Z : List Nat) : Nat → Rd6
  | 0 => fUnit Z false nope
  | d + 1 => fUnit Z true (fC Z d)
theorem fC_eq (Z : List Nat) : ∀ d, fC Z d = fChoice Z (fChain Z (fItem Z (fU Z d)))
  | 0 => rfl
  | _ + 1 => rfl
structure Who where
  l : Bool
  t : Tr
  r : Bool
  nm : Nm
def fWhole (Z : List Nat) : Option Who := match fC Z 8 (if Z[0]? = some 94 then 1 else 0) [] with
  | none => none
  | some (t, q, nm) => if (if Z[q]? = some 36 then q + 1 else q) = Z.length then some ⟨decide (Z[0]? = some 94), t, decide (Z[q]? = some 36), nm⟩ else none
/-! ### runs -/
theorem run_cut (f : Nat → Bool) (Z : List Nat) (p : Nat) : (Z.drop p).take (p + (run f Z p).length - p) = run f Z p := by
  rw [show p + (run f Z p).length - p = (run f Z p).length by omega]
  unfold run
  exact (List.prefix_iff_eq_take.mp (List.takeWhile_prefix f)).symm
theorem run_in (f : Nat → Bool) (Z : List Nat) (p i : Nat) (h1 : p ≤ i) (h2 : i < p + (run f Z p).length) : ∃ c, Z[i]? = some c ∧ f c = true := by
  have hl : i - p < (run f Z p).length := by omega
  have e : (run f Z p)[i - p]? = some (run f Z p)[i - p] := List.getElem?_eq_getElem hl
  have hm : (run f Z p)[i - p] ∈ run f Z p := List.getElem_mem hl
  refine ⟨(run f Z p)[i - p], ?_, ?_⟩
  · have q := run_cut f Z p
    rw [show p + (run f Z p).length - p = (run f Z p).length by omega] at q
    rw [← e]
    have z : ((Z.drop p).take (run f Z p).length)[i - p]? = (run f Z p)[i - p]? := by rw [q]
    rw [List.getElem?_take_of_lt hl, List.getElem?_drop, show p + (i - p) = i by omega] at z
    exact z
  · have := List.all_takeWhile (p := f) (l := Z.drop p)
    exact List.all_eq_true.mp this _ hm
theorem tw_end (f : Nat → Bool) : ∀ (l : List Nat) (c : Nat), l[(l.takeWhile f).length]? = some c → f c = false
  | [], c, h => by cases h
  | x :: r, c, h => by
    rw [List.takeWhile_cons] at h
    cases hx : f x with
    | true =>
      rw [hx, if_pos rfl, List.length_cons, List.getElem?_cons_succ] at h
      exact tw_end f r c h
    | false =>
      rw [hx, if_neg Bool.false_ne_true] at h
      cases h
      exact hx
theorem run_end (f : Nat → Bool) (Z : List Nat) (p c : Nat) (h : Z[p + (run f Z p).length]? = some c) : f c = false := by
  refine tw_end f (Z.drop p) c ?_
  rw [List.getElem?_drop]
  exact h
theorem run_le (f : Nat → Bool) (Z : List Nat) (p : Nat) (h : p ≤ Z.length) : p + (run f Z p).length ≤ Z.length := by
  have : (run f Z p).length ≤ (Z.drop p).length := (List.takeWhile_prefix f).length_le
  rw [List.length_drop] at this
  omega
/-! ### it goes on -/
theorem lt6 {Z : List Nat} {p c : Nat} (h : Z[p]? = some c) : p < Z.length := (List.getElem?_eq_some_iff.mp h).1
theorem num_go {Z : List Nat} {p v q : Nat} (h : fNum Z p = some (v, q)) : p < q ∧ q ≤ Z.length ∧ okW (run dg Z p) = true ∧ v = nval (run dg Z p) ∧ v ≤ 20 ∧ q = p + (run dg Z p).length := by
  unfold fNum at h
  split at h
  · rename_i g
    cases h
    have g1 := g.1
    unfold okW at g1
    rw [Bool.and_eq_true, decide_eq_true_iff] at g1
    obtain ⟨c, hc, _⟩ := run_in dg Z p p (Nat.le_refl _) (by omega)
    exact ⟨by omega, run_le _ _ _ (Nat.le_of_lt (lt6 hc)), g.1, rfl, g.2, rfl⟩
  · cases h
theorem part_go {Z : List Nat} {p q : Nat} {s : List Nat} (h : fPart Z p = some (s, q)) : p < q ∧ q ≤ Z.length := by
  unfold fPart at h
  split at h
  · cases h
  · rename_i c hc
    have := lt6 hc
    split at h
    · split at h
      · split at h
        · cases h
        · rename_i e he
          have := lt6 he
          split at h
          · cases h
            omega
          · cases h
      · cases h
        omega
    · cases h
theorem parts_go {Z : List Nat} : ∀ {n p q : Nat} {ss rs : List Nat}, fParts Z n p ss = some (rs, q) → p < q ∧ q ≤ Z.length
  | 0, _, _, _, _, h => by cases h
  | n + 1, p, q, ss, rs, h => by
    unfold fParts at h
    split at h
    · rename_i h1
      cases h
      have := lt6 h1
      omega
    · split at h
      · cases h
      · rename_i s q1 h1
        have := part_go h1
        have := parts_go h
        omega
theorem cls_go {Z : List Nat} {p q : Nat} {s : List Nat} (h : fCls Z p = some (s, q)) : p < q ∧ q ≤ Z.length := by
  unfold fCls at h
  split at h
  · cases h
  · rename_i s1 q1 h1
    have a := part_go h1
    split at h
    · cases h
    · rename_i ss r h2
      have b := parts_go h2
      split at h
      · cases h
      · cases h
        split at a <;> omega
/-- what is read stands behind, within -/
def Go6 (Z : List Nat) (R : Rd6) : Prop := ∀ p nm t q nm', R p nm = some (t, q, nm') → p < q ∧ q ≤ Z.length
theorem grp_go {Z : List Nat} {C : Rd6} (hC : Go6 Z C) : Go6 Z (fGrp Z C) := fun p nm t q nm' h => by
  unfold fGrp at h
  split at h
  · rename_i h1
    cases h
    have := lt6 h1
    omega
  · split at h
    · cases h
    · rename_i t1 q1 nm1 h1
      have := hC _ _ _ _ _ h1
      split at h
      · rename_i h2
        cases h
        have := lt6 h2
        omega
      · cases h
theorem cap_go {Z : List Nat} {C : Rd6} (hC : Go6 Z C) : Go6 Z (fCap Z C) := fun p nm t q nm' h => by
  unfold fCap at h
  split at h
  · split at h
    · cases h
    · rename_i t1 q1 nm1 h1
      have := hC _ _ _ _ _ h1
      split at h
      · rename_i h2
        cases h
        have := lt6 h2
        omega
      · cases h
  · cases h
theorem unit_go {Z : List Nat} {can : Bool} {C : Rd6} (hC : Go6 Z C) : Go6 Z (fUnit Z can C) := fun p nm t q nm' h => by
  unfold fUnit at h
  split at h
  · cases h
  · rename_i c hc
    have hp := lt6 hc
    split at h
    · cases h
      omega
    · split at h
      · cases h
        omega
      · split at h
        · split at h
          · cases h
          · rename_i s q1 h1
            have := cls_go h1
            cases h
            omega
        · split at h
          · split at h
            · have := grp_go hC _ _ _ _ _ h
              omega
            · have := cap_go hC _ _ _ _ _ h
              omega
          · cases h
theorem cnt_go {Z : List Nat} {t t' : Tr} {q r : Nat} {nm nm' : Nm} (h : fCnt Z t q nm = some (t', r, nm')) : q < r ∧ r ≤ Z.length := by
  unfold fCnt at h
  split at h
  · cases h
  · rename_i a r1 h1
    have h1 := num_go h1
    split at h
    · split at h
      · rename_i h2
        cases h
        have := lt6 h2
        omega
      · split at h
        · cases h
        · rename_i b s h2
          have h2 := num_go h2
          split at h
          · rename_i h3
            cases h
            have := lt6 h3.1
            omega
          · cases h
    · split at h
      · rename_i h2
        cases h
        have := lt6 h2
        omega
      · cases h
theorem item_go {Z : List Nat} {U : Rd6} (hU : Go6 Z U) : Go6 Z (fItem Z U) := fun p nm t q nm' h => by
  unfold fItem at h
  split at h
  · cases h
  · rename_i t1 q1 nm1 h1
    have := hU _ _ _ _ _ h1
    split at h
    · rename_i a b h2
      cases h
      cases e : Z[q1]? with
      | none =>
        rw [e] at h2
        cases h2
      | some c =>
        have := lt6 e
        omega
    · split at h
      · have := cnt_go h
        omega
      · cases h
        omega
theorem more_go {Z : List Nat} {R : Rd6} {go : Nat → Bool} {g : Nat → Nat} (hR : Go6 Z R) (hg : ∀ q, q ≤ g q) : ∀ {n q r : Nat} {nm nm' : Nm} {ts rs : List Tr}, q ≤ Z.length → fMore R go g n q nm ts = some (rs, r, nm') → q ≤ r ∧ r ≤ Z.length
  | 0, _, _, _, _, _, _, _, h => by cases h
  | n + 1, q, r, nm, nm', ts, rs, hq, h => by
    unfold fMore at h
    split at h
    · split at h
      · cases h
      · rename_i t q1 nm1 h1
        have a := hR _ _ _ _ _ h1
        have b := more_go hR hg a.2 h
        have c := hg q
        omega
    · cases h
      omega
theorem row_go {Z : List Nat} {R : Rd6} {go : Nat → Bool} {g : Nat → Nat} {f : List Tr → Tr} (hR : Go6 Z R) (hg : ∀ q, q ≤ g q) : Go6 Z (fRow Z R go g f) := fun p nm t q nm' h => by
  unfold fRow at h
  split at h
  · cases h
  · rename_i t1 q1 nm1 h1
    have a := hR _ _ _ _ _ h1
    split at h
    · cases h
    · rename_i ts r nm2 h2
      have b := more_go hR hg a.2 h2
      cases h
      omega
theorem nope_go (Z : List Nat) : Go6 Z nope := fun _ _ _ _ _ h => by cases h
theorem chain_go {Z : List Nat} {I : Rd6} (h : Go6 Z I) : Go6 Z (fChain Z I) := row_go h (fun q => Nat.le_refl q)
theorem choice_go {Z : List Nat} {I : Rd6} (h : Go6 Z I) : Go6 Z (fChoice Z I) := row_go h (fun q => Nat.le_succ q)
theorem fC_go (Z : List Nat) : ∀ d, Go6 Z (fC Z d)
  | 0 => choice_go (chain_go (item_go (unit_go (nope_go Z))))
  | d + 1 => choice_go (chain_go (item_go (unit_go (fC_go Z d))))
theorem fU_go (Z : List Nat) : ∀ d, Go6 Z (fU Z d)
  | 0 => unit_go (nope_go Z)
  | d + 1 => unit_go (fC_go Z d)
end Sf6
/-! An own exception whose __init__ says super().__init__(value); self.value = value, over ValueError. -/
namespace Sf
open PySem PySem.Spec PyProof.Rows L2
/-- what the written part says of such a class -/
structure SupC (K : PySem.W.Frag) (mg : Str → Option Value) (D : Addr) : Prop where
  ex : OexC K D
  sup : PySem.W.ks_superIn K D D "__init__" = some (some (.builtin "ValueError.__init__"))
  sub : PySem.W.subIn K (.ref D) (.type "ValueError") = some true
  any : PySem.W.nsIn K cStatics "thirdparty.any" = some none
  own : PySem.W.mroIn K D (.ref D) = some true
  noSup : mg "super" = none
  noVal : PySem.W.findIn K (.ref D) "value" = some none
/-- the scope of such an __init__ -/
structure SupS (sc : Scope) : Prop where
  kind : sc.kind = .function
  co : sc.isCoroutine = false
  gen : sc.isGenerator = false
  sup : sc.names.lookup ("super" : Str) = some .globalImplicit
  cls : sc.names.lookup ("__class__" : Str) = some .free
  slf : sc.names.lookup ("self" : Str) = some .local
  val : sc.names.lookup ("value" : Str) = some .local
  noc : ∀ x ∈ sc.names, x.2 ≠ .cell
def spSup (D : Addr) : Sp := fun vs H Q _ => ∃ (a : Addr) (v : V), vs = [.ref a, v] ∧ H a = some (exo a D none) ∧ ∀ dx, H dx = none → dx ≠ a → Q .non (upd (upd H dx (exd dx [("value", v)])) a (exo a D (some dx)))
section
variable {P : Program} {w : World} {K : PySem.W.Frag} {mg : Str → Option Value} {base : Heap}
theorem ok_sup {f D cc cda : Addr} {name qual : Str} {params : Arguments} {scope : Scope} {dV kV doc pm ct oc cl ccl : Value} {an od cld cdd : Option Addr} {osl csl ccs : Array (Option Value)} {vs2 : Array Value} {file : Str} {tf : Tok} {k : Nat} {ar : Arg}
    {a1 a2 a3 a4 a5 a6 b1 b2 b3 b4 : Pos} (S : SupS scope) (C : SupC K mg D)
    (lk : K.lookup f = some ⟨oc, od, .func (PySem.W.ksFn name qual params [.Expr (.Call (.Attribute (.Call (.Name "super" a1) [] [] a2) "__init__" a3) [.Name "value" a4] [] a5) a6, .Assign [.Attribute (.Name "self" b1) "value" b2] (.Name "value" b3) b4] scope dV kV doc pm an (.ref cda) ct cc), osl⟩)
    (hcd : PySem.W.codeIn K (.ref cda) qual = true) (hcell : K.lookup cc = some ⟨cl, cld, .cell (some (.ref D)), csl⟩) (hcode : K.lookup cda = some ⟨ccl, cdd, .fields vs2, ccs⟩) (hvs : vs2[2]? = some (.str file tf)) (hfile : ((P.main.file : Str) == file) = true)
    (pl : Sem Bool) (T1 : ∀ L, interactive (PySem.W.ksEnv qual scope L f (.ref cda) cc) = false)
    (T2 : ∀ L, swapsWith (.Call (.Attribute (.Call (.Name "super" a1) [] [] a2) "__init__" a3) [.Name "value" a4] [] a5) none a6.line (PySem.W.ksEnv qual scope L f (.ref cda) cc) = pure false)
    (T3 : ∀ L, eval (.Call (.Attribute (.Call (.Name "super" a1) [] [] a2) "__init__" a3) [.Name "value" a4] [] a5) (PySem.W.ksEnv qual scope L f (.ref cda) cc) = (do
      let ov ← attributeBase (.Call (.Name "super" a1) [] [] a2) "__init__" (PySem.W.ksEnv qual scope L f (.ref cda) cc) (eval (.Call (.Name "super" a1) [] [] a2) (PySem.W.ksEnv qual scope L f (.ref cda) cc))
      standAt a3.atName
      let (fn, first) ← holding [ov] (getMethod ov "__init__" pl)
      callWith a5 fn first (backTo a5 (starEach [.Name "value" a4] (PySem.W.ksEnv qual scope L f (.ref cda) cc))) []))
    (T4 : ∀ L, swapsWith (.Name "value" b3) (some (.Attribute (.Name "self" b1) "value" b2)) b4.line (PySem.W.ksEnv qual scope L f (.ref cda) cc) = pure false)
    (htop : (P.main.scope.names.lookup ("super" : Str)).isSome = false) (hp : (params.posonlyargs ++ params.args).head? = some ar) (har : ar.arg = "self") :
    FnOk P w K mg base CX0 (k + 1) f (PySem.W.ksFn name qual params [.Expr (.Call (.Attribute (.Call (.Name "super" a1) [] [] a2) "__init__" a3) [.Name "value" a4] [] a5) a6, .Assign [.Attribute (.Name "self" b1) "value" b2] (.Name "value" b3) b4] scope dV kV doc pm an (.ref cda) ct cc) ["self", "value"] (spSup D) := by
  refine ⟨fun vs H Q E h => ?_, fun A outer s H args us vs Q E hr e0 hb r hsp => ?_⟩
  · obtain ⟨a, v, rfl, _⟩ := h
    rfl
  obtain ⟨a, v, rfl, ea, q⟩ := hsp
  obtain ⟨ua, u, rfl, ra, ru⟩ := vals2 r
  obtain rfl : ua = Value.ref a := ra
  have KX : K.In s.heap := e0.mod.kin.keeps fun b o e => (e0.bs b o e).1
  have lim : s.heap.NoLimit := e0.mod.nolimit.keeps fun b o e => (e0.bs b o e).1
  obtain ⟨t1, ha⟩ := exo_at e0.hok ea
  obtain ⟨nm, qn, N, bs, bm, sn, sb, ab, col, dd, k0, k1, k2, k3, k5, hC, hbm⟩ := C.ex.cls
  have hcl : PySem.W.clsIn K D = some { name := nm, bases := bs, mro := .ref D :: bm, ns := N, qualname := qn, hasDict := true, slotNames := sn, subclasses := sb, abstract := ab, collection := col, hasDel := false } := by
    unfold PySem.W.clsIn
    rw [hC] <;> rfl
  have hal : PySem.W.alongIn K "__init__" bm = some (some (.builtin "ValueError.__init__")) := by
    have z := C.sup
    unfold PySem.W.ks_superIn at z
    rw [hcl] at z
    have e : ((Value.ref D :: bm).dropWhile (· != .ref D)).drop 1 = bm := by simp [List.dropWhile_cons]
    have z : PySem.W.alongIn K "__init__" (((Value.ref D :: bm).dropWhile (· != .ref D)).drop 1) = _ := z
    rw [e] at z
    exact z
  obtain ⟨mb, hB0, hbb⟩ := e0.mod.blt
  have hG0 := e0.mod.glob
  have bsk : ∀ b o, base.get? b = some o → s.heap.get? b = some o := fun b o e => (e0.bs b o e).1
  have hDa : a ≠ D := fun z => by
    have y := KX _ _ hC
    rw [← z, ha] at y
    cases y
  have fr := e0.hok
  obtain ⟨hp0, g, d, t, os⟩ := s
  dsimp only at KX lim ha hb bsk fr
  refine ks_codeAny_call_defAt (binds := [("self", Value.ref a), ("value", u)]) hr.depth (KX _ _ lk) rfl lim (PySem.W.codeRec_of KX hcd) rfl hb S.noc (fun x hx => ?_) (fun h0 hns hk => ?_) S.co S.gen S.kind
  · rcases List.mem_cons.mp hx with rfl | hx
    · exact S.slf
    · obtain rfl := List.mem_singleton.mp hx
      exact S.val
  dsimp only at hns hk ⊢
  have X0 : K.In h0 := KX.keeps hk
  have ha0 := hk _ _ ha
  have hG : h0.Ns mainGlobals mg := hG0.keeps fun b o e => hk b o (bsk b o e)
  have hB : h0.Ns builtinsNs mb := hB0.keeps fun b o e => hk b o (bsk b o e)
  show PySem.wpAt _ _ _ (execs _ (PySem.W.ksEnv qual scope hp0.objs.size f (.ref cda) cc)) _ _ _
  refine ks_wpAt_execs_cons (ks_wpAt_Expr_any (ks_wpAt_MethodCall (pl := pl) ?_ (T3 _)) (T1 _) (T2 _))
  refine ks_wpAt_super_base S.sup S.cls rfl rfl (X0 _ _ lk) rfl hp rfl (X0 _ _ hcode) rfl hvs hfile htop ?_
  refine PySem.W.ks_loadName_global S.kind S.sup (Calls.loadGlobal_builtin hG C.noSup hB ((hbb "super" (by decide +kernel)).trans (by decide +kernel)) ⟨rfl, ?_⟩)
  refine wpAny_loadName_free S.kind S.cls rfl ⟨_, X0 _ _ hcell, rfl⟩ ?_
  rw [har]
  refine wpAny_loadName_local S.kind S.slf hns rfl ?_
  refine ks_wpAny_isType_cls (X0 _ _ hC) rfl ⟨rfl, ?_⟩
  refine ks_wpAny_call_super (X0 _ _ hC) rfl ha0 rfl (fun c z => nomatch z) (PySem.W.looks_mroIn X0 C.own) (fun h1 e1 k1 => ?_)
  have X1 : K.In h1 := X0.keeps k1
  have ha1 := k1 _ _ ha0
  have I1 : PySem.W.InstAt h1 a { cls := .ref D, dict := none, data := .fields #[.ref t1, .none, .none, .none, .bool false, .none] } D none := ⟨ha1, rfl, rfl, trivial⟩
  refine PySem.W.kxs_getMethod PySem.W.kxs_ValueError e1 (PySem.W.looks_opaque X1 C.any) (l₀ := .ref D :: bm) (fun A Q E s k q => wpAny_bind ((PySem.W.looks_clsIn X1 hcl) A _ E s k (wpAny_pure q))) (by simp [List.dropWhile_cons] <;> rfl) X1 hal (I1.type.andThen (PySem.W.looks_subIn X1 C.sub)) hDa rfl ?_
  -- the wrapper is called
  have keep2 : ∀ b o, h1.get? b = some o → (h1.push (PySem.W.kxs_mw "ValueError.__init__" a)).get? b = some o := fun b o e => Heap.get?_push_of_some _ e
  have hu2 : (h1.push (PySem.W.kxs_mw "ValueError.__init__" a)).get? h1.objs.size = some (PySem.W.kxs_mw "ValueError.__init__" a) := Heap.get?_push_at rfl rfl
  generalize h1.push (PySem.W.kxs_mw "ValueError.__init__" a) = h2 at keep2 hu2 ⊢
  have hk2 : ∀ b o, h0.get? b = some o → h2.get? b = some o := fun b o e => keep2 b o (k1 b o e)
  have X2 : K.In h2 := X0.keeps hk2
  have ha2 := hk2 _ _ ha0
  have hns2 : h2.Ns hp0.objs.size fun x => List.lookup x [(Str.ofString "self", Value.ref a), (Str.ofString "value", u)].reverse := hns.keeps hk2
  refine PySem.W.kxs_callWith (i := "ValueError.__init__") (x := a) rfl (Calls.evalArgs_plain (Calls.spliced_cons ?_))
  rw [if_neg Bool.false_ne_true]
  refine wpAny_Name (x := "value") ?_ (by decide)
  refine wpAny_loadName_local (env := PySem.W.ksEnv qual scope hp0.objs.size f (.ref cda) cc) S.kind S.val hns2 rfl ?_
  refine Calls.spliced_nil ⟨hu2, ?_⟩
  -- BaseException.__init__(e, value)
  refine wpAny_call (codeAny_of_tree ?_)
  show wpAny _ _ (callAny (.ref h1.objs.size) ⟨[u], []⟩) _ _ _
  simp only [callAny]
  refine wpAny_bind (wpAny_load hu2 ?_)
  simp only [PySem.W.kxs_mw, show (Value.type "method-wrapper" == Value.type "method" || Value.type "method-wrapper" == Value.type "builtin_function_or_method" || Value.type "method-wrapper" == Value.type "method-wrapper") = true by decide, if_true]
  refine PySem.W.KFB.if_so (by decide) ?_
  refine wpAny_bind (PySem.W.check_bound_init PySem.F.excBase_ValueError.toExcCallFacts (X2 _ _ hC) ha2 rfl ?_)
  refine wpAny_bind (wpAny_pure (wpAny_pure ?_))
  refine ⟨Code.quiet_builtin _ (by decide +kernel), codeAny_builtin PySem.F.excBase_ValueError.initEntry ?_⟩
  refine PySem.W.exc_init_tree (cls := .ref D) (t0 := t1) (dv := none) (c2 := .none) (c3 := .none) (b4 := .bool false) ha2 (show 1 ≤ sizeLine by decide) (fun h3 k3 e3 _ => ?_)
  have neA : ∀ b o, K.lookup b = some o → b ≠ a := fun b o e z => by
    have y := (e0.bs b o (e0.mod.kin b o e)).2
    rw [z, ea] at y
    cases y
  have X3 : K.In h3 := fun b o e => k3 b o (neA b o e) (X2 b o e)
  have nL : hp0.objs.size ≠ a := Nat.ne_of_gt (Heap.lt_size ha)
  have hns3 : h3.Ns hp0.objs.size fun x => List.lookup x [(Str.ofString "self", Value.ref a), (Str.ofString "value", u)].reverse := by
    obtain ⟨o, es, ep, ho, rr⟩ := hns2
    exact ⟨o, es, ep, k3 _ _ nL ho, rr⟩
  show PySem.wpAt _ _ _ (execs _ (PySem.W.ksEnv qual scope hp0.objs.size f (.ref cda) cc)) _ _ _
  refine ks_wpAt_execs_cons (ks_wpAt_Assign_Attr ?_ (T4 _))
  refine PySem.wpAt_of_wpAny (wpAny_Name (x := "value") ?_ (by decide))
  refine wpAny_loadName_local (env := PySem.W.ksEnv qual scope hp0.objs.size f (.ref cda) cc) S.kind S.val hns3 rfl ?_
  refine wpAny_Name (x := "self") ?_ (by decide)
  refine wpAny_loadName_local (env := PySem.W.ksEnv qual scope hp0.objs.size f (.ref cda) cc) S.kind S.slf hns3 rfl ?_
  refine PySem.W.set_plain X3 (ox := PySem.W.excRec (.ref D) h2.objs.size none .none .none (.bool false)) (od := none) ⟨e3, rfl, rfl, trivial⟩ C.ex.sa ?_
  refine PySem.HandSPX.exc_osa X3 e3 hcl (show PySem.HandSPX.refsVE (.ref D :: bm) = true from hbm) rfl C.noVal (fun h4 tk4 dx k4 dn dne hx hn => ?_)
  refine PySem.wpAt_of_wpAny (wpAny_execs_nil ?_)
  -- the end
  have kAll : ∀ b o, b ≠ a → hp0.get? b = some o → h4.get? b = some o := fun b o n e => k4 b o n (k3 b o n (hk2 b o (hk b o e)))
  have big : hp0.objs.size ≤ dx := by
    have l3 : hp0.objs.size < h3.objs.size := by
      obtain ⟨o, es, ep, ho, _⟩ := hns3
      exact Heap.lt_size ho
    have dn : h3.objs.size ≤ dx := dn
    omega
  have hnd : H dx = none := fr.fresh big
  have nd : ∀ {b : Addr} {o : Obj}, hp0.get? b = some o → b ≠ dx := fun {b o} e => Nat.ne_of_lt (Nat.lt_of_lt_of_le (Heap.lt_size e) big)
  have na : ∀ {b : Addr}, H b = none → b ≠ a := fun {b} n z => by
    rw [z, ea] at n
    cases n
  refine ⟨V.non, upd (upd H dx (exd dx [("value", v)])) a (exo a D (some dx)), rfl, e0.bare, ?_, fun b o e => ?_, rfl, q dx hnd dne⟩
  · exact {
      keep := fun b o e n _ _ => kAll b o (na n) e
      slot := fun b o e n _ _ => ⟨o.slots, kAll b o (na n) e⟩
      free := fun b o e n _ => by
        rw [upd_ne (na n), upd_ne (nd e)]
        exact n
      there := fun b o e _ => by
        by_cases z : b = a
        · exact ⟨_, by rw [z]; exact hx⟩
        · exact ⟨o, kAll b o z e⟩
      tups := fun b xs e => by
        rw [upd_ne (at_ne ea e exo_tup), upd_ne (ne_of_none e hnd)]
        exact e
      frzs := fun b o t e => by
        rw [upd_ne (at_ne ea e exo_frz), upd_ne (ne_of_none e hnd)]
        exact e
      tbls := fun b ps e => ⟨#[], by
        rw [upd_ne (at_ne ea e exo_tbl), upd_ne (ne_of_none e hnd), e]
        simp⟩ }
  · by_cases z : b = a
    · subst z
      rw [upd_same] at e
      cases e
      exact exo_ok hx
    · rw [upd_ne z] at e
      by_cases y : b = dx
      · subst y
        rw [upd_same] at e
        cases e
        exact exd_ok hn (relO_put (fs := []) ru fun _ => True.intro)
      · rw [upd_ne y] at e
        refine (fr b o e).stay (fun c t hc g => kAll c t ?_ g) (fun c hc => ?_) fun c xs hc => ?_
        · rcases hc with hc | hc
          · rw [hc]
            exact z
          · exact at_ne ea hc exo_own
        · rw [upd_ne (at_ne ea hc exo_own), upd_ne (ne_of_none hc hnd)]
          exact hc
        · rw [upd_ne (at_ne ea hc exo_tup), upd_ne (ne_of_none hc hnd)]
          exact hc
end
end Sf
/-! The reader with both outcomes: demand, numbers, parts of a class. -/
namespace Sf6
open PySem PySem.Spec PyProof.Rows L2 Sf Sf4
def Rz (D : Addr) (E : XK) (H : Hp) (v : V) : Prop := ∀ dd H', H dd = none → Same H H' → H' dd = some (.xd [("value", v)]) → E (.ref D) (some dd) H'
/-- BadPattern as it stands -/
structure Bad (P : Program) (w : World) (K : PySem.W.Frag) (mg : Str → Option Value) (base : Heap) (k : Nat) (D fB : Addr) (dB : FuncData) : Prop where
  T : OexC K D
  iC : PySem.W.findIn K (.ref D) "__init__" = some (some (.ref fB))
  tI : PySem.W.typeIn K (.ref fB) = some (.type "function")
  G : FnOk P w K mg base CX0 k fB dB ["self", "value"] (spSup D)
  b : Binds K dB ["self", "value"] []
  g : mg "BadPattern" = some (.ref D)
theorem raised {H : Hp} {D : Addr} {E : XK} {v : V} (z : Rz D E H v) {a dx : Addr} (na : H a = none) (nx : upd H a (exo a D none) dx = none) (hne : dx ≠ a) :
    E (.ref D) (some dx) (upd (del (upd (upd (upd H a (exo a D none)) dx (exd dx [("value", v)])) a (exo a D (some dx))) a) dx (.xd [("value", v)])) := by
  have nd : H dx = none := by
    rw [upd_ne hne] at nx
    exact nx
  refine z dx _ nd (fun b o e => ?_) upd_same
  have h1 : b ≠ dx := ne_of_none e nd
  have h2 : b ≠ a := ne_of_none e na
  rw [upd_ne h1, del_ne h2, upd_ne h2, upd_ne h1, upd_ne h2]
  exact e
/-- it raises with the string, all but the reader as it stood -/
def RzK (D : Addr) (E : XK) (p l : Addr) (H : Hp) (Z : List Nat) : Prop := ∀ dd H', K2 p l H H' → H' dd = some (.xd [("value", .str (tx Z))]) → E (.ref D) (some dd) H'
theorem RzK.to {D : Addr} {E : XK} {p l : Addr} {H H1 : Hp} {Z : List Nat} (z : RzK D E p l H Z) (k : K2 p l H H1) : RzK D E p l H1 Z := fun dd H' k' e => z dd H' (k.trans k') e
theorem RzK.rz {D : Addr} {E : XK} {p l : Addr} {H : Hp} {Z : List Nat} (z : RzK D E p l H Z) : Rz D E H (.str (tx Z)) := fun dd H' _ s e => z dd H' (K2.same s) e
structure Dm (C D : Addr) (vs : List V) (H : Hp) (Q : VK) (E : XK) : Prop where
  ex : ∃ (Z : List Nat) (p dx l : Addr) (s : Nat) (nm : Nm) (m : Int) (b : Bool), vs = [.ref p, .bl b] ∧ RdA C Z p dx l H s nm m ∧ (b = true → Q .non H) ∧ (b = false → RzK D E p l H Z)
def spDemand6 (C D : Addr) : Sp := fun vs H Q E => Dm C D vs H Q E
/-- what a reading gives: a result, or it raises -/
def Res (D : Addr) (E : XK) (p l : Addr) (H : Hp) (Z : List Nat) {α : Type} (r : Option α) (ok : α → Prop) : Prop := (∀ a, r = some a → ok a) ∧ (r = none → RzK D E p l H Z)
def spNum6 (C D : Addr) : Sp := fun vs H Q E => ∃ (Z : List Nat) (p dx l : Addr) (s : Nat) (nm : Nm) (m : Int), vs = [.ref p] ∧ RdA C Z p dx l H s nm m ∧
  (∀ v q, fNum Z s = some (v, q) → ∀ H', RdA C Z p dx l H' q nm m → K2 p l H H' → Q (.int v) H') ∧ (fNum Z s = none → RzK D E p l H Z)
def spPart6 (C D : Addr) : Sp := fun vs H Q E => ∃ (Z : List Nat) (p dx l : Addr) (s : Nat) (nm : Nm) (m : Int), vs = [.ref p] ∧ RdA C Z p dx l H s nm m ∧
  (∀ ss q, fPart Z s = some (ss, q) → ∀ H', RdA C Z p dx l H' q nm m → K2 p l H H' → Q (.str (tx ss)) H') ∧ (fPart Z s = none → RzK D E p l H Z)
theorem dg_iff (c : Nat) : c ∈ (Str.ofString "0123456789").cps.toList ↔ dg c = true := (digS c).trans (by unfold dg digit; exact (decide_eq_true_iff).symm)
theorem sm_iff (c : Nat) : c ∈ (Str.ofString "abcdefghijklmnopqrstuvwxyz").cps.toList ↔ sm c = true := (smaS c).trans (by unfold sm small; exact (decide_eq_true_iff).symm)
theorem run_dg (Z : List Nat) (p : Nat) : ∀ c ∈ run dg Z p, dg c = true := fun c h => List.all_eq_true.mp (List.all_takeWhile (p := dg) (l := Z.drop p)) c h
theorem word_int {w : List Nat} (h : okW w = true) (hd : ∀ c ∈ w, dg c = true) : PySem.intText? (tx w) = some ((nval w : Nat) : Int) := by
  unfold okW at h
  rw [Bool.and_eq_true, decide_eq_true_iff] at h
  have k : ∀ c, dg c = true → 48 ≤ c ∧ c < 58 := fun c h => by
    have h := of_decide_eq_true h
    omega
  match w, h, hd with
  | [c], _, hd =>
    have := k c (hd c List.mem_cons_self)
    exact one_num c this.2 this.1
  | [c, d], _, hd =>
    have h1 := k c (hd c List.mem_cons_self)
    have h2 := k d (hd d (List.mem_cons_of_mem _ List.mem_cons_self))
    exact two_num c h1.2 d h2.2 h1.1 h2.1
  | [], h, _ => exact absurd h.1.1 (by decide)
  | _ :: _ :: _ :: _, h, _ => exact absurd h.1.2 (by simp only [List.length_cons]; omega)
theorem okW_nil : okW [] = false := by decide
theorem okW_long {w : List Nat} (h : ¬ w.length ≤ 2) : okW w = false := by
  unfold okW
  rw [decide_eq_false (fun z => h z.2), Bool.false_and]
theorem okW_cons {c : Nat} {r : List Nat} (h : (c :: r).length ≤ 2) : okW (c :: r) = (decide (c :: r = [48]) || decide (c ≠ 48)) := by
  unfold okW
  rw [decide_eq_true (show 1 ≤ (c :: r).length ∧ (c :: r).length ≤ 2 from ⟨Nat.succ_pos _, h⟩), Bool.true_and]
  congr 1
  exact decide_eq_decide.mpr ⟨fun z y => z (by rw [y] <;> rfl), fun z y => z (Option.some.inj y)⟩
theorem z48 (x : List Nat) : decide (V.str (tx x) = V.str (Str.ofString "0")) = decide (x = [48]) := by
  have e : Str.ofString "0" = tx [48] := by decide +kernel
  rw [e]
  exact decide_eq_decide.mpr ⟨fun z => tx_inj (V.str.inj z), fun z => by rw [z]⟩
theorem dem {C D p dx l : Addr} {Z : List Nat} {H : Hp} {s : Nat} {nm : Nm} {m : Int} {Q : VK} {E : XK} (R : RdA C Z p dx l H s nm m) {b c : Bool} (e : b = c) (h1 : c = true → Q .non H) (h2 : c = false → RzK D E p l H Z) : Dm C D [.ref p, .bl b] H Q E :=
  ⟨⟨Z, p, dx, l, s, nm, m, b, rfl, R, fun z => h1 (e ▸ z), fun z => h2 (e ▸ z)⟩⟩
section
variable {P : Program} {w : World} {K : PySem.W.Frag} {mg : Str → Option Value} {base : Heap} {C : Addr} {f : Nat → Addr} {fd : Nat → FuncData} {tk : Nat → Tok} {cd : Addr} {ces : Array DictEntry} {cn : Nat} {ct : Nat → Addr} {D fB : Addr} {dB : FuncData}
theorem ok_demand6 (T : RT K w mg C f fd tk cd ces cn ct) (B : Bad P w K mg base 1 D fB dB) : FnOk P w K mg base (L2.CX P w) 3 (f 3) (fd 3) ["self", "is_right"] (spDemand6 C D) := by
  refine T.mDemand.F.okX scDemand (fun vs H Q E h => ?_) (fun cdv A outer s H vs Q E hr h => ?_)
  · obtain ⟨⟨Z, p, dx, l, s, nm, m, b, rfl, _⟩⟩ := h
    rfl
  · obtain ⟨⟨Z, p, dx, l, s, nm, m, b, rfl, R, q1, q2⟩⟩ := h
    refine ⟨_, pss_one (ps_if (pt_not (pt_val (pv 1))) (pss_one (ps_raise rfl (takes_of rfl rfl rfl rfl) (pmk_oex B.T B.iC B.tI B.G hr B.b .nil pass0 (by rfl) B.g (pa_cons (pe_fld (pv 0) rfl) pa_nil)))) pss_nil), ?_⟩
    refine ⟨.bl b, rfl, b, rfl, ?_⟩
    cases b with
    | true => exact iteF (q1 rfl)
    | false =>
      exact iteT ⟨.ref p, rfl, p, C, dx, _, _, rfl, R.e, T.cl, T.nStr, rf_string, (show 1 ≤ 1000 by decide), fun a na => ⟨a, _, rfl, upd_same, fun dx nx hne => ⟨rfl, dx, _, upd_same, by rw [upd_ne hne, upd_same], by rw [upd_ne hne] at nx; exact nx, raised ((q2 rfl).rz) na nx hne⟩⟩⟩
theorem ok_num6 (T : RT K w mg C f fd tk cd ces cn ct) (B : Bad P w K mg base 1 D fB dB) : FnOk P w K mg base (L2.CX P w) 4 (f 8) (fd 8) ["self"] (spNum6 C D) := by
  refine T.mNumber.F.okX scNumber (fun vs H Q E h => ?_) (fun cdv A outer s H vs Q E hr h => ?_)
  · obtain ⟨Z, p, dx, l, s, nm, m, rfl, _⟩ := h
    rfl
  · obtain ⟨Z, p, dx, l, s, nm, m, rfl, R, q1, q2⟩ := h
    have G := ok_sign (P := P) (base := base) T
    have GD := ok_demand6 T B
    refine ⟨_, pss_cons (ps_set (i := 1) scNumber.nd rfl (.inl rfl) (pe_fld (pv 0) rfl))
      (Evl.pss_cut (ps_while (passes_of rfl) (PW.pt (pw_and (pt_cmpR op_ne (pe_meth0 (pv 0) T.cl T.mSign.m G (hr.mono (by decide)) T.mSign.b .nil pass0) pe_str (nomark _))
          (pw_and1 (pt_cmpR op_in_sign (pe_meth0 (pv 0) T.cl T.mSign.m G (hr.mono (by decide)) T.mSign.b .nil pass0) (pe_glob (v := .str (Str.ofString "0123456789")) rfl T.gDig ⟨_, rfl⟩) rfl))))
        (pss_one (ps_fldaug (pv 0) pe_int in_add)))
      (pss_cons (ps_set (i := 2) scNumber.nd rfl (.inl rfl) (pe_slice sl_str (pe_fld (pv 0) rfl) (po_some (pv 1)) (po_some (pe_fld (pv 0) rfl))))
      (Evl.pss_cut (ps_expr (pe_meth (pv 0) T.cl T.mDemand.m GD hr T.mDemand.b .nil (passes_call (takes_of rfl rfl rfl rfl) (fun _ _ _ _ h => h)) (pa_cons
          (pe_and (pe_chain op_le op_le pe_int (pe_callB call_len_str (by rfl) T.zlen PySem.boot_len (pa_cons (pv 2) pa_nil))
              (pe_callB call_len_str (by rfl) T.zlen PySem.boot_len (pa_cons (pe_callTy call_str_int (by rfl) T.zstr (by decide +kernel) (pa_cons (pe_glob (v := .int 20) rfl T.gMC ⟨_, rfl⟩) pa_nil)) pa_nil)))
            (pe_one (pe_or (pe_cmpR op_eq (pv 2) pe_str (nomark _)) (pe_one (pe_cmpR op_ne (pe_ix ix_str (pv 2) pe_int (fun _ _ => rfl)) pe_str (nomark _)))))) pa_nil)))
      (pss_cons (ps_expr (pe_meth (pv 0) T.cl T.mDemand.m GD hr T.mDemand.b .nil (passes_call (takes_of rfl rfl rfl rfl) (fun _ _ _ _ h => h)) (pa_cons
          (pe_cmpR op_le (pe_callTy call_intT (by rfl) T.zint PySem.Pv.boot_int (pa_cons (pv 2) pa_nil)) (pe_glob (v := .int 20) rfl T.gMC ⟨_, rfl⟩) (nomark _)) pa_nil)))
      (pss_one (ps_ret (pe_callTy call_intT (by rfl) T.zint PySem.Pv.boot_int (pa_cons (pv 2) pa_nil)))))))), ?_⟩
    have nS : ∀ s', (rf Z s' l m).lookup ("sign" : Str) = none := fun _ => rf_no (by decide +kernel) (by decide +kernel) (by decide +kernel) (by decide +kernel)
    have nD : ∀ s', (rf Z s' l m).lookup ("demand" : Str) = none := fun _ => rf_no (by decide +kernel) (by decide +kernel) (by decide +kernel) (by decide +kernel)
    refine ⟨.ref p, rfl, p, C, dx, _, _, rfl, R.e, T.cl, T.nSp, rf_spot, ?_⟩
    refine ⟨fun σ H1 => σ = [some (.ref p), some (.int s), none] ∧ RdA C Z p dx l H1 (s + (run dg Z s).length) nm m ∧ K2 p l H H1, ?_, fun σ H1 hM => ?_⟩
    · refine ⟨fun n σ H1 => ∃ s1, n = s + (run dg Z s).length - s1 ∧ s ≤ s1 ∧ s1 ≤ s + (run dg Z s).length ∧ σ = [some (.ref p), some (.int s), none] ∧ RdA C Z p dx l H1 s1 nm m ∧ K2 p l H H1, ⟨_, s, rfl, Nat.le_refl _, Nat.le_add_right _ _, rfl, R, K2.refl _ _ _⟩, ?_⟩
      rintro n σ H1 ⟨s1, rfl, ha, hb, rfl, R1, k1⟩
      refine ⟨.ref p, rfl, p, dx, _, rfl, R1.e, nS _, Z, p, dx, l, s1, nm, m, rfl, R1, rfl, _, rfl, ?_⟩
      by_cases hlt : s1 < s + (run dg Z s).length
      · obtain ⟨d, hz, hdd⟩ := run_in dg Z s s1 ha hlt
        rw [sg_some hz, decide_eq_false em_ne]
        refine iteT ⟨.ref p, rfl, p, dx, _, rfl, R1.e, nS _, Z, p, dx, l, s1, nm, m, rfl, R1, d, _, by rw [sg_some hz] <;> rfl, rfl, _, rfl, ?_⟩
        rw [decide_eq_true ((dg_iff d).mpr hdd)]
        refine iteT ⟨fun σ' H' => ∃ s2, s2 = s1 + 1 ∧ σ' = [some (.ref p), some (.int s), none] ∧ RdA C Z p dx l H' s2 nm m ∧ K2 p l H H', fun σ' H' ⟨s2, h1, h2, h3, h4⟩ => ⟨s + (run dg Z s).length - s2, by omega, s2, rfl, by omega, by omega, h2, h3, h4⟩, ?_⟩
        refine ⟨.ref p, rfl, p, C, dx, _, _, rfl, R1.e, T.cl, T.nSp, rf_spot, _, _, rfl, rfl, dx, _, R1.e, (show 4 < 1000 by decide), ?_⟩
        exact ⟨s1 + 1, rfl, rfl, R1.spot (s1 + 1) (Nat.le_succ s1), k1.trans K2.p⟩
      · obtain rfl : s1 = s + (run dg Z s).length := by omega
        cases hz : Z[s + (run dg Z s).length]? with
        | none =>
          rw [sg_none hz, decide_eq_true em_eq]
          exact iteF (iteF ⟨rfl, R1, k1⟩)
        | some d =>
          rw [sg_some hz, decide_eq_false em_ne]
          refine iteT ⟨.ref p, rfl, p, dx, _, rfl, R1.e, nS _, Z, p, dx, l, _, nm, m, rfl, R1, d, _, by rw [sg_some hz] <;> rfl, rfl, _, rfl, ?_⟩
          have := run_end dg Z s d hz
          rw [decide_eq_false fun z => by rw [(dg_iff d).mp z] at this; cases this]
          exact iteF ⟨rfl, R1, k1⟩
    obtain ⟨rfl, R1, k1⟩ := hM
    refine ⟨.ref p, rfl, p, C, dx, _, _, rfl, R1.e, T.cl, T.nStr, rf_string, .int s, rfl, s, rfl, .ref p, rfl, p, C, dx, _, _, rfl, R1.e, T.cl, T.nSp, rf_spot, _, rfl, tx Z, rfl, tx_len60 R.z, ?_⟩
    rw [cut_sub, run_cut]
    have hd := run_dg Z s
    have q1' : okW (run dg Z s) = true → nval (run dg Z s) ≤ 20 → ∀ H', RdA C Z p dx l H' (s + (run dg Z s).length) nm m → K2 p l H H' → Q (.int (nval (run dg Z s) : Nat)) H' := fun a b => q1 _ _ (by unfold fNum; rw [if_pos ⟨a, b⟩])
    have q2' : ¬ (okW (run dg Z s) = true ∧ nval (run dg Z s) ≤ 20) → RzK D E p l H1 Z := fun a => (q2 (by unfold fNum; rw [if_neg a])).to k1
    have hle : (run dg Z s).length ≤ 60 := Nat.le_trans (List.takeWhile_prefix dg).length_le (Nat.le_trans (by rw [List.length_drop]; omega) R.z)
    generalize s + (run dg Z s).length = e at R1 q1'
    generalize run dg Z s = W at hd q1' q2' hle ⊢
    have hl : (tx W).length = W.length := tx_len _
    have hL : (tx W).length ≤ sizeLine := by
      rw [hl]
      exact Nat.le_trans hle (by decide)
    have hL2 : (tx W).length ≤ 640 := by
      rw [hl]
      omega
    have l2 : (toString (20 : Int) : Str).length = 2 := by decide +kernel
    have fin : okW W = true → ∀ n : Int, PySem.intText? (tx W) = some n → n = ((nval W : Nat) : Int) := fun h n hn => by
      rw [word_int h hd] at hn
      exact (Option.some.inj hn).symm
    refine ⟨fun σ H2 => okW W = true ∧ H2 = H1 ∧ σ = [some (.ref p), some (.int s), some (.str (tx W))], ?_, fun σ H2 hM => ?_⟩
    · have yes : okW W = true → okW W = true ∧ H1 = H1 ∧ [some (.ref p), some (.int s), some (.str (tx W))] = [some (V.ref p), some (.int s), some (.str (tx W))] := fun a => ⟨a, rfl, rfl⟩
      have no : okW W = false → RzK D E p l H1 Z := fun a => q2' fun z => by rw [a] at z; cases z.1
      refine ⟨.ref p, rfl, p, dx, _, rfl, R1.e, nD _, .str (tx W), rfl, tx W, rfl, hL, _, _, rfl, rfl, _, rfl, ?_⟩
      cases W with
      | nil =>
        rw [decide_eq_false (show ¬ ((1 : Int) ≤ ((tx []).length : Int)) by decide)]
        exact iteF ⟨_, rfl, iteF (dem R1 (okW_nil.symm) yes no)⟩
      | cons c r =>
        rw [decide_eq_true (show (1 : Int) ≤ ((tx (c :: r)).length : Int) by rw [hl, List.length_cons]; omega)]
        refine iteT ⟨20, rfl, by decide, _, rfl, by rw [l2]; decide, _, _, rfl, rfl, _, rfl, ?_⟩
        by_cases h2 : (c :: r).length ≤ 2
        · rw [decide_eq_true (show ((tx (c :: r)).length : Int) ≤ ((toString (20 : Int) : Str).length : Int) by rw [hl, l2]; omega)]
          refine iteT ⟨.str (tx (c :: r)), rfl, rfl, _, rfl, ?_⟩
          rw [z48]
          have ek := okW_cons h2
          by_cases h0 : c :: r = [48]
          · rw [decide_eq_true h0] at ek ⊢
            rw [Bool.true_or] at ek
            exact iteT (dem R1 (ek.symm) yes no)
          · rw [decide_eq_false h0] at ek ⊢
            rw [Bool.false_or] at ek
            refine iteF ⟨.str (tx (c :: r)), rfl, tx (c :: r), 0, c, rfl, rfl, hL, atI_nat (j := 0) rfl, rfl, ?_⟩
            have e9 : (!decide (V.str (tx [c]) = V.str (Str.ofString "0"))) = okW (c :: r) := by
              rw [ek, z48]
              by_cases h1 : c = 48
              · rw [h1] <;> rfl
              · rw [decide_eq_true h1, decide_eq_false (fun z => h1 (List.cons.inj z).1)] <;> rfl
            exact (dem R1 (e9) yes no)
        · rw [decide_eq_false (show ¬ (((tx (c :: r)).length : Int) ≤ ((toString (20 : Int) : Str).length : Int)) by rw [hl, l2]; omega)]
          exact iteF (dem R1 ((okW_long h2).symm) yes no)
    obtain ⟨hok, rfl, rfl⟩ := hM
    have hi := word_int hok hd
    refine ⟨.ref p, rfl, p, dx, _, rfl, R1.e, nD _, .str (tx W), rfl, tx W, _, rfl, hi, hL2, _, _, rfl, rfl, ?_⟩
    have e9 : decide (((nval W : Nat) : Int) ≤ 20) = decide (nval W ≤ 20) := decide_eq_decide.mpr (by omega)
    exact dem (c := decide (nval W ≤ 20)) R1 e9 (fun z => ⟨.str (tx W), rfl, tx W, _, rfl, hi, hL2, q1' hok (of_decide_eq_true z) _ R1 k1⟩) (fun z => q2' fun y => of_decide_eq_false z y.2)
end
end Sf6
/-! The reader with both outcomes: parts of a class. -/
namespace Sf6
open PySem PySem.Spec PyProof.Rows L2 Sf Sf4
def ixL (c : Nat) : Nat := if c = 32 then 0 else if c ≤ 57 then c - 47 else if c = 95 then 11 else c - 85
theorem occ_L : ∀ c ∈ LETc, Builtin.Str.occurrences LSs (tx [c]) 0 LSs.length 1 = [ixL c] := by decide +kernel
theorem cut_L : ∀ c ∈ LETc, ∀ e ∈ LETc, like c e = true → c ≤ e → (LETc.drop (ixL c)).take (ixL e + 1 - ixL c) = span c e := by decide +kernel
theorem LS_tx : LSs = tx LETc := by decide +kernel
theorem like_in : ∀ c, c < 123 → (dg c = true ∨ sm c = true) → c ∈ LETc := by decide +kernel
theorem like_let {c e : Nat} (h : like c e = true) : e ∈ LETc := by
  unfold like at h
  rw [Bool.or_eq_true, Bool.and_eq_true, Bool.and_eq_true] at h
  rcases h with h | h
  · have := of_decide_eq_true h.2
    exact like_in e (by omega) (.inl h.2)
  · have := of_decide_eq_true h.2
    exact like_in e (by omega) (.inr h.2)
theorem le_str (c e : Nat) : (!decide ((tx [e]).cps.toList < (tx [c]).cps.toList)) = decide (c ≤ e) := by
  show (!decide ([e] < [c])) = _
  by_cases h : c ≤ e
  · rw [decide_eq_true h, decide_eq_false] <;> first | rfl | skip
    intro z
    have := List.cons_lt_cons_iff.mp z
    rcases this with h1 | h1
    · omega
    · exact absurd h1.2 (by decide)
  · rw [decide_eq_false h, decide_eq_true] <;> first | rfl | skip
    exact List.cons_lt_cons_iff.mpr (.inl (by omega))
section
variable {Z : List Nat} {s c e : Nat}
theorem part_none1 (h : ∀ c, Z[s]? = some c → ¬ c ∈ LETc) : fPart Z s = none := by
  unfold fPart
  split
  · rfl
  · rename_i c hc
    rw [if_neg (h c hc)]
theorem part_one (h1 : Z[s]? = some c) (h2 : c ∈ LETc) (h3 : Z[s + 1]? ≠ some 45) : fPart Z s = some ([c], s + 1) := by
  unfold fPart
  rw [h1]
  show (if _ then _ else _) = _
  rw [if_pos h2, if_neg h3]
theorem part_none2 (h1 : Z[s]? = some c) (h3 : Z[s + 1]? = some 45) (h4 : Z[s + 2]? = none) : fPart Z s = none := by
  unfold fPart
  rw [h1]
  show (if _ then _ else _) = _
  rw [if_pos h3, h4]
  split <;> rfl
theorem part_two (h1 : Z[s]? = some c) (h2 : c ∈ LETc) (h3 : Z[s + 1]? = some 45) (h4 : Z[s + 2]? = some e) : fPart Z s = if like c e = true ∧ c ≤ e then some (span c e, s + 3) else none := by
  unfold fPart
  rw [h1]
  show (if _ then _ else _) = _
  rw [if_pos h2, if_pos h3, h4]
end
theorem dg_dec (c : Nat) : decide (c ∈ (Str.ofString "0123456789").cps.toList) = dg c := by
  cases h : dg c with
  | true => exact decide_eq_true ((dg_iff c).mpr h)
  | false => exact decide_eq_false fun z => by rw [(dg_iff c).mp z] at h; cases h
theorem sm_dec (c : Nat) : decide (c ∈ (Str.ofString "abcdefghijklmnopqrstuvwxyz").cps.toList) = sm c := by
  cases h : sm c with
  | true => exact decide_eq_true ((sm_iff c).mpr h)
  | false => exact decide_eq_false fun z => by rw [(sm_iff c).mp z] at h; cases h
section
variable {P : Program} {w : World} {K : PySem.W.Frag} {mg : Str → Option Value} {base : Heap} {C : Addr} {f : Nat → Addr} {fd : Nat → FuncData} {tk : Nat → Tok} {cd : Addr} {ces : Array DictEntry} {cn : Nat} {ct : Nat → Addr} {D fB : Addr} {dB : FuncData}
theorem ok_part6 (T : RT K w mg C f fd tk cd ces cn ct) (B : Bad P w K mg base 1 D fB dB) : FnOk P w K mg base (L2.CX P w) 4 (f 13) (fd 13) ["self"] (spPart6 C D) := by
  refine T.mPart.F.okX scPart (fun vs H Q E h => ?_) (fun cdv A outer s H vs Q E hr h => ?_)
  · obtain ⟨Z, p, dx, l, s, nm, m, rfl, _⟩ := h
    rfl
  · obtain ⟨Z, p, dx, l, s, nm, m, rfl, R, q1, q2⟩ := h
    have GS := ok_sign (P := P) (base := base) T
    have GK := ok_skips (P := P) (base := base) T
    have GD := ok_demand6 T B
    refine ⟨_, pss_cons (ps_set (i := 1) scPart.nd rfl (.inl rfl) (pe_meth0 (pv 0) T.cl T.mSign.m GS (hr.mono (by decide)) T.mSign.b .nil pass0))
      (Evl.pss_cut (ps_expr (pe_meth (pv 0) T.cl T.mDemand.m GD hr T.mDemand.b .nil (passes_call (takes_of rfl rfl rfl rfl) (fun _ _ _ _ h => h)) (pa_cons
          (pe_and (pe_cmpR op_ne (pv 1) pe_str (nomark _)) (pe_one (pe_cmpR op_in_sign (pv 1) (pe_glob (v := .str LSs) rfl T.gLet ⟨_, rfl⟩) rfl))) pa_nil)))
      (pss_cons (ps_fldaug (pv 0) pe_int in_add)
      (pss_cons (ps_if (pt_not (pt_val (pe_meth (pv 0) T.cl T.mSkips.m GK (hr.mono (by decide)) T.mSkips.b .nil pass0 (pa_cons pe_str pa_nil)))) (pss_one (ps_ret (pv 1))) pss_nil)
      (pss_cons (ps_set (i := 2) scPart.nd rfl (.inl rfl) (pe_meth0 (pv 0) T.cl T.mSign.m GS (hr.mono (by decide)) T.mSign.b .nil pass0))
      (Evl.pss_cut (ps_expr (pe_meth (pv 0) T.cl T.mDemand.m GD hr T.mDemand.b .nil (passes_call (takes_of rfl rfl rfl rfl) (fun _ _ _ _ h => h)) (pa_cons
          (pe_and (pe_cmpR op_ne (pv 2) pe_str (nomark _)) (pe_one (pe_or
            (pe_and (pe_cmpR op_in_sign (pv 1) (pe_glob (v := .str (Str.ofString "0123456789")) rfl T.gDig ⟨_, rfl⟩) rfl) (pe_one (pe_cmpR op_in_sign (pv 2) (pe_glob (v := .str (Str.ofString "0123456789")) rfl T.gDig ⟨_, rfl⟩) rfl)))
            (pe_one (pe_and (pe_cmpR op_in_sign (pv 1) (pe_glob (v := .str (Str.ofString "abcdefghijklmnopqrstuvwxyz")) rfl T.gSma ⟨_, rfl⟩) rfl) (pe_one (pe_cmpR op_in_sign (pv 2) (pe_glob (v := .str (Str.ofString "abcdefghijklmnopqrstuvwxyz")) rfl T.gSma ⟨_, rfl⟩) rfl))))))) pa_nil)))
      (pss_cons (ps_expr (pe_meth (pv 0) T.cl T.mDemand.m GD hr T.mDemand.b .nil (passes_call (takes_of rfl rfl rfl rfl) (fun _ _ _ _ h => h)) (pa_cons (pe_cmpR op_le_str (pv 1) (pv 2) (nomark _)) pa_nil)))
      (pss_cons (ps_fldaug (pv 0) pe_int in_add)
      (pss_one (ps_ret (pe_slice sl_str (pe_glob (v := .str LSs) rfl T.gLet ⟨_, rfl⟩) (po_some (pe_bm PySem.F.plainAttrs_str PySem.F.slot_str_index PySem.F.type_str_index mt_sindex (pe_glob (v := .str LSs) rfl T.gLet ⟨_, rfl⟩) (pa_cons (pv 1) pa_nil)))
        (po_some (pe_op op_add (pe_bm PySem.F.plainAttrs_str PySem.F.slot_str_index PySem.F.type_str_index mt_sindex (pe_glob (v := .str LSs) rfl T.gLet ⟨_, rfl⟩) (pa_cons (pv 2) pa_nil)) pe_int)))))))))))), ?_⟩
    have nS : ∀ s', (rf Z s' l m).lookup ("sign" : Str) = none := fun _ => rf_no (by decide +kernel) (by decide +kernel) (by decide +kernel) (by decide +kernel)
    have nD : ∀ s', (rf Z s' l m).lookup ("demand" : Str) = none := fun _ => rf_no (by decide +kernel) (by decide +kernel) (by decide +kernel) (by decide +kernel)
    have nK : ∀ s', (rf Z s' l m).lookup ("skips" : Str) = none := fun _ => rf_no (by decide +kernel) (by decide +kernel) (by decide +kernel) (by decide +kernel)
    refine ⟨.ref p, rfl, p, dx, _, rfl, R.e, nS _, Z, p, dx, l, s, nm, m, rfl, R, ?_⟩
    refine ⟨fun σ H2 => ∃ c, Z[s]? = some c ∧ c ∈ LETc ∧ H = H2 ∧ σ = [some (.ref p), some (.str (tx [c])), none], ?_, fun σ H2 hM => ?_⟩
    · cases hz : Z[s]? with
      | none =>
        rw [sg_none hz]
        refine ⟨.ref p, rfl, p, dx, _, rfl, R.e, nD _, _, rfl, rfl, _, rfl, ?_⟩
        rw [decide_eq_true em_eq]
        exact iteF (dem (c := false) R rfl (fun z => nomatch z) fun _ => q2 (part_none1 fun c h => by rw [hz] at h; cases h))
      | some c =>
        rw [sg_some hz]
        refine ⟨.ref p, rfl, p, dx, _, rfl, R.e, nD _, _, rfl, rfl, _, rfl, ?_⟩
        rw [decide_eq_false em_ne]
        refine iteT ⟨_, rfl, c, _, rfl, rfl, ?_⟩
        refine dem (c := decide (c ∈ LETc)) R ?_ (fun z => ⟨c, rfl, of_decide_eq_true z, rfl, rfl⟩) fun z => q2 (part_none1 fun c' h => ?_)
        · exact decide_eq_decide.mpr inLS
        · rw [hz] at h
          cases h
          exact of_decide_eq_false z
    obtain ⟨c, hz, hc, rfl, rfl⟩ := hM
    refine ⟨.ref p, rfl, p, C, dx, _, _, rfl, R.e, T.cl, T.nSp, rf_spot, _, _, rfl, rfl, dx, _, R.e, (show 4 < 1000 by decide), ?_⟩
    have R1 := R.spot (s + 1) (Nat.le_succ s)
    refine ⟨.ref p, rfl, p, dx, _, rfl, R1.e, nK _, Z, p, dx, l, s + 1, nm, m, 45, rfl, R1, fun h45 H2 R2 k2 => ⟨true, rfl, iteF ?_⟩, fun h45 => ⟨false, rfl, iteT ⟨_, rfl, ?_⟩⟩⟩
    case refine_2 => exact q1 _ _ (part_one hz hc h45) _ R1 K2.p
    have k12 := (K2.p (p := p) (l := l) (H := H)).trans k2
    refine ⟨.ref p, rfl, p, dx, _, rfl, R2.e, nS _, Z, p, dx, l, s + 1 + 1, nm, m, rfl, R2, ?_⟩
    have eg : s + 1 + 1 = s + 2 := rfl
    refine ⟨fun σ H3 => ∃ e, Z[s + 2]? = some e ∧ like c e = true ∧ H2 = H3 ∧ σ = [some (.ref p), some (.str (tx [c])), some (.str (tx [e]))], ?_, fun σ H3 hM => ?_⟩
    · cases hz2 : Z[s + 2]? with
      | none =>
        rw [show sg Z (s + 1 + 1) = [] from sg_none hz2]
        refine ⟨.ref p, rfl, p, dx, _, rfl, R2.e, nD _, _, rfl, rfl, _, rfl, ?_⟩
        rw [decide_eq_true em_eq]
        exact iteF (dem (c := false) R2 rfl (fun z => nomatch z) fun _ => (q2 (part_none2 hz h45 hz2)).to k12)
      | some e =>
        rw [show sg Z (s + 1 + 1) = [e] from sg_some hz2]
        have yes : like c e = true → ∃ e', some e = some e' ∧ like c e' = true ∧ H2 = H2 ∧ [some (V.ref p), some (.str (tx [c])), some (.str (tx [e]))] = [some (V.ref p), some (.str (tx [c])), some (.str (tx [e']))] := fun z => ⟨e, rfl, z, rfl, rfl⟩
        have no : like c e = false → RzK D E p l H2 Z := fun z => (q2 ((part_two hz hc h45 hz2).trans (if_neg fun y => by rw [y.1] at z; cases z))).to k12
        refine ⟨.ref p, rfl, p, dx, _, rfl, R2.e, nD _, _, rfl, rfl, _, rfl, ?_⟩
        rw [decide_eq_false em_ne]
        refine iteT ⟨_, rfl, c, _, rfl, rfl, _, rfl, ?_⟩
        rw [dg_dec]
        have lk : like c e = (dg c && dg e || sm c && sm e) := rfl
        cases h1 : dg c with
        | true =>
          refine iteT ⟨_, rfl, e, _, rfl, rfl, _, rfl, ?_⟩
          rw [dg_dec]
          cases h2 : dg e with
          | true =>
            exact iteT (dem R2 (by rw [lk, h1, h2] <;> rfl) yes no)
          | false =>
            refine iteF ⟨_, rfl, c, _, rfl, rfl, _, rfl, ?_⟩
            rw [sm_dec]
            cases h3 : sm c with
            | true =>
              refine iteT ⟨_, rfl, e, _, rfl, rfl, ?_⟩
              exact dem R2 (by rw [lk, h1, h2, h3, sm_dec] <;> rfl) yes no
            | false =>
              exact iteF (dem R2 (by rw [lk, h1, h2, h3] <;> rfl) yes no)
        | false =>
          refine iteF ⟨_, rfl, iteF ⟨_, rfl, c, _, rfl, rfl, _, rfl, ?_⟩⟩
          rw [sm_dec]
          cases h3 : sm c with
          | true =>
            refine iteT ⟨_, rfl, e, _, rfl, rfl, ?_⟩
            exact dem R2 (by rw [lk, h1, h3, sm_dec] <;> rfl) yes no
          | false =>
            exact iteF (dem R2 (by rw [lk, h1, h3] <;> rfl) yes no)
    obtain ⟨e, hz2, hlk, rfl, rfl⟩ := hM
    refine ⟨.ref p, rfl, p, dx, _, rfl, R2.e, nD _, .str (tx [c]), rfl, .str (tx [e]), rfl, _, _, rfl, rfl, ?_⟩
    refine dem (c := decide (c ≤ e)) R2 (le_str c e) (fun z => ?_) fun z => (q2 ((part_two hz hc h45 hz2).trans (if_neg fun y => of_decide_eq_false z y.2))).to k12
    have z := of_decide_eq_true z
    refine ⟨.ref p, rfl, p, C, dx, _, _, rfl, R2.e, T.cl, T.nSp, rf_spot, _, _, rfl, rfl, dx, _, R2.e, (show 4 < 1000 by decide), ?_⟩
    have R3 := R2.spot (s + 1 + 1 + 1) (Nat.le_succ _)
    refine ⟨rfl, .str (tx [c]), rfl, LSs, tx [c], ixL c, [], rfl, rfl, occ_L c hc, _, rfl, ?_⟩
    refine ⟨rfl, .str (tx [e]), rfl, LSs, tx [e], ixL e, [], rfl, rfl, occ_L e (like_let hlk), _, _, rfl, rfl, _, rfl, LSs, rfl, by decide +kernel, ?_⟩
    have ec : cutS LSs (some (ixL c : Int)) (some ((ixL e : Int) + 1)) = tx (span c e) := by
      rw [LS_tx, show ((ixL e : Int) + 1) = ((ixL e + 1 : Nat) : Int) from rfl, cut_sub, cut_L c hc e (like_let hlk) hlk z]
    rw [ec]
    exact q1 _ _ ((part_two hz hc h45 hz2).trans (if_pos ⟨hlk, z⟩)) _ R3 (k12.trans K2.p)
end
end Sf6
/-! The reader with both outcomes: classes. -/
namespace Sf6
open PySem PySem.Spec PyProof.Rows L2 Sf Sf4
theorem part_len {Z : List Nat} {s q : Nat} {ss : List Nat} (h : fPart Z s = some (ss, q)) : ss.length ≤ 26 := by
  unfold fPart at h
  split at h
  · cases h
  · split at h
    · split at h
      · split at h
        · cases h
        · split at h
          · rename_i g
            cases h
            unfold span
            rw [List.length_map, List.length_range]
            have g1 := g.1
            unfold like at g1
            rw [Bool.or_eq_true, Bool.and_eq_true, Bool.and_eq_true] at g1
            rcases g1 with g1 | g1
            · have a := of_decide_eq_true g1.1
              have b := of_decide_eq_true g1.2
              omega
            · have a := of_decide_eq_true g1.1
              have b := of_decide_eq_true g1.2
              omega
          · cases h
      · cases h
        exact (show 1 ≤ 26 by decide)
    · cases h
section
variable {Z : List Nat} {n p q : Nat} {ss s : List Nat}
theorem parts_stop (h : Z[p]? = some 93) : fParts Z (n + 1) p ss = some (ss, p + 1) := by
  unfold fParts
  exact if_pos h
theorem parts_more (h : Z[p]? ≠ some 93) (e : fPart Z p = some (s, q)) : fParts Z (n + 1) p ss = fParts Z n q (ss ++ s) := by
  show (if _ then _ else _) = _
  rw [if_neg h, e]
theorem parts_no (h : Z[p]? ≠ some 93) (e : fPart Z p = none) : fParts Z (n + 1) p ss = none := by
  show (if _ then _ else _) = _
  rw [if_neg h, e]
end
def hat (Z : List Nat) (s : Nat) : Nat := if Z[s]? = some 94 then s + 1 else s
theorem cls_eq (Z : List Nat) (s : Nat) : fCls Z s = match fPart Z (hat Z s) with
  | none => none
  | some (ss, q) => match fParts Z (Z.length + 1) q ss with
    | none => none
    | some (rs, r) => if cls (decide (Z[s]? = some 94)) rs = [] then none else some (cls (decide (Z[s]? = some 94)) rs, r) := rfl
theorem bl_ne (a o : Bool) : (!decide (V.bl a = V.bl o)) = (a != o) := by
  cases a <;> cases o <;> rfl
def spCls6 (C D : Addr) : Sp := fun vs H Q E => ∃ (Z : List Nat) (p dx l : Addr) (s : Nat) (nm : Nm) (m : Int), vs = [.ref p] ∧ RdA C Z p dx l H s nm m ∧
  (∀ ss q, fCls Z s = some (ss, q) → ∀ H', RdA C Z p dx l H' q nm m → K2 p l H H' → Q (.str (tx ss)) H') ∧ (fCls Z s = none → RzK D E p l H Z)
section
variable {P : Program} {w : World} {K : PySem.W.Frag} {mg : Str → Option Value} {base : Heap} {C : Addr} {f : Nat → Addr} {fd : Nat → FuncData} {tk : Nat → Tok} {cd : Addr} {ces : Array DictEntry} {cn : Nat} {ct : Nat → Addr} {D fB : Addr} {dB : FuncData}
theorem ok_cls6 (T : RT K w mg C f fd tk cd ces cn ct) (B : Bad P w K mg base 1 D fB dB) : FnOk P w K mg base (L2.CX P w) 5 (f 12) (fd 12) ["self"] (spCls6 C D) := by
  refine T.mClass.F.okX scClass (fun vs H Q E h => ?_) (fun cdv A outer s H vs Q E hr h => ?_)
  · obtain ⟨Z, p, dx, l, s, nm, m, rfl, _⟩ := h
    rfl
  · obtain ⟨Z, p, dx, l, s, nm, m, rfl, R, q1, q2⟩ := h
    have GK := ok_skips (P := P) (base := base) T
    have GP := ok_part6 T B
    have GD := ok_demand6 T B
    refine ⟨_, Evl.pss_cut (ps_asg (pe_tup (pa_cons (pe_meth (pv 0) T.cl T.mSkips.m GK (hr.mono (by decide)) T.mSkips.b .nil pass0 (pa_cons pe_str pa_nil)) (pa_cons (pe_meth0 (pv 0) T.cl T.mPart.m GP hr T.mPart.b .nil (passes_call (takes_of rfl rfl rfl rfl) (fun _ _ _ _ h => h))) pa_nil)))
        (pg_tup rfl (pgs_cons (pg_name (i := 1) scClass.nd rfl (.inr rfl)) (pgs_cons (pg_name (i := 2) scClass.nd rfl (.inr rfl)) pgs_nil))))
      (Evl.pss_cut (ps_while (passes_of rfl) (pt_not (pt_val (pe_meth (pv 0) T.cl T.mSkips.m GK (hr.mono (by decide)) T.mSkips.b .nil pass0 (pa_cons pe_str pa_nil))))
        (pss_one (ps_set (i := 2) scClass.nd rfl (.inr rfl) (pe_op op_add_str (pv 2) (pe_meth0 (pv 0) T.cl T.mPart.m GP hr T.mPart.b .nil (passes_call (takes_of rfl rfl rfl rfl) (fun _ _ _ _ h => h)))))))
      (pss_cons (ps_set (i := 3) scClass.nd rfl (.inl rfl) (pe_join pe_str (pe_lc (own := [("letter", 4)]) (g := gName 4) (tt := tTest (tOp rNe (tOp rInS (tVar 4) (tVar 2)) (tVar 1))) (te := tVar 4) rfl scClass.nd
          (pi_str (pe_glob (v := .str LSs) rfl T.gLet ⟨_, rfl⟩)) (blkOk_by (N := NCls) (sc := defScope sClass) (by decide +kernel)) (fun _ _ _ _ _ => pg_name (i := 4) scClass.nd rfl (Or.inl rfl))
          (fun _ _ _ _ _ => pts_one (pt_cmpR op_ne (pe_cmpR op_inS (pv 4) (pv 2) rfl) (pv 1) (nomark _))) (fun _ _ _ _ _ => pv 4))))
      (pss_cons (ps_expr (pe_meth (pv 0) T.cl T.mDemand.m GD (hr.mono (by decide)) T.mDemand.b .nil (passes_call (takes_of rfl rfl rfl rfl) (fun _ _ _ _ h => h)) (pa_cons (pe_cmpR op_ne (pv 3) pe_str (nomark _)) pa_nil)))
      (pss_one (ps_ret (pv 3)))))), ?_⟩
    have nP : ∀ s', (rf Z s' l m).lookup ("read_part" : Str) = none := fun _ => rf_no (by decide +kernel) (by decide +kernel) (by decide +kernel) (by decide +kernel)
    have nD : ∀ s', (rf Z s' l m).lookup ("demand" : Str) = none := fun _ => rf_no (by decide +kernel) (by decide +kernel) (by decide +kernel) (by decide +kernel)
    have nK : ∀ s', (rf Z s' l m).lookup ("skips" : Str) = none := fun _ => rf_no (by decide +kernel) (by decide +kernel) (by decide +kernel) (by decide +kernel)
    have hZ := R.z
    rw [cls_eq] at q1 q2
    refine ⟨fun σ H3 => ∃ ss q, fPart Z (hat Z s) = some (ss, q) ∧ σ = [some (.ref p), some (.bl (decide (Z[s]? = some 94))), some (.str (tx ss)), none, none] ∧ RdA C Z p dx l H3 q nm m ∧ K2 p l H H3, ?_, fun σ H3 hM => ?_⟩
    · refine ⟨.ref p, rfl, p, dx, _, rfl, R.e, nK _, Z, p, dx, l, s, nm, m, 94, rfl, R, fun z H1 R1 k1 => ?_, fun z => ?_⟩
      · have eh : hat Z s = s + 1 := if_pos z
        refine ⟨.ref p, rfl, p, dx, _, rfl, R1.e, nP _, Z, p, dx, l, s + 1, nm, m, rfl, R1, fun ss q e1 H2 R2 k2 => ?_, fun e1 => ?_⟩
        · refine ⟨(show 2 ≤ sizeLine by decide), fun T0 n0 => ⟨T0, _, rfl, .inl (.inl upd_same), rfl, _, _, rfl, _, _, rfl, rfl, ?_⟩⟩
          exact ⟨ss, q, eh ▸ e1, by rw [decide_eq_true z] <;> rfl, R2.up (smU n0), (k1.trans k2).trans (K2.same (smU n0))⟩
        · rw [eh, e1] at q2
          exact (q2 rfl).to k1
      · have eh : hat Z s = s := if_neg z
        refine ⟨.ref p, rfl, p, dx, _, rfl, R.e, nP _, Z, p, dx, l, s, nm, m, rfl, R, fun ss q e1 H2 R2 k2 => ?_, fun e1 => ?_⟩
        · refine ⟨(show 2 ≤ sizeLine by decide), fun T0 n0 => ⟨T0, _, rfl, .inl (.inl upd_same), rfl, _, _, rfl, _, _, rfl, rfl, ?_⟩⟩
          exact ⟨ss, q, eh.symm ▸ e1, by rw [decide_eq_false z] <;> rfl, R2.up (smU n0), k2.trans (K2.same (smU n0))⟩
        · rw [eh, e1] at q2
          exact q2 rfl
    obtain ⟨s0, p0, e0, rfl, R0, k0⟩ := hM
    rw [e0] at q1 q2
    dsimp only at q1 q2
    have g0 := part_go e0
    have l0 := part_len e0
    generalize decide (Z[s]? = some 94) = o at q1 q2 ⊢
    refine ⟨fun σ H4 => ∃ ss r, fParts Z (Z.length + 1) p0 s0 = some (ss, r) ∧ σ = [some (.ref p), some (.bl o), some (.str (tx ss)), none, none] ∧ RdA C Z p dx l H4 r nm m ∧ K2 p l H H4, ?_, fun σ H4 hM => ?_⟩
    · refine ⟨fun n σ H4 => ∃ (s1 : Nat) (dn : List Nat), fParts Z (Z.length + 1) p0 s0 = fParts Z n s1 dn ∧ Z.length - s1 < n ∧ s1 ≤ Z.length ∧ dn.length ≤ 26 * s1 ∧ σ = [some (.ref p), some (.bl o), some (.str (tx dn)), none, none] ∧ RdA C Z p dx l H4 s1 nm m ∧ K2 p l H H4,
        ⟨_, p0, s0, rfl, by omega, g0.2, by omega, rfl, R0, k0⟩, ?_⟩
      rintro n σ H4 ⟨s1, dn, ef, hf, hs1, hd, rfl, R4, k4⟩
      obtain ⟨n, rfl⟩ : ∃ k, n = k + 1 := ⟨n - 1, by omega⟩
      refine ⟨.ref p, rfl, p, dx, _, rfl, R4.e, nK _, Z, p, dx, l, s1, nm, m, 93, rfl, R4, fun z H5 R5 k5 => ⟨true, rfl, iteF ?_⟩, fun z => ⟨false, rfl, iteT ?_⟩⟩
      · exact ⟨dn, s1 + 1, ef.trans (parts_stop z), rfl, R5, k4.trans k5⟩
      · refine ⟨fun σ' H' => ∃ (s2 : Nat) (dn2 : List Nat), fParts Z (Z.length + 1) p0 s0 = fParts Z n s2 dn2 ∧ Z.length - s2 < n ∧ s2 ≤ Z.length ∧ dn2.length ≤ 26 * s2 ∧ σ' = [some (.ref p), some (.bl o), some (.str (tx dn2)), none, none] ∧ RdA C Z p dx l H' s2 nm m ∧ K2 p l H H', fun σ' H' h => ⟨n, Nat.lt_succ_self n, h⟩, ?_⟩
        refine ⟨.str (tx dn), rfl, .ref p, rfl, p, dx, _, rfl, R4.e, nP _, Z, p, dx, l, s1, nm, m, rfl, R4, fun s2 p2 e2 H5 R5 k5 => ?_, fun e2 => ?_⟩
        · have g2 := part_go e2
          have l2 := part_len e2
          refine ⟨_, _, rfl, rfl, ?_, p2, dn ++ s2, ef.trans (parts_more z e2), by omega, g2.2, by rw [List.length_append]; omega, ?_, R5, k4.trans k5⟩
          · rw [tx_len, tx_len]
            refine Nat.le_trans (show dn.length + s2.length ≤ 1600 by omega) (by decide)
          · rw [tx_app] <;> rfl
        · rw [ef, parts_no z e2] at q2
          exact (q2 rfl).to k4
    obtain ⟨ss, r, ef, rfl, R3, k3⟩ := hM
    rw [ef] at q1 q2
    dsimp only at q1 q2
    refine ⟨⟨_, rfl⟩, LSs, rfl, fun L hL => ?_⟩
    have nLp := R3.p0 hL
    have nLl := R3.l0 hL
    refine lc_it (walk_str (z := LSs)) (fun i H4 => H4 L = some (.lst (((LETc.take i).filter fun c => decide (c ∈ ss) != o).map fun c => V.str ⟨#[c]⟩)) ∧ RdA C Z p dx l H4 r nm m ∧ K2 p l H H4)
      ⟨upd_same, R3.up (smU hL), k3.trans (K2.same (smU hL))⟩ (fun _ _ _ _ => True.intro) (fun i x H4 H4' hi hP hy => ?_) (fun H4 hP => ?_)
    · obtain ⟨e4, R4, k4⟩ := hP
      obtain ⟨rfl, d, hd, rfl⟩ := hy
      have hd : LETc[i]? = some d := by
        rw [← LS_cps, Array.getElem?_toList]
        exact hd
      have ht : LETc.take (i + 1) = LETc.take i ++ [d] := by
        obtain ⟨h1, h2⟩ := List.getElem?_eq_some_iff.mp hd
        rw [List.take_succ_eq_append_getElem h1, h2]
      refine ⟨rfl, .str ⟨#[d]⟩, rfl, .str (tx ss), rfl, d, _, rfl, rfl, .bl o, rfl, rfl, _, rfl, ?_⟩
      rw [bl_ne]
      cases hdd : (decide (d ∈ (tx ss).cps.toList) != o) with
      | true =>
        have hdd : (decide (d ∈ ss) != o) = true := hdd
        have ll : (((LETc.take i).filter fun c => decide (c ∈ ss) != o).map fun c => V.str ⟨#[c]⟩).length ≤ 38 := by
          rw [List.length_map]
          refine Nat.le_trans (List.length_filter_le _ _) (Nat.le_trans (List.length_take_le' _ _) (by decide +kernel))
        refine iteT ⟨.str ⟨#[d]⟩, rfl, _, e4, Nat.lt_of_le_of_lt ll (by decide), ?_, R4.wr nLp nLl, K2.put k3 k4 hL⟩
        rw [upd_same, ht, List.filter_append, List.filter_cons, hdd, if_pos rfl, List.filter_nil, List.map_append] <;> rfl
      | false =>
        have hdd : (decide (d ∈ ss) != o) = false := hdd
        refine iteF ⟨?_, R4, k4⟩
        rw [ht, List.filter_append, List.filter_cons, hdd, if_neg Bool.false_ne_true, List.filter_nil, List.append_nil]
        exact e4
    · obtain ⟨e4, R4, k4⟩ := hP
      have e5 : H4 L = some (.lst (((cls o ss).map fun c => (⟨#[c]⟩ : Str)).map V.str)) := by
        rw [e4, List.map_map]
        refine congrArg (fun z => some (HO.lst (List.map _ (List.filter _ z)))) ?_
        exact List.take_of_length_le (by decide +kernel)
      have ll : (cls o ss).length ≤ 38 := Nat.le_trans (List.length_filter_le _ _) (by decide +kernel)
      refine ⟨Str.ofString "", L, _, rfl, rfl, .inl (.inl (.inl e5)), ?_, ?_⟩
      · rw [sum_ones, show (Str.ofString "").length = 0 by decide +kernel]
        omega
      rw [Sf4.join_ones]
      refine ⟨.ref p, rfl, p, dx, _, rfl, R4.e, nD _, _, rfl, rfl, ?_⟩
      have ek : (!decide (V.str (tx (cls o ss)) = V.str (Str.ofString ""))) = !decide (cls o ss = []) := by
        cases h : cls o ss with
        | nil => rw [decide_eq_true em_eq, decide_eq_true rfl]
        | cons a r => rw [decide_eq_false em_ne, decide_eq_false (fun z => by cases z)]
      refine dem R4 ek (fun z => ⟨_, rfl, q1 _ _ (if_neg fun y => ?_) _ R4 k4⟩) fun z => (q2 (if_pos ?_)).to k4
      · rw [decide_eq_true y] at z
        cases z
      · rw [Bool.not_eq_false'] at z
        exact of_decide_eq_true z
end
end Sf6
/-! The reader with both outcomes: groups and captures. -/
namespace Sf6
open PySem PySem.Spec PyProof.Rows L2 Sf Sf4
/-- a method of the reader that reads by a function -/
def spF (C D : Addr) (d : Nat) (R : List Nat → Rd6) : Sp := fun vs H Q E => ∃ (Z : List Nat) (p dx l : Addr) (s : Nat) (nm : Nm), vs = [.ref p] ∧ d ≤ 8 ∧ RdA C Z p dx l H s nm (8 - (d : Int)) ∧
  (∀ t q nm', R Z s nm = some (t, q, nm') → ∀ v H', TrO H' v t → RdA C Z p dx l H' q nm' (8 - (d : Int)) → K2 p l H H' → Q v H') ∧ (R Z s nm = none → RzK D E p l H Z)
theorem inV_dec (n : List Nat) (nm : Nm) : inV (.str (tx n)) (nmV nm) = decide (n ∈ nm) := by
  by_cases h : n ∈ nm
  · rw [decide_eq_true h]
    refine List.any_eq_true.mpr ⟨.str (tx n), List.mem_map.mpr ⟨n, h, rfl⟩, ?_⟩
    exact beq_iff_eq.mpr rfl
  · rw [decide_eq_false h, inV_nm h]
section
variable {Z : List Nat} {C : Rd6} {s q : Nat} {nm nm' : Nm} {t : Tr}
theorem grp_nil (h : Z[s]? = some 41) : fGrp Z C s nm = some (.empty, s + 1, nm) := if_pos h
theorem grp_no (h : Z[s]? ≠ some 41) (e : C s nm = none) : fGrp Z C s nm = none := by
  unfold fGrp
  rw [if_neg h, e]
theorem grp_of (h : Z[s]? ≠ some 41) (e : C s nm = some (t, q, nm')) : fGrp Z C s nm = if Z[q]? = some 41 then some (t, q + 1, nm') else none := by
  unfold fGrp
  rw [if_neg h, e]
theorem cap_no1 (h : ¬ (okN (run sm Z s) nm = true ∧ Z[s + (run sm Z s).length]? = some 58)) : fCap Z C s nm = none := if_neg h
theorem cap_no2 (h : okN (run sm Z s) nm = true ∧ Z[s + (run sm Z s).length]? = some 58) (e : C (s + (run sm Z s).length + 1) (nm ++ [run sm Z s]) = none) : fCap Z C s nm = none := by
  unfold fCap
  rw [if_pos h, e]
theorem cap_of (h : okN (run sm Z s) nm = true ∧ Z[s + (run sm Z s).length]? = some 58) (e : C (s + (run sm Z s).length + 1) (nm ++ [run sm Z s]) = some (t, q, nm')) : fCap Z C s nm = if Z[q]? = some 62 then some (.capture (run sm Z s) t, q + 1, nm') else none := by
  unfold fCap
  rw [if_pos h, e]
end
section
variable {P : Program} {w : World} {K : PySem.W.Frag} {mg : Str → Option Value} {base : Heap} {C : Addr} {f : Nat → Addr} {fd : Nat → FuncData} {tk : Nat → Tok} {cd : Addr} {ces : Array DictEntry} {cn : Nat} {ct : Nat → Addr} {D fB : Addr} {dB : FuncData}
theorem ok_grp6 (T : RT K w mg C f fd tk cd ces cn ct) (B : Bad P w K mg base 1 D fB dB) {k d : Nat} (hk : 3 ≤ k) (G : FnOk P w K mg base (L2.CX P w) k (f 5) (fd 5) ["self"] (spF C D d fun Z => fC Z d)) : FnOk P w K mg base (L2.CX P w) (k + 1) (f 10) (fd 10) ["self"] (spF C D d fun Z => fGrp Z (fC Z d)) := by
  refine T.mGroup.F.okX scGroup (fun vs H Q E h => ?_) (fun cdv A outer s H vs Q E hr h => ?_)
  · obtain ⟨Z, p, dx, l, s, nm, rfl, _⟩ := h
    rfl
  · obtain ⟨Z, p, dx, l, s, nm, rfl, hd, R, q1, q2⟩ := h
    have GK := ok_skips (P := P) (base := base) T
    have GD := ok_demand6 T B
    have h2 : 2 ≤ k := Nat.le_trans (by decide) hk
    refine ⟨_, pss_cons (ps_if (pt_val (pe_meth (pv 0) T.cl T.mSkips.m GK (hr.mono h2) T.mSkips.b .nil pass0 (pa_cons pe_str pa_nil))) (pss_one (ps_ret (pe_tup (pa_cons (pe_glob (v := .str emW) rfl T.gEm ⟨_, rfl⟩) pa_nil)))) pss_nil)
      (pss_cons (ps_set (i := 1) scGroup.nd rfl (.inl rfl) (pe_meth0 (pv 0) T.cl T.mChoice.m G hr T.mChoice.b .nil (passes_call (takes_of rfl rfl rfl rfl) (fun _ _ _ _ h => h))))
      (pss_cons (ps_expr (pe_meth (pv 0) T.cl T.mDemand.m GD (hr.mono hk) T.mDemand.b .nil (passes_call (takes_of rfl rfl rfl rfl) (fun _ _ _ _ h => h)) (pa_cons (pe_meth (pv 0) T.cl T.mSkips.m GK (hr.mono h2) T.mSkips.b .nil pass0 (pa_cons pe_str pa_nil)) pa_nil)))
      (pss_one (ps_ret (pv 1))))), ?_⟩
    have nC : ∀ s' m', (rf Z s' l m').lookup ("read_choice" : Str) = none := fun _ _ => rf_no (by decide +kernel) (by decide +kernel) (by decide +kernel) (by decide +kernel)
    have nD : ∀ s' m', (rf Z s' l m').lookup ("demand" : Str) = none := fun _ _ => rf_no (by decide +kernel) (by decide +kernel) (by decide +kernel) (by decide +kernel)
    have nK : ∀ s' m', (rf Z s' l m').lookup ("skips" : Str) = none := fun _ _ => rf_no (by decide +kernel) (by decide +kernel) (by decide +kernel) (by decide +kernel)
    refine ⟨.ref p, rfl, p, dx, _, rfl, R.e, nK _ _, Z, p, dx, l, s, nm, _, 41, rfl, R, fun z H1 R1 k1 => ⟨true, rfl, iteT ?_⟩, fun z => ⟨false, rfl, iteF ?_⟩⟩
    · exact ⟨(show 1 ≤ sizeLine by decide), fun b hb => q1 _ _ _ (grp_nil z) _ _ (.empty upd_same) (R1.up (smU hb)) (k1.trans (K2.same (smU hb)))⟩
    · refine ⟨.ref p, rfl, p, dx, _, rfl, R.e, nC _ _, Z, p, dx, l, s, nm, rfl, hd, R, fun t r nm' e1 v H1 o1 R1 k1 => ?_, fun e1 => q2 (grp_no z e1)⟩
      refine ⟨.ref p, rfl, p, dx, _, rfl, R1.e, nD _ _, .ref p, rfl, p, dx, _, rfl, R1.e, nK _ _, Z, p, dx, l, r, nm', _, 41, rfl, R1, fun z2 H2 R2 k2 => ?_, fun z2 => ?_⟩
      · exact dem (c := true) R2 rfl (fun _ => ⟨v, rfl, q1 _ _ _ ((grp_of z e1).trans (if_pos z2)) v H2 (o1.mono (R1.kt k2)) R2 (k1.trans k2)⟩) fun z => nomatch z
      · exact dem (c := false) R1 rfl (fun z => nomatch z) fun _ => (q2 ((grp_of z e1).trans (if_neg z2))).to k1
theorem ok_cap6 (T : RT K w mg C f fd tk cd ces cn ct) (B : Bad P w K mg base 1 D fB dB) {k d : Nat} (hk : 3 ≤ k) (G : FnOk P w K mg base (L2.CX P w) k (f 5) (fd 5) ["self"] (spF C D d fun Z => fC Z d)) : FnOk P w K mg base (L2.CX P w) (k + 1) (f 11) (fd 11) ["self"] (spF C D d fun Z => fCap Z (fC Z d)) := by
  refine T.mCapture.F.okX scCapture (fun vs H Q E h => ?_) (fun cdv A outer s H vs Q E hr h => ?_)
  · obtain ⟨Z, p, dx, l, s, nm, rfl, _⟩ := h
    rfl
  · obtain ⟨Z, p, dx, l, s, nm, rfl, hd, R, q1, q2⟩ := h
    have GS := ok_sign (P := P) (base := base) T
    have GK := ok_skips (P := P) (base := base) T
    have GD := ok_demand6 T B
    have h1 : 1 ≤ k := Nat.le_trans (by decide) hk
    have h2 : 2 ≤ k := Nat.le_trans (by decide) hk
    have hZ := R.z
    refine ⟨_, pss_cons (ps_set (i := 1) scCapture.nd rfl (.inl rfl) (pe_fld (pv 0) rfl))
      (Evl.pss_cut (ps_while (passes_of rfl) (PW.pt (pw_and (pt_cmpR op_ne (pe_meth0 (pv 0) T.cl T.mSign.m GS (hr.mono h1) T.mSign.b .nil pass0) pe_str (nomark _))
          (pw_and1 (pt_cmpR op_in_sign (pe_meth0 (pv 0) T.cl T.mSign.m GS (hr.mono h1) T.mSign.b .nil pass0) (pe_glob (v := .str (Str.ofString "abcdefghijklmnopqrstuvwxyz")) rfl T.gSma ⟨_, rfl⟩) rfl))))
        (pss_one (ps_fldaug (pv 0) pe_int in_add)))
      (pss_cons (ps_set (i := 2) scCapture.nd rfl (.inl rfl) (pe_slice sl_str (pe_fld (pv 0) rfl) (po_some (pv 1)) (po_some (pe_fld (pv 0) rfl))))
      (Evl.pss_cut (ps_expr (pe_meth (pv 0) T.cl T.mDemand.m GD (hr.mono hk) T.mDemand.b .nil (passes_call (takes_of rfl rfl rfl rfl) (fun _ _ _ _ h => h)) (pa_cons
          (pe_and (pe_chain op_le op_le pe_int (pe_callB call_len_str (by rfl) T.zlen PySem.boot_len (pa_cons (pv 2) pa_nil)) (pe_glob (v := .int 8) rfl T.gMN ⟨_, rfl⟩))
            (pe_and (pe_cmpR op_notIn_seq (pv 2) (pe_fld (pv 0) rfl) rfl) (pe_one (pe_meth (pv 0) T.cl T.mSkips.m GK (hr.mono h2) T.mSkips.b .nil pass0 (pa_cons pe_str pa_nil))))) pa_nil)))
      (pss_cons (ps_expr (pe_bm PySem.F.plainAttrs_list PySem.F.slot_list_append PySem.F.type_list_append mt_append (pe_fld (pv 0) rfl) (pa_cons (pv 2) pa_nil)))
      (pss_cons (ps_set (i := 3) scCapture.nd rfl (.inl rfl) (pe_meth0 (pv 0) T.cl T.mChoice.m G hr T.mChoice.b .nil (passes_call (takes_of rfl rfl rfl rfl) (fun _ _ _ _ h => h))))
      (pss_cons (ps_expr (pe_meth (pv 0) T.cl T.mDemand.m GD (hr.mono hk) T.mDemand.b .nil (passes_call (takes_of rfl rfl rfl rfl) (fun _ _ _ _ h => h)) (pa_cons (pe_meth (pv 0) T.cl T.mSkips.m GK (hr.mono h2) T.mSkips.b .nil pass0 (pa_cons pe_str pa_nil)) pa_nil)))
      (pss_one (ps_ret (pe_tup (pa_cons (pe_glob (v := .str caW) rfl T.gCa ⟨_, rfl⟩) (pa_cons (pv 2) (pa_cons (pv 3) pa_nil)))))))))))), ?_⟩
    have nC : ∀ s' m', (rf Z s' l m').lookup ("read_choice" : Str) = none := fun _ _ => rf_no (by decide +kernel) (by decide +kernel) (by decide +kernel) (by decide +kernel)
    have nS : ∀ s' m', (rf Z s' l m').lookup ("sign" : Str) = none := fun _ _ => rf_no (by decide +kernel) (by decide +kernel) (by decide +kernel) (by decide +kernel)
    have nD : ∀ s' m', (rf Z s' l m').lookup ("demand" : Str) = none := fun _ _ => rf_no (by decide +kernel) (by decide +kernel) (by decide +kernel) (by decide +kernel)
    have nK : ∀ s' m', (rf Z s' l m').lookup ("skips" : Str) = none := fun _ _ => rf_no (by decide +kernel) (by decide +kernel) (by decide +kernel) (by decide +kernel)
    refine ⟨.ref p, rfl, p, C, dx, _, _, rfl, R.e, T.cl, T.nSp, rf_spot, ?_⟩
    refine ⟨fun σ H1 => σ = [some (.ref p), some (.int s), none, none] ∧ RdA C Z p dx l H1 (s + (run sm Z s).length) nm (8 - (d : Int)) ∧ K2 p l H H1, ?_, fun σ H1 hM => ?_⟩
    · refine ⟨fun n σ H1 => ∃ s1, n = s + (run sm Z s).length - s1 ∧ s ≤ s1 ∧ s1 ≤ s + (run sm Z s).length ∧ σ = [some (.ref p), some (.int s), none, none] ∧ RdA C Z p dx l H1 s1 nm (8 - (d : Int)) ∧ K2 p l H H1, ⟨_, s, rfl, Nat.le_refl _, Nat.le_add_right _ _, rfl, R, K2.refl _ _ _⟩, ?_⟩
      rintro n σ H1 ⟨s1, rfl, ha, hb, rfl, R1, k1⟩
      refine ⟨.ref p, rfl, p, dx, _, rfl, R1.e, nS _ _, Z, p, dx, l, s1, nm, _, rfl, R1, rfl, _, rfl, ?_⟩
      by_cases hlt : s1 < s + (run sm Z s).length
      · obtain ⟨c, hz, hdd⟩ := run_in sm Z s s1 ha hlt
        rw [sg_some hz, decide_eq_false em_ne]
        refine iteT ⟨.ref p, rfl, p, dx, _, rfl, R1.e, nS _ _, Z, p, dx, l, s1, nm, _, rfl, R1, c, _, by rw [sg_some hz] <;> rfl, rfl, _, rfl, ?_⟩
        rw [decide_eq_true ((sm_iff c).mpr hdd)]
        refine iteT ⟨fun σ' H' => ∃ s2, s2 = s1 + 1 ∧ σ' = [some (.ref p), some (.int s), none, none] ∧ RdA C Z p dx l H' s2 nm _ ∧ K2 p l H H', fun σ' H' ⟨s2, h1, h2, h3, h4⟩ => ⟨s + (run sm Z s).length - s2, by omega, s2, rfl, by omega, by omega, h2, h3, h4⟩, ?_⟩
        refine ⟨.ref p, rfl, p, C, dx, _, _, rfl, R1.e, T.cl, T.nSp, rf_spot, _, _, rfl, rfl, dx, _, R1.e, (show 4 < 1000 by decide), ?_⟩
        exact ⟨s1 + 1, rfl, rfl, R1.spot (s1 + 1) (Nat.le_succ s1), k1.trans K2.p⟩
      · obtain rfl : s1 = s + (run sm Z s).length := by omega
        cases hz : Z[s + (run sm Z s).length]? with
        | none =>
          rw [sg_none hz, decide_eq_true em_eq]
          exact iteF (iteF ⟨rfl, R1, k1⟩)
        | some c =>
          rw [sg_some hz, decide_eq_false em_ne]
          refine iteT ⟨.ref p, rfl, p, dx, _, rfl, R1.e, nS _ _, Z, p, dx, l, _, nm, _, rfl, R1, c, _, by rw [sg_some hz] <;> rfl, rfl, _, rfl, ?_⟩
          have := run_end sm Z s c hz
          rw [decide_eq_false fun z => by rw [(sm_iff c).mp z] at this; cases this]
          exact iteF ⟨rfl, R1, k1⟩
    obtain ⟨rfl, R1, k1⟩ := hM
    refine ⟨.ref p, rfl, p, C, dx, _, _, rfl, R1.e, T.cl, T.nStr, rf_string, .int s, rfl, s, rfl, .ref p, rfl, p, C, dx, _, _, rfl, R1.e, T.cl, T.nSp, rf_spot, _, rfl, tx Z, rfl, tx_len60 R.z, ?_⟩
    rw [cut_sub, run_cut]
    have hle : (run sm Z s).length ≤ 60 := Nat.le_trans (List.takeWhile_prefix sm).length_le (Nat.le_trans (by rw [List.length_drop]; omega) R.z)
    have n1 := fun h => (q2 (cap_no1 h)).to k1
    have n2 := fun h e => q2 (cap_no2 h e)
    have y1 := fun {t q nm'} h (e : fC Z d _ _ = some (t, q, nm')) => cap_of (C := fC Z d) (nm := nm) (Z := Z) (s := s) h e
    clear hk
    generalize s + (run sm Z s).length = e at *
    generalize run sm Z s = W at *
    have hl : (tx W).length = W.length := tx_len _
    have hL : (tx W).length ≤ sizeLine := by
      rw [hl]
      exact Nat.le_trans hle (by decide)
    refine ⟨fun σ H2 => okN W nm = true ∧ Z[e]? = some 58 ∧ RdA C Z p dx l H2 (e + 1) nm (8 - (d : Int)) ∧ K2 p l H H2 ∧ σ = [some (.ref p), some (.int s), some (.str (tx W)), none], ?_, fun σ H2 hM => ?_⟩
    · refine ⟨.ref p, rfl, p, dx, _, rfl, R1.e, nD _ _, .str (tx W), rfl, tx W, rfl, hL, _, _, rfl, rfl, _, rfl, ?_⟩
      by_cases a1 : 1 ≤ W.length
      · rw [decide_eq_true (show (1 : Int) ≤ ((tx W).length : Int) by rw [hl]; omega)]
        refine iteT ⟨_, _, rfl, rfl, ?_⟩
        show ∃ c, V.bl (decide (((tx W).length : Int) ≤ 8)) = .bl c ∧ _
        by_cases a2 : W.length ≤ 8
        · rw [decide_eq_true (show ((tx W).length : Int) ≤ 8 by rw [hl]; omega)]
          refine ⟨true, rfl, iteT ⟨.str (tx W), rfl, .ref p, rfl, p, C, dx, _, _, rfl, R1.e, T.cl, T.nNm, rf_names, l, nmV nm, rfl, .inl (.inl (.inl R1.n)), rfl, ?_, ?_⟩⟩
          · exact List.all_eq_true.mpr fun y hy => by
              obtain ⟨m, _, rfl⟩ := List.mem_map.mp hy
              rfl
          rw [inV_dec]
          by_cases a3 : W ∈ nm
          · rw [decide_eq_true a3]
            exact ⟨false, rfl, iteF (dem (c := false) R1 rfl (fun z => nomatch z) fun _ => n1 fun z => by
              have z := z.1
              unfold okN at z
              rw [Bool.and_eq_true, decide_eq_true_iff, decide_eq_true_iff] at z
              exact z.2 a3)⟩
          · rw [decide_eq_false a3]
            have ok : okN W nm = true := by
              unfold okN
              rw [decide_eq_true (show 1 ≤ W.length ∧ W.length ≤ 8 from ⟨a1, a2⟩), decide_eq_true a3] <;> rfl
            refine ⟨true, rfl, iteT ⟨.ref p, rfl, p, dx, _, rfl, R1.e, nK _ _, Z, p, dx, l, e, nm, _, 58, rfl, R1, fun z H2 R2 k2 => ?_, fun z => ?_⟩⟩
            · exact dem (c := true) R2 rfl (fun _ => ⟨ok, z, R2, k1.trans k2, rfl⟩) fun z => nomatch z
            · exact dem (c := false) R1 rfl (fun z => nomatch z) fun _ => n1 fun y => z y.2
        · rw [decide_eq_false (show ¬ (((tx W).length : Int) ≤ 8) by rw [hl]; omega)]
          exact ⟨false, rfl, iteF (dem (c := false) R1 rfl (fun z => nomatch z) fun _ => n1 fun z => by
              have z := z.1
              unfold okN at z
              rw [Bool.and_eq_true, decide_eq_true_iff] at z
              exact a2 z.1.2)⟩
      · rw [decide_eq_false (show ¬ ((1 : Int) ≤ ((tx W).length : Int)) by rw [hl]; omega)]
        exact iteF ⟨_, rfl, iteF (dem (c := false) R1 rfl (fun z => nomatch z) fun _ => n1 fun z => by
              have z := z.1
              unfold okN at z
              rw [Bool.and_eq_true, decide_eq_true_iff] at z
              exact a1 z.1.1)⟩
    obtain ⟨ok, h58, R2, k2, rfl⟩ := hM
    have hnm : nm.length < e + 1 := Nat.lt_succ_of_le R1.k
    have hrZ := lt6 h58
    refine ⟨.ref p, rfl, p, C, dx, _, _, rfl, R2.e, T.cl, T.nNm, rf_names, .inl ⟨rfl, _, .inl (.inl R2.n)⟩, .str (tx W), rfl, l, _, _, rfl, rfl, R2.n, Nat.lt_of_le_of_lt (show (nmV nm).length ≤ 60 by unfold nmV; rw [List.length_map]; omega) (by decide), ?_⟩
    have R3 := R2.nam W hnm
    refine ⟨.ref p, rfl, p, dx, _, rfl, R3.e, nC _ _, Z, p, dx, l, e + 1, nm ++ [W], rfl, hd, R3, fun t r nm' e1 v H4 o4 R4 k4 => ?_, fun e1 => ((n2 ⟨ok, h58⟩ e1).to k2).to K2.l⟩
    have k24 := k2.trans (K2.l.trans k4)
    refine ⟨.ref p, rfl, p, dx, _, rfl, R4.e, nD _ _, .ref p, rfl, p, dx, _, rfl, R4.e, nK _ _, Z, p, dx, l, r, nm', _, 62, rfl, R4, fun z H5 R5 k5 => ?_, fun z => ?_⟩
    · refine dem (c := true) R5 rfl (fun _ => ⟨.str (tx W), rfl, v, rfl, (show 3 ≤ sizeLine by decide), fun b hb => ?_⟩) fun z => nomatch z
      exact q1 _ _ _ ((y1 ⟨ok, h58⟩ e1).trans (if_pos z)) _ _ (.capture upd_same ((o4.mono (R4.kt k5)).mono (KT.same (smU hb)))) (R5.up (smU hb)) ((k24.trans k5).trans (K2.same (smU hb)))
    · exact dem (c := false) R4 rfl (fun z => nomatch z) fun _ => (q2 ((y1 ⟨ok, h58⟩ e1).trans (if_neg z))).to k24
end
end Sf6
/-! The reader with both outcomes: units. -/
namespace Sf6
open PySem PySem.Spec PyProof.Rows L2 Sf Sf4
theorem fU_is (Z : List Nat) (d : Nat) : ∃ can C, fU Z d = fUnit Z can C ∧ (can = decide (0 < d)) ∧ (∀ e, d = e + 1 → C = fC Z e) := by
  cases d with
  | zero => exact ⟨false, nope, rfl, rfl, fun e h => by cases h⟩
  | succ e => exact ⟨true, fC Z e, rfl, (decide_eq_true (Nat.succ_pos e)).symm, fun e' h => by cases h; rfl⟩
theorem u_end {Z : List Nat} {can : Bool} {C : Rd6} {p : Nat} {nm : Nm} (h : Z[p]? = none) : fUnit Z can C p nm = none := by
  unfold fUnit
  rw [h]
theorem u_some {Z : List Nat} {can : Bool} {C : Rd6} {p c : Nat} {nm : Nm} (h : Z[p]? = some c) : fUnit Z can C p nm = if c ∈ LETc then some (.place [c], p + 1, nm) else if c = 46 then some (.place LETc, p + 1, nm) else if c = 91 then (match fCls Z (p + 1) with
      | none => none
      | some (s, q) => some (.place s, q, nm))
    else if (c = 40 ∨ c = 60) ∧ can = true then (if c = 40 then fGrp Z C (p + 1) nm else fCap Z C (p + 1) nm) else none := by
  unfold fUnit
  rw [h] <;> rfl
def spIn6 (C D : Addr) (R : List Nat → Nat → Rd6) : Nat → Sp
  | 0 => spNo
  | d + 1 => spF C D d fun Z => R Z d
section
variable {P : Program} {w : World} {K : PySem.W.Frag} {mg : Str → Option Value} {base : Heap} {C : Addr} {f : Nat → Addr} {fd : Nat → FuncData} {tk : Nat → Tok} {cd : Addr} {ces : Array DictEntry} {cn : Nat} {ct : Nat → Addr} {D fB : Addr} {dB : FuncData}
theorem ok_no6 {k : Nat} {g : Addr} {gd : FuncData} {ps : List Str} : FnOk P w K mg base (L2.CX P w) k g gd ps spNo := ⟨fun _ _ _ _ h => h.elim, fun _ _ _ _ _ _ _ _ _ _ _ _ _ h => h.elim⟩
theorem ok_unit6 (T : RT K w mg C f fd tk cd ces cn ct) (B : Bad P w K mg base 1 D fB dB) {k d : Nat} (hk : 5 ≤ k) (GG : FnOk P w K mg base (L2.CX P w) k (f 10) (fd 10) ["self"] (spIn6 C D (fun Z d => fGrp Z (fC Z d)) d))
    (GC : FnOk P w K mg base (L2.CX P w) k (f 11) (fd 11) ["self"] (spIn6 C D (fun Z d => fCap Z (fC Z d)) d)) : FnOk P w K mg base (L2.CX P w) (k + 1) (f 9) (fd 9) ["self"] (spF C D d fun Z => fU Z d) := by
  refine T.mUnit.F.okX scUnit (fun vs H Q E h => ?_) (fun cdv A outer s H vs Q E hr h => ?_)
  · obtain ⟨Z, p, dx, l, s, nm, rfl, _⟩ := h
    rfl
  · obtain ⟨Z, p, dx, l, s, nm, rfl, hd, R, q1, q2⟩ := h
    dsimp only at q1 q2
    have GS := ok_sign (P := P) (base := base) T
    have GD := ok_demand6 T B
    have GL := ok_cls6 T B
    have h1 : 1 ≤ k := Nat.le_trans (by decide) hk
    have h3 : 3 ≤ k := Nat.le_trans (by decide) hk
    refine ⟨_, pss_cons (ps_set (i := 1) scUnit.nd rfl (.inl rfl) (pe_meth0 (pv 0) T.cl T.mSign.m GS (hr.mono h1) T.mSign.b .nil pass0))
      (Evl.pss_cut (ps_expr (pe_meth (pv 0) T.cl T.mDemand.m GD (hr.mono h3) T.mDemand.b .nil (passes_call (takes_of rfl rfl rfl rfl) (fun _ _ _ _ h => h)) (pa_cons (pe_cmpR op_ne (pv 1) pe_str (nomark _)) pa_nil)))
      (pss_cons (ps_fldaug (pv 0) pe_int in_add)
      (pss_cons (ps_if (pt_cmpR op_inS (pv 1) (pe_glob (v := .str LSs) rfl T.gLet ⟨_, rfl⟩) rfl) (pss_one (ps_ret (pe_tup (pa_cons (pe_glob (v := .str plW) rfl T.gPl ⟨_, rfl⟩) (pa_cons (pv 1) pa_nil))))) pss_nil)
      (pss_cons (ps_if (pt_cmpR op_eq (pv 1) pe_str (nomark _)) (pss_one (ps_ret (pe_tup (pa_cons (pe_glob (v := .str plW) rfl T.gPl ⟨_, rfl⟩) (pa_cons (pe_glob (v := .str LSs) rfl T.gLet ⟨_, rfl⟩) pa_nil))))) pss_nil)
      (pss_cons (ps_if (pt_cmpR op_eq (pv 1) pe_str (nomark _)) (pss_one (ps_ret (pe_tup (pa_cons (pe_glob (v := .str plW) rfl T.gPl ⟨_, rfl⟩) (pa_cons (pe_meth0 (pv 0) T.cl T.mClass.m GL (hr.mono hk) T.mClass.b .nil (passes_call (takes_of rfl rfl rfl rfl) (fun _ _ _ _ h => h))) pa_nil))))) pss_nil)
      (Evl.pss_cut (ps_expr (pe_meth (pv 0) T.cl T.mDemand.m GD (hr.mono h3) T.mDemand.b .nil (passes_call (takes_of rfl rfl rfl rfl) (fun _ _ _ _ h => h)) (pa_cons
          (pe_and (pe_cmpR op_inS (pv 1) pe_str rfl) (pe_one (pe_cmpR op_lt (pe_fld (pv 0) rfl) (pe_glob (v := .int 8) rfl T.gMO ⟨_, rfl⟩) (nomark _)))) pa_nil)))
      (pss_cons (ps_fldaug (pv 0) pe_int in_add)
      (pss_cons (ps_set (i := 2) scUnit.nd rfl (.inl rfl) (pe_ifExp (pt_cmpR op_eq (pv 1) pe_str (nomark _)) (pe_meth0 (pv 0) T.cl T.mGroup.m GG hr T.mGroup.b .nil (passes_call (takes_of rfl rfl rfl rfl) (fun _ _ _ _ h => h))) (pe_meth0 (pv 0) T.cl T.mCapture.m GC hr T.mCapture.b .nil (passes_call (takes_of rfl rfl rfl rfl) (fun _ _ _ _ h => h)))))
      (pss_cons (ps_fldaug (pv 0) pe_int in_sub)
      (pss_one (ps_ret (pv 2)))))))))))), ?_⟩
    have nS : ∀ s' m', (rf Z s' l m').lookup ("sign" : Str) = none := fun _ _ => rf_no (by decide +kernel) (by decide +kernel) (by decide +kernel) (by decide +kernel)
    have nD : ∀ s' m', (rf Z s' l m').lookup ("demand" : Str) = none := fun _ _ => rf_no (by decide +kernel) (by decide +kernel) (by decide +kernel) (by decide +kernel)
    have nG : ∀ s' m', (rf Z s' l m').lookup ("read_group" : Str) = none := fun _ _ => rf_no (by decide +kernel) (by decide +kernel) (by decide +kernel) (by decide +kernel)
    have nC : ∀ s' m', (rf Z s' l m').lookup ("read_capture" : Str) = none := fun _ _ => rf_no (by decide +kernel) (by decide +kernel) (by decide +kernel) (by decide +kernel)
    have nL : ∀ s' m', (rf Z s' l m').lookup ("read_class" : Str) = none := fun _ _ => rf_no (by decide +kernel) (by decide +kernel) (by decide +kernel) (by decide +kernel)
    obtain ⟨can, Ci, eU, hcan, hCi⟩ := fU_is Z d
    rw [eU] at q1 q2
    refine ⟨.ref p, rfl, p, dx, _, rfl, R.e, nS _ _, Z, p, dx, l, s, nm, _, rfl, R, ?_⟩
    refine ⟨fun σ H2 => ∃ c, Z[s]? = some c ∧ H = H2 ∧ σ = [some (.ref p), some (.str (tx [c])), none], ?_, fun σ H2 hM => ?_⟩
    · cases hz : Z[s]? with
      | none =>
        rw [sg_none hz]
        refine ⟨.ref p, rfl, p, dx, _, rfl, R.e, nD _ _, _, rfl, rfl, ?_⟩
        exact dem (c := false) R (by rw [decide_eq_true em_eq] <;> rfl) (fun z => nomatch z) fun _ => q2 (u_end hz)
      | some c =>
        rw [sg_some hz]
        refine ⟨.ref p, rfl, p, dx, _, rfl, R.e, nD _ _, _, rfl, rfl, ?_⟩
        exact dem (c := true) R (by rw [decide_eq_false em_ne] <;> rfl) (fun _ => ⟨c, rfl, rfl, rfl⟩) fun z => nomatch z
    obtain ⟨c, hz, rfl, rfl⟩ := hM
    rw [u_some hz] at q1 q2
    refine ⟨.ref p, rfl, p, C, dx, _, _, rfl, R.e, T.cl, T.nSp, rf_spot, _, _, rfl, rfl, dx, _, R.e, (show 4 < 1000 by decide), ?_⟩
    have R1 := R.spot (s + 1) (Nat.le_succ s)
    have k1 : K2 p l H (upd H p (.ins C dx (putF "spot" (.int ((s + 1 : Nat) : Int)) (rf Z s l (8 - (d : Int)))))) := K2.p
    have e1 : (upd H p (.ins C dx (putF "spot" (.int ((s : Int) + 1)) (rf Z s l (8 - (d : Int)))))) = (upd H p (.ins C dx (putF "spot" (.int ((s + 1 : Nat) : Int)) (rf Z s l (8 - (d : Int)))))) := rfl
    rw [e1]
    generalize upd H p (.ins C dx (putF "spot" (.int ((s + 1 : Nat) : Int)) (rf Z s l (8 - (d : Int))))) = H1 at R1 k1 ⊢
    refine ⟨.str (tx [c]), rfl, c, _, rfl, rfl, _, rfl, ?_⟩
    have neq : ∀ {c d : Nat}, c ≠ d → ¬ (V.str (tx [c]) = V.str (tx [d])) := fun h z => h (List.cons.inj (tx_inj (V.str.inj z))).1
    have s46 : V.str (Str.ofString ".") = V.str (tx [46]) := by decide +kernel
    have s91 : V.str (Str.ofString "[") = V.str (tx [91]) := by decide +kernel
    have s40 : V.str (Str.ofString "(") = V.str (tx [40]) := by decide +kernel
    by_cases c1 : c ∈ LETc
    · rw [if_pos c1] at q1
      rw [decide_eq_true (inLS.mpr c1)]
      exact iteT ⟨.str (tx [c]), rfl, (show 2 ≤ sizeLine by decide), fun b hb => q1 _ _ _ rfl _ _ (.place upd_same) (R1.up (smU hb)) (k1.trans (K2.same (smU hb)))⟩
    rw [if_neg c1] at q1 q2
    rw [decide_eq_false fun z => c1 (inLS.mp z)]
    refine iteF ⟨_, rfl, rfl, _, rfl, ?_⟩
    by_cases c2 : c = 46
    · rw [if_pos c2] at q1
      subst c2
      rw [s46, decide_eq_true rfl]
      refine iteT ⟨(show 2 ≤ sizeLine by decide), fun b hb => q1 _ _ _ rfl _ _ (.place ?_) (R1.up (smU hb)) (k1.trans (K2.same (smU hb)))⟩
      rw [upd_same, show LSs = tx LETc by decide +kernel]
    rw [if_neg c2] at q1 q2
    rw [s46, decide_eq_false (neq c2)]
    refine iteF ⟨_, rfl, rfl, _, rfl, ?_⟩
    by_cases c3 : c = 91
    · rw [if_pos c3] at q1 q2
      subst c3
      rw [s91, decide_eq_true rfl]
      refine iteT ⟨.ref p, rfl, p, dx, _, rfl, R1.e, nL _ _, Z, p, dx, l, s + 1, _, _, rfl, R1, fun ss r e1 H2 R2 k2 => ?_, fun e1 => ?_⟩
      · rw [e1] at q1
        exact ⟨(show 2 ≤ sizeLine by decide), fun b hb => q1 _ _ _ rfl _ _ (.place upd_same) (R2.up (smU hb)) ((k1.trans k2).trans (K2.same (smU hb)))⟩
      · rw [e1] at q2
        exact (q2 rfl).to k1
    rw [if_neg c3] at q1 q2
    rw [s91, decide_eq_false (neq c3)]
    refine iteF ?_
    refine ⟨fun σ H2 => (c = 40 ∨ c = 60) ∧ (∃ e, d = e + 1) ∧ H1 = H2 ∧ σ = [some (.ref p), some (.str (tx [c])), none], ?_, fun σ H2 hM => ?_⟩
    · refine ⟨.ref p, rfl, p, dx, _, rfl, R1.e, nD _ _, .str (tx [c]), rfl, c, _, rfl, rfl, ?_⟩
      by_cases cc : c = 40 ∨ c = 60
      · rw [decide_eq_true (op_cps.mpr cc)]
        refine ⟨true, rfl, iteT ⟨.ref p, rfl, p, C, dx, _, _, rfl, R1.e, T.cl, T.nMo, rf_open, _, _, rfl, rfl, ?_⟩⟩
        refine dem (c := decide (0 < d)) R1 (decide_eq_decide.mpr (by omega)) (fun z => ⟨cc, ⟨d - 1, ?_⟩, rfl, rfl⟩) fun z => (q2 (if_neg fun y => ?_)).to k1
        · have := of_decide_eq_true z
          omega
        · rw [← hcan, y.2] at z
          cases z
      · rw [decide_eq_false fun z => cc (op_cps.mp z)]
        exact ⟨false, rfl, iteF (dem (c := false) R1 rfl (fun z => nomatch z) fun _ => (q2 (if_neg fun y => cc y.1)).to k1)⟩
    obtain ⟨cc, ⟨d', rfl⟩, rfl, rfl⟩ := hM
    obtain rfl := hCi d' rfl
    rw [if_pos ⟨cc, hcan.trans (decide_eq_true (Nat.succ_pos _))⟩] at q1 q2
    refine ⟨.ref p, rfl, p, C, dx, _, _, rfl, R1.e, T.cl, T.nMo, rf_open, _, _, rfl, rfl, dx, _, R1.e, (show 4 < 1000 by decide), ?_⟩
    have em : (8 - ((d' + 1 : Nat) : Int)) + 1 = 8 - (d' : Int) := by omega
    rw [em]
    have R2 := R1.opn (8 - (d' : Int))
    have k2 : K2 p l H _ := k1.trans (K2.p (o := .ins C dx (putF "many_open" (.int (8 - (d' : Int))) (rf Z (s + 1) l (8 - ((d' + 1 : Nat) : Int))))))
    generalize upd H1 p (.ins C dx (putF "many_open" (.int (8 - (d' : Int))) (rf Z (s + 1) l (8 - ((d' + 1 : Nat) : Int))))) = H2 at R2 k2 ⊢
    have em2 : (8 - (d' : Int)) - 1 = 8 - ((d' + 1 : Nat) : Int) := by omega
    refine ⟨_, rfl, rfl, _, rfl, ?_⟩
    by_cases c4 : c = 40
    · rw [if_pos c4] at q1 q2
      subst c4
      rw [s40, decide_eq_true rfl]
      refine iteT ⟨.ref p, rfl, p, dx, _, rfl, R2.e, nG _ _, Z, p, dx, l, s + 1, nm, rfl, by omega, R2, fun t e nm' ee v H3 o3 R3 k3 => ?_, fun ee => (q2 ee).to k2⟩
      refine ⟨.ref p, rfl, p, C, dx, _, _, rfl, R3.e, T.cl, T.nMo, rf_open, _, _, rfl, rfl, dx, _, R3.e, (show 4 < 1000 by decide), v, rfl, ?_⟩
      rw [em2]
      exact q1 _ _ _ ee v _ (o3.mono (R3.kt K2.p)) (R3.opn _) ((k2.trans k3).trans K2.p)
    · rw [if_neg c4] at q1 q2
      rw [s40, decide_eq_false (neq c4)]
      refine iteF ⟨.ref p, rfl, p, dx, _, rfl, R2.e, nC _ _, Z, p, dx, l, s + 1, nm, rfl, by omega, R2, fun t e nm' ee v H3 o3 R3 k3 => ?_, fun ee => (q2 ee).to k2⟩
      refine ⟨.ref p, rfl, p, C, dx, _, _, rfl, R3.e, T.cl, T.nMo, rf_open, _, _, rfl, rfl, dx, _, R3.e, (show 4 < 1000 by decide), v, rfl, ?_⟩
      rw [em2]
      exact q1 _ _ _ ee v _ (o3.mono (R3.kt K2.p)) (R3.opn _) ((k2.trans k3).trans K2.p)
end
end Sf6
/-! The reader with both outcomes: items. -/
namespace Sf6
open PySem PySem.Spec PyProof.Rows L2 Sf Sf4
def leO (a : Nat) : Option Nat → Bool
  | none => true
  | some b => decide (a ≤ b)
def cntR (Z : List Nat) (a : Nat) (b : Option Nat) (t : Tr) (r : Nat) (nm : Nm) : Option (Tr × Nat × Nm) := if Z[r]? = some 125 ∧ leO a b = true then some (.count a b t, r + 1, nm) else none
section
variable {Z : List Nat} {t : Tr} {q a r b s : Nat} {nm : Nm}
theorem cnt_a (h : fNum Z (q + 1) = none) : fCnt Z t q nm = none := by
  unfold fCnt
  rw [h]
theorem cnt_b (h : fNum Z (q + 1) = some (a, r)) (h44 : Z[r]? ≠ some 44) : fCnt Z t q nm = cntR Z a (some a) t r nm := by
  unfold fCnt
  rw [h]
  dsimp only
  rw [if_neg h44]
  unfold cntR
  by_cases h1 : Z[r]? = some 125
  · rw [if_pos h1, if_pos ⟨h1, decide_eq_true (Nat.le_refl a)⟩]
  · rw [if_neg h1, if_neg fun z => h1 z.1]
theorem cnt_c (h : fNum Z (q + 1) = some (a, r)) (h44 : Z[r]? = some 44) (h125 : Z[r + 1]? = some 125) : fCnt Z t q nm = cntR Z a none t (r + 1) nm := by
  unfold fCnt
  rw [h]
  dsimp only
  rw [if_pos h44, if_pos h125]
  exact (if_pos ⟨h125, rfl⟩).symm
theorem cnt_d (h : fNum Z (q + 1) = some (a, r)) (h44 : Z[r]? = some 44) (h125 : Z[r + 1]? ≠ some 125) (h2 : fNum Z (r + 1) = none) : fCnt Z t q nm = none := by
  unfold fCnt
  rw [h]
  dsimp only
  rw [if_pos h44, if_neg h125, h2]
theorem cnt_e (h : fNum Z (q + 1) = some (a, r)) (h44 : Z[r]? = some 44) (h125 : Z[r + 1]? ≠ some 125) (h2 : fNum Z (r + 1) = some (b, s)) : fCnt Z t q nm = cntR Z a (some b) t s nm := by
  unfold fCnt
  rw [h]
  dsimp only
  rw [if_pos h44, if_neg h125, h2]
  dsimp only
  unfold cntR
  by_cases h1 : Z[s]? = some 125 ∧ a ≤ b
  · rw [if_pos h1, if_pos ⟨h1.1, decide_eq_true h1.2⟩]
  · rw [if_neg h1, if_neg fun z => h1 ⟨z.1, of_decide_eq_true z.2⟩]
theorem item_no {U : Rd6} (h : U s nm = none) : fItem Z U s nm = none := by
  unfold fItem
  rw [h]
theorem item_of {U : Rd6} {nm' : Nm} (h : U s nm = some (t, q, nm')) : fItem Z U s nm = match (Z[q]?).bind cnt with
    | some (a, b) => some (.count a b t, q + 1, nm')
    | none => if Z[q]? = some 123 then fCnt Z t q nm' else some (t, q, nm') := by
  unfold fItem
  rw [h] <;> rfl
end
section
variable {P : Program} {w : World} {K : PySem.W.Frag} {mg : Str → Option Value} {base : Heap} {C : Addr} {f : Nat → Addr} {fd : Nat → FuncData} {tk : Nat → Tok} {cd : Addr} {ces : Array DictEntry} {cn : Nat} {ct : Nat → Addr} {D fB : Addr} {dB : FuncData}
theorem ok_item6 (T : RT K w mg C f fd tk cd ces cn ct) (B : Bad P w K mg base 1 D fB dB) {k d : Nat} (hk : 4 ≤ k) (G : FnOk P w K mg base (L2.CX P w) k (f 9) (fd 9) ["self"] (spF C D d fun Z => fU Z d)) : FnOk P w K mg base (L2.CX P w) (k + 1) (f 7) (fd 7) ["self"] (spF C D d fun Z => fItem Z (fU Z d)) := by
  refine T.mItem.F.okX scItem (fun vs H Q E h => ?_) (fun cdv A outer s H vs Q E hr h => ?_)
  · obtain ⟨Z, p, dx, l, s, nm, rfl, _⟩ := h
    rfl
  · obtain ⟨Z, p, dx, l, s, nm, rfl, hd, R, q1, q2⟩ := h
    dsimp only at q1 q2
    have GS := ok_sign (P := P) (base := base) T
    have GD := ok_demand6 T B
    have GK := ok_skips (P := P) (base := base) T
    have GN := ok_num6 T B
    have h1 : 1 ≤ k := Nat.le_trans (by decide) hk
    have h2 : 2 ≤ k := Nat.le_trans (by decide) hk
    have h3 : 3 ≤ k := Nat.le_trans (by decide) hk
    refine ⟨_, pss_cons (ps_set (i := 1) scItem.nd rfl (.inl rfl) (pe_meth0 (pv 0) T.cl T.mUnit.m G hr T.mUnit.b .nil (passes_call (takes_of rfl rfl rfl rfl) (fun _ _ _ _ h => h))))
      (pss_cons (ps_if (pt_cmpR (op_in_kd T.kd) (pe_meth0 (pv 0) T.cl T.mSign.m GS (hr.mono h1) T.mSign.b .nil pass0) (pe_glob (v := .ref cd) rfl T.gCs rfl) rfl)
          (pss_cons (ps_asg (pe_ix ix_kdict (pe_glob (v := .ref cd) rfl T.gCs rfl) (pe_meth0 (pv 0) T.cl T.mSign.m GS (hr.mono h1) T.mSign.b .nil pass0) (fun _ _ => rfl))
            (pg_tup rfl (pgs_cons (pg_name (i := 2) scItem.nd rfl (.inl rfl)) (pgs_cons (pg_name (i := 3) scItem.nd rfl (.inl rfl)) pgs_nil))))
          (pss_cons (ps_fldaug (pv 0) pe_int in_add)
          (pss_one (ps_ret (pe_tup (pa_cons (pe_glob (v := .str coW) rfl T.gCo ⟨_, rfl⟩) (pa_cons (pv 2) (pa_cons (pv 3) (pa_cons (pv 1) pa_nil)))))))))
          pss_nil)
      (pss_cons (ps_if (pt_not (pt_val (pe_meth (pv 0) T.cl T.mSkips.m GK (hr.mono h2) T.mSkips.b .nil pass0 (pa_cons pe_str pa_nil)))) (pss_one (ps_ret (pv 1))) pss_nil)
      (pss_cons (ps_asg2 (pe_meth0 (pv 0) T.cl T.mNumber.m GN (hr.mono hk) T.mNumber.b .nil (passes_call (takes_of rfl rfl rfl rfl) (fun _ _ _ _ h => h))) (pg_name (i := 2) scItem.nd rfl (.inl rfl)) (pg_name (i := 3) scItem.nd rfl (.inl rfl)))
      (Evl.pss_cut (ps_if (pt_val (pe_meth (pv 0) T.cl T.mSkips.m GK (hr.mono h2) T.mSkips.b .nil pass0 (pa_cons pe_str pa_nil)))
          (pss_one (ps_set (i := 3) scItem.nd rfl (.inl rfl) (pe_ifExp (pt_cmpR op_eq (pe_meth0 (pv 0) T.cl T.mSign.m GS (hr.mono h1) T.mSign.b .nil pass0) pe_str (nomark _)) pe_non (pe_meth0 (pv 0) T.cl T.mNumber.m GN (hr.mono hk) T.mNumber.b .nil (passes_call (takes_of rfl rfl rfl rfl) (fun _ _ _ _ h => h))))))
          pss_nil)
      (pss_cons (ps_expr (pe_meth (pv 0) T.cl T.mDemand.m GD (hr.mono h3) T.mDemand.b .nil (passes_call (takes_of rfl rfl rfl rfl) (fun _ _ _ _ h => h)) (pa_cons
          (pe_and (pe_meth (pv 0) T.cl T.mSkips.m GK (hr.mono h2) T.mSkips.b .nil pass0 (pa_cons pe_str pa_nil))
            (pe_one (pe_or (pe_cmpR op_isN (pv 3) pe_non (nomark _)) (pe_one (pe_cmpR op_le (pv 2) (pv 3) (nomark _)))))) pa_nil)))
      (pss_one (ps_ret (pe_tup (pa_cons (pe_glob (v := .str coW) rfl T.gCo ⟨_, rfl⟩) (pa_cons (pv 2) (pa_cons (pv 3) (pa_cons (pv 1) pa_nil)))))))))))), ?_⟩
    have nS : ∀ s' m', (rf Z s' l m').lookup ("sign" : Str) = none := fun _ _ => rf_no (by decide +kernel) (by decide +kernel) (by decide +kernel) (by decide +kernel)
    have nD : ∀ s' m', (rf Z s' l m').lookup ("demand" : Str) = none := fun _ _ => rf_no (by decide +kernel) (by decide +kernel) (by decide +kernel) (by decide +kernel)
    have nK : ∀ s' m', (rf Z s' l m').lookup ("skips" : Str) = none := fun _ _ => rf_no (by decide +kernel) (by decide +kernel) (by decide +kernel) (by decide +kernel)
    have nU : ∀ s' m', (rf Z s' l m').lookup ("read_unit" : Str) = none := fun _ _ => rf_no (by decide +kernel) (by decide +kernel) (by decide +kernel) (by decide +kernel)
    have nN : ∀ s' m', (rf Z s' l m').lookup ("read_number" : Str) = none := fun _ _ => rf_no (by decide +kernel) (by decide +kernel) (by decide +kernel) (by decide +kernel)
    refine ⟨.ref p, rfl, p, dx, _, rfl, R.e, nU _ _, Z, p, dx, l, s, nm, rfl, hd, R, fun u r nm1 eu v H1 o1 R1 k1 => ?_, fun eu => q2 (item_no eu)⟩
    rw [item_of eu] at q1 q2
    refine ⟨.ref p, rfl, p, dx, _, rfl, R1.e, nS _ _, Z, p, dx, l, r, nm1, _, rfl, R1, ?_⟩
    cases hcn : (Z[r]?).bind cnt with
    | some ab =>
      obtain ⟨a, b⟩ := ab
      rw [hcn] at q1
      dsimp only at q1
      obtain ⟨c, hz, hcn⟩ := Option.bind_eq_some_iff.mp hcn
      obtain ⟨tp, c1, c2⟩ := cnt_of T hcn
      rw [sg_some hz]
      refine ⟨_, _, rfl, rfl, c1, _, rfl, iteT ?_⟩
      refine ⟨.ref p, rfl, p, dx, _, rfl, R1.e, nS _ _, Z, p, dx, l, r, nm1, _, rfl, R1, ?_⟩
      rw [sg_some hz]
      refine ⟨cd, tx [c], .ref tp, rfl, rfl, ⟨ces, cn, _, T.kd.at_, T.kd.lit, c1, rfl⟩, tp, _, rfl, c2 _, rfl, _, _, rfl, _, _, rfl, rfl, ?_⟩
      refine ⟨.ref p, rfl, p, C, dx, _, _, rfl, R1.e, T.cl, T.nSp, rf_spot, _, _, rfl, rfl, dx, _, R1.e, (show 4 < 1000 by decide), ?_⟩
      have R2 := R1.spot (r + 1) (Nat.le_succ r)
      refine ⟨_, rfl, _, rfl, v, rfl, (show 4 ≤ sizeLine by decide), fun b' hb' => ?_⟩
      refine q1 _ _ _ rfl _ _ (.count upd_same ((o1.mono (R1.kt K2.p)).mono (KT.same (smU hb')))) (R2.up (smU hb')) ((k1.trans K2.p).trans (K2.same (smU hb')))
    | none =>
      rw [hcn] at q1 q2
      dsimp only at q1 q2
      refine ⟨_, none, rfl, rfl, cnt_no T fun c h => by rw [h] at hcn; exact hcn, _, rfl, iteF ?_⟩
      refine ⟨.ref p, rfl, p, dx, _, rfl, R1.e, nK _ _, Z, p, dx, l, r, nm1, _, 123, rfl, R1, fun z H2 R2 k2 => ⟨true, rfl, iteF ?_⟩, fun z => ⟨false, rfl, iteT ?_⟩⟩
      rotate_left
      · rw [if_neg z] at q1
        exact ⟨v, rfl, q1 _ _ _ rfl v H1 o1 R1 k1⟩
      rw [if_pos z] at q1 q2
      have k12 := k1.trans k2
      refine ⟨.ref p, rfl, p, dx, _, rfl, R2.e, nN _ _, Z, p, dx, l, r + 1, nm1, _, rfl, R2, fun a r1 ea H3 R3 k3 => ?_, fun ea => (q2 (cnt_a ea)).to k12⟩
      refine ⟨fun σ H4 => ∃ b r2, fCnt Z u r nm1 = cntR Z a b u r2 nm1 ∧ σ = [some (.ref p), some v, some (.int a), some (mst b)] ∧ RdA C Z p dx l H4 r2 nm1 (8 - (d : Int)) ∧ K2 p l H1 H4, ?_, fun σ H4 hM => ?_⟩
      · have k13 := k2.trans k3
        refine ⟨.ref p, rfl, p, dx, _, rfl, R3.e, nK _ _, Z, p, dx, l, r1, nm1, _, 44, rfl, R3, fun h44 H4 R4 k4 => ⟨true, rfl, iteT ?_⟩, fun h44 => ⟨false, rfl, iteF ⟨some a, r1, cnt_b ea h44, rfl, R3, k13⟩⟩⟩
        refine ⟨.ref p, rfl, p, dx, _, rfl, R4.e, nS _ _, Z, p, dx, l, r1 + 1, nm1, _, rfl, R4, ?_⟩
        refine ⟨rfl, _, rfl, ?_⟩
        by_cases h125 : Z[r1 + 1]? = some 125
        · rw [sg_some h125, show V.str (tx [125]) = V.str (Str.ofString "}") by decide +kernel, decide_eq_true rfl]
          exact iteT ⟨none, r1 + 1, cnt_c ea h44 h125, rfl, R4, k13.trans k4⟩
        · rw [decide_eq_false fun z => sg_ne h125 ((V.str.inj z).trans (show Str.ofString "}" = tx [125] by decide +kernel))]
          refine iteF ⟨.ref p, rfl, p, dx, _, rfl, R4.e, nN _ _, Z, p, dx, l, r1 + 1, nm1, _, rfl, R4, fun b r2 eb H5 R5 k5 => ?_, fun eb => ((q2 (cnt_d ea h44 h125 eb)).to k1).to (k13.trans k4)⟩
          exact ⟨some b, r2, cnt_e ea h44 h125 eb, rfl, R5, (k13.trans k4).trans k5⟩
      obtain ⟨b, r2, ef, rfl, R4, k4⟩ := hM
      rw [ef] at q1 q2
      have k14 := k1.trans k4
      refine ⟨.ref p, rfl, p, dx, _, rfl, R4.e, nD _ _, .ref p, rfl, p, dx, _, rfl, R4.e, nK _ _, Z, p, dx, l, r2, nm1, _, 125, rfl, R4, fun h125 H5 R5 k5 => ?_, fun h125 => ?_⟩
      rotate_left
      · exact ⟨false, rfl, iteF (dem (c := false) R4 rfl (fun z => nomatch z) fun _ => (q2 (if_neg fun z => h125 z.1)).to k14)⟩
      refine ⟨true, rfl, iteT ⟨_, rfl, rfl, _, rfl, ?_⟩⟩
      have fin : leO a b = true → ∀ {H6 : Hp}, H6 = H5 → ∀ b', H6 b' = none → Q (.ref b') (upd H6 b' (.tup [.str coW, .int a, mst b, v])) := fun hle {H6} e6 b' hb' => by
        subst e6
        exact q1 _ _ _ (if_pos ⟨h125, hle⟩) _ _ (.count upd_same ((o1.mono (R1.kt (k4.trans k5))).mono (KT.same (smU hb')))) (R5.up (smU hb')) ((k14.trans k5).trans (K2.same (smU hb')))
      cases b with
      | none => exact iteT (dem (c := true) R5 rfl (fun _ => ⟨_, rfl, _, rfl, v, rfl, (show 4 ≤ sizeLine by decide), fin rfl rfl⟩) fun z => nomatch z)
      | some b' =>
        refine iteF ⟨_, rfl, _, rfl, _, _, rfl, rfl, ?_⟩
        have e9 : decide ((a : Int) ≤ (b' : Int)) = leO a (some b') := decide_eq_decide.mpr (by omega)
        exact dem R5 e9 (fun z => ⟨_, rfl, _, rfl, v, rfl, (show 4 ≤ sizeLine by decide), fin z rfl⟩) fun z => (q2 (if_neg fun y => by rw [y.2] at z; cases z)).to (k14.trans k5)
end
end Sf6
/-! The reader with both outcomes: chains and choices. -/
namespace Sf6
open PySem PySem.Spec PyProof.Rows L2 Sf Sf4
section
variable {Z : List Nat} {R : Rd6} {go : Nat → Bool} {g : Nat → Nat} {fn : List Tr → Tr} {p q n r : Nat} {nm nm' : Nm} {t : Tr} {ts : List Tr}
theorem row_no (h : R p nm = none) : fRow Z R go g fn p nm = none := by
  unfold fRow
  rw [h]
theorem row_of (h : R p nm = some (t, q, nm')) : fRow Z R go g fn p nm = match fMore R go g (Z.length + 1) q nm' [t] with
    | none => none
    | some (ts, r, nm2) => some (one fn ts, r, nm2) := by
  unfold fRow
  rw [h] <;> rfl
theorem more_stop (h : go q = false) : fMore R go g (n + 1) q nm ts = some (ts, q, nm) := by
  unfold fMore
  rw [h]
  exact if_neg Bool.false_ne_true
theorem more_of (h : go q = true) (e : R (g q) nm = some (t, r, nm')) : fMore R go g (n + 1) q nm ts = fMore R go g n r nm' (ts ++ [t]) := by
  show (if _ then _ else _) = _
  rw [if_pos h, e]
theorem more_no (h : go q = true) (e : R (g q) nm = none) : fMore R go g (n + 1) q nm ts = none := by
  show (if _ then _ else _) = _
  rw [if_pos h, e]
theorem one_ne (h : ts.length ≠ 1) : one fn ts = fn ts := by
  match ts, h with
  | [], _ => rfl
  | [_], h => exact absurd rfl h
  | _ :: _ :: _, _ => rfl
end
theorem goC_no {Z : List Nat} {q : Nat} (h : Z[q]? = none) : goC Z q = false := by
  unfold goC
  rw [h]
theorem goC_of {Z : List Nat} {q c : Nat} (h : Z[q]? = some c) : goC Z q = decide (c ∈ (LSs ++ Str.ofString ".[(<").cps.toList) := by
  unfold goC
  rw [h]
  exact decide_eq_decide.mpr st_in.symm
theorem item6_go (Z : List Nat) (d : Nat) : Go6 Z (fItem Z (fU Z d)) := item_go (fU_go Z d)
section
variable {P : Program} {w : World} {K : PySem.W.Frag} {mg : Str → Option Value} {base : Heap} {C : Addr} {f : Nat → Addr} {fd : Nat → FuncData} {tk : Nat → Tok} {cd : Addr} {ces : Array DictEntry} {cn : Nat} {ct : Nat → Addr} {D fB : Addr} {dB : FuncData}
theorem ok_chain6 (T : RT K w mg C f fd tk cd ces cn ct) (B : Bad P w K mg base 1 D fB dB) {k d : Nat} (hk : 4 ≤ k) (G : FnOk P w K mg base (L2.CX P w) k (f 7) (fd 7) ["self"] (spF C D d fun Z => fItem Z (fU Z d))) : FnOk P w K mg base (L2.CX P w) (k + 1) (f 6) (fd 6) ["self"] (spF C D d fun Z => fChain Z (fItem Z (fU Z d))) := by
  refine T.mChain.F.okX scChain (fun vs H Q E h => ?_) (fun cdv A outer s H vs Q E hr h => ?_)
  · obtain ⟨Z, p, dx, l, s, nm, rfl, _⟩ := h
    rfl
  · obtain ⟨Z, p, dx, l, s, nm, rfl, hd, R, q1, q2⟩ := h
    dsimp only at q1 q2
    have GS := ok_sign (P := P) (base := base) T
    have h1 : 1 ≤ k := Nat.le_trans (by decide) hk
    refine ⟨_, pss_cons (ps_set (i := 1) scChain.nd rfl (.inl rfl) (pe_lst (pa_cons (pe_meth0 (pv 0) T.cl T.mItem.m G hr T.mItem.b .nil (passes_call (takes_of rfl rfl rfl rfl) (fun _ _ _ _ h => h))) pa_nil)))
      (Evl.pss_cut (ps_while (passes_of rfl) (PW.pt (pw_and (pt_cmpR op_ne (pe_meth0 (pv 0) T.cl T.mSign.m GS (hr.mono h1) T.mSign.b .nil pass0) pe_str (nomark _))
          (pw_and1 (pt_cmpR op_inS (pe_meth0 (pv 0) T.cl T.mSign.m GS (hr.mono h1) T.mSign.b .nil pass0) (pe_op op_add_str (pe_glob (v := .str LSs) rfl T.gLet ⟨_, rfl⟩) pe_str) rfl))))
        (pss_one (ps_expr (pe_bm PySem.F.plainAttrs_list PySem.F.slot_list_append PySem.F.type_list_append mt_append (pv 1) (pa_cons (pe_meth0 (pv 0) T.cl T.mItem.m G hr T.mItem.b .nil (passes_call (takes_of rfl rfl rfl rfl) (fun _ _ _ _ h => h))) pa_nil)))))
      (pss_one (ps_ret (pe_ifExp (pt_cmpR op_eq (pe_callB call_len_seq (by rfl) T.zlen PySem.boot_len (pa_cons (pv 1) pa_nil)) pe_int (nomark _)) (pe_ix ix_list (pv 1) pe_int (fun _ _ => rfl))
        (pe_tup (pa_cons (pe_glob (v := .str chW) rfl T.gCh ⟨_, rfl⟩) (pa_cons (pe_tupleOf (by rfl) T.ztup (pv 1)) pa_nil))))))), ?_⟩
    have nS : ∀ s' m', (rf Z s' l m').lookup ("sign" : Str) = none := fun _ _ => rf_no (by decide +kernel) (by decide +kernel) (by decide +kernel) (by decide +kernel)
    have nI : ∀ s' m', (rf Z s' l m').lookup ("read_item" : Str) = none := fun _ _ => rf_no (by decide +kernel) (by decide +kernel) (by decide +kernel) (by decide +kernel)
    have hZ := R.z
    have pg := item6_go Z d
    unfold fChain at q1 q2
    refine ⟨.ref p, rfl, p, dx, _, rfl, R.e, nI _ _, Z, p, dx, l, s, nm, rfl, hd, R, fun t1 e1 nm1 f1 v H1 o1 R1 k1 => ⟨(show 1 ≤ sizeLine by decide), fun a ha => ?_⟩, fun f1 => q2 (row_no f1)⟩
    rw [row_of f1] at q1 q2
    have g1 := pg _ _ _ _ _ f1
    have nap := R1.p0 ha
    have nal := R1.l0 ha
    refine ⟨fun σ H2 => ∃ ts e nm' vs, fMore (fItem Z (fU Z d)) (goC Z) id (Z.length + 1) e1 nm1 [t1] = some (ts, e, nm') ∧ σ = [some (.ref p), some (.ref a)] ∧ H2 a = some (.lst vs) ∧ TrOs H2 vs ts ∧ RdA C Z p dx l H2 e nm' (8 - (d : Int)) ∧ K2 p l H H2, ?_, fun σ H2 hM => ?_⟩
    · refine ⟨fun n σ H2 => ∃ s1 nm2 dn vs, fMore (fItem Z (fU Z d)) (goC Z) id (Z.length + 1) e1 nm1 [t1] = fMore (fItem Z (fU Z d)) (goC Z) id n s1 nm2 dn ∧ Z.length - s1 < n ∧ s1 ≤ Z.length ∧ dn.length ≤ s1 ∧ σ = [some (.ref p), some (.ref a)] ∧ H2 a = some (.lst vs) ∧ TrOs H2 vs dn ∧ RdA C Z p dx l H2 s1 nm2 (8 - (d : Int)) ∧ K2 p l H H2,
        ⟨_, e1, nm1, [t1], [v], rfl, by omega, g1.2, by show 1 ≤ e1; omega, rfl, upd_same, .cons (o1.mono (KT.same (smU ha))) .nil, R1.up (smU ha), k1.trans (K2.same (smU ha))⟩, ?_⟩
      rintro n σ H2 ⟨s1, nm2, dn, vs, ef, hf, hs1, hdn, rfl, ea, os, R2, k2⟩
      obtain ⟨n, rfl⟩ : ∃ k, n = k + 1 := ⟨n - 1, by omega⟩
      have hl2 := os.len
      refine ⟨.ref p, rfl, p, dx, _, rfl, R2.e, nS _ _, Z, p, dx, l, s1, nm2, _, rfl, R2, rfl, _, rfl, ?_⟩
      cases hz : Z[s1]? with
      | none =>
        rw [sg_none hz, decide_eq_true em_eq]
        exact iteF (iteF ⟨dn, s1, nm2, vs, ef.trans (more_stop (goC_no hz)), rfl, ea, os, R2, k2⟩)
      | some c =>
        rw [sg_some hz, decide_eq_false em_ne]
        refine iteT ⟨.ref p, rfl, p, dx, _, rfl, R2.e, nS _ _, Z, p, dx, l, s1, _, _, rfl, R2, _, _, rfl, rfl, (show LSs.length + (Str.ofString ".[(<").length ≤ sizeLine by decide +kernel), c, _, by rw [sg_some hz] <;> rfl, rfl, _, rfl, ?_⟩
        have eg := goC_of hz
        cases hg : decide (c ∈ (LSs ++ Str.ofString ".[(<").cps.toList) with
        | false =>
          rw [hg] at eg
          exact iteF ⟨dn, s1, nm2, vs, ef.trans (more_stop eg), rfl, ea, os, R2, k2⟩
        | true =>
          rw [hg] at eg
          refine iteT ⟨fun σ' H' => ∃ s1 nm2 dn vs, fMore (fItem Z (fU Z d)) (goC Z) id (Z.length + 1) e1 nm1 [t1] = fMore (fItem Z (fU Z d)) (goC Z) id n s1 nm2 dn ∧ Z.length - s1 < n ∧ s1 ≤ Z.length ∧ dn.length ≤ s1 ∧ σ' = [some (.ref p), some (.ref a)] ∧ H' a = some (.lst vs) ∧ TrOs H' vs dn ∧ RdA C Z p dx l H' s1 nm2 (8 - (d : Int)) ∧ K2 p l H H', fun σ' H' h => ⟨n, Nat.lt_succ_self n, h⟩, ?_⟩
          refine ⟨.ref a, rfl, .inl ⟨rfl, _, .inl (.inl ea)⟩, .ref p, rfl, p, dx, _, rfl, R2.e, nI _ _, Z, p, dx, l, s1, nm2, rfl, hd, R2, fun t2 e2 nm3 u1 v2 H3 o3 R3 k3 => ?_, fun u1 => ?_⟩
          · have g2 := pg _ _ _ _ _ u1
            have ea3 := k3 a _ nap nal ea
            refine ⟨a, _, _, rfl, rfl, ea3, Nat.lt_of_le_of_lt (show vs.length ≤ 100 by omega) (by decide), ?_⟩
            exact ⟨e2, nm3, dn ++ [t2], vs ++ [v2], ef.trans (more_of eg u1), by omega, g2.2, by rw [List.length_append, List.length_singleton]; omega, rfl, upd_same, ((os.mono (R2.kt k3)).mono (KT.lst ea3)).snoc (o3.mono (KT.lst ea3)), R3.wr nap nal, K2.put k1 (k2.trans k3) ha⟩
          · rw [ef, more_no eg u1] at q2
            exact (q2 rfl).to k2
    obtain ⟨ts, e, nm', vs, ef, rfl, ea, os, R2, k2⟩ := hM
    rw [ef] at q1
    dsimp only at q1
    have hlen := os.len
    refine ⟨.ref a, rfl, a, _, rfl, .inl (.inl (.inl ea)), rfl, _, rfl, ?_⟩
    by_cases h1 : ts.length = 1
    · obtain ⟨x, rfl⟩ := List.length_eq_one_iff.mp h1
      cases os with
      | cons o r =>
        cases r
        exact iteT ⟨.ref a, rfl, a, _, 0, _, rfl, rfl, .inl (.inl ea), atI_nat (j := 0) rfl, q1 _ _ _ rfl _ _ o R2 k2⟩
    · rw [one_ne h1] at q1
      have nd : ¬ (V.int (vs.length : Int) = V.int 1) := fun z => by
        have z := V.int.inj z
        omega
      rw [decide_eq_false nd]
      refine iteF ⟨.ref a, rfl, .inl ⟨a, _, rfl, .inl (.inl ea), fun b hb => ⟨(show 2 ≤ sizeLine by decide), fun b2 hb2 => ?_⟩⟩⟩
      have s1 := smU (o := HO.tup vs) hb
      have s2 := smU (o := HO.tup [.str chW, .ref b]) hb2
      exact q1 _ _ _ rfl _ _ (.chain upd_same (s2 _ _ upd_same) (os.mono (KT.same (s1.trans s2)))) (R2.up (s1.trans s2)) (k2.trans (K2.same (s1.trans s2)))
theorem ok_choice6 (T : RT K w mg C f fd tk cd ces cn ct) (B : Bad P w K mg base 1 D fB dB) {k d : Nat} (hk : 4 ≤ k) (G : FnOk P w K mg base (L2.CX P w) k (f 6) (fd 6) ["self"] (spF C D d fun Z => fChain Z (fItem Z (fU Z d)))) : FnOk P w K mg base (L2.CX P w) (k + 1) (f 5) (fd 5) ["self"] (spF C D d fun Z => fC Z d) := by
  refine T.mChoice.F.okX scChoice (fun vs H Q E h => ?_) (fun cdv A outer s H vs Q E hr h => ?_)
  · obtain ⟨Z, p, dx, l, s, nm, rfl, _⟩ := h
    rfl
  · obtain ⟨Z, p, dx, l, s, nm, rfl, hd, R, q1, q2⟩ := h
    dsimp only at q1 q2
    have GK := ok_skips (P := P) (base := base) T
    have h2 : 2 ≤ k := Nat.le_trans (by decide) hk
    refine ⟨_, pss_cons (ps_set (i := 1) scChoice.nd rfl (.inl rfl) (pe_lst (pa_cons (pe_meth0 (pv 0) T.cl T.mChain.m G hr T.mChain.b .nil (passes_call (takes_of rfl rfl rfl rfl) (fun _ _ _ _ h => h))) pa_nil)))
      (Evl.pss_cut (ps_while (passes_of rfl) (pt_val (pe_meth (pv 0) T.cl T.mSkips.m GK (hr.mono h2) T.mSkips.b .nil pass0 (pa_cons pe_str pa_nil)))
        (pss_one (ps_expr (pe_bm PySem.F.plainAttrs_list PySem.F.slot_list_append PySem.F.type_list_append mt_append (pv 1) (pa_cons (pe_meth0 (pv 0) T.cl T.mChain.m G hr T.mChain.b .nil (passes_call (takes_of rfl rfl rfl rfl) (fun _ _ _ _ h => h))) pa_nil)))))
      (pss_one (ps_ret (pe_ifExp (pt_cmpR op_eq (pe_callB call_len_seq (by rfl) T.zlen PySem.boot_len (pa_cons (pv 1) pa_nil)) pe_int (nomark _)) (pe_ix ix_list (pv 1) pe_int (fun _ _ => rfl))
        (pe_tup (pa_cons (pe_glob (v := .str alW) rfl T.gAl ⟨_, rfl⟩) (pa_cons (pe_tupleOf (by rfl) T.ztup (pv 1)) pa_nil))))))), ?_⟩
    have nK : ∀ s' m', (rf Z s' l m').lookup ("skips" : Str) = none := fun _ _ => rf_no (by decide +kernel) (by decide +kernel) (by decide +kernel) (by decide +kernel)
    have nI : ∀ s' m', (rf Z s' l m').lookup ("read_chain" : Str) = none := fun _ _ => rf_no (by decide +kernel) (by decide +kernel) (by decide +kernel) (by decide +kernel)
    have hZ := R.z
    have pg := chain_go (item6_go Z d)
    rw [fC_eq] at q1 q2
    unfold fChoice at q1 q2
    refine ⟨.ref p, rfl, p, dx, _, rfl, R.e, nI _ _, Z, p, dx, l, s, nm, rfl, hd, R, fun t1 e1 nm1 f1 v H1 o1 R1 k1 => ⟨(show 1 ≤ sizeLine by decide), fun a ha => ?_⟩, fun f1 => q2 (row_no f1)⟩
    rw [row_of f1] at q1 q2
    have g1 := pg _ _ _ _ _ f1
    have nap := R1.p0 ha
    have nal := R1.l0 ha
    refine ⟨fun σ H2 => ∃ ts e nm' vs, fMore (fChain Z (fItem Z (fU Z d))) (goA Z) (· + 1) (Z.length + 1) e1 nm1 [t1] = some (ts, e, nm') ∧ σ = [some (.ref p), some (.ref a)] ∧ H2 a = some (.lst vs) ∧ TrOs H2 vs ts ∧ RdA C Z p dx l H2 e nm' (8 - (d : Int)) ∧ K2 p l H H2, ?_, fun σ H2 hM => ?_⟩
    · refine ⟨fun n σ H2 => ∃ s1 nm2 dn vs, fMore (fChain Z (fItem Z (fU Z d))) (goA Z) (· + 1) (Z.length + 1) e1 nm1 [t1] = fMore (fChain Z (fItem Z (fU Z d))) (goA Z) (· + 1) n s1 nm2 dn ∧ Z.length - s1 < n ∧ s1 ≤ Z.length ∧ dn.length ≤ s1 ∧ σ = [some (.ref p), some (.ref a)] ∧ H2 a = some (.lst vs) ∧ TrOs H2 vs dn ∧ RdA C Z p dx l H2 s1 nm2 (8 - (d : Int)) ∧ K2 p l H H2,
        ⟨_, e1, nm1, [t1], [v], rfl, by omega, g1.2, by show 1 ≤ e1; omega, rfl, upd_same, .cons (o1.mono (KT.same (smU ha))) .nil, R1.up (smU ha), k1.trans (K2.same (smU ha))⟩, ?_⟩
      rintro n σ H2 ⟨s1, nm2, dn, vs, ef, hf, hs1, hdn, rfl, ea, os, R2, k2⟩
      obtain ⟨n, rfl⟩ : ∃ k, n = k + 1 := ⟨n - 1, by omega⟩
      have hl2 := os.len
      refine ⟨.ref p, rfl, p, dx, _, rfl, R2.e, nK _ _, Z, p, dx, l, s1, nm2, _, 124, rfl, R2, fun z H3 R3 k3 => ⟨true, rfl, iteT ?_⟩, fun z => ⟨false, rfl, iteF ?_⟩⟩
      · have eg : goA Z s1 = true := decide_eq_true z
        have ea3 := k3 a _ nap nal ea
        refine ⟨fun σ' H' => ∃ s1 nm2 dn vs, fMore (fChain Z (fItem Z (fU Z d))) (goA Z) (· + 1) (Z.length + 1) e1 nm1 [t1] = fMore (fChain Z (fItem Z (fU Z d))) (goA Z) (· + 1) n s1 nm2 dn ∧ Z.length - s1 < n ∧ s1 ≤ Z.length ∧ dn.length ≤ s1 ∧ σ' = [some (.ref p), some (.ref a)] ∧ H' a = some (.lst vs) ∧ TrOs H' vs dn ∧ RdA C Z p dx l H' s1 nm2 (8 - (d : Int)) ∧ K2 p l H H', fun σ' H' h => ⟨n, Nat.lt_succ_self n, h⟩, ?_⟩
        refine ⟨.ref a, rfl, .inl ⟨rfl, _, .inl (.inl ea3)⟩, .ref p, rfl, p, dx, _, rfl, R3.e, nI _ _, Z, p, dx, l, s1 + 1, nm2, rfl, hd, R3, fun t2 e2 nm3 u1 v2 H4 o4 R4 k4 => ?_, fun u1 => ?_⟩
        · have g2 := pg _ _ _ _ _ u1
          have ea4 := k4 a _ nap nal ea3
          refine ⟨a, _, _, rfl, rfl, ea4, Nat.lt_of_le_of_lt (show vs.length ≤ 100 by omega) (by decide), ?_⟩
          exact ⟨e2, nm3, dn ++ [t2], vs ++ [v2], ef.trans (more_of eg u1), by omega, g2.2, by rw [List.length_append, List.length_singleton]; omega, rfl, upd_same, ((os.mono (R2.kt (k3.trans k4))).mono (KT.lst ea4)).snoc (o4.mono (KT.lst ea4)), R4.wr nap nal, K2.put k1 ((k2.trans k3).trans k4) ha⟩
        · rw [ef, more_no eg u1] at q2
          exact (q2 rfl).to (k2.trans k3)
      · have eg : goA Z s1 = false := decide_eq_false z
        exact ⟨dn, s1, nm2, vs, ef.trans (more_stop eg), rfl, ea, os, R2, k2⟩
    obtain ⟨ts, e, nm', vs, ef, rfl, ea, os, R2, k2⟩ := hM
    rw [ef] at q1
    dsimp only at q1
    have hlen := os.len
    refine ⟨.ref a, rfl, a, _, rfl, .inl (.inl (.inl ea)), rfl, _, rfl, ?_⟩
    by_cases h1 : ts.length = 1
    · obtain ⟨x, rfl⟩ := List.length_eq_one_iff.mp h1
      cases os with
      | cons o r =>
        cases r
        exact iteT ⟨.ref a, rfl, a, _, 0, _, rfl, rfl, .inl (.inl ea), atI_nat (j := 0) rfl, q1 _ _ _ rfl _ _ o R2 k2⟩
    · rw [one_ne h1] at q1
      have nd : ¬ (V.int (vs.length : Int) = V.int 1) := fun z => by
        have z := V.int.inj z
        omega
      rw [decide_eq_false nd]
      refine iteF ⟨.ref a, rfl, .inl ⟨a, _, rfl, .inl (.inl ea), fun b hb => ⟨(show 2 ≤ sizeLine by decide), fun b2 hb2 => ?_⟩⟩⟩
      have s1 := smU (o := HO.tup vs) hb
      have s2 := smU (o := HO.tup [.str alW, .ref b]) hb2
      exact q1 _ _ _ rfl _ _ (.choice upd_same (s2 _ _ upd_same) (os.mono (KT.same (s1.trans s2)))) (R2.up (s1.trans s2)) (k2.trans (K2.same (s1.trans s2)))
/-- read_choice, whatever is open -/
theorem ok_fc (T : RT K w mg C f fd tk cd ces cn ct) (B : Bad P w K mg base 1 D fB dB) : ∀ d, FnOk P w K mg base (L2.CX P w) (9 + 5 * d) (f 5) (fd 5) ["self"] (spF C D d fun Z => fC Z d)
  | 0 => ok_choice6 T B (k := 8) (by decide) (ok_chain6 T B (k := 7) (by decide) (ok_item6 T B (k := 6) (by decide) (ok_unit6 T B (k := 5) (d := 0) (by decide) ok_no6 ok_no6)))
  | d + 1 => by
    have G := ok_fc T B d
    have GG : FnOk P w K mg base (L2.CX P w) (10 + 5 * d) (f 10) (fd 10) ["self"] (spIn6 C D (fun Z d => fGrp Z (fC Z d)) (d + 1)) := (ok_grp6 T B (by omega) G).mono (by omega)
    have GC : FnOk P w K mg base (L2.CX P w) (10 + 5 * d) (f 11) (fd 11) ["self"] (spIn6 C D (fun Z d => fCap Z (fC Z d)) (d + 1)) := (ok_cap6 T B (by omega) G).mono (by omega)
    exact (ok_choice6 T B (by omega) (ok_chain6 T B (by omega) (ok_item6 T B (by omega) (ok_unit6 T B (by omega) GG GC)))).mono (by omega)
end
end Sf6
/-! The reader with both outcomes: the whole string; read_pattern. -/
namespace Sf6
open PySem PySem.Spec PyProof.Rows L2 Sf Sf4
def s0 (Z : List Nat) : Nat := if Z[0]? = some 94 then 1 else 0
def sE (Z : List Nat) (q : Nat) : Nat := if Z[q]? = some 36 then q + 1 else q
section
variable {Z : List Nat} {t : Tr} {q : Nat} {nm : Nm}
theorem whole_no (h : fC Z 8 (s0 Z) [] = none) : fWhole Z = none := by
  unfold fWhole
  rw [show fC Z 8 (if Z[0]? = some 94 then 1 else 0) [] = none from h]
theorem whole_of (h : fC Z 8 (s0 Z) [] = some (t, q, nm)) : fWhole Z = if sE Z q = Z.length then some ⟨decide (Z[0]? = some 94), t, decide (Z[q]? = some 36), nm⟩ else none := by
  unfold fWhole
  rw [show fC Z 8 (if Z[0]? = some 94 then 1 else 0) [] = some (t, q, nm) from h]
  rfl
end
def fPat (Z : List Nat) : Option Who := if Z.length ≤ 60 then fWhole Z else none
/-- it raises with a value, all else as it stood -/
def RzS (D : Addr) (E : XK) (H : Hp) (v : V) : Prop := ∀ dd H', Same H H' → H' dd = some (.xd [("value", v)]) → E (.ref D) (some dd) H'
theorem RzS.rz {D : Addr} {E : XK} {H : Hp} {v : V} (z : RzS D E H v) : Rz D E H v := fun dd H' _ s e => z dd H' s e
def spWhole6 (C D : Addr) : Sp := fun vs H Q E => ∃ (Z : List Nat) (p dx l : Addr), vs = [.ref p] ∧ RdA C Z p dx l H 0 [] 0 ∧
  (∀ W, fWhole Z = some W → ∀ a v H', H' a = some (.tup [.bl W.l, v, .bl W.r]) → TrO H' v W.t → RdA C Z p dx l H' Z.length W.nm 0 → K2 p l H H' → Q (.ref a) H') ∧ (fWhole Z = none → RzK D E p l H Z)
def spRp6 (C D : Addr) : Sp := fun vs H Q E => ∃ (Z : List Nat), vs = [.str (tx Z)] ∧ Z.length ≤ 2000 ∧
  (∀ W, fPat Z = some W → ∀ a b p dx l v H', H' a = some (.tup [.ref p, .ref b]) → H' b = some (.tup [.bl W.l, v, .bl W.r]) → TrO H' v W.t → RdA C Z p dx l H' Z.length W.nm 0 → Same H H' → Q (.ref a) H') ∧ (fPat Z = none → RzS D E H (.str (tx Z)))
section
variable {P : Program} {w : World} {K : PySem.W.Frag} {mg : Str → Option Value} {base : Heap} {C : Addr} {f : Nat → Addr} {fd : Nat → FuncData} {tk : Nat → Tok} {cd : Addr} {ces : Array DictEntry} {cn : Nat} {ct : Nat → Addr} {D fB : Addr} {dB : FuncData}
theorem ok_whole6 (T : RT K w mg C f fd tk cd ces cn ct) (B : Bad P w K mg base 1 D fB dB) : FnOk P w K mg base (L2.CX P w) 50 (f 4) (fd 4) ["self"] (spWhole6 C D) := by
  refine T.mWhole.F.okX scWhole (fun vs H Q E h => ?_) (fun cdv A outer s H vs Q E hr h => ?_)
  · obtain ⟨Z, p, dx, l, rfl, _⟩ := h
    rfl
  · obtain ⟨Z, p, dx, l, rfl, R, q1, q2⟩ := h
    have GD := ok_demand6 T B
    have GK := ok_skips (P := P) (base := base) T
    have G := ok_fc T B 8
    refine ⟨_, Evl.pss_cut (ps_set (i := 1) scWhole.nd rfl (.inl rfl) (pe_meth (pv 0) T.cl T.mSkips.m GK (hr.mono (by decide)) T.mSkips.b .nil pass0 (pa_cons (pe_glob (v := .str (Str.ofString "^")) rfl T.gBeg ⟨_, rfl⟩) pa_nil)))
      (pss_cons (ps_set (i := 2) scWhole.nd rfl (.inl rfl) (pe_meth0 (pv 0) T.cl T.mChoice.m G hr T.mChoice.b .nil (passes_call (takes_of rfl rfl rfl rfl) (fun _ _ _ _ h => h))))
      (Evl.pss_cut (ps_set (i := 3) scWhole.nd rfl (.inl rfl) (pe_meth (pv 0) T.cl T.mSkips.m GK (hr.mono (by decide)) T.mSkips.b .nil pass0 (pa_cons (pe_glob (v := .str (Str.ofString "$")) rfl T.gEnd ⟨_, rfl⟩) pa_nil)))
      (pss_cons (ps_expr (pe_meth (pv 0) T.cl T.mDemand.m GD (hr.mono (by decide)) T.mDemand.b .nil (passes_call (takes_of rfl rfl rfl rfl) (fun _ _ _ _ h => h)) (pa_cons (pe_cmpR op_eq (pe_fld (pv 0) rfl) (pe_callB call_len_str (by rfl) T.zlen PySem.boot_len (pa_cons (pe_fld (pv 0) rfl) pa_nil)) (nomark _)) pa_nil)))
      (pss_one (ps_ret (pe_tup (pa_cons (pv 1) (pa_cons (pv 2) (pa_cons (pv 3) pa_nil))))))))), ?_⟩
    have nD : ∀ s' m', (rf Z s' l m').lookup ("demand" : Str) = none := fun _ _ => rf_no (by decide +kernel) (by decide +kernel) (by decide +kernel) (by decide +kernel)
    have nK : ∀ s' m', (rf Z s' l m').lookup ("skips" : Str) = none := fun _ _ => rf_no (by decide +kernel) (by decide +kernel) (by decide +kernel) (by decide +kernel)
    have nC : ∀ s' m', (rf Z s' l m').lookup ("read_choice" : Str) = none := fun _ _ => rf_no (by decide +kernel) (by decide +kernel) (by decide +kernel) (by decide +kernel)
    have hb : Str.ofString "^" = tx [94] := by decide +kernel
    have he : Str.ofString "$" = tx [36] := by decide +kernel
    refine ⟨fun σ H1 => σ = [some (.ref p), some (.bl (decide (Z[0]? = some 94))), none, none] ∧ RdA C Z p dx l H1 (s0 Z) [] 0 ∧ K2 p l H H1, ?_, fun σ H1 hM => ?_⟩
    · refine ⟨.ref p, rfl, p, dx, _, rfl, R.e, nK _ _, Z, p, dx, l, 0, [], _, 94, (by rw [hb] <;> rfl), R, fun z H1 R1 k1 => ?_, fun z => ?_⟩
      · have e0 : s0 Z = 0 + 1 := if_pos z
        rw [e0, decide_eq_true z]
        exact ⟨rfl, R1, k1⟩
      · have e0 : s0 Z = 0 := if_neg z
        rw [e0, decide_eq_false z]
        exact ⟨rfl, R, K2.refl _ _ _⟩
    obtain ⟨rfl, R1, k1⟩ := hM
    refine ⟨.ref p, rfl, p, dx, _, rfl, R1.e, nC _ _, Z, p, dx, l, _, [], rfl, Nat.le_refl 8, R1, fun t e nm ee v H2 o2 R2 k2 => ?_, fun ee => (q2 (whole_no ee)).to k1⟩
    have ew := whole_of ee
    refine ⟨fun σ H3 => σ = [some (.ref p), some (.bl (decide (Z[0]? = some 94))), some v, some (.bl (decide (Z[e]? = some 36)))] ∧ TrO H3 v t ∧ RdA C Z p dx l H3 (sE Z e) nm 0 ∧ K2 p l H H3, ?_, fun σ H3 hM => ?_⟩
    · refine ⟨.ref p, rfl, p, dx, _, rfl, R2.e, nK _ _, Z, p, dx, l, e, nm, _, 36, (by rw [he] <;> rfl), R2, fun z H3 R3 k3 => ?_, fun z => ?_⟩
      · have e0 : sE Z e = e + 1 := if_pos z
        rw [e0, decide_eq_true z]
        exact ⟨rfl, o2.mono (R2.kt k3), R3, (k1.trans k2).trans k3⟩
      · have e0 : sE Z e = e := if_neg z
        rw [e0, decide_eq_false z]
        exact ⟨rfl, o2, R2, k1.trans k2⟩
    obtain ⟨rfl, o3, R3, k3⟩ := hM
    refine ⟨.ref p, rfl, p, dx, _, rfl, R3.e, nD _ _, .ref p, rfl, p, C, dx, _, _, rfl, R3.e, T.cl, T.nSp, rf_spot, .ref p, rfl, p, C, dx, _, _, rfl, R3.e, T.cl, T.nStr, rf_string, tx Z, rfl, tx_len60 R.z, rfl, ?_⟩
    have e9 : decide (V.int ((sE Z e : Nat) : Int) = V.int ((tx Z).length : Int)) = decide (sE Z e = Z.length) := by
      rw [tx_len]
      exact decide_eq_decide.mpr ⟨fun z => by have z := V.int.inj z; omega, fun z => by rw [z]⟩
    refine dem R3 e9 (fun z => ?_) fun z => (q2 (ew.trans (if_neg (of_decide_eq_false z)))).to k3
    have z := of_decide_eq_true z
    refine ⟨_, rfl, v, rfl, _, rfl, (show 3 ≤ sizeLine by decide), fun a ha => q1 _ (ew.trans (if_pos z)) a v _ upd_same (o3.mono (KT.same (smU ha))) ?_ (k3.trans (K2.same (smU ha)))⟩
    exact z ▸ R3.up (smU ha)
theorem ok_rp6 (T : RT K w mg C f fd tk cd ces cn ct) (B : Bad P w K mg base 1 D fB dB) {g : Addr} {gd : FuncData} (F : Fun K "read_pattern" "read_pattern" sRp g gd) : FnOk P w K mg base (L2.CX P w) 51 g gd ["value"] (spRp6 C D) := by
  refine F.okX scRp (fun vs H Q E h => ?_) (fun cdv A outer s H vs Q E hr h => ?_)
  · obtain ⟨Z, rfl, _⟩ := h
    rfl
  · obtain ⟨Z, rfl, hZ, q1, q2⟩ := h
    have GI := ok_ri (P := P) (base := base) T
    have GW := ok_whole6 T B
    refine ⟨_, pss_cons (ps_if (PW.pt (pw_or (pt_not (pt_val (pe_callB call_isi (by rfl) T.zisi PyProof.Rows.boot_isinstance (pa_cons (pv 0) (pa_cons (pe_bltn (by rfl) T.zstr PySem.Pv.boot_str (v := .ty "str") rfl) pa_nil)))))
        (pw_or1 (pt_cmpR op_gt (pe_callB call_len_str (by rfl) T.zlen PySem.boot_len (pa_cons (pv 0) pa_nil)) (pe_glob (v := .int 60) rfl T.gMS ⟨_, rfl⟩) (nomark _)))))
        (pss_one (ps_raise rfl (takes_of rfl rfl rfl rfl) (pmk_oex B.T B.iC B.tI B.G (hr.mono (by decide)) B.b .nil pass0 (by rfl) B.g (pa_cons (pv 0) pa_nil)))) pss_nil)
      (pss_cons (ps_set (i := 1) scRp.nd rfl (.inl rfl) (pe_make T.mkC GI (hr.mono (by decide)) rfl T.gC T.mI.b .nil pass0 (pa_cons (pv 0) pa_nil)))
      (pss_one (ps_ret (pe_tup (pa_cons (pv 1) (pa_cons (pe_meth0 (pv 1) T.cl T.mWhole.m GW hr T.mWhole.b .nil (passes_call (takes_of rfl rfl rfl rfl) (fun _ _ _ _ h => h))) pa_nil)))))), ?_⟩
    have nW : ∀ s' l' m', (rf Z s' l' m').lookup ("read_whole" : Str) = none := fun _ _ _ => rf_no (by decide +kernel) (by decide +kernel) (by decide +kernel) (by decide +kernel)
    refine ⟨.str (tx Z), rfl, .str (tx Z), .ty "str", _, _, true, rfl, .ty "str", .base (.str _), kit_ty (a := "str") (b := "str") (by decide +kernel), true, rfl, iteF ?_⟩
    refine ⟨.str (tx Z), rfl, tx Z, rfl, (show (tx Z).length ≤ sizeLine from by rw [tx_len]; exact Nat.le_trans hZ (by decide)), _, _, rfl, rfl, ?_⟩
    refine ⟨_, rfl, ?_⟩
    by_cases h60 : Z.length ≤ 60
    · have eP : fPat Z = fWhole Z := if_pos h60
      rw [eP] at q1 q2
      rw [decide_eq_false (show ¬ ((60 : Int) < ((tx Z).length : Int)) by rw [tx_len]; omega)]
      refine iteF ⟨.str (tx Z), rfl, fun x dx nx ndx nex => ?_⟩
      refine ⟨Z, x, dx, rfl, upd_same, h60, fun l H1 R1 hl k1 => ⟨rfl, ?_⟩⟩
      have nl : H l = none := by
        by_cases z : l = x
        · exact z ▸ nx
        · rw [upd_ne z] at hl
          by_cases z2 : l = dx
          · exact z2 ▸ ndx
          · rw [upd_ne z2] at hl
            exact hl
      have sm2 : ∀ {H2 : Hp}, K2 x l H1 H2 → Same H H2 := fun k2 c o e => by
        refine k2 c o (ne_of_none e nx) (ne_of_none e nl) (k1 c o (ne_of_none e nx) ?_)
        rw [upd_ne (ne_of_none e nx), upd_ne (ne_of_none e ndx)]
        exact e
      refine ⟨.ref x, rfl, .ref x, rfl, x, dx, _, rfl, R1.e, nW _ _ _, Z, x, dx, l, rfl, R1, fun W eW b v H2 e2 o2 R2 k2 => ?_, fun eW dd H2 k2 e2 => q2 eW dd H2 (sm2 k2) e2⟩
      refine ⟨(show 2 ≤ sizeLine by decide), fun a ha => ?_⟩
      have s2 := smU (o := HO.tup [.ref x, .ref b]) ha
      exact q1 W eW a b x dx l v _ upd_same (s2 _ _ e2) (o2.mono (KT.same s2)) (R2.up s2) ((sm2 k2).trans s2)
    · rw [decide_eq_true (show (60 : Int) < ((tx Z).length : Int) by rw [tx_len]; omega)]
      have z := q2 (if_neg h60)
      exact iteT ⟨.str (tx Z), rfl, (show 1 ≤ 1000 by decide), fun a na => ⟨a, _, rfl, upd_same, fun dx nx hne => ⟨rfl, dx, _, upd_same, by rw [upd_ne hne, upd_same], by rw [upd_ne hne] at nx; exact nx, raised z.rz na nx hne⟩⟩⟩
end
end Sf6
/-! The written-out expression in plain Lean: places, first and last ones, those behind each. -/
namespace Sf4
/-- whether it can be empty, first places, last places -/
abbrev Pt := Bool × List Nat × List Nat
/-- the letters of the places, and the places behind each -/
structure Wp where
  le : List (List Nat)
  fo : List (List Nat)
def addAt (fo : List (List Nat)) (i : Nat) (la : List Nat) : List (List Nat) := fo.set i (fo.getD i [] ++ la)
def lnk (fo : List (List Nat)) (ah la : List Nat) : List (List Nat) := ah.foldl (fun f i => addAt f i la) fo
def joinP (a b : Pt) : Pt := (a.1 && b.1, (if a.1 then a.2.1 ++ b.2.1 else a.2.1), (if b.1 then a.2.2 ++ b.2.2 else b.2.2))
def e0 : Pt := (true, [], [])
def many (a : Nat) : Option Nat → Nat
  | none => max a 1
  | some b => b
def rep (f : Wp → Pt × Wp) : Nat → Wp → List Pt × Wp
  | 0, w => ([], w)
  | n + 1, w => ((f w).1 :: (rep f n (f w).2).1, (rep f n (f w).2).2)
/-- the copies from the last one, joined ahead of a tail -/
def fin (least : Nat) : List Pt → Pt → List (List Nat) → Pt × List (List Nat)
  | [], tl, fo => (tl, fo)
  | c :: r, tl, fo => fin least r (if r.length + 1 > least then (true, (joinP c tl).2) else joinP c tl) (lnk fo c.2.2 tl.2.1)
def cntd (a : Nat) : Option Nat → List Pt × Wp → Pt × Wp
  | some _, (cs, w) => ((fin a cs.reverse e0 w.fo).1, ⟨w.le, (fin a cs.reverse e0 w.fo).2⟩)
  | none, (cs, w) => match cs.reverse with
    | [] => (e0, w)
    | c :: r => ((fin r.length r (if a > 0 then c else (true, c.2)) (lnk w.fo c.2.2 c.2.1)).1, ⟨w.le, (fin r.length r (if a > 0 then c else (true, c.2)) (lnk w.fo c.2.2 c.2.1)).2⟩)
mutual
def pO : Tr → Wp → Pt × Wp
  | .place s, w => ((false, [w.le.length], [w.le.length]), ⟨w.le ++ [s], w.fo ++ [[]]⟩)
  | .empty, w => (e0, w)
  | .capture _ t, w => pO t w
  | .chain l, w => pCh l e0 w
  | .choice l, w => (((pL l w).1.any (·.1), (pL l w).1.flatMap (·.2.1), (pL l w).1.flatMap (·.2.2)), (pL l w).2)
  | .count a b t, w => cntd a b (rep (pO t) (many a b) w)
def pCh : List Tr → Pt → Wp → Pt × Wp
  | [], p, w => (p, w)
  | t :: r, p, w => pCh r (joinP p (pO t w).1) ⟨(pO t w).2.le, lnk (pO t w).2.fo p.2.2 (pO t w).1.2.1⟩
def pL : List Tr → Wp → List Pt × Wp
  | [], w => ([], w)
  | t :: r, w => ((pO t w).1 :: (pL r (pO t w).2).1, (pL r (pO t w).2).2)
end
mutual
/-- how many places -/
def sz : Tr → Nat
  | .place _ => 1
  | .empty => 0
  | .capture _ t => sz t
  | .chain l => szL l
  | .choice l => szL l
  | .count a b t => many a b * sz t
def szL : List Tr → Nat
  | [] => 0
  | t :: r => sz t + szL r
end
mutual
/-- how many places are added to those behind one at most -/
def lks : Tr → Nat
  | .place _ => 0
  | .empty => 0
  | .capture _ t => lks t
  | .chain l => lksL l + szL l
  | .choice l => lksL l
  | .count a b t => many a b * lks t + many a b * sz t * (many a b + 1)
def lksL : List Tr → Nat
  | [] => 0
  | t :: r => lks t + lksL r
end
mutual
/-- the letters, written out -/
def spts : Tr → List (List Nat)
  | .place s => [s]
  | .empty => []
  | .capture _ t => spts t
  | .chain l => sptsL l
  | .choice l => sptsL l
  | .count a b t => (List.replicate (many a b) (spts t)).flatten
def sptsL : List Tr → List (List Nat)
  | [] => []
  | t :: r => spts t ++ sptsL r
end
/-! ### ranges -/
structure Rg (lo hi : Nat) (l : List Nat) : Prop where
  nd : l.Nodup
  lt : ∀ x ∈ l, lo ≤ x ∧ x < hi
theorem Rg.len {lo : Nat} : ∀ {hi : Nat} {l : List Nat}, Rg lo hi l → l.length ≤ hi - lo
  | 0, [], _ => Nat.zero_le _
  | 0, x :: l, h => absurd (h.lt x List.mem_cons_self).2 (by omega)
  | hi + 1, l, h => by
    by_cases z : hi ∈ l
    · have q : Rg lo hi (l.erase hi) := ⟨h.nd.erase hi, fun x hx => by
        obtain ⟨h1, h2⟩ := (h.nd.mem_erase_iff).mp hx
        have := h.lt x h2
        omega⟩
      have := q.len
      have e := List.length_erase_of_mem z
      have b := h.lt hi z
      have c : 0 < l.length := List.length_pos_of_mem z
      omega
    · have q : Rg lo hi l := ⟨h.nd, fun x hx => by
        have := h.lt x hx
        have : x ≠ hi := fun e => z (e ▸ hx)
        omega⟩
      have := q.len
      omega
theorem Rg.nil {lo hi : Nat} : Rg lo hi [] := ⟨List.nodup_nil, fun _ h => nomatch h⟩
theorem Rg.app {lo mid hi : Nat} {l m : List Nat} (a : Rg lo mid l) (b : Rg mid hi m) (h1 : lo ≤ mid) (h2 : mid ≤ hi) : Rg lo hi (l ++ m) := by
  refine ⟨List.nodup_append.mpr ⟨a.nd, b.nd, fun x hx y hy e => ?_⟩, fun x hx => ?_⟩
  · have := a.lt x hx
    have := b.lt y hy
    omega
  · rcases List.mem_append.mp hx with h | h
    · have := a.lt x h
      omega
    · have := b.lt x h
      omega
theorem Rg.wide {lo hi lo' hi' : Nat} {l : List Nat} (a : Rg lo hi l) (h1 : lo' ≤ lo) (h2 : hi ≤ hi') : Rg lo' hi' l := ⟨a.nd, fun x hx => by
  have := a.lt x hx
  omega⟩
structure POk (lo hi : Nat) (p : Pt) : Prop where
  f : Rg lo hi p.2.1
  l : Rg lo hi p.2.2
theorem POk.e0 {lo hi : Nat} : POk lo hi e0 := ⟨.nil, .nil⟩
theorem POk.opt {lo hi : Nat} {p : Pt} (h : POk lo hi p) (b : Bool) : POk lo hi (b, p.2) := ⟨h.f, h.l⟩
theorem POk.wide {lo hi lo' hi' : Nat} {p : Pt} (h : POk lo hi p) (h1 : lo' ≤ lo) (h2 : hi ≤ hi') : POk lo' hi' p := ⟨h.f.wide h1 h2, h.l.wide h1 h2⟩
theorem POk.join {lo mid hi : Nat} {a b : Pt} (h : POk lo mid a) (k : POk mid hi b) (h1 : lo ≤ mid) (h2 : mid ≤ hi) : POk lo hi (joinP a b) := by
  refine ⟨?_, ?_⟩
  · show Rg lo hi (if a.1 then a.2.1 ++ b.2.1 else a.2.1)
    split
    · exact h.f.app k.f h1 h2
    · exact h.f.wide (Nat.le_refl _) h2
  · show Rg lo hi (if b.1 then a.2.2 ++ b.2.2 else b.2.2)
    split
    · exact h.l.app k.l h1 h2
    · exact k.l.wide h1 (Nat.le_refl _)
/-! ### bounds -/
structure WOk (w : Wp) (n M : Nat) : Prop where
  le : w.le.length = n
  fo : w.fo.length = n
  bd : ∀ r ∈ w.fo, r.length ≤ M ∧ ∀ x ∈ r, x < n
theorem addAt_len (fo : List (List Nat)) (i : Nat) (la : List Nat) : (addAt fo i la).length = fo.length := List.length_set
theorem lnk_len (la : List Nat) : ∀ (ah : List Nat) (fo : List (List Nat)), (lnk fo ah la).length = fo.length
  | [], fo => rfl
  | i :: r, fo => (lnk_len la r (addAt fo i la)).trans (addAt_len fo i la)
theorem addAt_get (fo : List (List Nat)) (i j : Nat) (la : List Nat) : (addAt fo i la)[j]? = if j = i then (fo[j]?).map (· ++ la) else fo[j]? := by
  unfold addAt
  rw [List.getElem?_set]
  by_cases h : i = j
  · subst h
    rw [if_pos rfl, if_pos rfl]
    by_cases hl : i < fo.length
    · rw [if_pos hl, List.getElem?_eq_getElem hl, List.getD_eq_getElem?_getD, List.getElem?_eq_getElem hl] <;> rfl
    · rw [if_neg hl, List.getElem?_eq_none_iff.mpr (by omega)] <;> rfl
  · rw [if_neg h, if_neg (fun z => h z.symm)]
theorem lnk_get (la : List Nat) (j : Nat) : ∀ (ah : List Nat) (fo : List (List Nat)), ah.Nodup → (lnk fo ah la)[j]? = if j ∈ ah then (fo[j]?).map (· ++ la) else fo[j]?
  | [], fo, _ => rfl
  | i :: r, fo, h => by
    obtain ⟨h1, h2⟩ := List.nodup_cons.mp h
    rw [show lnk fo (i :: r) la = lnk (addAt fo i la) r la from rfl, lnk_get la j r _ h2, addAt_get]
    by_cases e : j = i
    · subst e
      rw [if_neg h1, if_pos rfl, if_pos List.mem_cons_self]
    · rw [if_neg e]
      by_cases k : j ∈ r
      · rw [if_pos k, if_pos (List.mem_cons_of_mem _ k)]
      · rw [if_neg k, if_neg (fun z => (List.mem_cons.mp z).elim e k)]
theorem WOk.lnk {w : Wp} {n M S : Nat} {ah la : List Nat} (h : WOk w n M) (hn : ah.Nodup) (hla : ∀ x ∈ la, x < n) (hl : la.length ≤ S) : WOk ⟨w.le, lnk w.fo ah la⟩ n (M + S) := by
  refine ⟨h.le, (lnk_len la ah w.fo).trans h.fo, fun r hr => ?_⟩
  obtain ⟨j, hj⟩ := List.mem_iff_getElem?.mp hr
  have hj : (Sf4.lnk w.fo ah la)[j]? = some r := hj
  rw [lnk_get la j ah w.fo hn] at hj
  have key : ∀ {q : List Nat}, w.fo[j]? = some q → q.length ≤ M ∧ ∀ x ∈ q, x < n := fun e => h.bd _ (List.mem_of_getElem? e)
  split at hj
  · cases e : w.fo[j]? with
    | none =>
      rw [e] at hj
      cases hj
    | some q =>
      rw [e] at hj
      obtain rfl : q ++ la = r := Option.some.inj hj
      obtain ⟨k1, k2⟩ := key e
      refine ⟨by rw [List.length_append]; omega, fun x hx => ?_⟩
      rcases List.mem_append.mp hx with z | z
      · exact k2 x z
      · exact hla x z
  · obtain ⟨k1, k2⟩ := key hj
    exact ⟨by omega, k2⟩
theorem WOk.more {w : Wp} {n M M' : Nat} (h : WOk w n M) (k : M ≤ M') : WOk w n M' := ⟨h.le, h.fo, fun r hr => ⟨Nat.le_trans (h.bd r hr).1 k, (h.bd r hr).2⟩⟩
/-- what is told of one's part -/
def Good (S s k : Nat) (f : Wp → Pt × Wp) : Prop := ∀ (w : Wp) (n M : Nat), WOk w n M → n + s ≤ S → WOk (f w).2 (n + s) (M + k) ∧ POk n (n + s) (f w).1
def Cps (s : Nat) : Nat → List Pt → Prop
  | _, [] => True
  | n, c :: r => POk n (n + s) c ∧ Cps s (n + s) r
def RCps (n s : Nat) : List Pt → Prop
  | [] => True
  | c :: r => POk (n + r.length * s) (n + (r.length + 1) * s) c ∧ RCps n s r
theorem rep_len (f : Wp → Pt × Wp) : ∀ (m : Nat) (w : Wp), (rep f m w).1.length = m
  | 0, _ => rfl
  | m + 1, w => by
    show (rep f m (f w).2).1.length + 1 = _
    rw [rep_len f m]
theorem rep_ok {S s k : Nat} {f : Wp → Pt × Wp} (hf : Good S s k f) : ∀ (m : Nat) (w : Wp) (n M : Nat), WOk w n M → n + m * s ≤ S → WOk (rep f m w).2 (n + m * s) (M + m * k) ∧ Cps s n (rep f m w).1
  | 0, w, n, M, h, _ => by
    refine ⟨?_, True.intro⟩
    rw [Nat.zero_mul, Nat.zero_mul]
    exact h
  | m + 1, w, n, M, h, hS => by
    have e1 : (m + 1) * s = m * s + s := Nat.succ_mul m s
    have e2 : (m + 1) * k = m * k + k := Nat.succ_mul m k
    obtain ⟨a, b⟩ := hf w n M h (by omega)
    obtain ⟨c, d⟩ := rep_ok hf m (f w).2 (n + s) (M + k) a (by omega)
    refine ⟨?_, b, d⟩
    rw [e1, e2, show n + (m * s + s) = n + s + m * s by omega, show M + (m * k + k) = M + k + m * k by omega]
    exact c
theorem RCps.snoc {n s : Nat} : ∀ {l : List Pt} {c : Pt}, RCps (n + s) s l → POk n (n + s) c → RCps n s (l ++ [c])
  | [], c, _, h => ⟨by
      show POk (n + 0 * s) (n + (0 + 1) * s) c
      rw [Nat.zero_mul, Nat.zero_add, Nat.one_mul]
      exact h, True.intro⟩
  | d :: r, c, ⟨h1, h2⟩, h => by
    refine ⟨?_, RCps.snoc h2 h⟩
    show POk (n + (r ++ [c]).length * s) (n + ((r ++ [c]).length + 1) * s) d
    rw [List.length_append, List.length_singleton]
    have e1 : (r.length + 1) * s = r.length * s + s := Nat.succ_mul _ _
    have e2 : (r.length + 1 + 1) * s = r.length * s + s + s := by rw [Nat.succ_mul, e1]
    rw [e1] at h1
    rw [e1, e2, show n + (r.length * s + s) = n + s + r.length * s by omega, show n + (r.length * s + s + s) = n + s + (r.length * s + s) by omega]
    exact h1
theorem Cps.rev {s : Nat} : ∀ {l : List Pt} {n : Nat}, Cps s n l → RCps n s l.reverse
  | [], _, _ => True.intro
  | c :: r, n, ⟨h1, h2⟩ => by
    rw [List.reverse_cons]
    exact RCps.snoc (Cps.rev h2) h1
theorem fin_ok {S n s N G : Nat} (least : Nat) (hS : N ≤ S) (hG : N - n ≤ G) : ∀ (rc : List Pt) (tl : Pt) (w : Wp) (M e : Nat), RCps n s rc → POk (n + rc.length * s) e tl → n + rc.length * s ≤ e → e ≤ N → WOk w N M →
    WOk ⟨w.le, (fin least rc tl w.fo).2⟩ N (M + G * rc.length) ∧ POk n e (fin least rc tl w.fo).1
  | [], tl, w, M, e, _, ht, _, _, hw => by
    refine ⟨hw, ?_⟩
    have ht : POk (n + 0 * s) e tl := ht
    rw [Nat.zero_mul] at ht
    exact ht
  | c :: r, tl, w, M, e, ⟨hc, hr⟩, ht, h1, h2, hw => by
    have e1 : (r.length + 1) * s = r.length * s + s := Nat.succ_mul _ _
    rw [List.length_cons] at ht h1
    have j := hc.join ht (by omega) h1
    have j2 : POk (n + r.length * s) e (if r.length + 1 > least then (true, (joinP c tl).2) else joinP c tl) := by
      split
      · exact j.opt true
      · exact j
    have hl : tl.2.1.length ≤ G := by
      have := ht.f.len
      omega
    have w2 := hw.lnk (S := G) hc.l.nd (fun x hx => by have := ht.f.lt x hx; omega) hl
    obtain ⟨a, b⟩ := fin_ok least hS hG r _ ⟨w.le, lnk w.fo c.2.2 tl.2.1⟩ (M + G) e hr j2 (by omega) h2 w2
    refine ⟨a.more ?_, b⟩
    rw [List.length_cons, Nat.mul_succ]
    omega
theorem cntd_ok {S s k a : Nat} {b : Option Nat} {f : Wp → Pt × Wp} (hf : Good S s k f) : Good S (many a b * s) (many a b * k + many a b * s * (many a b + 1)) (fun w => cntd a b (rep f (many a b) w)) := by
  intro w n M hw hS
  obtain ⟨h1, h2⟩ := rep_ok hf (many a b) w n M hw hS
  have hlen := rep_len f (many a b) w
  have rev := h2.rev
  have e1 : many a b * k + many a b * s * (many a b + 1) = many a b * k + many a b * s * many a b + many a b * s := by rw [Nat.mul_succ, Nat.add_assoc]
  cases hb : b with
  | some m =>
    subst hb
    have q := fin_ok (S := S) (n := n) (s := s) (N := n + many a (some m) * s) (G := many a (some m) * s) a hS (by omega) (rep f (many a (some m)) w).1.reverse e0 (rep f (many a (some m)) w).2 (M + many a (some m) * k) (n + many a (some m) * s) rev .e0 (by rw [List.length_reverse, hlen]; exact Nat.le_refl _) (Nat.le_refl _) h1
    rw [List.length_reverse, hlen] at q
    exact ⟨q.1.more (by omega), q.2⟩
  | none =>
    subst hb
    show WOk (match (rep f (many a none) w).1.reverse with | [] => _ | c :: r => _ : Pt × Wp).2 _ _ ∧ POk _ _ (match (rep f (many a none) w).1.reverse with | [] => _ | c :: r => _ : Pt × Wp).1
    cases hr : (rep f (many a none) w).1.reverse with
    | nil => exact ⟨h1.more (by omega), .e0⟩
    | cons c r =>
      rw [hr] at rev
      obtain ⟨hc, hr2⟩ := rev
      have hl2 : r.length + 1 = many a none := by
        have := congrArg List.length hr
        rw [List.length_reverse, hlen] at this
        exact this.symm
      rw [hl2] at hc
      have e2 : many a none * s = r.length * s + s := by rw [← hl2, Nat.succ_mul]
      have hl : c.2.1.length ≤ many a none * s := by
        have := hc.f.len
        omega
      have w2 := h1.lnk (S := many a none * s) hc.l.nd (fun x hx => (hc.f.lt x hx).2) hl
      have ht : POk (n + r.length * s) (n + many a none * s) (if a > 0 then c else (true, c.2)) := by
        split
        · exact hc
        · exact hc.opt true
      have q := fin_ok (S := S) (n := n) (s := s) (N := n + many a none * s) (G := many a none * s) r.length hS (by omega) r (if a > 0 then c else (true, c.2)) ⟨(rep f (many a none) w).2.le, lnk (rep f (many a none) w).2.fo c.2.2 c.2.1⟩ (M + many a none * k + many a none * s) (n + many a none * s) hr2 ht (by omega) (Nat.le_refl _) w2
      refine ⟨q.1.more ?_, q.2⟩
      have e3 : many a none * s * many a none = many a none * s * r.length + many a none * s := by
        have : many a none * s * (r.length + 1) = _ := Nat.mul_succ (many a none * s) r.length
        rw [hl2] at this
        exact this
      omega
theorem place_ok {S : Nat} (s : List Nat) : Good S 1 0 (pO (.place s)) := by
  intro w n M hw hS
  have one : Rg n (n + 1) [w.le.length] := ⟨List.nodup_cons.mpr ⟨List.not_mem_nil, List.nodup_nil⟩, fun x hx => by
    obtain rfl := List.mem_singleton.mp hx
    rw [hw.le]
    omega⟩
  refine ⟨⟨?_, ?_, fun r hr => ?_⟩, one, one⟩
  · show (w.le ++ [s]).length = _
    rw [List.length_append, hw.le] <;> rfl
  · show (w.fo ++ [[]]).length = _
    rw [List.length_append, hw.fo] <;> rfl
  · have hr : r ∈ w.fo ++ [[]] := hr
    rcases List.mem_append.mp hr with h | h
    · obtain ⟨a, b⟩ := hw.bd r h
      exact ⟨by omega, fun x hx => by have := b x hx; omega⟩
    · obtain rfl := List.mem_singleton.mp h
      exact ⟨Nat.zero_le _, fun _ h => nomatch h⟩
theorem any_ok {lo hi : Nat} : ∀ {l : List Pt}, True → True := fun _ => True.intro
/-- a row of parts, one behind the other -/
def Row (lo hi : Nat) : List Pt → Prop
  | [] => lo ≤ hi
  | c :: r => ∃ mid, lo ≤ mid ∧ POk lo mid c ∧ Row mid hi r
theorem Row.le {hi : Nat} : ∀ {l : List Pt} {lo : Nat}, Row lo hi l → lo ≤ hi
  | [], _, h => h
  | c :: r, _, ⟨m, h1, _, h3⟩ => Nat.le_trans h1 (Row.le h3)
theorem Row.flat {hi : Nat} (g : Pt → List Nat) (hg : ∀ {lo hi c}, POk lo hi c → Rg lo hi (g c)) : ∀ {l : List Pt} {lo : Nat}, Row lo hi l → Rg lo hi (l.flatMap g)
  | [], _, _ => .nil
  | c :: r, lo, ⟨m, h1, h2, h3⟩ => by
    rw [List.flatMap_cons]
    exact (hg h2).app (Row.flat g hg h3) h1 h3.le
mutual
theorem pO_ok {S : Nat} : ∀ t, Good S (sz t) (lks t) (pO t)
  | .place s => place_ok s
  | .empty => fun w n M hw _ => ⟨hw.more (by omega), .e0⟩
  | .capture n t => pO_ok t
  | .chain l => fun w n M hw hS => by
    have q := pCh_ok l e0 w n n M hw (Nat.le_refl _) .e0 hS
    exact q
  | .choice l => fun w n M hw hS => by
    obtain ⟨a, b⟩ := pL_ok l w n M hw hS
    exact ⟨a, b.flat (·.2.1) (fun h => h.f), b.flat (·.2.2) (fun h => h.l)⟩
  | .count a b t => cntd_ok (pO_ok t)
theorem pCh_ok {S : Nat} : ∀ (l : List Tr) (p : Pt) (w : Wp) (lo n M : Nat), WOk w n M → lo ≤ n → POk lo n p → n + szL l ≤ S → WOk (pCh l p w).2 (n + szL l) (M + (lksL l + szL l)) ∧ POk lo (n + szL l) (pCh l p w).1
  | [], p, w, lo, n, M, hw, h1, hp, _ => ⟨hw, hp⟩
  | t :: r, p, w, lo, n, M, hw, h1, hp, hS => by
    have hS : n + (sz t + szL r) ≤ S := hS
    obtain ⟨a, b⟩ := pO_ok (S := S) t w n M hw (by omega)
    have hl : (pO t w).1.2.1.length ≤ sz t := by
      have := b.f.len
      omega
    have w2 := a.lnk (S := sz t) hp.l.nd (fun x hx => (b.f.lt x hx).2) hl
    obtain ⟨c, d⟩ := pCh_ok (S := S) r (joinP p (pO t w).1) ⟨(pO t w).2.le, lnk (pO t w).2.fo p.2.2 (pO t w).1.2.1⟩ lo (n + sz t) (M + lks t + sz t) w2 (by omega) (hp.join (mid := n) (hi := n + sz t) b h1 (by omega)) (by omega)
    refine ⟨?_, ?_⟩
    · have e : M + (lksL (t :: r) + szL (t :: r)) = M + lks t + sz t + (lksL r + szL r) := by
        show M + (lks t + lksL r + (sz t + szL r)) = _
        omega
      rw [e]
      show WOk _ (n + (sz t + szL r)) _
      rw [show n + (sz t + szL r) = n + sz t + szL r by omega]
      exact c
    · show POk lo (n + (sz t + szL r)) _
      rw [show n + (sz t + szL r) = n + sz t + szL r by omega]
      exact d
theorem pL_ok {S : Nat} : ∀ (l : List Tr) (w : Wp) (n M : Nat), WOk w n M → n + szL l ≤ S → WOk (pL l w).2 (n + szL l) (M + lksL l) ∧ Row n (n + szL l) (pL l w).1
  | [], w, n, M, hw, _ => ⟨hw, Nat.le_refl _⟩
  | t :: r, w, n, M, hw, hS => by
    have hS : n + (sz t + szL r) ≤ S := hS
    obtain ⟨a, b⟩ := pO_ok (S := S) t w n M hw (by omega)
    obtain ⟨c, d⟩ := pL_ok (S := S) r (pO t w).2 (n + sz t) (M + lks t) a (by omega)
    have e : M + lksL (t :: r) = M + lks t + lksL r := by
      show M + (lks t + lksL r) = _
      omega
    rw [e]
    show WOk _ (n + (sz t + szL r)) _ ∧ Row n (n + (sz t + szL r)) ((pO t w).1 :: _)
    rw [show n + (sz t + szL r) = n + sz t + szL r by omega]
    exact ⟨c, n + sz t, by omega, b, d⟩
end
/-! ### the letters -/
theorem rep_le {f : Wp → Pt × Wp} {ls : List (List Nat)} (hf : ∀ w, (f w).2.le = w.le ++ ls) : ∀ (m : Nat) (w : Wp), (rep f m w).2.le = w.le ++ (List.replicate m ls).flatten
  | 0, w => by
    show w.le = _
    rw [List.replicate_zero, List.flatten_nil, List.append_nil]
  | m + 1, w => by
    show (rep f m (f w).2).2.le = _
    rw [rep_le hf m, hf, List.replicate_succ, List.flatten_cons, List.append_assoc]
theorem cntd_le (a : Nat) (b : Option Nat) (z : List Pt × Wp) : (cntd a b z).2.le = z.2.le := by
  obtain ⟨cs, w⟩ := z
  cases b with
  | some m => rfl
  | none =>
    show (match cs.reverse with | [] => _ | c :: r => _ : Pt × Wp).2.le = _
    cases cs.reverse <;> rfl
mutual
theorem pO_le : ∀ (t : Tr) (w : Wp), (pO t w).2.le = w.le ++ spts t
  | .place s, w => rfl
  | .empty, w => (List.append_nil _).symm
  | .capture n t, w => pO_le t w
  | .chain l, w => pCh_le l e0 w
  | .choice l, w => pL_le l w
  | .count a b t, w => by
    show (cntd a b (rep (pO t) (many a b) w)).2.le = _
    rw [cntd_le, rep_le (pO_le t)] <;> rfl
theorem pCh_le : ∀ (l : List Tr) (p : Pt) (w : Wp), (pCh l p w).2.le = w.le ++ sptsL l
  | [], p, w => (List.append_nil _).symm
  | t :: r, p, w => by
    show (pCh r _ _).2.le = w.le ++ (spts t ++ sptsL r)
    rw [pCh_le r, pO_le t, List.append_assoc]
theorem pL_le : ∀ (l : List Tr) (w : Wp), (pL l w).2.le = w.le ++ sptsL l
  | [], w => (List.append_nil _).symm
  | t :: r, w => by
    show (pL r _).2.le = w.le ++ (spts t ++ sptsL r)
    rw [pL_le r, pO_le t, List.append_assoc]
end
end Sf4
/-! The object that writes out: its letters, its followers; link, joined. -/
namespace Sf4
open PySem PySem.Spec PyProof.Rows L2 Sf
abbrev sWI : Stmt := inClass cWr 0
abbrev sLink : Stmt := inClass cWr 1
abbrev sJoined : Stmt := inClass cWr 2
abbrev sPartOf : Stmt := inClass cWr 3
abbrev sCounted : Stmt := inClass cWr 4
structure WT (K : PySem.W.Frag) (mg : Str → Option Value) (C : Addr) (f : Nat → Addr) (fd : Nat → FuncData) (tk : Nat → Tok) : Prop where
  cl : Cls K C
  nLe : NoAttr K C "letters"
  nFo : NoAttr K C "followers"
  mI : Mt K C "__init__" "Written.__init__" sWI ["self"] (f 0) (fd 0)
  mLink : Mt K C "link" "Written.link" sLink ["self", "ahead", "later"] (f 1) (fd 1)
  mJoin : Mt K C "joined" "Written.joined" sJoined ["self", "one", "other"] (f 2) (fd 2)
  mPart : Mt K C "part_of" "Written.part_of" sPartOf ["self", "tree"] (f 3) (fd 3)
  mCount : Mt K C "counted" "Written.counted" sCounted ["self", "least", "most", "tree"] (f 4) (fd 4)
  mkC : Mk K C (f 0)
  gC : mg "Written" = some (.ref C)
  gPl : mg "PLACE" = some (.str plW (tk 9))
  gCh : mg "CHAIN" = some (.str chW (tk 10))
  gAl : mg "CHOICE" = some (.str alW (tk 11))
  gCo : mg "COUNT" = some (.str coW (tk 12))
  gCa : mg "CAPTURE" = some (.str caW (tk 13))
  zlen : mg "len" = none
  zany : mg "any" = none
  zmax : mg "max" = none
  zrange : mg "range" = none
  ztup : mg "tuple" = none
  zsorted : mg "sorted" = none
  zset : mg "set" = none
def nIs (l : List Nat) : List V := l.map fun (i : Nat) => V.int (i : Int)
theorem nIs_len (l : List Nat) : (nIs l).length = l.length := by
  unfold nIs
  rw [List.length_map]
theorem nIs_app (a b : List Nat) : nIs a ++ nIs b = nIs (a ++ b) := by
  unfold nIs
  rw [List.map_append]
def wf_ (la fa : Addr) : List (Str × V) := [("letters", .ref la), ("followers", .ref fa)]
theorem wf_le {la fa : Addr} : (wf_ la fa).lookup ("letters" : Str) = some (.ref la) := lk_eq
theorem wf_fo {la fa : Addr} : (wf_ la fa).lookup ("followers" : Str) = some (.ref fa) := (lk_ne (by decide +kernel)).trans lk_eq
theorem wf_no {la fa : Addr} {k : Str} (h1 : ¬ k = "letters") (h2 : ¬ k = "followers") : (wf_ la fa).lookup k = none := (lk_ne h1).trans ((lk_ne h2).trans rfl)
def Own (p la fa : Addr) (as : List Addr) (b : Addr) : Prop := b = p ∨ b = la ∨ b = fa ∨ b ∈ as
structure WrA (C p dx la fa : Addr) (H : Hp) (w : Wp) (as : List Addr) : Prop where
  e : H p = some (.ins C dx (wf_ la fa))
  l : H la = some (.lst (nmV w.le))
  f : H fa = some (.lst (as.map V.ref))
  ne : la ≠ fa
  nd : as.Nodup
  n : as.length = w.fo.length
  at_ : ∀ (i : Nat) (x : Addr) (r : List Nat), as[i]? = some x → w.fo[i]? = some r → H x = some (.lst (nIs r)) ∧ x ≠ la ∧ x ≠ fa
def KW (p la fa : Addr) (as : List Addr) (H H' : Hp) : Prop := ∀ b o, ¬ Own p la fa as b → H b = some o → H' b = some o
def Ext (H : Hp) (as as' : List Addr) : Prop := ∃ n, as' = as ++ n ∧ ∀ x ∈ n, H x = none
theorem Ext.refl {H : Hp} {as : List Addr} : Ext H as as := ⟨[], (List.append_nil _).symm, fun _ h => nomatch h⟩
section
variable {C p dx la fa : Addr} {H H' H1 H2 : Hp} {w w' : Wp} {as as1 as2 : List Addr}
theorem WrA.own (W : WrA C p dx la fa H w as) {b : Addr} (h : Own p la fa as b) : ∃ o, H b = some o ∧ ∀ xs, o ≠ .tup xs := by
  rcases h with rfl | rfl | rfl | h
  · exact ⟨_, W.e, fun _ z => by cases z⟩
  · exact ⟨_, W.l, fun _ z => by cases z⟩
  · exact ⟨_, W.f, fun _ z => by cases z⟩
  · obtain ⟨i, hi⟩ := List.mem_iff_getElem?.mp h
    have hl := (List.getElem?_eq_some_iff.mp hi).1
    rw [W.n] at hl
    obtain ⟨q, _⟩ := W.at_ i b _ hi (List.getElem?_eq_getElem hl)
    exact ⟨_, q, fun _ z => by cases z⟩
theorem WrA.no (W : WrA C p dx la fa H w as) {b : Addr} (h : H b = none) : ¬ Own p la fa as b := fun z => by
  obtain ⟨o, e, _⟩ := W.own z
  rw [h] at e
  cases e
theorem WrA.tup (W : WrA C p dx la fa H w as) {b : Addr} {xs : List V} (h : H b = some (.tup xs)) : ¬ Own p la fa as b := fun z => by
  obtain ⟨o, e, q⟩ := W.own z
  rw [h] at e
  exact q xs (Option.some.inj e).symm
theorem WrA.up (W : WrA C p dx la fa H w as) (k : Same H H') : WrA C p dx la fa H' w as := ⟨k _ _ W.e, k _ _ W.l, k _ _ W.f, W.ne, W.nd, W.n, fun i x r h1 h2 => by
  obtain ⟨a, b⟩ := W.at_ i x r h1 h2
  exact ⟨k _ _ a, b⟩⟩
/-- a store elsewhere -/
theorem WrA.wr (W : WrA C p dx la fa H w as) {b : Addr} {o : HO} (h : ¬ Own p la fa as b) : WrA C p dx la fa (upd H b o) w as := by
  have n : ∀ {c : Addr}, Own p la fa as c → c ≠ b := fun hc z => h (z ▸ hc)
  refine ⟨by rw [upd_ne (n (.inl rfl))]; exact W.e, by rw [upd_ne (n (.inr (.inl rfl)))]; exact W.l, by rw [upd_ne (n (.inr (.inr (.inl rfl))))]; exact W.f, W.ne, W.nd, W.n, fun i x r h1 h2 => ?_⟩
  obtain ⟨a, c⟩ := W.at_ i x r h1 h2
  refine ⟨?_, c⟩
  rw [upd_ne (n (.inr (.inr (.inr (List.mem_of_getElem? h1)))))]
  exact a
theorem KW.refl : KW p la fa as H H := fun _ _ _ h => h
theorem KW.same (k : Same H H') : KW p la fa as H H' := fun b o _ h => k b o h
theorem KW.trans (a : KW p la fa as H H1) (x : Ext H as as1) (b : KW p la fa as1 H1 H2) : KW p la fa as H H2 := fun c o n h => by
  obtain ⟨m, rfl, hm⟩ := x
  refine b c o (fun z => ?_) (a c o n h)
  rcases z with z | z | z | z
  · exact n (.inl z)
  · exact n (.inr (.inl z))
  · exact n (.inr (.inr (.inl z)))
  · rcases List.mem_append.mp z with z | z
    · exact n (.inr (.inr (.inr z)))
    · rw [hm c z] at h
      cases h
theorem KW.trans0 (a : KW p la fa as H H1) (b : KW p la fa as H1 H2) : KW p la fa as H H2 := a.trans .refl b
theorem Ext.trans (x : Ext H as as1) (a : KW p la fa as H H1) (W : WrA C p dx la fa H1 w as1) (y : Ext H1 as1 as2) : Ext H as as2 := by
  obtain ⟨m, rfl, hm⟩ := x
  obtain ⟨n, rfl, hn⟩ := y
  refine ⟨m ++ n, List.append_assoc .., fun c hc => ?_⟩
  rcases List.mem_append.mp hc with h | h
  · exact hm c h
  · have h0 := hn c h
    have nw := W.no h0
    cases e : H c with
    | none => rfl
    | some o =>
      have := a c o (fun z => nw (by
        rcases z with z | z | z | z
        · exact .inl z
        · exact .inr (.inl z)
        · exact .inr (.inr (.inl z))
        · exact .inr (.inr (.inr (List.mem_append.mpr (.inl z)))))) e
      rw [h0] at this
      cases this
theorem KW.kt (W : WrA C p dx la fa H w as) (k : KW p la fa as H H') : KT H H' := fun b xs h => k b _ (W.tup h) h
/-- a part on the heap, apart from some addresses -/
structure PtB (O : Addr → Prop) (H : Hp) (a f1 g1 : Addr) (c : Pt) : Prop where
  t : H a = some (.tup [.bl c.1, .ref f1, .ref g1])
  f : H f1 = some (.lst (nIs c.2.1))
  g : H g1 = some (.lst (nIs c.2.2))
  nt : ¬ O a
  nf : ¬ O f1
  ng : ¬ O g1
def PtO (O : Addr → Prop) (H : Hp) (x : V) (c : Pt) : Prop := ∃ a f g, x = .ref a ∧ PtB O H a f g c
theorem Ext.own (x : Ext H as as1) {b : Addr} {o : HO} (h : H b = some o) (n : ¬ Own p la fa as b) : ¬ Own p la fa as1 b := fun z => by
  obtain ⟨m, rfl, hm⟩ := x
  rcases z with z | z | z | z
  · exact n (.inl z)
  · exact n (.inr (.inl z))
  · exact n (.inr (.inr (.inl z)))
  · rcases List.mem_append.mp z with z | z
    · exact n (.inr (.inr (.inr z)))
    · rw [hm b z] at h
      cases h
theorem Ext.own2 (x : Ext H as as1) {b : Addr} (n : Own p la fa as b) : Own p la fa as1 b := by
  obtain ⟨m, rfl, hm⟩ := x
  rcases n with z | z | z | z
  · exact .inl z
  · exact .inr (.inl z)
  · exact .inr (.inr (.inl z))
  · exact .inr (.inr (.inr (List.mem_append.mpr (.inl z))))
theorem PtO.mono {O : Addr → Prop} {x : V} {c : Pt} (h : PtO O H x c) (k : ∀ b o, ¬ O b → H b = some o → H' b = some o) : PtO O H' x c := by
  obtain ⟨a, f, g, rfl, b⟩ := h
  exact ⟨a, f, g, rfl, k _ _ b.nt b.t, k _ _ b.nf b.f, k _ _ b.ng b.g, b.nt, b.nf, b.ng⟩
theorem PtO.sub {O O' : Addr → Prop} {x : V} {c : Pt} (h : PtO O H x c) (k : ∀ b o, ¬ O b → H b = some o → ¬ O' b) : PtO O' H x c := by
  obtain ⟨a, f, g, rfl, b⟩ := h
  exact ⟨a, f, g, rfl, b.t, b.f, b.g, k _ _ b.nt b.t, k _ _ b.nf b.f, k _ _ b.ng b.g⟩
theorem PtO.same {O : Addr → Prop} {x : V} {c : Pt} (h : PtO O H x c) (k : Same H H') : PtO O H' x c := h.mono fun b o _ e => k b o e
/-- what is kept apart: all that is owned, and all is there -/
structure Apt (p la fa : Addr) (as : List Addr) (H : Hp) (O : Addr → Prop) : Prop where
  sub : ∀ b, Own p la fa as b → O b
  all : ∀ b, O b → ∃ o, H b = some o
theorem Apt.no {O : Addr → Prop} (a : Apt p la fa as H O) {b : Addr} (h : H b = none) : ¬ O b := fun z => by
  obtain ⟨o, e⟩ := a.all b z
  rw [h] at e
  cases e
/-- one list is extended -/
theorem WrA.add (W : WrA C p dx la fa H w as) {i : Nat} {x : Addr} {r l : List Nat} (h1 : as[i]? = some x) (h2 : w.fo[i]? = some r) : WrA C p dx la fa (upd H x (.lst (nIs (r ++ l)))) ⟨w.le, addAt w.fo i l⟩ as := by
  obtain ⟨a, b, c⟩ := W.at_ i x r h1 h2
  have np : p ≠ x := ne_of W.e a (by intro z; cases z)
  refine ⟨by rw [upd_ne np]; exact W.e, by rw [upd_ne b.symm]; exact W.l, by rw [upd_ne c.symm]; exact W.f, W.ne, W.nd, W.n.trans (addAt_len _ _ _).symm, fun j y q h3 h4 => ?_⟩
  have h4 : (addAt w.fo i l)[j]? = some q := h4
  rw [addAt_get] at h4
  by_cases e : j = i
  · subst e
    rw [h1] at h3
    cases h3
    rw [if_pos rfl, h2] at h4
    cases h4
    exact ⟨upd_same, b, c⟩
  · rw [if_neg e] at h4
    obtain ⟨a2, b2⟩ := W.at_ j y q h3 h4
    refine ⟨?_, b2⟩
    have nxy : y ≠ x := fun z => by
      subst z
      exact e ((List.getElem?_inj (List.getElem?_eq_some_iff.mp h3).1 W.nd).mp (h3.trans h1.symm))
    rw [upd_ne nxy]
    exact a2
end
theorem scLink : FnScope ["self", "ahead", "later", "place"] ["self", "ahead", "later"] (defScope sLink) := ⟨rfl, rfl, rfl, by decide +kernel, rfl, by decide +kernel, by decide +kernel⟩
theorem scJoined : FnScope ["self", "one", "other", "first", "last"] ["self", "one", "other"] (defScope sJoined) := ⟨rfl, rfl, rfl, by decide +kernel, rfl, by decide +kernel, by decide +kernel⟩
theorem scWI : FnScope ["self"] ["self"] (defScope sWI) := ⟨rfl, rfl, rfl, by decide +kernel, rfl, by decide +kernel, by decide +kernel⟩
/-- bounds of the work -/
structure Bn (w : Wp) (ah lr : List Nat) : Prop where
  nd : ah.Nodup
  lt : ∀ x ∈ ah, x < w.fo.length
  la : ah.length ≤ 1000
  ll : lr.length ≤ 1000
  bd : ∀ r ∈ w.fo, r.length ≤ 10000
def spLink (C : Addr) : Sp := fun vs H Q _ => ∃ (p dx la fa a b : Addr) (w : Wp) (as : List Addr) (ah lt : List Nat), vs = [.ref p, .ref a, .ref b] ∧ WrA C p dx la fa H w as ∧ H a = some (.lst (nIs ah)) ∧ H b = some (.lst (nIs lt)) ∧ ¬ Own p la fa as a ∧ ¬ Own p la fa as b ∧ Bn w ah lt ∧
  ∀ H', WrA C p dx la fa H' ⟨w.le, lnk w.fo ah lt⟩ as → KW p la fa as H H' → Q .non H'
def spJoined (C : Addr) : Sp := fun vs H Q _ => ∃ (p dx la fa : Addr) (x y : V) (w : Wp) (as : List Addr) (c d : Pt) (O : Addr → Prop), vs = [.ref p, x, y] ∧ WrA C p dx la fa H w as ∧ Apt p la fa as H O ∧ PtO O H x c ∧ PtO O H y d ∧ Bn w c.2.2 d.2.1 ∧ c.2.1.length ≤ 1000 ∧ d.2.2.length ≤ 1000 ∧
  ∀ z H', PtO O H' z (joinP c d) → WrA C p dx la fa H' ⟨w.le, lnk w.fo c.2.2 d.2.1⟩ as → KW p la fa as H H' → Q z H'
def spWI (C : Addr) : Sp := fun vs H Q _ => ∃ (p dx : Addr), vs = [.ref p] ∧ H p = some (.ins C dx []) ∧
  ∀ la fa H', WrA C p dx la fa H' ⟨[], []⟩ [] → H la = none → H fa = none → (∀ b o, b ≠ p → H b = some o → H' b = some o) → Q .non H'
theorem lnk_snoc (fo : List (List Nat)) (ah la : List Nat) (i : Nat) : lnk fo (ah ++ [i]) la = addAt (lnk fo ah la) i la := by
  unfold lnk
  rw [List.foldl_append] <;> rfl
section
variable {P : Program} {w : World} {K : PySem.W.Frag} {mg : Str → Option Value} {base : Heap} {C : Addr} {f : Nat → Addr} {fd : Nat → FuncData} {tk : Nat → Tok}
theorem ok_wi (T : WT K mg C f fd tk) : FnOk P w K mg base CX0 1 (f 0) (fd 0) ["self"] (spWI C) := by
  refine T.mI.F.ok scWI (fun vs H Q E h => ?_) (fun cdv A outer s H vs Q E hr h => ?_)
  · obtain ⟨p, dx, rfl, _⟩ := h
    rfl
  · obtain ⟨p, dx, rfl, hp, q⟩ := h
    refine ⟨_, pss_cons (ps_fld (pv 0) (pe_lst pa_nil) rfl) (pss_one (ps_fld (pv 0) (pe_lst pa_nil) rfl)), ?_⟩
    refine ⟨Nat.zero_le _, fun l hl => ?_⟩
    have npl : p ≠ l := fun z => by
      rw [← z, hp] at hl
      cases hl
    refine ⟨_, rfl, p, C, dx, _, rfl, (upd_ne npl).trans hp, T.cl, T.nLe, (show 0 < 1000 by decide), ?_⟩
    refine ⟨Nat.zero_le _, fun m hm => ?_⟩
    have npm : p ≠ m := fun z => by
      rw [← z, upd_same] at hm
      cases hm
    have nlm : l ≠ m := fun z => by
      rw [← z, upd_ne npl.symm, upd_same] at hm
      cases hm
    have hm0 : H m = none := by
      rw [upd_ne npm.symm, upd_ne nlm.symm] at hm
      exact hm
    refine ⟨_, rfl, p, C, dx, _, rfl, (upd_ne npm).trans upd_same, T.cl, T.nFo, (show 1 < 1000 by decide), ?_⟩
    refine q l m _ ⟨by rw [upd_same] <;> rfl, by rw [upd_ne npl.symm, upd_ne nlm, upd_ne npl.symm, upd_same] <;> rfl, by rw [upd_ne npm.symm, upd_same] <;> rfl, nlm, List.nodup_nil, rfl, fun i x r h1 => by cases h1⟩ hl hm0 fun b o nb e => ?_
    rw [upd_ne nb, upd_ne (ne_of_none e hm0), upd_ne nb, upd_ne (ne_of_none e hl)]
    exact e
theorem ok_link (T : WT K mg C f fd tk) : FnOk P w K mg base CX0 1 (f 1) (fd 1) ["self", "ahead", "later"] (spLink C) := by
  refine T.mLink.F.ok scLink (fun vs H Q E h => ?_) (fun cdv A outer s H vs Q E hr h => ?_)
  · obtain ⟨p, dx, la, fa, a, b, w, as, ah, lt, rfl, _⟩ := h
    rfl
  · obtain ⟨p, dx, la, fa, a, b, w, as, ah, lt, rfl, W, ha, hb, na, nb, B, q⟩ := h
    refine ⟨_, pss_one (ps_for PassesOwn.never rfl (pi_list (pv 1)) (pg_name (i := 3) scLink.nd rfl (Or.inl rfl))
      (pss_one (ps_expr (pe_bm PySem.F.plainAttrs_list PySem.F.slot_list_extend PySem.F.type_list_extend mt_extend (pe_ix ix_list (pe_fld (pv 0) rfl) (pv 3) (fun _ _ => rfl)) (pa_cons (pv 2) pa_nil))))), ?_⟩
    refine ⟨_, rfl, a, rfl, ⟨_, .inl (.inl ha)⟩, for_list (K := K) (a := a) (xs := nIs ah) (fun i σ H1 => ∃ v, σ = [some (.ref p), some (.ref a), some (.ref b), v] ∧ WrA C p dx la fa H1 ⟨w.le, lnk w.fo (ah.take i) lt⟩ as ∧ KW p la fa as H H1)
      ⟨none, rfl, W, .refl⟩ (fun i σ H1 _ ⟨_, _, _, k⟩ => .inl (.inl (k _ _ na ha))) ?_ ?_⟩
    · rintro i y σ H1 hi ⟨v, rfl, W1, k1⟩
      obtain ⟨x, hx, rfl⟩ : ∃ x, ah[i]? = some x ∧ y = V.int (x : Int) := by
        unfold nIs at hi
        rw [List.getElem?_map] at hi
        cases e : ah[i]? with
        | none =>
          rw [e] at hi
          cases hi
        | some x =>
          rw [e] at hi
          exact ⟨x, rfl, (Option.some.inj hi).symm⟩
      have hlt := B.lt x (List.mem_of_getElem? hx)
      have hl := (List.getElem?_eq_some_iff.mp hx).1
      have ht : ah.take (i + 1) = ah.take i ++ [x] := by
        rw [List.take_succ_eq_append_getElem hl, (List.getElem?_eq_some_iff.mp hx).2]
      have nx : x ∉ ah.take i := fun z => by
        have := B.nd.sublist (List.take_sublist (i + 1) ah)
        rw [ht] at this
        exact (List.nodup_append.mp this).2.2 x z x List.mem_cons_self rfl
      have hr0 : (lnk w.fo (ah.take i) lt)[x]? = some w.fo[x] := by
        rw [lnk_get lt x _ _ (B.nd.sublist (List.take_sublist i ah)), if_neg nx, List.getElem?_eq_getElem hlt]
      have hla : x < as.length := by
        rw [W.n]
        exact hlt
      have hax := List.getElem?_eq_getElem hla
      obtain ⟨c1, c2, c3⟩ := W1.at_ x _ _ hax hr0
      have hbd := B.bd _ (List.getElem_mem hlt)
      have kb := k1 _ _ nb hb
      refine ⟨.ref p, rfl, p, C, dx, _, _, rfl, W1.e, T.cl, T.nFo, wf_fo, .int x, rfl, fa, _, x, .ref as[x], rfl, rfl, .inl (.inl W1.f), atI_nat (by rw [List.getElem?_map, hax] <;> rfl), .inl ⟨rfl, _, .inl (.inl c1)⟩, .ref b, rfl, as[x], b, _, _, rfl, rfl, c1, kb, ?_, ?_⟩
      · rw [nIs_len, nIs_len]
        have := B.ll
        exact Nat.le_trans (show w.fo[x].length + lt.length ≤ 20000 by omega) (by decide)
      · rw [nIs_app]
        refine ⟨_, rfl, ?_, fun d o nd e => ?_⟩
        · rw [ht, lnk_snoc]
          exact W1.add hax hr0
        · have nda : d ≠ as[x] := fun z => nd (.inr (.inr (.inr (by rw [z]; exact List.getElem_mem hla))))
          rw [upd_ne nda]
          exact k1 d o nd e
    · rintro σ H1 ⟨v, rfl, W1, k1⟩
      rw [nIs_len, List.take_of_length_le (Nat.le_refl _)] at W1
      exact q H1 W1 k1
theorem ok_joined (T : WT K mg C f fd tk) : FnOk P w K mg base CX0 2 (f 2) (fd 2) ["self", "one", "other"] (spJoined C) := by
  refine T.mJoin.F.ok scJoined (fun vs H Q E h => ?_) (fun cdv A outer s H vs Q E hr h => ?_)
  · obtain ⟨p, dx, la, fa, x, y, w, as, c, d, O, rfl, _⟩ := h
    rfl
  · obtain ⟨p, dx, la, fa, x, y, w, as, c, d, O, rfl, W, ap, ⟨a, f1, g1, rfl, pc⟩, ⟨b, f2, g2, rfl, pd⟩, B, l1, l2, q⟩ := h
    have un : ∀ {b : Addr}, ¬ O b → ¬ Own p la fa as b := fun h z => h (ap.sub _ z)
    have GL := ok_link (P := P) (base := base) (w := ‹World›) T
    refine ⟨_, pss_cons (ps_expr (pe_meth (pv 0) T.cl T.mLink.m GL hr T.mLink.b .nil pass0 (pa_cons (pe_ix ix_tup (pv 1) pe_int (fun _ _ => rfl)) (pa_cons (pe_ix ix_tup (pv 2) pe_int (fun _ _ => rfl)) pa_nil))))
      (Evl.pss_cut (ps_set (i := 3) scJoined.nd rfl (.inl rfl) (pe_ifExp (pt_val (pe_ix ix_tup (pv 1) pe_int (fun _ _ => rfl))) (pe_op op_cat (pe_ix ix_tup (pv 1) pe_int (fun _ _ => rfl)) (pe_ix ix_tup (pv 2) pe_int (fun _ _ => rfl))) (pe_ix ix_tup (pv 1) pe_int (fun _ _ => rfl))))
      (Evl.pss_cut (ps_set (i := 4) scJoined.nd rfl (.inl rfl) (pe_ifExp (pt_val (pe_ix ix_tup (pv 2) pe_int (fun _ _ => rfl))) (pe_op op_cat (pe_ix ix_tup (pv 1) pe_int (fun _ _ => rfl)) (pe_ix ix_tup (pv 2) pe_int (fun _ _ => rfl))) (pe_ix ix_tup (pv 2) pe_int (fun _ _ => rfl))))
      (pss_one (ps_ret (pe_tup (pa_cons (pe_and (pe_ix ix_tup (pv 1) pe_int (fun _ _ => rfl)) (pe_one (pe_ix ix_tup (pv 2) pe_int (fun _ _ => rfl)))) (pa_cons (pv 3) (pa_cons (pv 4) pa_nil)))))))), ?_⟩
    have ix : ∀ {H1 : Hp} {t : Addr} {u v z : V} {j : Nat} {r : V}, H1 t = some (.tup [u, v, z]) → [u, v, z][j]? = some r → rIxT K (.ref t) (.int (j : Int)) H1 = rIxT K (.ref t) (.int (j : Int)) H1 := fun _ _ => rfl
    have nL : (wf_ la fa).lookup ("link" : Str) = none := wf_no (by decide +kernel) (by decide +kernel)
    refine ⟨.ref p, rfl, p, dx, _, rfl, W.e, nL, .ref a, rfl, a, _, 2, _, rfl, rfl, .inl (.inl pc.t), atI_nat (j := 2) rfl, .ref b, rfl, b, _, 1, _, rfl, rfl, .inl (.inl pd.t), atI_nat (j := 1) rfl, ?_⟩
    refine ⟨p, dx, la, fa, g1, f2, w, as, _, _, rfl, W, pc.g, pd.f, un pc.ng, un pd.nf, B, fun H1 W1 k1 => ?_⟩
    have c1 : PtB O H1 a f1 g1 c := ⟨k1 _ _ (un pc.nt) pc.t, k1 _ _ (un pc.nf) pc.f, k1 _ _ (un pc.ng) pc.g, pc.nt, pc.nf, pc.ng⟩
    have d1 : PtB O H1 b f2 g2 d := ⟨k1 _ _ (un pd.nt) pd.t, k1 _ _ (un pd.nf) pd.f, k1 _ _ (un pd.ng) pd.g, pd.nt, pd.nf, pd.ng⟩
    have al1 : ∀ b, O b → ∃ o, H1 b = some o := fun b hb => by
      by_cases ho : Own p la fa as b
      · obtain ⟨o, e, _⟩ := W1.own ho
        exact ⟨o, e⟩
      · obtain ⟨o, e⟩ := ap.all b hb
        exact ⟨o, k1 b o ho e⟩
    have no1 : ∀ {H2 : Hp} {b : Addr}, Same H1 H2 → H2 b = none → ¬ O b := fun {H2 b} s h z => by
      obtain ⟨o, e⟩ := al1 b z
      rw [s b o e] at h
      cases h
    have B1 := B.la
    have B2 := B.ll
    refine ⟨fun σ H2 => ∃ f3, σ = [some (.ref p), some (.ref a), some (.ref b), some (.ref f3), none] ∧ Same H1 H2 ∧ H2 f3 = some (.lst (nIs (joinP c d).2.1)) ∧ ¬ O f3, ?_, fun σ H2 hM => ?_⟩
    · refine ⟨.ref a, rfl, a, _, 0, _, rfl, rfl, .inl (.inl c1.t), atI_nat (j := 0) rfl, c.1, rfl, ?_⟩
      unfold joinP
      cases c.1 with
      | true =>
        refine iteT ⟨.ref a, rfl, a, _, 1, _, rfl, rfl, .inl (.inl c1.t), atI_nat (j := 1) rfl, .ref b, rfl, b, _, 1, _, rfl, rfl, .inl (.inl d1.t), atI_nat (j := 1) rfl, f1, f2, _, _, rfl, rfl, c1.f, d1.f, ?_, fun f3 h3 => ?_⟩
        · rw [nIs_len, nIs_len]
          exact Nat.le_trans (show c.2.1.length + d.2.1.length ≤ 2000 by omega) (by decide)
        · rw [nIs_app]
          exact ⟨f3, rfl, smU h3, upd_same, no1 (Same.refl _) h3⟩
      | false => exact iteF ⟨.ref a, rfl, a, _, 1, _, rfl, rfl, .inl (.inl c1.t), atI_nat (j := 1) rfl, f1, rfl, Same.refl _, c1.f, c1.nf⟩
    obtain ⟨f3, rfl, s2, e3, n3⟩ := hM
    have c2 : PtB O H2 a f1 g1 c := ⟨s2 _ _ c1.t, s2 _ _ c1.f, s2 _ _ c1.g, c1.nt, c1.nf, c1.ng⟩
    have d2 : PtB O H2 b f2 g2 d := ⟨s2 _ _ d1.t, s2 _ _ d1.f, s2 _ _ d1.g, d1.nt, d1.nf, d1.ng⟩
    refine ⟨fun σ H3 => ∃ g3, σ = [some (.ref p), some (.ref a), some (.ref b), some (.ref f3), some (.ref g3)] ∧ Same H2 H3 ∧ H3 g3 = some (.lst (nIs (joinP c d).2.2)) ∧ ¬ O g3, ?_, fun σ H3 hM => ?_⟩
    · refine ⟨.ref b, rfl, b, _, 0, _, rfl, rfl, .inl (.inl d2.t), atI_nat (j := 0) rfl, d.1, rfl, ?_⟩
      unfold joinP
      cases d.1 with
      | true =>
        refine iteT ⟨.ref a, rfl, a, _, 2, _, rfl, rfl, .inl (.inl c2.t), atI_nat (j := 2) rfl, .ref b, rfl, b, _, 2, _, rfl, rfl, .inl (.inl d2.t), atI_nat (j := 2) rfl, g1, g2, _, _, rfl, rfl, c2.g, d2.g, ?_, fun g3 h3 => ?_⟩
        · rw [nIs_len, nIs_len]
          exact Nat.le_trans (show c.2.2.length + d.2.2.length ≤ 2000 by omega) (by decide)
        · rw [nIs_app]
          exact ⟨g3, rfl, smU h3, upd_same, no1 s2 h3⟩
      | false => exact iteF ⟨.ref b, rfl, b, _, 2, _, rfl, rfl, .inl (.inl d2.t), atI_nat (j := 2) rfl, g2, rfl, Same.refl _, d2.g, d2.ng⟩
    obtain ⟨g3, rfl, s3, e4, n4⟩ := hM
    have s23 := s2.trans s3
    have fin : ∀ b0 : Bool, b0 = (joinP c d).1 → ∀ t, H3 t = none → Q (.ref t) (upd H3 t (.tup [.bl b0, .ref f3, .ref g3])) := fun b0 eb t ht => by
      subst eb
      have s4 := smU (o := HO.tup [.bl (joinP c d).1, .ref f3, .ref g3]) ht
      exact q _ _ ⟨t, f3, g3, rfl, upd_same, s4 _ _ (s3 _ _ e3), s4 _ _ e4, no1 s23 ht, n3, n4⟩ (W1.up (s23.trans s4)) (k1.trans0 (KW.same (s23.trans s4)))
    refine ⟨.ref a, rfl, a, _, 0, _, rfl, rfl, .inl (.inl (s23 _ _ c1.t)), atI_nat (j := 0) rfl, c.1, rfl, ?_⟩
    have ej : (joinP c d).1 = (c.1 && d.1) := rfl
    rw [ej] at fin
    cases hc : c.1 with
    | true =>
      rw [hc, Bool.true_and] at fin
      exact iteT ⟨.ref b, rfl, b, _, 0, _, rfl, rfl, .inl (.inl (s23 _ _ d1.t)), atI_nat (j := 0) rfl, _, rfl, _, rfl, (show 3 ≤ sizeLine by decide), fin _ rfl⟩
    | false =>
      rw [hc, Bool.false_and] at fin
      exact iteF ⟨_, rfl, _, rfl, (show 3 ≤ sizeLine by decide), fin _ rfl⟩
end
end Sf4
namespace Sf4
open PySem PySem.Spec PyProof.Rows L2 Sf
mutual
def dep : Tr → Nat
  | .place _ => 0
  | .empty => 0
  | .capture _ t => dep t + 1
  | .chain l => depL l + 1
  | .choice l => depL l + 1
  | .count _ _ t => dep t + 1
def depL : List Tr → Nat
  | [] => 0
  | t :: r => max (dep t) (depL r)
end
mutual
/-- the longest row of parts, the greatest number of copies -/
def wid : Tr → Nat
  | .place _ => 0
  | .empty => 0
  | .capture _ t => wid t
  | .chain l => max l.length (widL l)
  | .choice l => max l.length (widL l)
  | .count a b t => max (many a b) (wid t)
def widL : List Tr → Nat
  | [] => 0
  | t :: r => max (wid t) (widL r)
end
theorem depL_get : ∀ {l : List Tr} {i : Nat} {t : Tr}, l[i]? = some t → dep t ≤ depL l ∧ wid t ≤ widL l
  | [], _, _, h => by cases h
  | t :: r, 0, _, h => by
    cases h
    exact ⟨Nat.le_max_left _ _, Nat.le_max_left _ _⟩
  | t :: r, i + 1, u, h => by
    obtain ⟨a, b⟩ := depL_get (l := r) (i := i) h
    exact ⟨Nat.le_trans a (Nat.le_max_right _ _), Nat.le_trans b (Nat.le_max_right _ _)⟩
theorem TrOs.get {H : Hp} : ∀ {ts : List Tr} {vs : List V} {i : Nat} {v : V}, TrOs H vs ts → vs[i]? = some v → ∃ t, ts[i]? = some t ∧ TrO H v t
  | [], _, _, _, h, e => by
    cases h
    cases e
  | t :: ts, _, 0, _, h, e => by
    cases h with
    | cons a r =>
      cases e
      exact ⟨t, rfl, a⟩
  | t :: ts, _, i + 1, _, h, e => by
    cases h with
    | cons a r => exact TrOs.get (i := i) r e
/-- parts on the heap -/
inductive PtOs (O : Addr → Prop) (H : Hp) : List V → List Pt → Prop
  | nil : PtOs O H [] []
  | cons {v : V} {vs : List V} {c : Pt} {cs : List Pt} : PtO O H v c → PtOs O H vs cs → PtOs O H (v :: vs) (c :: cs)
theorem PtOs.mono {O : Addr → Prop} {H H' : Hp} (k : ∀ b o, ¬ O b → H b = some o → H' b = some o) : ∀ {cs : List Pt} {vs : List V}, PtOs O H vs cs → PtOs O H' vs cs
  | [], _, h => by
    cases h
    exact .nil
  | c :: cs, _, h => by
    cases h with
    | cons a r => exact .cons (a.mono k) (PtOs.mono k r)
theorem PtOs.sub {O O' : Addr → Prop} {H : Hp} (k : ∀ b o, ¬ O b → H b = some o → ¬ O' b) : ∀ {cs : List Pt} {vs : List V}, PtOs O H vs cs → PtOs O' H vs cs
  | [], _, h => by
    cases h
    exact .nil
  | c :: cs, _, h => by
    cases h with
    | cons a r => exact .cons (a.sub k) (PtOs.sub k r)
theorem PtOs.snoc {O : Addr → Prop} {H : Hp} : ∀ {cs : List Pt} {vs : List V} {v : V} {c : Pt}, PtOs O H vs cs → PtO O H v c → PtOs O H (vs ++ [v]) (cs ++ [c])
  | [], _, _, _, h, k => by
    cases h
    exact .cons k .nil
  | c :: cs, _, _, _, h, k => by
    cases h with
    | cons a r => exact .cons a (r.snoc k)
theorem PtOs.len {O : Addr → Prop} {H : Hp} : ∀ {cs : List Pt} {vs : List V}, PtOs O H vs cs → vs.length = cs.length
  | [], _, h => by
    cases h
    rfl
  | c :: cs, _, h => by
    cases h with
    | cons a r => rw [List.length_cons, List.length_cons, r.len]
theorem PtOs.get {O : Addr → Prop} {H : Hp} : ∀ {cs : List Pt} {vs : List V} {i : Nat} {v : V}, PtOs O H vs cs → vs[i]? = some v → ∃ c, cs[i]? = some c ∧ PtO O H v c
  | [], _, _, _, h, e => by
    cases h
    cases e
  | c :: cs, _, 0, _, h, e => by
    cases h with
    | cons a r =>
      cases e
      exact ⟨c, rfl, a⟩
  | c :: cs, _, i + 1, _, h, e => by
    cases h with
    | cons a r => exact PtOs.get (i := i) r e
def NPart : List Str := ["self", "tree", "place", "found", "part", "parts", "first", "last"]
theorem scPartOf : FnScope NPart ["self", "tree"] (defScope sPartOf) := ⟨rfl, rfl, rfl, by decide +kernel, rfl, by decide +kernel, by decide +kernel⟩
/-- the bounds at which a part is written out -/
structure Fit (w : Wp) (s k S n M : Nat) : Prop where
  ok : WOk w n M
  le : n + s ≤ S
  top : S ≤ 1000
  bd : M + k ≤ 10000
/-- what comes of it -/
def Out (C p dx la fa : Addr) (as : List Addr) (O : Addr → Prop) (H : Hp) (r : Pt × Wp) (Q : VK) : Prop :=
  ∀ x H' as', PtO (fun b => O b ∨ b ∈ as') H' x r.1 → WrA C p dx la fa H' r.2 as' → Ext H as as' → KW p la fa as H H' → Q x H'
def spPO (C : Addr) (d : Nat) : Sp := fun vs H Q _ => ∃ (p dx la fa : Addr) (v : V) (t : Tr) (w : Wp) (as : List Addr) (O : Addr → Prop) (S n M : Nat), vs = [.ref p, v] ∧ dep t ≤ d ∧ wid t ≤ 1000 ∧ TrO H v t ∧ WrA C p dx la fa H w as ∧ Apt p la fa as H O ∧ Fit w (sz t) (lks t) S n M ∧
  Out C p dx la fa as O H (pO t w) Q
def spCnt (C : Addr) (d : Nat) : Sp := fun vs H Q _ => ∃ (p dx la fa : Addr) (a : Nat) (b : Option Nat) (v : V) (t : Tr) (w : Wp) (as : List Addr) (O : Addr → Prop) (S n M : Nat), vs = [.ref p, .int a, mst b, v] ∧ dep t ≤ d ∧ wid t ≤ 1000 ∧ many a b ≤ 1000 ∧ TrO H v t ∧ WrA C p dx la fa H w as ∧ Apt p la fa as H O ∧
  Fit w (many a b * sz t) (many a b * lks t + many a b * sz t * (many a b + 1)) S n M ∧ Out C p dx la fa as O H (cntd a b (rep (pO t) (many a b) w)) Q
/-- two promises at one time: what may be called within a tree of this depth -/
def spIf (c : Bool) (sp : Sp) : Sp := fun vs H Q E => c = true ∧ sp vs H Q E
theorem KW.put {p la fa D : Addr} {as : List Addr} {H H0 H1 : Hp} {o : HO} (k : KW p la fa as H H1) (k0 : KW p la fa as H H0) (n : H0 D = none) : KW p la fa as H (upd H1 D o) := fun b u nb e => by
  rw [upd_ne (ne_of_none (k0 b u nb e) n)]
  exact k b u nb e
section
variable {P : Program} {w : World} {K : PySem.W.Frag} {mg : Str → Option Value} {base : Heap} {C : Addr} {f : Nat → Addr} {fd : Nat → FuncData} {tk : Nat → Tok}
theorem ok_partOf (T : WT K mg C f fd tk) {k d : Nat} {spA spB : Sp} (hk : 2 ≤ k) (GA : FnOk P w K mg base CX0 k (f 3) (fd 3) ["self", "tree"] spA) (GB : FnOk P w K mg base CX0 k (f 4) (fd 4) ["self", "least", "most", "tree"] spB)
    (hA : ∀ e vs H Q E, e + 1 ≤ d → spPO C e vs H Q E → spA vs H Q E) (hB : ∀ e vs H Q E, e + 1 ≤ d → spCnt C e vs H Q E → spB vs H Q E) : FnOk P w K mg base CX0 (k + 1) (f 3) (fd 3) ["self", "tree"] (spPO C d) := by
  refine T.mPart.F.ok scPartOf (fun vs H Q E h => ?_) (fun cdv A outer s H vs Q E hr h => ?_)
  · obtain ⟨p, dx, la, fa, v, t, w, as, O, S, n, M, rfl, _⟩ := h
    rfl
  · obtain ⟨p, dx, la, fa, v, t, w, as, O, S, n, M, rfl, hd, hw, ht, W, ap, ft, q⟩ := h
    have GJ := ok_joined (P := P) (base := base) (w := ‹World›) T
    refine ⟨_, pss_cons (ps_if (pt_cmpR op_eq (pe_ix ix_tup (pv 1) pe_int (fun _ _ => rfl)) (pe_glob (v := .str plW) rfl T.gPl ⟨_, rfl⟩) (nomark _))
          (pss_cons (ps_expr (pe_bm PySem.F.plainAttrs_list PySem.F.slot_list_append PySem.F.type_list_append mt_append (pe_fld (pv 0) rfl) (pa_cons (pe_ix ix_tup (pv 1) pe_int (fun _ _ => rfl)) pa_nil)))
          (pss_cons (ps_expr (pe_bm PySem.F.plainAttrs_list PySem.F.slot_list_append PySem.F.type_list_append mt_append (pe_fld (pv 0) rfl) (pa_cons (pe_lst pa_nil) pa_nil)))
          (pss_cons (ps_set (i := 2) scPartOf.nd rfl (.inl rfl) (pe_op op_sub (pe_callB call_len_seq (by rfl) T.zlen PySem.boot_len (pa_cons (pe_fld (pv 0) rfl) pa_nil)) pe_int))
          (pss_one (ps_ret (pe_tup (pa_cons pe_bl (pa_cons (pe_lst (pa_cons (pv 2) pa_nil)) (pa_cons (pe_lst (pa_cons (pv 2) pa_nil)) pa_nil))))))))) pss_nil)
      (pss_cons (ps_if (pt_cmpR op_eq (pe_ix ix_tup (pv 1) pe_int (fun _ _ => rfl)) (pe_glob (v := .str caW) rfl T.gCa ⟨_, rfl⟩) (nomark _))
          (pss_one (ps_ret (pe_meth (pv 0) T.cl T.mPart.m GA hr T.mPart.b .nil pass0 (pa_cons (pe_ix ix_tup (pv 1) pe_int (fun _ _ => rfl)) pa_nil)))) pss_nil)
      (pss_cons (ps_if (pt_cmpR op_eq (pe_ix ix_tup (pv 1) pe_int (fun _ _ => rfl)) (pe_glob (v := .str coW) rfl T.gCo ⟨_, rfl⟩) (nomark _))
          (pss_one (ps_ret (pe_meth (pv 0) T.cl T.mCount.m GB hr T.mCount.b .nil pass0 (pa_cons (pe_ix ix_tup (pv 1) pe_int (fun _ _ => rfl)) (pa_cons (pe_ix ix_tup (pv 1) pe_int (fun _ _ => rfl)) (pa_cons (pe_ix ix_tup (pv 1) pe_int (fun _ _ => rfl)) pa_nil)))))) pss_nil)
      (pss_cons (ps_set (i := 3) scPartOf.nd rfl (.inl rfl) (pe_tup (pa_cons pe_bl (pa_cons (pe_lst pa_nil) (pa_cons (pe_lst pa_nil) pa_nil)))))
      (Evl.pss_cut (ps_if (pt_cmpR op_eq (pe_ix ix_tup (pv 1) pe_int (fun _ _ => rfl)) (pe_glob (v := .str chW) rfl T.gCh ⟨_, rfl⟩) (nomark _))
          (pss_one (ps_for PassesOwn.never rfl (pi_tup (pe_ix ix_tup (pv 1) pe_int (fun _ _ => rfl))) (pg_name (i := 4) scPartOf.nd rfl (Or.inl rfl))
            (pss_one (ps_set (i := 3) scPartOf.nd rfl (.inl rfl) (pe_meth (pv 0) T.cl T.mJoin.m GJ (hr.mono hk) T.mJoin.b .nil pass0 (pa_cons (pv 3) (pa_cons (pe_meth (pv 0) T.cl T.mPart.m GA hr T.mPart.b .nil pass0 (pa_cons (pv 4) pa_nil)) pa_nil))))))) pss_nil)
      (Evl.pss_cut (ps_if (pt_cmpR op_eq (pe_ix ix_tup (pv 1) pe_int (fun _ _ => rfl)) (pe_glob (v := .str alW) rfl T.gAl ⟨_, rfl⟩) (nomark _))
          (pss_cons (ps_setLc (i := 5) (own := [("part", 4)]) (g := gName 4) (tt := tYes) (te := tMeth C "part_of" spA [] E0 (tVar 0) (tCons (tVar 4) tNil)) rfl scPartOf.nd rfl rfl (sw_true rfl rfl rfl (by decide +kernel)) (pi_tup (pe_ix ix_tup (pv 1) pe_int (fun _ _ => rfl))) (blkOk_by (N := NPart) (sc := defScope sPartOf) (by decide +kernel))
              (fun _ _ _ _ _ => pg_name (i := 4) scPartOf.nd rfl (Or.inl rfl)) (fun _ _ _ _ _ => pts_nil) (fun _ _ _ _ _ => pe_meth (pv 0) T.cl T.mPart.m GA hr T.mPart.b .nil pass0 (pa_cons (pv 4) pa_nil)))
          (pss_cons (ps_par (i := 6) (j := 7) rfl scPartOf.nd rfl rfl (by decide) rfl rfl (pa_cons (pe_lst pa_nil) (pa_cons (pe_lst pa_nil) pa_nil)) (by rfl))
          (pss_cons (ps_for PassesOwn.never rfl (pi_list (pv 5)) (pg_name (i := 4) scPartOf.nd rfl (Or.inl rfl))
            (pss_one (ps_par (i := 6) (j := 7) rfl scPartOf.nd rfl rfl (by decide) rfl rfl (pa_cons (pe_op op_cat (pv 6) (pe_ix ix_tup (pv 4) pe_int (fun _ _ => rfl))) (pa_cons (pe_op op_cat (pv 7) (pe_ix ix_tup (pv 4) pe_int (fun _ _ => rfl))) pa_nil)) (by rfl))))
          (pss_one (ps_set (i := 3) scPartOf.nd rfl (.inl rfl) (pe_tup (pa_cons (pe_callB (cr_any rfl) (by rfl) T.zany (by decide +kernel) (pa_cons (pe_lc (own := [("part", 4)]) (g := gName 4) (tt := tYes) (te := tOp (rIxT K) (tVar 4) (tC (.int 0))) rfl scPartOf.nd (pi_list (pv 5)) (blkOk_by (N := NPart) (sc := defScope sPartOf) (by decide +kernel))
              (fun _ _ _ _ _ => pg_name (i := 4) scPartOf.nd rfl (Or.inl rfl)) (fun _ _ _ _ _ => pts_nil) (fun _ _ _ _ _ => pe_ix ix_tup (pv 4) pe_int (fun _ _ => rfl))) pa_nil)) (pa_cons (pv 6) (pa_cons (pv 7) pa_nil))))))))) pss_nil)
      (pss_one (ps_ret (pv 3)))))))), ?_⟩
    have nP : (wf_ la fa).lookup ("part_of" : Str) = none := wf_no (by decide +kernel) (by decide +kernel)
    have nC : (wf_ la fa).lookup ("counted" : Str) = none := wf_no (by decide +kernel) (by decide +kernel)
    have nJ : (wf_ la fa).lookup ("joined" : Str) = none := wf_no (by decide +kernel) (by decide +kernel)
    have hle := ft.ok.le
    have hfo := ft.ok.fo
    have f1 := ft.le
    have f2 := ft.top
    have f3 := ft.bd
    by_cases hp : ∃ s, t = .place s
    · obtain ⟨s, rfl⟩ := hp
      cases ht with
      | place e =>
      rename_i a
      refine ⟨.ref a, rfl, a, _, 0, _, rfl, rfl, .inl (.inl e), atI_nat (j := 0) rfl, rfl, _, rfl, ?_⟩
      rw [decide_eq_true rfl]
      have hpl : p ≠ la := ne_of W.e W.l (by intro z; cases z)
      have hpf : p ≠ fa := ne_of W.e W.f (by intro z; cases z)
      have f1 : n + 1 ≤ S := f1
      refine iteT ⟨.ref p, rfl, p, C, dx, _, _, rfl, W.e, T.cl, T.nLe, wf_le, .inl ⟨rfl, _, .inl (.inl W.l)⟩, .ref a, rfl, a, _, 1, _, rfl, rfl, .inl (.inl e), atI_nat (j := 1) rfl, la, _, _, rfl, rfl, W.l, ?_, ?_⟩
      · unfold nmV
        rw [List.length_map, hle]
        exact Nat.lt_of_le_of_lt (show n ≤ 1000 by omega) (by decide)
      have e1 : upd H la (.lst (nmV w.le ++ [.str (tx s)])) p = some (.ins C dx (wf_ la fa)) := (upd_ne hpl).trans W.e
      have g1 : upd H la (.lst (nmV w.le ++ [.str (tx s)])) fa = some (.lst (as.map V.ref)) := (upd_ne W.ne.symm).trans W.f
      refine ⟨.ref p, rfl, p, C, dx, _, _, rfl, e1, T.cl, T.nFo, wf_fo, .inl ⟨rfl, _, .inl (.inl g1)⟩, Nat.zero_le _, fun b hb => ?_⟩
      have nbl : b ≠ la := fun z => by
        rw [z, upd_same] at hb
        cases hb
      have hb0 : H b = none := by
        rw [upd_ne nbl] at hb
        exact hb
      have nbp : b ≠ p := fun z => by
        rw [z, W.e] at hb0
        cases hb0
      have nbf : b ≠ fa := fun z => by
        rw [z, W.f] at hb0
        cases hb0
      refine ⟨fa, _, _, rfl, rfl, (upd_ne nbf.symm).trans g1, ?_, ?_⟩
      · rw [List.length_map, W.n, hfo]
        exact Nat.lt_of_le_of_lt (show n ≤ 1000 by omega) (by decide)
      have W3 : WrA C p dx la fa (upd (upd (upd H la (.lst (nmV w.le ++ [.str (tx s)]))) b (.lst [])) fa (.lst (as.map V.ref ++ [.ref b]))) ⟨w.le ++ [s], w.fo ++ [[]]⟩ (as ++ [b]) := by
        have nas : ∀ x ∈ as, x ≠ b := fun x hx z => by
          obtain ⟨o, e, _⟩ := W.own (b := x) (.inr (.inr (.inr hx)))
          rw [z, hb0] at e
          cases e
        refine ⟨?_, ?_, ?_, W.ne, ?_, ?_, fun i x r h1 h2 => ?_⟩
        · rw [upd_ne hpf, upd_ne nbp.symm]
          exact e1
        · rw [upd_ne W.ne, upd_ne nbl.symm, upd_same]
          unfold nmV
          rw [List.map_append] <;> rfl
        · rw [upd_same, List.map_append] <;> rfl
        · exact List.nodup_append.mpr ⟨W.nd, List.nodup_cons.mpr ⟨List.not_mem_nil, List.nodup_nil⟩, fun x hx y hy => by
            rw [List.mem_singleton.mp hy]
            exact nas x hx⟩
        · rw [List.length_append, List.length_append, W.n] <;> rfl
        · by_cases hi : i < as.length
          · rw [List.getElem?_append_left hi] at h1
            have h2 : (w.fo ++ [[]])[i]? = some r := h2
            rw [List.getElem?_append_left (by rw [← W.n]; exact hi)] at h2
            obtain ⟨c1, c2, c3⟩ := W.at_ i x r h1 h2
            refine ⟨?_, c2, c3⟩
            rw [upd_ne c3, upd_ne (nas x (List.mem_of_getElem? h1)), upd_ne c2]
            exact c1
          · have hl := (List.getElem?_eq_some_iff.mp h1).1
            rw [List.length_append, List.length_singleton] at hl
            obtain rfl : i = as.length := by omega
            have h2 : (w.fo ++ [[]])[as.length]? = some r := h2
            rw [List.getElem?_append_right (Nat.le_refl _), Nat.sub_self] at h1
            rw [W.n, List.getElem?_append_right (Nat.le_refl _), Nat.sub_self] at h2
            cases h1
            cases h2
            refine ⟨?_, nbl, nbf⟩
            rw [upd_ne nbf, upd_same] <;> rfl
      have k3 : KW p la fa as H (upd (upd (upd H la (.lst (nmV w.le ++ [.str (tx s)]))) b (.lst [])) fa (.lst (as.map V.ref ++ [.ref b]))) := fun c o nc e => by
        rw [upd_ne fun z => nc (.inr (.inr (.inl z))), upd_ne (ne_of_none e hb0), upd_ne fun z => nc (.inr (.inl z))]
        exact e
      generalize upd (upd (upd H la (.lst (nmV w.le ++ [.str (tx s)]))) b (.lst [])) fa (.lst (as.map V.ref ++ [.ref b])) = H3 at W3 k3 ⊢
      have x3 : Ext H as (as ++ [b]) := ⟨[b], rfl, fun x hx => by rw [List.mem_singleton.mp hx]; exact hb0⟩
      refine ⟨.ref p, rfl, p, C, dx, _, _, rfl, W3.e, T.cl, T.nLe, wf_le, la, _, rfl, .inl (.inl (.inl W3.l)), _, _, rfl, rfl, ?_⟩
      have el : (((nmV (w.le ++ [s])).length : Nat) : Int) - 1 = ((w.le.length : Nat) : Int) := by
        unfold nmV
        rw [List.length_map, List.length_append, List.length_singleton]
        omega
      refine ⟨_, rfl, (show 1 ≤ sizeLine by decide), fun c hc => ⟨_, rfl, (show 1 ≤ sizeLine by decide), fun g hg => ⟨(show 3 ≤ sizeLine by decide), fun x hx => ?_⟩⟩⟩
      have s1 := smU (o := HO.lst [.int ((((nmV (w.le ++ [s])).length : Nat) : Int) - 1)]) hc
      have s2 := smU (o := HO.lst [.int ((((nmV (w.le ++ [s])).length : Nat) : Int) - 1)]) hg
      have s3 := smU (o := HO.tup [.bl false, .ref c, .ref g]) hx
      have no : ∀ {H4 : Hp} {y : Addr}, Same H3 H4 → H4 y = none → ¬ (O y ∨ y ∈ as ++ [b]) := fun {H4 y} sm hy z => by
        have h3 : H3 y = none := sm.free hy
        rcases z with z | z
        · by_cases ho : Own p la fa as y
          · exact W3.no h3 (x3.own2 ho)
          · obtain ⟨o, e⟩ := ap.all y z
            rw [k3 y o ho e] at h3
            cases h3
        · exact W3.no h3 (.inr (.inr (.inr z)))
      have ec : nIs [w.le.length] = [V.int ((((nmV (w.le ++ [s])).length : Nat) : Int) - 1)] := by
        rw [el] <;> rfl
      exact q _ _ (as ++ [b]) ⟨x, c, g, rfl, upd_same, (s3 _ _ (s2 _ _ upd_same)).trans (congrArg (fun z => some (HO.lst z)) ec.symm), (s3 _ _ upd_same).trans (congrArg (fun z => some (HO.lst z)) ec.symm), no (s1.trans s2) hx, no (Same.refl _) hc, no s1 hg⟩ (W3.up (s1.trans (s2.trans s3))) x3 (k3.trans x3 (KW.same (s1.trans (s2.trans s3))))
    by_cases hp2 : ∃ m u, t = .capture m u
    · obtain ⟨m, u, rfl⟩ := hp2
      cases ht with
      | capture e r =>
      rename_i a v
      have hd : dep u + 1 ≤ d := hd
      refine ⟨.ref a, rfl, a, _, 0, _, rfl, rfl, .inl (.inl e), atI_nat (j := 0) rfl, rfl, _, rfl, ?_⟩
      rw [decide_eq_false (show ¬ (V.str caW = V.str plW) by decide +kernel)]
      refine iteF ⟨.ref a, rfl, a, _, 0, _, rfl, rfl, .inl (.inl e), atI_nat (j := 0) rfl, rfl, _, rfl, ?_⟩
      rw [decide_eq_true rfl]
      refine iteT ⟨.ref p, rfl, p, dx, _, rfl, W.e, nP, .ref a, rfl, a, _, 2, _, rfl, rfl, .inl (.inl e), atI_nat (j := 2) rfl, ?_⟩
      exact hA (dep u) _ _ _ _ hd ⟨p, dx, la, fa, v, u, w, as, O, S, n, M, rfl, Nat.le_refl _, hw, r, W, ap, ft, q⟩
    by_cases hp3 : ∃ a b u, t = .count a b u
    · obtain ⟨a0, b0, u, rfl⟩ := hp3
      cases ht with
      | count e r =>
      rename_i a v
      have hd : dep u + 1 ≤ d := hd
      have hw : max (many a0 b0) (wid u) ≤ 1000 := hw
      refine ⟨.ref a, rfl, a, _, 0, _, rfl, rfl, .inl (.inl e), atI_nat (j := 0) rfl, rfl, _, rfl, ?_⟩
      rw [decide_eq_false (show ¬ (V.str coW = V.str plW) by decide +kernel)]
      refine iteF ⟨.ref a, rfl, a, _, 0, _, rfl, rfl, .inl (.inl e), atI_nat (j := 0) rfl, rfl, _, rfl, ?_⟩
      rw [decide_eq_false (show ¬ (V.str coW = V.str caW) by decide +kernel)]
      refine iteF ⟨.ref a, rfl, a, _, 0, _, rfl, rfl, .inl (.inl e), atI_nat (j := 0) rfl, rfl, _, rfl, ?_⟩
      rw [decide_eq_true rfl]
      refine iteT ⟨.ref p, rfl, p, dx, _, rfl, W.e, nC, .ref a, rfl, a, _, 1, _, rfl, rfl, .inl (.inl e), atI_nat (j := 1) rfl, .ref a, rfl, a, _, 2, _, rfl, rfl, .inl (.inl e), atI_nat (j := 2) rfl, .ref a, rfl, a, _, 3, _, rfl, rfl, .inl (.inl e), atI_nat (j := 3) rfl, ?_⟩
      exact hB (dep u) _ _ _ _ hd ⟨p, dx, la, fa, a0, b0, v, u, w, as, O, S, n, M, rfl, Nat.le_refl _, by omega, by omega, r, W, ap, ft, q⟩
    obtain ⟨a, X, rest, rfl, e, n1, n2, n3, hX⟩ : ∃ a X rest, v = .ref a ∧ H a = some (.tup (.str X :: rest)) ∧ ¬ (V.str X = V.str plW) ∧ ¬ (V.str X = V.str caW) ∧ ¬ (V.str X = V.str coW) ∧
        ((t = .empty ∧ ¬ (V.str X = V.str chW) ∧ ¬ (V.str X = V.str alW)) ∨ (∃ b vs l, t = .chain l ∧ X = chW ∧ rest = [.ref b] ∧ H b = some (.tup vs) ∧ TrOs H vs l) ∨ (∃ b vs l, t = .choice l ∧ X = alW ∧ rest = [.ref b] ∧ H b = some (.tup vs) ∧ TrOs H vs l)) := by
      cases ht with
      | place e => exact absurd ⟨_, rfl⟩ hp
      | capture e r => exact absurd ⟨_, _, rfl⟩ hp2
      | count e r => exact absurd ⟨_, _, _, rfl⟩ hp3
      | empty e => exact ⟨_, _, _, rfl, e, by decide +kernel, by decide +kernel, by decide +kernel, .inl ⟨rfl, by decide +kernel, by decide +kernel⟩⟩
      | chain e e2 r => exact ⟨_, _, _, rfl, e, by decide +kernel, by decide +kernel, by decide +kernel, .inr (.inl ⟨_, _, _, rfl, rfl, rfl, e2, r⟩)⟩
      | choice e e2 r => exact ⟨_, _, _, rfl, e, by decide +kernel, by decide +kernel, by decide +kernel, .inr (.inr ⟨_, _, _, rfl, rfl, rfl, e2, r⟩)⟩
    refine ⟨.ref a, rfl, a, _, 0, _, rfl, rfl, .inl (.inl e), atI_nat (j := 0) rfl, rfl, _, rfl, ?_⟩
    rw [decide_eq_false n1]
    refine iteF ⟨.ref a, rfl, a, _, 0, _, rfl, rfl, .inl (.inl e), atI_nat (j := 0) rfl, rfl, _, rfl, ?_⟩
    rw [decide_eq_false n2]
    refine iteF ⟨.ref a, rfl, a, _, 0, _, rfl, rfl, .inl (.inl e), atI_nat (j := 0) rfl, rfl, _, rfl, ?_⟩
    rw [decide_eq_false n3]
    refine iteF ⟨Nat.zero_le _, fun c hc => ⟨Nat.zero_le _, fun g hg => ⟨(show 3 ≤ sizeLine by decide), fun x hx => ?_⟩⟩⟩
    have s1 := smU (o := HO.lst []) hc
    have s2 := smU (o := HO.lst []) hg
    have s3 := smU (o := HO.tup [.bl true, .ref c, .ref g]) hx
    have sA := s1.trans (s2.trans s3)
    have x0 : PtO O (upd (upd (upd H c (.lst [])) g (.lst [])) x (.tup [.bl true, .ref c, .ref g])) (.ref x) e0 :=
      ⟨x, c, g, rfl, upd_same, s3 _ _ (s2 _ _ upd_same), s3 _ _ upd_same, ap.no ((s1.trans s2).free hx), ap.no hc, ap.no (s1.free hg)⟩
    generalize upd (upd (upd H c (.lst [])) g (.lst [])) x (.tup [.bl true, .ref c, .ref g]) = H1 at sA x0 ⊢
    have W1 := W.up sA
    have e1 := sA _ _ e
    have apM : ∀ {H2 : Hp} {as1 : List Addr} {w1 : Wp}, WrA C p dx la fa H2 w1 as1 → Ext H as as1 → KW p la fa as H H2 → Apt p la fa as1 H2 (fun b => O b ∨ b ∈ as1) := fun {H2 as1 w1} W2 x2 k2 => by
      refine ⟨fun b hb => ?_, fun b hb => ?_⟩
      · rcases hb with h | h | h | h
        · exact .inl (ap.sub _ (.inl h))
        · exact .inl (ap.sub _ (.inr (.inl h)))
        · exact .inl (ap.sub _ (.inr (.inr (.inl h))))
        · exact .inr h
      · by_cases ho : Own p la fa as1 b
        · obtain ⟨o, e, _⟩ := W2.own ho
          exact ⟨o, e⟩
        · rcases hb with h | h
          · obtain ⟨o, e⟩ := ap.all b h
            exact ⟨o, k2 b o (fun z => ho (x2.own2 z)) e⟩
          · exact absurd (.inr (.inr (.inr h))) ho
    refine ⟨fun σ H2 => ∃ y x5 as1 w1 pt, σ = [some (.ref p), some (.ref a), none, some y, x5, none, none, none] ∧ PtO (fun b => O b ∨ b ∈ as1) H2 y pt ∧ WrA C p dx la fa H2 w1 as1 ∧ Ext H as as1 ∧ KW p la fa as H H2 ∧
        ((X = chW ∧ pO t w = (pt, w1)) ∨ (X ≠ chW ∧ y = .ref x ∧ w1 = w ∧ as1 = as ∧ Same H1 H2 ∧ pt = e0)), ?_, fun σ H2 hM => ?_⟩
    · refine ⟨.ref a, rfl, a, _, 0, _, rfl, rfl, .inl (.inl e1), atI_nat (j := 0) rfl, rfl, _, rfl, ?_⟩
      have x0' : PtO (fun b => O b ∨ b ∈ as) H1 (.ref x) e0 := x0.sub fun b o h _ z => z.elim h fun z => h (ap.sub b (.inr (.inr (.inr z))))
      by_cases hch : X = chW
      · rw [decide_eq_true (by rw [hch])]
        rcases hX with ⟨_, h, _⟩ | ⟨b, vs, l, rfl, _, rfl, eb, os⟩ | ⟨b, vs, l, _, h, _⟩
        · exact absurd (by rw [hch]) h
        · have hd : depL l + 1 ≤ d := hd
          have hw : max l.length (widL l) ≤ 1000 := hw
          have f3 : M + (lksL l + szL l) ≤ 10000 := f3
          refine iteT ⟨.ref a, rfl, a, _, 1, _, rfl, rfl, .inl (.inl e1), atI_nat (j := 1) rfl, b, rfl, ⟨_, .inl (.inl (sA _ _ eb))⟩, for_tup (K := K) (a := b) (xs := vs) (fun i σ H2 => ∃ y x4 as1 w1 pt ni Mi, σ = [some (.ref p), some (.ref a), none, some y, x4, none, none, none] ∧ PtO (fun b => O b ∨ b ∈ as1) H2 y pt ∧ WrA C p dx la fa H2 w1 as1 ∧ Ext H as as1 ∧ KW p la fa as H H2 ∧
              pCh l e0 w = pCh (l.drop i) pt w1 ∧ WOk w1 ni Mi ∧ POk n ni pt ∧ n ≤ ni ∧ ni + szL (l.drop i) ≤ S ∧ Mi + (lksL (l.drop i) + szL (l.drop i)) ≤ 10000)
            ⟨_, _, as, w, e0, n, M, rfl, x0', W1, .refl, KW.same sA, rfl, ft.ok, .e0, Nat.le_refl _, f1, f3⟩ (fun i σ H2 _ ⟨_, _, _, _, _, _, _, _, _, W2, _, k2, _⟩ => .inl (.inl (k2.kt W _ _ eb))) ?_ ?_⟩
          · rintro i xi σ H2 hi ⟨y, x4, as1, w1, pt, ni, Mi, rfl, py, W2, x2, k2, ec, o2, pk, l2, b1, b2⟩
            obtain ⟨ti, hti, oti⟩ := os.get hi
            obtain ⟨d1, d2⟩ := depL_get hti
            obtain ⟨hil, hie⟩ := List.getElem?_eq_some_iff.mp hti
            have edr : l.drop i = ti :: l.drop (i + 1) := by rw [List.drop_eq_getElem_cons hil, hie]
            rw [edr] at ec b1 b2
            have b1 : ni + (sz ti + szL (l.drop (i + 1))) ≤ S := b1
            have b2 : Mi + (lks ti + lksL (l.drop (i + 1)) + (sz ti + szL (l.drop (i + 1)))) ≤ 10000 := b2
            obtain ⟨g1, g2⟩ := pO_ok (S := S) ti w1 ni Mi o2 (by omega)
            have ap2 := apM W2 x2 k2
            refine ⟨.ref p, rfl, p, dx, _, rfl, W2.e, nJ, y, rfl, .ref p, rfl, p, dx, _, rfl, W2.e, nP, xi, rfl, ?_⟩
            refine hA (depL l) _ _ _ _ hd ⟨p, dx, la, fa, xi, ti, w1, as1, _, S, ni, Mi, rfl, d1, by omega, oti.mono (k2.kt W), W2, ap2, ⟨o2, by omega, f2, by omega⟩, fun y2 H3 as2 py2 W3 x3 k3 => ?_⟩
            have x23 := x2.trans k2 W2 x3
            have k23 := k2.trans x2 k3
            have py' : PtO (fun b => O b ∨ b ∈ as2) H3 y pt := (py.sub fun b o h e z => by
                obtain ⟨m, rfl, hm⟩ := x3
                rcases z with z | z
                · exact h (.inl z)
                · rcases List.mem_append.mp z with z | z
                  · exact h (.inr z)
                  · rw [hm b z] at e
                    cases e).mono fun b o h e => k3 b o (fun z => h (by
                rcases x3.own2 z with z | z | z | z
                · exact .inl (ap.sub _ (.inl z))
                · exact .inl (ap.sub _ (.inr (.inl z)))
                · exact .inl (ap.sub _ (.inr (.inr (.inl z))))
                · exact .inr z)) e
            have py2' : PtO (fun b => O b ∨ b ∈ as2) H3 y2 (pO ti w1).1 := py2.sub fun b o h _ z => h (z.elim (fun z => .inl (.inl z)) .inr)
            have ln1 := pk.f.len
            have ln2 := pk.l.len
            have ln3 := g2.f.len
            have ln4 := g2.l.len
            refine ⟨p, dx, la, fa, y, y2, (pO ti w1).2, as2, pt, (pO ti w1).1, _, rfl, W3, apM W3 x23 k23, py', py2', ⟨pk.l.nd, fun x hx => ?_, by omega, by omega, fun r hr => ?_⟩, by omega, by omega, fun z H4 pz W4 k4 => ?_⟩
            · rw [g1.fo]
              have := pk.l.lt x hx
              omega
            · have := (g1.bd r hr).1
              omega
            · have w2 := g1.lnk (S := sz ti) pk.l.nd (fun x hx => (g2.f.lt x hx).2) (by omega)
              exact ⟨z, _, as2, _, joinP pt (pO ti w1).1, ni + sz ti, _, rfl, pz, W4, x23, k23.trans x23 k4, ec, w2, pk.join g2 l2 (by omega), by omega, by omega, by omega⟩
          · rintro σ H2 ⟨y, x4, as1, w1, pt, ni, Mi, rfl, py, W2, x2, k2, ec, _⟩
            rw [os.len, List.drop_length] at ec
            exact ⟨y, x4, as1, w1, pt, rfl, py, W2, x2, k2, .inl ⟨hch, ec⟩⟩
        · rw [hch] at h
          exact absurd h (by decide +kernel)
      · rw [decide_eq_false fun z => hch (V.str.inj z)]
        exact iteF ⟨_, _, as, w, e0, rfl, x0', W1, .refl, KW.same sA, .inr ⟨hch, rfl, rfl, rfl, Same.refl _, rfl⟩⟩
    obtain ⟨y, x5, as1, w1, pt, rfl, py, W2, x2, k2, hc⟩ := hM
    have e2 : H2 a = some (.tup (.str X :: rest)) := k2.kt W _ _ e
    refine ⟨fun σ H3 => ∃ z s2 s4 s5 s6 s7 as3, σ = [some (.ref p), some (.ref a), s2, some z, s4, s5, s6, s7] ∧ PtO (fun b => O b ∨ b ∈ as3) H3 z (pO t w).1 ∧ WrA C p dx la fa H3 (pO t w).2 as3 ∧ Ext H as as3 ∧ KW p la fa as H H3, ?_, fun σ H3 hM => ?_⟩
    · refine ⟨.ref a, rfl, a, _, 0, _, rfl, rfl, .inl (.inl e2), atI_nat (j := 0) rfl, rfl, _, rfl, ?_⟩
      rcases hc with ⟨rfl, ec⟩ | ⟨hch, rfl, rfl, rfl, s12, rfl⟩
      · rw [decide_eq_false (show ¬ (V.str chW = V.str alW) by decide +kernel)]
        refine iteF ⟨y, _, _, _, _, _, as1, rfl, ?_, ?_, x2, k2⟩
        · rw [ec]
          exact py
        · rw [ec]
          exact W2
      by_cases hal : X = alW
      · rw [decide_eq_true (by rw [hal])]
        rcases hX with ⟨_, _, h⟩ | ⟨b, vs, l, _, h, _⟩ | ⟨b, vs, l, rfl, _, rfl, eb, os⟩
        · exact absurd (by rw [hal]) h
        · exact absurd h hch
        have hd : depL l + 1 ≤ d := hd
        have hw : max l.length (widL l) ≤ 1000 := hw
        have f3 : M + lksL l ≤ 10000 := f3
        have f1 : n + szL l ≤ S := f1
        have hvl := os.len
        refine iteT ⟨.ref a, rfl, a, _, 1, _, rfl, rfl, .inl (.inl e2), atI_nat (j := 1) rfl, b, rfl, ⟨_, .inl (.inl (k2.kt W _ _ eb))⟩, fun D hD => ?_⟩
        have nDo : ¬ Own p la fa as1 D := W2.no hD
        refine lc_it (walk_tup (K := K) (a := b) (xs := vs)) (fun i H3 => ∃ acc ps wi asi ni Mi, H3 D = some (.lst acc) ∧ acc.length = i ∧ PtOs (fun c => (O c ∨ c ∈ asi) ∨ c = D) H3 acc ps ∧ WrA C p dx la fa H3 wi asi ∧ ¬ Own p la fa asi D ∧ Ext H as1 asi ∧ KW p la fa as1 H H3 ∧
            pL l w1 = (ps ++ (pL (l.drop i) wi).1, (pL (l.drop i) wi).2) ∧ WOk wi ni Mi ∧ n ≤ ni ∧ ni + szL (l.drop i) ≤ S ∧ Mi + lksL (l.drop i) ≤ 10000 ∧ (∀ c ∈ ps, c.2.1.length ≤ 1000 ∧ c.2.2.length ≤ 1000))
          ⟨[], [], w1, as1, n, M, upd_same, rfl, .nil, W2.wr nDo, nDo, .refl, KW.put k2 k2 hD, rfl, ft.ok, Nat.le_refl _, f1, f3, fun _ h => nomatch h⟩ (fun i H3 _ ⟨_, _, _, _, _, _, _, _, _, _, _, _, k3, _⟩ => .inl (.inl (k3.kt W _ _ eb))) (fun i xi H3 H3' hi hP hy => ?_) (fun H3 hP => ?_)
        · obtain ⟨acc, ps, wi, asi, ni, Mi, eD, hai, pps, W3, nDi, x3, k3, ec, o2, l2, b1, b2, bp⟩ := hP
          obtain ⟨rfl, hxi⟩ := hy
          obtain ⟨ti, hti, oti⟩ := os.get hxi
          obtain ⟨d1, d2⟩ := depL_get hti
          obtain ⟨hil, hie⟩ := List.getElem?_eq_some_iff.mp hti
          have edr : l.drop i = ti :: l.drop (i + 1) := by rw [List.drop_eq_getElem_cons hil, hie]
          rw [edr] at ec b1 b2
          have b1 : ni + (sz ti + szL (l.drop (i + 1))) ≤ S := b1
          have b2 : Mi + (lks ti + lksL (l.drop (i + 1))) ≤ 10000 := b2
          obtain ⟨g1, g2⟩ := pO_ok (S := S) ti wi ni Mi o2 (by omega)
          have ap3 := apM W3 x3 k3
          have ap4 : Apt p la fa asi H3' (fun c => (O c ∨ c ∈ asi) ∨ c = D) := ⟨fun c h => .inl (ap3.sub c h), fun c h => h.elim (ap3.all c) fun h => ⟨_, h ▸ eD⟩⟩
          refine ⟨rfl, .ref p, rfl, p, dx, _, rfl, W3.e, nP, xi, rfl, ?_⟩
          refine hA (depL l) _ _ _ _ hd ⟨p, dx, la, fa, xi, ti, wi, asi, _, S, ni, Mi, rfl, d1, by omega, oti.mono (k3.kt W), W3, ap4, ⟨o2, by omega, f2, by omega⟩, fun y2 H4 as2 py2 W4 x4 k4 => ?_⟩
          have nD2 : ¬ Own p la fa as2 D := x4.own eD nDi
          have eD4 := k4 D _ nDi eD
          have up : ∀ c o, ¬ ((O c ∨ c ∈ asi) ∨ c = D) → H3' c = some o → ¬ ((O c ∨ c ∈ as2) ∨ c = D) := fun c o h e z => by
            obtain ⟨m, rfl, hm⟩ := x4
            rcases z with (z | z) | z
            · exact h (.inl (.inl z))
            · rcases List.mem_append.mp z with z | z
              · exact h (.inl (.inr z))
              · rw [hm c z] at e
                cases e
            · exact h (.inr z)
          have st : ∀ c o, ¬ ((O c ∨ c ∈ as2) ∨ c = D) → H3' c = some o → upd H4 D (.lst (acc ++ [y2])) c = some o := fun c o h e => by
            rw [upd_ne fun z => h (.inr z)]
            exact k4 c o (fun z => h (.inl (by
              rcases x4.own2 z with z | z | z | z
              · exact .inl (ap.sub _ (.inl z))
              · exact .inl (ap.sub _ (.inr (.inl z)))
              · exact .inl (ap.sub _ (.inr (.inr (.inl z))))
              · exact .inr z))) e
          have py3 : PtO (fun c => (O c ∨ c ∈ as2) ∨ c = D) (upd H4 D (.lst (acc ++ [y2]))) y2 (pO ti wi).1 := (py2.sub (O' := fun c => (O c ∨ c ∈ as2) ∨ c = D) fun c o h _ z => h (by
              rcases z with (z | z) | z
              · exact .inl (.inl (.inl z))
              · exact .inr z
              · exact .inl (.inr z))).mono fun c o h e => by
                rw [upd_ne fun z => h (.inr z)]
                exact e
          have ln3 := g2.f.len
          have ln4 := g2.l.len
          refine ⟨acc, eD4, Nat.lt_of_le_of_lt (show acc.length ≤ 1000 by omega) (by decide), acc ++ [y2], ps ++ [(pO ti wi).1], (pO ti wi).2, as2, ni + sz ti, Mi + lks ti, upd_same, by rw [List.length_append, hai] <;> rfl, ((pps.sub up).mono st).snoc py3, W4.wr nD2, nD2, x3.trans k3 W3 x4, KW.put (k3.trans x3 k4) k2 hD, ?_, g1, by omega, by omega, by omega, fun c hc => ?_⟩
          · rw [ec]
            show (ps ++ ((pO ti wi).1 :: _), _) = ((ps ++ [(pO ti wi).1]) ++ _, _)
            rw [List.append_assoc] <;> rfl
          · rcases List.mem_append.mp hc with h | h
            · exact bp c h
            · obtain rfl := List.mem_singleton.mp h
              omega
        obtain ⟨acc, ps, wi, asi, ni, Mi, eD, hai, pps, W3, nDi, x3, k3, ec, _, _, _, _, bp⟩ := hP
        rw [hvl, List.drop_length] at ec
        have ec : pL l w1 = (ps ++ [], wi) := ec
        rw [List.append_nil] at ec
        have hlp := pps.len
        have pps2 : PtOs (fun c => O c ∨ c ∈ asi) H3 acc ps := pps.sub fun c o h _ z => h (.inl z)
        have ap3 := apM W3 x3 k3
        -- the rows of first and last places
        refine ⟨Nat.zero_le _, fun f6 hf6 => ⟨Nat.zero_le _, fun g6 hg6 => ⟨_, _, rfl, ?_⟩⟩⟩
        have s1 := smU (o := HO.lst []) hf6
        have s2 := smU (o := HO.lst []) hg6
        have s12' := s1.trans s2
        refine ⟨.ref D, rfl, D, rfl, ⟨_, .inl (.inl (s12' _ _ eD))⟩, for_list (K := K) (a := D) (xs := acc) (fun i σ H4 => ∃ s4 f7 g7, σ = [some (.ref p), some (.ref a), none, some (.ref x), s4, some (.ref D), some (.ref f7), some (.ref g7)] ∧ Same H3 H4 ∧ H4 f7 = some (.lst (nIs ((ps.take i).flatMap (·.2.1)))) ∧ H4 g7 = some (.lst (nIs ((ps.take i).flatMap (·.2.2)))) ∧ ¬ (O f7 ∨ f7 ∈ asi) ∧ ¬ (O g7 ∨ g7 ∈ asi) ∧
            ((ps.take i).flatMap (·.2.1)).length ≤ 1000 * i ∧ ((ps.take i).flatMap (·.2.2)).length ≤ 1000 * i)
          ⟨_, f6, g6, rfl, s12', s2 _ _ upd_same, upd_same, ap3.no hf6, ap3.no (s1.free hg6), Nat.zero_le _, Nat.zero_le _⟩ (fun i σ H4 _ ⟨_, _, _, _, s, _⟩ => .inl (.inl (s _ _ eD))) ?_ ?_⟩
        · rintro i yi σ H4 hi ⟨s4, f7, g7, rfl, s34, ef, eg, nf, ng, bf, bg⟩
          obtain ⟨c, hci, pc⟩ := pps2.get hi
          obtain ⟨hil, hie⟩ := List.getElem?_eq_some_iff.mp hci
          obtain ⟨ya, fy, gy, rfl, pb⟩ := pc.same s34
          obtain ⟨c1, c2⟩ := bp c (List.mem_of_getElem? hci)
          have ht : ps.take (i + 1) = ps.take i ++ [c] := by rw [List.take_succ_eq_append_getElem hil, hie]
          have hi2 : i < 1000 := by omega
          have m1 : ((ps.take i).flatMap (·.2.1) ++ c.2.1) = (ps.take (i + 1)).flatMap (·.2.1) := by
            rw [ht, List.flatMap_append, List.flatMap_cons, List.flatMap_nil, List.append_nil]
          have m2 : ((ps.take i).flatMap (·.2.2) ++ c.2.2) = (ps.take (i + 1)).flatMap (·.2.2) := by
            rw [ht, List.flatMap_append, List.flatMap_cons, List.flatMap_nil, List.append_nil]
          have q1 := congrArg List.length m1
          have q2 := congrArg List.length m2
          rw [List.length_append] at q1 q2
          refine ⟨.ref f7, rfl, .ref ya, rfl, ya, _, 1, _, rfl, rfl, .inl (.inl pb.t), atI_nat (j := 1) rfl, f7, fy, _, _, rfl, rfl, ef, pb.f, ?_, fun f8 hf8 => ?_⟩
          · rw [nIs_len, nIs_len]
            exact Nat.le_trans (show _ ≤ 1002000 by omega) (by decide)
          have s8 := smU (o := HO.lst (nIs ((ps.take i).flatMap (·.2.1)) ++ nIs c.2.1)) hf8
          refine ⟨.ref g7, rfl, .ref ya, rfl, ya, _, 2, _, rfl, rfl, .inl (.inl (s8 _ _ pb.t)), atI_nat (j := 2) rfl, g7, gy, _, _, rfl, rfl, s8 _ _ eg, s8 _ _ pb.g, ?_, fun g8 hg8 => ⟨_, _, rfl, ?_⟩⟩
          · rw [nIs_len, nIs_len]
            exact Nat.le_trans (show _ ≤ 1002000 by omega) (by decide)
          have s9 := smU (o := HO.lst (nIs ((ps.take i).flatMap (·.2.2)) ++ nIs c.2.2)) hg8
          refine ⟨_, f8, g8, rfl, s34.trans (s8.trans s9), ?_, ?_, ap3.no (s34.free hf8), ap3.no ((s34.trans s8).free hg8), by omega, by omega⟩
          · rw [s9 _ _ upd_same, nIs_app, m1]
          · rw [upd_same, nIs_app, m2]
        · rintro σ H4 ⟨s4, f7, g7, rfl, s34, ef, eg, nf, ng, bf, bg⟩
          rw [hlp, List.take_of_length_le (Nat.le_refl _)] at ef eg
          refine ⟨.ref D, rfl, D, rfl, ⟨_, .inl (.inl (s34 _ _ eD))⟩, fun E5 hE => ?_⟩
          refine lc_it (walk_list (K := K) (a := D) (xs := acc)) (fun i H5 => H5 E5 = some (.lst ((ps.take i).map fun c => V.bl c.1)) ∧ Same H4 H5)
            ⟨upd_same, smU hE⟩ (fun i H5 _ hP => .inl (.inl (hP.2 _ _ (s34 _ _ eD)))) (fun i yi H5 H5' hi hP hy => ?_) (fun H5 hP => ?_)
          · obtain ⟨e5, s5⟩ := hP
            obtain ⟨rfl, hyi⟩ := hy
            obtain ⟨c, hci, pc⟩ := pps2.get hyi
            obtain ⟨hil, hie⟩ := List.getElem?_eq_some_iff.mp hci
            obtain ⟨ya, fy, gy, rfl, pb⟩ := pc.same (s34.trans s5)
            have ht : ps.take (i + 1) = ps.take i ++ [c] := by rw [List.take_succ_eq_append_getElem hil, hie]
            refine ⟨rfl, .ref ya, rfl, ya, _, 0, _, rfl, rfl, .inl (.inl pb.t), atI_nat (j := 0) rfl, _, e5, ?_, ?_, fun c2 o2 h2 => ?_⟩
            · rw [List.length_map, List.length_take]
              exact Nat.lt_of_le_of_lt (show min i ps.length ≤ 1000 by omega) (by decide)
            · rw [upd_same, ht, List.map_append] <;> rfl
            · rw [upd_ne (ne_of_none h2 hE)]
              exact s5 _ _ h2
          · obtain ⟨e5, s5⟩ := hP
            rw [hlp, List.take_of_length_le (Nat.le_refl _), show (ps.map fun c => V.bl c.1) = (ps.map (·.1)).map V.bl by rw [List.map_map] <;> rfl] at e5
            refine ⟨E5, _, rfl, .inl (.inl e5), .ref f7, rfl, .ref g7, rfl, (show 3 ≤ sizeLine by decide), fun z hz => ?_⟩
            have s6 := smU (o := HO.tup [.bl ((ps.map (·.1)).any id), .ref f7, .ref g7]) hz
            have sF := s34.trans (s5.trans s6)
            have eP : pO (.choice l) w1 = ((ps.any (·.1), ps.flatMap (·.2.1), ps.flatMap (·.2.2)), wi) := by
              show (((pL l w1).1.any (·.1), (pL l w1).1.flatMap (·.2.1), (pL l w1).1.flatMap (·.2.2)), (pL l w1).2) = _
              rw [ec]
            have ea : (ps.map (·.1)).any id = ps.any (·.1) := by rw [List.any_map] <;> rfl
            refine ⟨.ref z, _, _, _, _, _, asi, rfl, ?_, ?_, x3, k3.trans x3 (KW.same sF)⟩
            · rw [eP]
              refine ⟨z, f7, g7, rfl, ?_, (s5.trans s6) _ _ ef, (s5.trans s6) _ _ eg, ap3.no ((s34.trans s5).free hz), nf, ng⟩
              rw [upd_same, ea]
            · rw [eP]
              exact W3.up sF
      · rw [decide_eq_false fun z => hal (V.str.inj z)]
        rcases hX with ⟨rfl, _, _⟩ | ⟨b, vs, l, _, h, _⟩ | ⟨b, vs, l, _, h, _⟩
        · exact iteF ⟨.ref x, _, _, _, _, _, as1, rfl, py, W2, x2, k2⟩
        · exact absurd h hch
        · exact absurd h hal
    obtain ⟨z, s2', s4', s5', s6', s7', as3, rfl, pz, W3, x3, k3⟩ := hM
    exact ⟨z, rfl, q z H3 as3 pz W3 x3 k3⟩
end
end Sf4
namespace Sf4
open PySem PySem.Spec PyProof.Rows L2 Sf
def iD (l : List Nat) : List PyData := l.map fun (i : Nat) => PyData.int (i : Int)
def ptD (c : Pt) : PyData := .tuple [.bool c.1, .list (iD c.2.1), .list (iD c.2.2)]
theorem iD_ok : ∀ l : List Nat, PyData.canLayAll0 (iD l) = true ∧ PyData.depthAll (iD l) = 0
  | [] => ⟨rfl, rfl⟩
  | i :: l => by
    obtain ⟨a, b⟩ := iD_ok l
    have e : iD (i :: l) = .int (i : Int) :: iD l := rfl
    rw [e]
    refine ⟨?_, ?_⟩
    · show (PyData.canLay0 (.int (i : Int)) && PyData.canLayAll0 (iD l)) = true
      rw [a] <;> rfl
    · show max (PyData.depth (.int (i : Int))) (PyData.depthAll (iD l)) = 0
      rw [b] <;> rfl
theorem ptD_ok (c : Pt) : PyData.canLay0 (ptD c) = true ∧ PyData.depth (ptD c) ≤ 2 := by
  obtain ⟨a1, b1⟩ := iD_ok c.2.1
  obtain ⟨a2, b2⟩ := iD_ok c.2.2
  refine ⟨?_, ?_⟩
  · simp only [ptD, PyData.canLay0, PyData.canLayAll0, a1, a2, Bool.and_true]
  · simp only [ptD, PyData.depth, PyData.depthAll, b1, b2]
    omega
theorem ptsD_ok : ∀ cs : List Pt, PyData.canLayAll0 (cs.map ptD) = true ∧ PyData.depthAll (cs.map ptD) ≤ 2
  | [] => ⟨rfl, Nat.zero_le _⟩
  | c :: cs => by
    obtain ⟨a, b⟩ := ptsD_ok cs
    obtain ⟨a2, b2⟩ := ptD_ok c
    refine ⟨?_, ?_⟩
    · show (PyData.canLay0 (ptD c) && PyData.canLayAll0 (cs.map ptD)) = true
      rw [a, a2] <;> rfl
    · show max (PyData.depth (ptD c)) (PyData.depthAll (cs.map ptD)) ≤ 2
      omega
theorem cpsD_shaped (cs : List Pt) : SeqAt.shaped (.list (cs.map ptD)) = true := by
  obtain ⟨a, b⟩ := ptsD_ok cs
  have h1 : PyData.canLay0 (.list (cs.map ptD)) = true := by simpa only [PyData.canLay0] using a
  have h2 : PyData.depth (.list (cs.map ptD)) ≤ 64 := by
    simp only [PyData.depth]
    omega
  unfold SeqAt.shaped
  rw [h1, decide_eq_true h2] <;> rfl
theorem ints_dp {K : PySem.W.Frag} {H : Hp} : ∀ l : List Nat, DpAll K H (nIs l) (iD l)
  | [] => .nil
  | i :: l => .cons (.int _) (ints_dp l)
theorem PtO.dp {K : PySem.W.Frag} {O : Addr → Prop} {H : Hp} {x : V} {c : Pt} (h : PtO O H x c) : Dp K H x (ptD c) := by
  obtain ⟨a, f, g, rfl, b⟩ := h
  exact .tup (.inl (.inl b.t)) (.cons (.bl _) (.cons (.lst (.inl (.inl b.f)) (ints_dp _)) (.cons (.lst (.inl (.inl b.g)) (ints_dp _)) .nil)))
theorem PtOs.dp {K : PySem.W.Frag} {O : Addr → Prop} {H : Hp} : ∀ {cs : List Pt} {vs : List V}, PtOs O H vs cs → DpAll K H vs (cs.map ptD)
  | [], _, h => by
    cases h
    exact .nil
  | c :: cs, _, h => by
    cases h with
    | cons a r => exact .cons a.dp r.dp
theorem cps_eqv (cs : List Pt) : PyData.eqv (.list (cs.map ptD)) (.list []) = cs.isEmpty := by
  cases cs <;> rfl
theorem PtOs.last {O : Addr → Prop} {H : Hp} : ∀ {cs : List Pt} {vs : List V} {c : Pt}, PtOs O H vs (cs ++ [c]) → ∃ us v, vs = us ++ [v] ∧ PtOs O H us cs ∧ PtO O H v c
  | [], _, _, h => by
    cases h with
    | cons a r =>
      cases r
      exact ⟨[], _, rfl, .nil, a⟩
  | d :: cs, _, _, h => by
    cases h with
    | cons a r =>
      obtain ⟨us, v, rfl, r1, r2⟩ := PtOs.last r
      exact ⟨_ :: us, v, rfl, .cons a r1, r2⟩
theorem atI_last {α : Type} (l : List α) (v : α) : atI (l ++ [v]) (-1) = some v := by
  unfold atI ixN
  have h1 : ¬ ((0 : Int) ≤ -1) := by decide
  rw [if_neg h1]
  have h2 : -((l ++ [v]).length : Int) ≤ -1 := by rw [List.length_append, List.length_singleton]; omega
  rw [if_pos h2]
  have h3 : (-1 + ((l ++ [v]).length : Int)).toNat = l.length := by rw [List.length_append, List.length_singleton]; omega
  show (some (-1 + ((l ++ [v]).length : Int)).toNat).bind (fun j => (l ++ [v])[j]?) = _
  rw [h3]
  show (l ++ [v])[l.length]? = some v
  rw [List.getElem?_append_right (Nat.le_refl _), Nat.sub_self] <;> rfl
/-- how far the copies are joined -/
structure Fs (n s e N S G M : Nat) (cs : List Pt) (tl : Pt) (w : Wp) : Prop where
  rc : RCps n s cs.reverse
  tl : POk (n + cs.length * s) e tl
  le : n + cs.length * s ≤ e
  eN : e ≤ N
  ok : WOk w N M
  NS : N ≤ S
  top : S ≤ 1000
  bd : M + G * cs.length ≤ 10000
  gN : N - n ≤ G
theorem Fs.step {n s e N S G M : Nat} {cs : List Pt} {c tl : Pt} {w : Wp} (h : Fs n s e N S G M (cs ++ [c]) tl w) (b : Bool) :
    Bn w c.2.2 tl.2.1 ∧ c.2.1.length ≤ 1000 ∧ tl.2.2.length ≤ 1000 ∧ Fs n s e N S G (M + G) cs (if b = true then (true, (joinP c tl).2) else joinP c tl) ⟨w.le, lnk w.fo c.2.2 tl.2.1⟩ := by
  obtain ⟨rc, ht, le, eN, ok, NS, top, bd, gN⟩ := h
  rw [List.reverse_append, List.reverse_singleton] at rc
  obtain ⟨hc, hr⟩ := (show POk (n + cs.reverse.length * s) (n + (cs.reverse.length + 1) * s) c ∧ RCps n s cs.reverse from rc)
  rw [List.length_reverse] at hc
  rw [List.length_append, List.length_singleton] at ht le bd
  have e1 : (cs.length + 1) * s = cs.length * s + s := Nat.succ_mul _ _
  have e2 : G * (cs.length + 1) = G * cs.length + G := Nat.mul_succ _ _
  have l1 := hc.f.len
  have l2 := hc.l.len
  have l3 := ht.f.len
  have l4 := ht.l.len
  refine ⟨⟨hc.l.nd, fun x hx => ?_, by omega, by omega, fun r hr => ?_⟩, by omega, by omega, hr, ?_, by omega, eN, ok.lnk hc.l.nd (fun x hx => by have := ht.f.lt x hx; omega) (by omega), NS, top, by omega, gN⟩
  · rw [ok.fo]
    have := hc.l.lt x hx
    omega
  · have := (ok.bd r hr).1
    omega
  · have j := hc.join ht (by omega) le
    split
    · exact j.opt true
    · exact j
def NCnt : List Str := ["self", "least", "most", "tree", "many", "copies", "tail", "turn"]
theorem scCounted : FnScope NCnt ["self", "least", "most", "tree"] (defScope sCounted) := ⟨rfl, rfl, rfl, by decide +kernel, rfl, by decide +kernel, by decide +kernel⟩
theorem fin_step (least : Nat) (cs : List Pt) (c tl : Pt) (fo : List (List Nat)) : fin least (cs ++ [c]).reverse tl fo = fin least cs.reverse (if cs.length + 1 > least then (true, (joinP c tl).2) else joinP c tl) (lnk fo c.2.2 tl.2.1) := by
  rw [List.reverse_append, List.reverse_singleton]
  show fin least cs.reverse (if cs.reverse.length + 1 > least then (true, (joinP c tl).2) else joinP c tl) (lnk fo c.2.2 tl.2.1) = _
  rw [List.length_reverse]
theorem cntd_none (a : Nat) (cs : List Pt) (c : Pt) (w : Wp) : cntd a none (cs ++ [c], w) = ((fin cs.length cs.reverse (if a > 0 then c else (true, c.2)) (lnk w.fo c.2.2 c.2.1)).1, ⟨w.le, (fin cs.length cs.reverse (if a > 0 then c else (true, c.2)) (lnk w.fo c.2.2 c.2.1)).2⟩) := by
  show (match (cs ++ [c]).reverse with | [] => (e0, w) | c :: r => ((fin r.length r (if a > 0 then c else (true, c.2)) (lnk w.fo c.2.2 c.2.1)).1, ⟨w.le, (fin r.length r (if a > 0 then c else (true, c.2)) (lnk w.fo c.2.2 c.2.1)).2⟩) : Pt × Wp) = _
  have e : (cs ++ [c]).reverse = c :: cs.reverse := by rw [List.reverse_append, List.reverse_singleton] <;> rfl
  rw [e]
  dsimp only
  rw [List.length_reverse]
/-- the state of the loops that join the copies -/
def CSt (C p dx la fa D : Addr) (as asi : List Addr) (O1 : Addr → Prop) (H : Hp) (n s N S least : Nat) (R : Pt × Wp) (H5 : Hp) (cs : List Pt) (y : V) : Prop :=
  ∃ acc tl w' M' G, H5 D = some (.lst acc) ∧ PtOs O1 H5 acc cs ∧ PtO O1 H5 y tl ∧ WrA C p dx la fa H5 w' asi ∧ KW p la fa as H H5 ∧ Apt p la fa asi H5 O1 ∧ Fs n s N N S G M' cs tl w' ∧ R = ((fin least cs.reverse tl w'.fo).1, ⟨w'.le, (fin least cs.reverse tl w'.fo).2⟩)
theorem CSt.pop {C p dx la fa D : Addr} {as asi : List Addr} {O1 : Addr → Prop} {H : Hp} {n s N S least : Nat} {R : Pt × Wp} {H5 : Hp} {cs : List Pt} {c : Pt} {y : V} (h : CSt C p dx la fa D as asi O1 H n s N S least R H5 (cs ++ [c]) y) (nD : ¬ Own p la fa asi D) (oD : O1 D) (hD : H D = none) (x : Ext H as asi) :
    ∃ us v tl w', H5 D = some (.lst (us ++ [v])) ∧ WrA C p dx la fa (upd H5 D (.lst us)) w' asi ∧ Apt p la fa asi (upd H5 D (.lst us)) O1 ∧ PtO O1 (upd H5 D (.lst us)) v c ∧ PtO O1 (upd H5 D (.lst us)) y tl ∧ Bn w' c.2.2 tl.2.1 ∧ c.2.1.length ≤ 1000 ∧ tl.2.2.length ≤ 1000 ∧
      ∀ z H7, WrA C p dx la fa H7 ⟨w'.le, lnk w'.fo c.2.2 tl.2.1⟩ asi → KW p la fa asi (upd H5 D (.lst us)) H7 → PtO O1 H7 z (joinP c tl) → (∀ z2 H8, Same H7 H8 → PtO O1 H8 z2 (if cs.length + 1 > least then (true, (joinP c tl).2) else joinP c tl) → CSt C p dx la fa D as asi O1 H n s N S least R H8 cs z2) := by
  obtain ⟨acc, tl, w', M', G, eD, pps, py, W, k, ap, fs, er⟩ := h
  obtain ⟨us, v, rfl, p1, p2⟩ := pps.last
  have st : ∀ b o, ¬ O1 b → H5 b = some o → upd H5 D (.lst us) b = some o := fun b o h e => by
    rw [upd_ne fun z => h (by rw [z]; exact oD)]
    exact e
  have ap6 : Apt p la fa asi (upd H5 D (.lst us)) O1 := ⟨ap.sub, fun b hb => by
    by_cases z : b = D
    · exact ⟨_, by rw [z]; exact upd_same⟩
    · rw [upd_ne z]
      exact ap.all b hb⟩
  obtain ⟨b1, b2, b3, b4⟩ := fs.step (decide (cs.length + 1 > least))
  refine ⟨us, v, tl, w', eD, W.wr nD, ap6, p2.mono st, py.mono st, b1, b2, b3, fun z H7 W7 k7 _ z2 H8 s8 pz => ?_⟩
  have un : ∀ {b : Addr}, ¬ O1 b → ¬ Own p la fa asi b := fun h z => h (ap.sub _ z)
  have fr : ∀ b o, ¬ O1 b → H5 b = some o → H8 b = some o := fun b o h e => s8 _ _ (k7 b o (un h) (st b o h e))
  have kk : KW p la fa as H H8 := ((KW.put k .refl hD).trans x k7).trans x (KW.same s8)
  refine ⟨us, _, ⟨w'.le, lnk w'.fo c.2.2 tl.2.1⟩, M' + G, G, s8 _ _ (k7 D _ nD upd_same), p1.mono fr, pz, W7.up s8, kk, ⟨ap.sub, fun b hb => ?_⟩, ?_, ?_⟩
  · by_cases ho : Own p la fa asi b
    · obtain ⟨o, e, _⟩ := W7.own ho
      exact ⟨o, s8 _ _ e⟩
    · obtain ⟨o, e⟩ := ap6.all b hb
      exact ⟨o, s8 _ _ (k7 b o ho e)⟩
  · by_cases hc : cs.length + 1 > least
    · rw [if_pos hc]
      rw [if_pos (decide_eq_true hc)] at b4
      exact b4
    · rw [if_neg hc]
      rw [if_neg (by rw [decide_eq_false hc]; decide)] at b4
      exact b4
  · rw [er, fin_step]
section
variable {P : Program} {w : World} {K : PySem.W.Frag} {mg : Str → Option Value} {base : Heap} {C : Addr} {f : Nat → Addr} {fd : Nat → FuncData} {tk : Nat → Tok}
theorem ok_counted (T : WT K mg C f fd tk) {k d : Nat} (hk : 2 ≤ k) (GA : FnOk P w K mg base CX0 k (f 3) (fd 3) ["self", "tree"] (spPO C d)) : FnOk P w K mg base CX0 (k + 1) (f 4) (fd 4) ["self", "least", "most", "tree"] (spCnt C d) := by
  refine T.mCount.F.ok scCounted (fun vs H Q E h => ?_) (fun cdv A outer s H vs Q E hr h => ?_)
  · obtain ⟨p, dx, la, fa, a, b, v, t, w, as, O, S, n, M, rfl, _⟩ := h
    rfl
  · obtain ⟨p, dx, la, fa, a, b, v, t, w, as, O, S, n, M, rfl, hd, hw, hm, ht, W, ap, ft, q⟩ := h
    have GJ := ok_joined (P := P) (base := base) (w := ‹World›) T
    have GL := ok_link (P := P) (base := base) (w := ‹World›) T
    have hu64 := hr.units
    refine ⟨_, Evl.pss_cut (ps_set (i := 4) scCounted.nd rfl (.inl rfl) (pe_ifExp (pt_cmpR op_isN (pv 2) pe_non (nomark _)) (pe_callB (call_max2 rfl) (by rfl) T.zmax (by decide +kernel) (pa_cons (pv 1) (pa_cons pe_int pa_nil))) (pv 2)))
      (pss_cons (ps_par (i := 5) (j := 6) rfl scCounted.nd rfl rfl (by decide) rfl rfl (pa_cons (pe_lc (own := [("turn", 7)]) (g := gName 7) (tt := tYes) (te := tMeth C "part_of" (spPO C d) [] E0 (tVar 0) (tCons (tVar 3) tNil)) rfl scCounted.nd (pi_range1 rfl T.zrange (pa_cons (pv 4) pa_nil)) (blkOk_by (N := NCnt) (sc := defScope sCounted) (by decide +kernel))
            (fun _ _ _ _ _ => pg_name (i := 7) scCounted.nd rfl (Or.inl rfl)) (fun _ _ _ _ _ => pts_nil) (fun _ _ _ _ _ => pe_meth (pv 0) T.cl T.mPart.m GA hr T.mPart.b .nil pass0 (pa_cons (pv 3) pa_nil)))
          (pa_cons (pe_tup (pa_cons pe_bl (pa_cons (pe_lst pa_nil) (pa_cons (pe_lst pa_nil) pa_nil)))) pa_nil)) (by rfl))
      (Evl.pss_cut (ps_if (pt_cmpR op_isN (pv 2) pe_non (nomark _))
          (pss_cons (ps_expr (pe_meth (pv 0) T.cl T.mLink.m GL (hr.mono (Nat.le_trans (by decide) hk)) T.mLink.b .nil pass0 (pa_cons (pe_ix ix_tup (pe_ix ix_list (pv 5) (pe_un un_neg pe_int) (fun _ _ => rfl)) pe_int (fun _ _ => rfl)) (pa_cons (pe_ix ix_tup (pe_ix ix_list (pv 5) (pe_un un_neg pe_int) (fun _ _ => rfl)) pe_int (fun _ _ => rfl)) pa_nil))))
          (pss_cons (ps_set (i := 6) scCounted.nd rfl (.inl rfl) (pe_ifExp (pt_cmpR op_gt (pv 1) pe_int (nomark _)) (pe_bm0 PySem.F.plainAttrs_list PySem.F.slot_list_pop PySem.F.type_list_pop mt_pop (pv 5))
              (pe_tup (pa_cons pe_bl (StX.pa_star (pe_slice sl_tup (pe_bm0 PySem.F.plainAttrs_list PySem.F.slot_list_pop PySem.F.type_list_pop mt_pop (pv 5)) (po_some pe_int) po_none) pa_nil)))))
          (pss_one (ps_set (i := 1) scCounted.nd rfl (.inl rfl) (pe_callB call_len_seq (by rfl) T.zlen PySem.boot_len (pa_cons (pv 5) pa_nil)))))) pss_nil)
      (Evl.pss_cut (ps_while PassesOwn.never (pt_cmpR op_gt (pe_callB call_len_seq (by rfl) T.zlen PySem.boot_len (pa_cons (pv 5) pa_nil)) (pv 1) (nomark _))
          (pss_cons (ps_set (i := 6) scCounted.nd rfl (.inl rfl) (pe_meth (pv 0) T.cl T.mJoin.m GJ (hr.mono hk) T.mJoin.b .nil pass0 (pa_cons (pe_bm0 PySem.F.plainAttrs_list PySem.F.slot_list_pop PySem.F.type_list_pop mt_pop (pv 5)) (pa_cons (pv 6) pa_nil))))
          (pss_one (ps_set (i := 6) scCounted.nd rfl (.inl rfl) (pe_tup (pa_cons pe_bl (pa_cons (pe_ix ix_tup (pv 6) pe_int (fun _ _ => rfl)) (pa_cons (pe_ix ix_tup (pv 6) pe_int (fun _ _ => rfl)) pa_nil))))))))
      (Evl.pss_cut (ps_while PassesOwn.never (pt_cmpR (op_neD hu64) (pv 5) (pe_lst pa_nil) (nomark _))
          (pss_one (ps_set (i := 6) scCounted.nd rfl (.inl rfl) (pe_meth (pv 0) T.cl T.mJoin.m GJ (hr.mono hk) T.mJoin.b .nil pass0 (pa_cons (pe_bm0 PySem.F.plainAttrs_list PySem.F.slot_list_pop PySem.F.type_list_pop mt_pop (pv 5)) (pa_cons (pv 6) pa_nil))))))
      (pss_one (ps_ret (pv 6))))))), ?_⟩
    have nP : (wf_ la fa).lookup ("part_of" : Str) = none := wf_no (by decide +kernel) (by decide +kernel)
    have nL : (wf_ la fa).lookup ("link" : Str) = none := wf_no (by decide +kernel) (by decide +kernel)
    have nJ : (wf_ la fa).lookup ("joined" : Str) = none := wf_no (by decide +kernel) (by decide +kernel)
    have f1 := ft.le
    have f2 := ft.top
    have f3 := ft.bd
    have f4 : many a b * lks t + many a b * sz t * (many a b + 1) = many a b * lks t + many a b * sz t * many a b + many a b * sz t := by rw [Nat.mul_succ, Nat.add_assoc]
    refine ⟨fun σ H1 => σ = [some (.ref p), some (.int a), some (mst b), some v, some (.int (many a b : Nat)), none, none, none] ∧ H1 = H, ?_, fun σ H1 hM => ?_⟩
    · refine ⟨mst b, rfl, rfl, _, rfl, ?_⟩
      cases b with
      | none =>
        refine iteT ⟨_, rfl, (a : Int), 1, rfl, ?_, rfl⟩
        have e : (if (1 : Int) > (a : Int) then (1 : Int) else (a : Int)) = ((many a none : Nat) : Int) := by
          show _ = ((max a 1 : Nat) : Int)
          split <;> omega
        show [some (V.ref p), some (V.int a), some (mst none), some v, some (V.int (if (1 : Int) > (a : Int) then (1 : Int) else (a : Int))), none, none, none] = _
        rw [e]
      | some m => exact iteF ⟨_, rfl, rfl, rfl⟩
    obtain ⟨rfl, rfl⟩ := hM
    refine ⟨_, rfl, ((many a b : Nat) : Int), rfl, by omega, by omega, fun D hD => ?_⟩
    rw [Int.toNat_natCast]
    have nDo : ¬ Own p la fa as D := W.no hD
    refine lc_it (walk_range (lo := 0) (n := many a b)) (fun i H3 => ∃ acc ps wi asi ni Mi, H3 D = some (.lst acc) ∧ acc.length = i ∧ PtOs (fun c => (O c ∨ c ∈ asi) ∨ c = D) H3 acc ps ∧ WrA C p dx la fa H3 wi asi ∧ ¬ Own p la fa asi D ∧ Ext H1 as asi ∧ KW p la fa as H1 H3 ∧
        rep (pO t) (many a b) w = (ps ++ (rep (pO t) (many a b - i) wi).1, (rep (pO t) (many a b - i) wi).2) ∧ WOk wi ni Mi ∧ ni + (many a b - i) * sz t ≤ S ∧ Mi + ((many a b - i) * lks t) ≤ 10000 ∧ Apt p la fa asi H3 (fun c => (O c ∨ c ∈ asi) ∨ c = D))
      ⟨[], [], w, as, n, M, upd_same, rfl, .nil, W.wr nDo, nDo, .refl, KW.put .refl .refl hD, rfl, ft.ok, f1, by show M + (many a b * lks t) ≤ 10000; omega, ⟨fun c h => .inl (.inl (ap.sub c h)), fun c h => ?_⟩⟩ (fun _ _ _ _ => True.intro) (fun i xi H3 H3' hi hP hy => ?_) (fun H3 hP => ?_)
    · by_cases z : c = D
      · exact ⟨_, by rw [z]; exact upd_same⟩
      · rw [upd_ne z]
        rcases h with (h | h) | h
        · exact ap.all c h
        · obtain ⟨o, e, _⟩ := W.own (.inr (.inr (.inr h)))
          exact ⟨o, e⟩
        · exact absurd h z
    · obtain ⟨acc, ps, wi, asi, ni, Mi, eD, hai, pps, W3, nDi, x3, k3, ec, o2, b1, b2, ap4⟩ := hP
      obtain ⟨rfl, rfl⟩ := hy
      obtain ⟨m', hm'⟩ : ∃ m', many a b - i = m' + 1 := ⟨many a b - i - 1, by omega⟩
      have hm2 : many a b - (i + 1) = m' := by omega
      rw [hm'] at ec b1 b2
      have e1 : (m' + 1) * sz t = m' * sz t + sz t := Nat.succ_mul _ _
      have e2 : (m' + 1) * lks t = m' * lks t + lks t := Nat.succ_mul _ _
      obtain ⟨g1, g2⟩ := pO_ok (S := S) t wi ni Mi o2 (by omega)
      refine ⟨rfl, .ref p, rfl, p, dx, _, rfl, W3.e, nP, v, rfl, ?_⟩
      refine ⟨p, dx, la, fa, v, t, wi, asi, _, S, ni, Mi, rfl, hd, hw, ht.mono (k3.kt W), W3, ap4, ⟨o2, by omega, f2, by omega⟩, fun y2 H4 as2 py2 W4 x4 k4 => ?_⟩
      have nD2 : ¬ Own p la fa as2 D := x4.own eD nDi
      have eD4 := k4 D _ nDi eD
      have up : ∀ c o, ¬ ((O c ∨ c ∈ asi) ∨ c = D) → H3' c = some o → ¬ ((O c ∨ c ∈ as2) ∨ c = D) := fun c o h e z => by
        obtain ⟨m, rfl, hm⟩ := x4
        rcases z with (z | z) | z
        · exact h (.inl (.inl z))
        · rcases List.mem_append.mp z with z | z
          · exact h (.inl (.inr z))
          · rw [hm c z] at e
            cases e
        · exact h (.inr z)
      have ow : ∀ c, Own p la fa as2 c → O c ∨ c ∈ as2 := fun c z => by
        rcases z with z | z | z | z
        · exact .inl (ap.sub _ (.inl z))
        · exact .inl (ap.sub _ (.inr (.inl z)))
        · exact .inl (ap.sub _ (.inr (.inr (.inl z))))
        · exact .inr z
      have st : ∀ c o, ¬ ((O c ∨ c ∈ as2) ∨ c = D) → H3' c = some o → upd H4 D (.lst (acc ++ [y2])) c = some o := fun c o h e => by
        rw [upd_ne fun z => h (.inr z)]
        exact k4 c o (fun z => h (.inl (ow c (x4.own2 z)))) e
      have py3 : PtO (fun c => (O c ∨ c ∈ as2) ∨ c = D) (upd H4 D (.lst (acc ++ [y2]))) y2 (pO t wi).1 := (py2.sub (O' := fun c => (O c ∨ c ∈ as2) ∨ c = D) fun c o h _ z => h (by
          rcases z with (z | z) | z
          · exact .inl (.inl (.inl z))
          · exact .inr z
          · exact .inl (.inr z))).mono fun c o h e => by
            rw [upd_ne fun z => h (.inr z)]
            exact e
      refine ⟨acc, eD4, Nat.lt_of_le_of_lt (show acc.length ≤ 1000 by omega) (by decide), acc ++ [y2], ps ++ [(pO t wi).1], (pO t wi).2, as2, ni + sz t, Mi + lks t, upd_same, by rw [List.length_append, hai] <;> rfl, ((pps.sub up).mono st).snoc py3, W4.wr nD2, nD2, x3.trans k3 W3 x4, KW.put (k3.trans x3 k4) .refl hD, ?_, g1, by rw [hm2]; omega, by rw [hm2]; omega, ⟨fun c h => .inl (ow c h), fun c h => ?_⟩⟩
      · rw [hm2, ec]
        show (ps ++ ((pO t wi).1 :: _), _) = ((ps ++ [(pO t wi).1]) ++ _, _)
        rw [List.append_assoc] <;> rfl
      · by_cases z : c = D
        · exact ⟨_, by rw [z]; exact upd_same⟩
        · rw [upd_ne z]
          by_cases ho : Own p la fa as2 c
          · obtain ⟨o, e, _⟩ := W4.own ho
            exact ⟨o, e⟩
          · rcases h with (h | h) | h
            · obtain ⟨o, e⟩ := ap4.all c (.inl (.inl h))
              exact ⟨o, k4 c o (fun z => ho (x4.own2 z)) e⟩
            · exact absurd (.inr (.inr (.inr h))) ho
            · exact absurd h z
    obtain ⟨acc, ps, wi, asi, ni, Mi, eD, hai, pps, W3, nDi, x3, k3, ec, _, _, _, ap3⟩ := hP
    rw [Nat.sub_self] at ec
    have ec : rep (pO t) (many a b) w = (ps ++ [], wi) := ec
    rw [List.append_nil] at ec
    obtain ⟨g1, g2⟩ := rep_ok (pO_ok (S := S) t) (many a b) w n M ft.ok f1
    have hpl := rep_len (pO t) (many a b) w
    rw [ec] at g1 g2 hpl
    have g1 : WOk wi (n + many a b * sz t) (M + (many a b * lks t)) := g1
    have g3 : RCps n (sz t) ps.reverse := Cps.rev (show Cps (sz t) n ps from g2)
    have hpl : ps.length = many a b := hpl
    have hR : cntd a b (rep (pO t) (many a b) w) = cntd a b (ps, wi) := by rw [ec]
    rw [hR] at q
    refine ⟨Nat.zero_le _, fun c hc => ⟨Nat.zero_le _, fun g hg => ⟨(show 3 ≤ sizeLine by decide), fun x hx => ⟨_, _, rfl, ?_⟩⟩⟩⟩
    have s1 := smU (o := HO.lst []) hc
    have s2 := smU (o := HO.lst []) hg
    have s3 := smU (o := HO.tup [.bl true, .ref c, .ref g]) hx
    have sA := s1.trans (s2.trans s3)
    have x0 : PtO (fun c => (O c ∨ c ∈ asi) ∨ c = D) (upd (upd (upd H3 c (.lst [])) g (.lst [])) x (.tup [.bl true, .ref c, .ref g])) (.ref x) e0 :=
      ⟨x, c, g, rfl, upd_same, s3 _ _ (s2 _ _ upd_same), s3 _ _ upd_same, ap3.no ((s1.trans s2).free hx), ap3.no hc, ap3.no (s1.free hg)⟩
    generalize upd (upd (upd H3 c (.lst [])) g (.lst [])) x (.tup [.bl true, .ref c, .ref g]) = H4 at sA x0 ⊢
    have W4 := W3.up sA
    have ap4 : Apt p la fa asi H4 (fun c => (O c ∨ c ∈ asi) ∨ c = D) := ⟨ap3.sub, fun b hb => by
      obtain ⟨o, e⟩ := ap3.all b hb
      exact ⟨o, sA _ _ e⟩⟩
    have pps4 := pps.mono fun b o _ e => sA b o e
    have k4 : KW p la fa as H1 H4 := k3.trans x3 (KW.same sA)
    have oD : (fun c => (O c ∨ c ∈ asi) ∨ c = D) D := .inr rfl
    refine ⟨fun σ H5 => ∃ (least : Nat) (cs : List Pt) (y : V), σ = [some (.ref p), some (.int least), some (mst b), some v, some (.int (many a b : Nat)), some (.ref D), some y, none] ∧ CSt C p dx la fa D as asi (fun c => (O c ∨ c ∈ asi) ∨ c = D) H1 n (sz t) (n + many a b * sz t) S least (cntd a b (ps, wi)) H5 cs y, ?_, fun σ H5 hM => ?_⟩
    · refine ⟨mst b, rfl, rfl, _, rfl, ?_⟩
      cases b with
      | some m =>
        refine iteF ⟨a, ps, .ref x, rfl, acc, e0, wi, M + many a (some m) * lks t, many a (some m) * sz t, sA _ _ eD, pps4, x0, W4, k4, ap4, ⟨g3, .e0, ?_, Nat.le_refl _, g1, f1, f2, ?_, by omega⟩, rfl⟩
        · rw [hpl]
          exact Nat.le_refl _
        · rw [hpl]
          omega
      | none =>
        obtain ⟨cs, c1, rfl⟩ : ∃ cs c, ps = cs ++ [c] := by
          have : ps ≠ [] := fun z => by
            rw [z] at hpl
            have : (0 : Nat) = max a 1 := hpl
            omega
          exact ⟨ps.dropLast, ps.getLast this, (List.dropLast_concat_getLast this).symm⟩
        obtain ⟨us, v1, rfl, p1, p2⟩ := pps4.last
        obtain ⟨pa, pf, pg, rfl, pb⟩ := p2
        have eD4 := sA _ _ eD
        have un : ∀ {b : Addr}, ¬ ((O b ∨ b ∈ asi) ∨ b = D) → ¬ Own p la fa asi b := fun h z => h (ap4.sub _ z)
        rw [List.reverse_append, List.reverse_singleton] at g3
        obtain ⟨h1, h2⟩ := (show POk (n + cs.reverse.length * sz t) (n + (cs.reverse.length + 1) * sz t) c1 ∧ RCps n (sz t) cs.reverse from g3)
        rw [List.length_reverse] at h1
        rw [List.length_append, List.length_singleton] at hpl
        have e1 : (cs.length + 1) * sz t = cs.length * sz t + sz t := Nat.succ_mul _ _
        have e2 : many a none * sz t * (cs.length + 1) = many a none * sz t * cs.length + many a none * sz t := Nat.mul_succ _ _
        rw [hpl] at h1 e1
        rw [show many a none * sz t * (cs.length + 1) = many a none * sz t * many a none by rw [hpl]] at e2
        have l1 := h1.f.len
        have l2 := h1.l.len
        have B : Bn wi c1.2.2 c1.2.1 := ⟨h1.l.nd, fun x hx => by
          rw [g1.fo]
          have := h1.l.lt x hx
          omega, by omega, by omega, fun r hr => by
          have := (g1.bd r hr).1
          omega⟩
        have w5 := g1.lnk (S := many a none * sz t) h1.l.nd (fun x hx => (h1.f.lt x hx).2) (by omega)
        refine iteT ⟨.ref p, rfl, p, dx, _, rfl, W4.e, nL, .ref D, rfl, 1, rfl, D, _, -1, _, rfl, rfl, .inl (.inl eD4), atI_last _ _, pa, _, 2, _, rfl, rfl, .inl (.inl pb.t), atI_nat (j := 2) rfl, .ref D, rfl, 1, rfl, D, _, -1, _, rfl, rfl, .inl (.inl eD4), atI_last _ _, pa, _, 1, _, rfl, rfl, .inl (.inl pb.t), atI_nat (j := 1) rfl, ?_⟩
        refine ⟨p, dx, la, fa, pg, pf, wi, asi, _, _, rfl, W4, pb.g, pb.f, un pb.ng, un pb.nf, B, fun H5 W5 k5 => ?_⟩
        have eD5 := k5 D _ nDi eD4
        have fr : ∀ b o, ¬ ((O b ∨ b ∈ asi) ∨ b = D) → H4 b = some o → upd H5 D (.lst us) b = some o := fun b o h e => by
          rw [upd_ne fun z => h (.inr z)]
          exact k5 b o (un h) e
        have lastE : (us ++ [V.ref pa])[(us ++ [V.ref pa]).length - 1]? = some (.ref pa) := by
          rw [List.length_append, List.length_singleton, Nat.add_sub_cancel, List.getElem?_append_right (Nat.le_refl _), Nat.sub_self] <;> rfl
        have dr : (us ++ [V.ref pa]).dropLast = us := List.dropLast_concat
        have hlu := p1.len
        have ap6 : ∀ {H6 : Hp}, Same (upd H5 D (.lst us)) H6 → Apt p la fa asi H6 (fun c => (O c ∨ c ∈ asi) ∨ c = D) := fun {H6} s6 => ⟨ap4.sub, fun b hb => by
          by_cases z : b = D
          · exact ⟨_, by rw [z]; exact s6 _ _ upd_same⟩
          · by_cases ho : Own p la fa asi b
            · obtain ⟨o, e, _⟩ := W5.own ho
              exact ⟨o, s6 _ _ (by rw [upd_ne z]; exact e)⟩
            · obtain ⟨o, e⟩ := ap4.all b hb
              exact ⟨o, s6 _ _ (by rw [upd_ne z]; exact k5 b o ho e)⟩⟩
        have pc1 : PtO (fun c => (O c ∨ c ∈ asi) ∨ c = D) H4 (.ref pa) c1 := ⟨pa, pf, pg, rfl, pb⟩
        have fin1 : ∀ (y : V) (tl : Pt) (H6 : Hp), Same (upd H5 D (.lst us)) H6 → PtO (fun c => (O c ∨ c ∈ asi) ∨ c = D) H6 y tl → tl = (if a > 0 then c1 else (true, c1.2)) → CSt C p dx la fa D as asi (fun c => (O c ∨ c ∈ asi) ∨ c = D) H1 n (sz t) (n + many a none * sz t) S cs.length (cntd a none (cs ++ [c1], wi)) H6 cs y := fun y tl H6 s6 py et => by
          refine ⟨us, tl, ⟨wi.le, lnk wi.fo c1.2.2 c1.2.1⟩, M + many a none * lks t + many a none * sz t, many a none * sz t, s6 _ _ upd_same, p1.mono fun b o h e => s6 _ _ (fr b o h e), py, (W5.wr nDi).up s6, (KW.put (k4.trans x3 k5) .refl hD).trans0 (KW.same s6), ap6 s6, ⟨h2, ?_, by omega, Nat.le_refl _, w5, f1, f2, by omega, by omega⟩, ?_⟩
          · rw [et]
            split
            · exact h1
            · exact h1.opt true
          · rw [et]
            exact cntd_none a cs c1 wi
        refine ⟨_, rfl, _, _, rfl, rfl, _, rfl, ite2 (fun ha => ?_) (fun ha => ?_)⟩
        · refine ⟨.ref D, rfl, .inl ⟨rfl, _, .inl (.inl eD5)⟩, D, _, _, rfl, rfl, eD5, lastE, ?_⟩
          rw [dr]
          refine ⟨.ref D, rfl, D, _, rfl, .inl (.inl (.inl upd_same)), cs.length, cs, .ref pa, by rw [hlu] <;> rfl, ?_⟩
          have ha2 : a > 0 := by
            have := of_decide_eq_true ha
            omega
          exact fin1 _ c1 _ (Same.refl _) (pc1.mono fr) (by rw [if_pos ha2])
        · refine ⟨.ref D, rfl, .inl ⟨rfl, _, .inl (.inl eD5)⟩, D, _, _, rfl, rfl, eD5, lastE, ?_⟩
          rw [dr]
          have pb5 : PtO (fun c => (O c ∨ c ∈ asi) ∨ c = D) (upd H5 D (.lst us)) (.ref pa) c1 := pc1.mono fr
          have tb : upd H5 D (.lst us) pa = some (.tup [.bl c1.1, .ref pf, .ref pg]) := fr _ _ pb.nt pb.t
          refine ⟨1, rfl, pa, _, rfl, .inl (.inl tb), ?_, fun t1 ht1 => ?_⟩
          · exact fun z => absurd z.1 (show ¬ (HT.sIx 3 0 (some 1) = 0) by decide)
          have s6 := smU (o := HO.tup (cutV [V.bl c1.1, .ref pf, .ref pg] (some 1) none)) ht1
          refine ⟨t1, _, rfl, .inl (.inl (.inl upd_same)), (show 3 ≤ sizeLine by decide), fun t2 ht2 => ?_⟩
          have s7 := smU (o := HO.tup (.bl true :: (cutV [V.bl c1.1, .ref pf, .ref pg] (some 1) none ++ []))) ht2
          refine ⟨.ref D, rfl, D, _, rfl, .inl (.inl (.inl ((s6.trans s7) _ _ upd_same))), cs.length, cs, .ref t2, by rw [hlu] <;> rfl, ?_⟩
          have ha2 : ¬ a > 0 := fun z => ha (decide_eq_true (by omega))
          exact fin1 _ (true, c1.2) _ (s6.trans s7) ⟨t2, pf, pg, rfl, upd_same, (s6.trans s7) _ _ (fr _ _ pb.nf pb.f), (s6.trans s7) _ _ (fr _ _ pb.ng pb.g), (ap6 s6).no ht2, pb.nf, pb.ng⟩ (by rw [if_neg ha2])
    obtain ⟨least, cs, y, rfl, st5⟩ := hM
    have un3 : ∀ {H6 : Hp} {b : Addr}, Apt p la fa asi H6 (fun c => (O c ∨ c ∈ asi) ∨ c = D) → ¬ ((O b ∨ b ∈ asi) ∨ b = D) → ¬ Own p la fa asi b := fun ap6 h z => h (ap6.sub _ z)
    have splt : ∀ cs : List Pt, cs ≠ [] → ∃ us c, cs = us ++ [c] := fun cs h => ⟨cs.dropLast, cs.getLast h, (List.dropLast_concat_getLast h).symm⟩
    have lastE : ∀ (us : List V) (z : V), (us ++ [z])[(us ++ [z]).length - 1]? = some z := fun us z => by
      rw [List.length_append, List.length_singleton, Nat.add_sub_cancel, List.getElem?_append_right (Nat.le_refl _), Nat.sub_self] <;> rfl
    refine ⟨fun σ H6 => ∃ (cs : List Pt) (y : V), cs.length ≤ least ∧ σ = [some (.ref p), some (.int least), some (mst b), some v, some (.int (many a b : Nat)), some (.ref D), some y, none] ∧ CSt C p dx la fa D as asi (fun c => (O c ∨ c ∈ asi) ∨ c = D) H1 n (sz t) (n + many a b * sz t) S least (cntd a b (ps, wi)) H6 cs y, ?_, fun σ H6 hM => ?_⟩
    · refine ⟨fun m σ H6 => ∃ (cs : List Pt) (y : V), m = cs.length ∧ σ = [some (.ref p), some (.int least), some (mst b), some v, some (.int (many a b : Nat)), some (.ref D), some y, none] ∧ CSt C p dx la fa D as asi (fun c => (O c ∨ c ∈ asi) ∨ c = D) H1 n (sz t) (n + many a b * sz t) S least (cntd a b (ps, wi)) H6 cs y, ⟨_, cs, y, rfl, rfl, st5⟩, ?_⟩
      rintro m σ H6 ⟨cs, y, rfl, rfl, st6⟩
      obtain ⟨acc6, tl6, w6, M6, G6, eD6, pps6, py6, W6, k6, ap6, fs6, er6⟩ := id st6
      have hl6 := pps6.len
      refine ⟨.ref D, rfl, D, _, rfl, .inl (.inl (.inl eD6)), _, rfl, _, _, rfl, rfl, _, rfl, ite2 (fun hlt => ?_) (fun hlt => ?_)⟩
      · have hlt2 : least < cs.length := by
          have := of_decide_eq_true hlt
          omega
        obtain ⟨us0, c1, rfl⟩ := splt cs (fun z => by rw [z] at hlt2; exact absurd hlt2 (Nat.not_lt_zero _))
        obtain ⟨us, v1, tl, w', eD7, W7, ap7, pv7, py7, B, b2, b3, nxt⟩ := st6.pop nDi oD hD x3
        rw [List.length_append, List.length_singleton] at hlt2
        refine ⟨fun σ' H' => ∃ y', σ' = [some (.ref p), some (.int least), some (mst b), some v, some (.int (many a b : Nat)), some (.ref D), some y', none] ∧ CSt C p dx la fa D as asi (fun c => (O c ∨ c ∈ asi) ∨ c = D) H1 n (sz t) (n + many a b * sz t) S least (cntd a b (ps, wi)) H' us0 y', fun σ' H' ⟨y', h1, h2⟩ => ⟨us0.length, by rw [List.length_append, List.length_singleton]; omega, us0, y', rfl, h1, h2⟩, ?_⟩
        refine ⟨.ref p, rfl, p, dx, _, rfl, W6.e, nJ, .ref D, rfl, .inl ⟨rfl, _, .inl (.inl eD7)⟩, D, _, _, rfl, rfl, eD7, lastE us v1, ?_⟩
        rw [List.dropLast_concat]
        refine ⟨y, rfl, p, dx, la, fa, v1, y, w', asi, c1, tl, _, rfl, W7, ap7, pv7, py7, B, b2, b3, fun z H7 pz W8 k8 => ?_⟩
        obtain ⟨tz, zf, zg, rfl, zb⟩ := id pz
        refine ⟨.ref tz, rfl, tz, _, 1, _, rfl, rfl, .inl (.inl zb.t), atI_nat (j := 1) rfl, .ref tz, rfl, tz, _, 2, _, rfl, rfl, .inl (.inl zb.t), atI_nat (j := 2) rfl, (show 3 ≤ sizeLine by decide), fun t2 ht2 => ?_⟩
        have s7 := smU (o := HO.tup [.bl true, .ref zf, .ref zg]) ht2
        have st8 := nxt _ H7 W8 k8 pz
        have ap8 : Apt p la fa asi H7 (fun c => (O c ∨ c ∈ asi) ∨ c = D) := ⟨ap7.sub, fun c hc => by
          by_cases ho : Own p la fa asi c
          · obtain ⟨o, e, _⟩ := W8.own ho
            exact ⟨o, e⟩
          · obtain ⟨o, e⟩ := ap7.all c hc
            exact ⟨o, k8 c o ho e⟩⟩
        refine ⟨.ref t2, rfl, st8 _ _ s7 ?_⟩
        rw [if_pos (show us0.length + 1 > least from hlt2)]
        exact ⟨t2, zf, zg, rfl, upd_same, s7 _ _ zb.f, s7 _ _ zb.g, ap8.no ht2, zb.nf, zb.ng⟩
      · exact ⟨cs, y, by
          have : ¬ ((least : Int) < (acc6.length : Int)) := fun z => hlt (decide_eq_true z)
          omega, rfl, st6⟩
    obtain ⟨cs, y, hcl, rfl, st6⟩ := hM
    refine ⟨fun σ H7 => ∃ (y : V), σ = [some (.ref p), some (.int least), some (mst b), some v, some (.int (many a b : Nat)), some (.ref D), some y, none] ∧ CSt C p dx la fa D as asi (fun c => (O c ∨ c ∈ asi) ∨ c = D) H1 n (sz t) (n + many a b * sz t) S least (cntd a b (ps, wi)) H7 [] y, ?_, fun σ H7 hM => ?_⟩
    · refine ⟨fun m σ H6 => ∃ (cs : List Pt) (y : V), m = cs.length ∧ cs.length ≤ least ∧ σ = [some (.ref p), some (.int least), some (mst b), some v, some (.int (many a b : Nat)), some (.ref D), some y, none] ∧ CSt C p dx la fa D as asi (fun c => (O c ∨ c ∈ asi) ∨ c = D) H1 n (sz t) (n + many a b * sz t) S least (cntd a b (ps, wi)) H6 cs y, ⟨_, cs, y, rfl, hcl, rfl, st6⟩, ?_⟩
      rintro m σ H6 ⟨cs, y, rfl, hcl, rfl, st6⟩
      obtain ⟨acc6, tl6, w6, M6, G6, eD6, pps6, py6, W6, k6, ap6, fs6, er6⟩ := id st6
      refine ⟨.ref D, rfl, Nat.zero_le _, fun e1 he1 => ?_⟩
      have s6 := smU (o := HO.lst []) he1
      have st7 : CSt C p dx la fa D as asi (fun c => (O c ∨ c ∈ asi) ∨ c = D) H1 n (sz t) (n + many a b * sz t) S least (cntd a b (ps, wi)) (upd H6 e1 (.lst [])) cs y :=
        ⟨acc6, tl6, w6, M6, G6, s6 _ _ eD6, pps6.mono fun c o _ e => s6 c o e, py6.same s6, W6.up s6, k6.trans0 (KW.same s6), ⟨ap6.sub, fun c hc => by
          obtain ⟨o, e⟩ := ap6.all c hc
          exact ⟨o, s6 _ _ e⟩⟩, fs6, er6⟩
      refine ⟨.list (cs.map ptD), .list [], .lst (.inl (.inl (s6 _ _ eD6))) (pps6.mono fun c o _ e => s6 c o e).dp, .lst (.inl (.inl upd_same)) .nil, cpsD_shaped cs, by decide, _, rfl, ?_⟩
      rw [cps_eqv]
      cases hcs : cs with
      | nil =>
        subst hcs
        exact iteF ⟨y, rfl, st7⟩
      | cons c0 r0 =>
        have hne : cs ≠ [] := fun z => by rw [z] at hcs; cases hcs
        rw [← hcs]
        clear hcs
        obtain ⟨us0, c1, rfl⟩ := splt cs hne
        obtain ⟨us, v1, tl, w', eD7, W7, ap7, pv7, py7, B, b2, b3, nxt⟩ := st7.pop nDi oD hD x3
        rw [List.length_append, List.length_singleton] at hcl
        rw [show (us0 ++ [c1]).isEmpty = false by cases us0 <;> rfl]
        refine iteT ⟨fun σ' H' => ∃ y', σ' = [some (.ref p), some (.int least), some (mst b), some v, some (.int (many a b : Nat)), some (.ref D), some y', none] ∧ CSt C p dx la fa D as asi (fun c => (O c ∨ c ∈ asi) ∨ c = D) H1 n (sz t) (n + many a b * sz t) S least (cntd a b (ps, wi)) H' us0 y', fun σ' H' ⟨y', h1, h2⟩ => ⟨us0.length, by rw [List.length_append, List.length_singleton]; omega, us0, y', rfl, by omega, h1, h2⟩, ?_⟩
        refine ⟨.ref p, rfl, p, dx, _, rfl, s6 _ _ W6.e, nJ, .ref D, rfl, .inl ⟨rfl, _, .inl (.inl eD7)⟩, D, _, _, rfl, rfl, eD7, lastE us v1, ?_⟩
        rw [List.dropLast_concat]
        refine ⟨y, rfl, p, dx, la, fa, v1, y, w', asi, c1, tl, _, rfl, W7, ap7, pv7, py7, B, b2, b3, fun z H7 pz W8 k8 => ?_⟩
        refine ⟨z, rfl, nxt z H7 W8 k8 pz _ _ (Same.refl _) ?_⟩
        rw [if_neg (show ¬ us0.length + 1 > least by omega)]
        exact pz
    obtain ⟨y, rfl, acc7, tl7, w7, M7, G7, eD7, pps7, py7, W7, k7, ap7, fs7, er7⟩ := hM
    have er7 : cntd a b (ps, wi) = (tl7, ⟨w7.le, w7.fo⟩) := er7
    refine ⟨y, rfl, q y H7 asi ?_ ?_ x3 k7⟩
    · rw [er7]
      exact py7.sub fun c o h _ z => h (.inl z)
    · rw [er7]
      exact W7
end
end Sf4
/-! set(list of ints), and how many its members are. -/
namespace Sf
open PySem PySem.Spec PyProof.Rows L2 PySem.Froz
theorem nodup_few : ∀ (m : Nat) (l : List Int), l.Nodup → (∀ k ∈ l, 0 ≤ k ∧ k < (m : Int)) → l.length ≤ m
  | 0, [], _, _ => Nat.le_refl 0
  | 0, x :: l, _, h => by
    have := h x List.mem_cons_self
    omega
  | m + 1, l, nd, h => by
    by_cases z : (m : Int) ∈ l
    · have q := nodup_few m (l.erase (m : Int)) (nd.erase _) fun k hk => by
        obtain ⟨h1, h2⟩ := (nd.mem_erase_iff).mp hk
        have := h k h2
        omega
      have e := List.length_erase_of_mem z
      omega
    · have q := nodup_few m l nd fun k hk => by
        have := h k hk
        have : k ≠ (m : Int) := fun e => z (e ▸ hk)
        omega
      omega
theorem setR_few {w : World} {h : Heap} {a : Addr} {ns : List Int} {c m : Nat} (R : SetR w h a (fun j => decide (j ∈ ns)) c) (hm : ∀ k ∈ ns, 0 ≤ k ∧ k < (m : Int)) : c ≤ m := by
  obtain ⟨o, es, ep, t, ho, hex, hd, g, nd, hk, hb, hf, hn, _⟩ := R
  have q := nodup_few m (es.toList.map keyOf) nd fun k hkm => hm k (of_decide_eq_true ((hk k).mpr hkm))
  rw [List.length_map, Array.length_toList, hn] at q
  exact q
section
variable {P : Program} {w : World} {A : Around} {E : Value → Shared → Prop} {s : Shared}
set_option maxHeartbeats 4000000 in
theorem call_setIL {l : Addr} {items : Array Value} (ns : List Int) {Q : Value → Shared → Prop} (hh : A.handled = none) (hli : s.heap.IsList l items) (hit : IntsAre items.toList ns) (hx : ns.length + 1 < scanBound)
    (h : ∀ (h' : Heap) (tk c : Nat), (∀ b o, s.heap.get? b = some o → h'.get? b = some o) → SetR w h' s.heap.objs.size (fun j => decide (j ∈ ns)) c → c ≤ ns.length → Q (.ref s.heap.objs.size) { s with heap := h', toks := tk }) :
    wpAny (model P w) A (call (.type "set") [.ref l]) Q E s := by
  obtain ⟨c, tl, hmro⟩ := PySem.F.called_set.mro
  have q1 := PySem.F.called_set.made
  have q2 := PySem.F.called_set.sub
  have q3 := PySem.F.called_set.notType
  have q4 := PySem.F.called_set.canCreate
  have q5 := PySem.F.typeCall_set_1 (.ref l)
  refine wpAny_call (codeAny_of_tree (wpAny_pure ⟨Code.quiet_builtin _ (by decide +kernel), codeAny_builtin PySem.F.entry_type_call ?_⟩))
  rw [Around.under_plain (weight_type_call_type "set" [.ref l] []) rfl]
  repeat (any_goals (first | assumption | wp_step))
  generalize hO : ({ cls := .type "set", dict := none, data := .set #[] 0 (.fresh 0 0 (!w.params.followText "set-order")) } : Obj) = O
  have hS : (s.heap.push O).get? s.heap.objs.size = some O := Heap.get?_push_size _ (by rw [← hO]; rfl)
  have hT : Shared.TypeIs { s with heap := s.heap.push O } (.ref s.heap.objs.size) "set" := ⟨_, hS, by rw [← hO]⟩
  refine codeAny_mono (code_set_led1 (.ref l) (E := E) (Q₁ := fun obj s₁ => obj = .ref s.heap.objs.size ∧ s₁ = { s with heap := s.heap.push O }) ⟨rfl, by rw [hO]⟩) fun r s₁ hr => ?_
  cases r with
  | error e => exact hr
  | ok fl =>
    cases fl with
    | ret obj =>
      obtain ⟨rfl, rfl⟩ := hr
      have q6 := PySem.F.called_set.init.lookup
      have q7 := PySem.F.called_set.init.bind (.ref s.heap.objs.size)
      repeat (any_goals (first | assumption | wp_step))
      refine codeAny_mono (codeAny_call_builtin (R := wants (fun r s₂ => r = .none ∧ ∃ h' tk c, s₂ = { s with heap := h', toks := tk } ∧ (∀ b o, s.heap.get? b = some o → h'.get? b = some o) ∧ SetR w h' s.heap.objs.size (fun j => decide (j ∈ ns)) c ∧ c ≤ ns.length) E)
        PySem.F.called_set.init.plain PySem.F.entry_set_init (check_set_init_1 hT ?_)) fun r₂ s₂ hr₂ => ?_
      · have hneI : ∀ {b : Addr} {o : Obj}, s.heap.get? b = some o → b ≠ (s.heap.push O).objs.size := fun e => by
          rw [Heap.size_push]
          exact Nat.ne_of_lt (Nat.lt_succ_of_lt (Heap.lt_size e))
        have hh3 : A.in1.in1.in1.handled = none := by simp [hh]
        have hsz : items.size = ns.length := by
          have q := IntsAre.length hit
          rw [Array.length_toList] at q
          exact q
        have hv : ∀ (i : Nat) (v : Value), items[i]? = some v → ∃ k t, ns[i]? = some k ∧ v = .int k t := fun i v e => by
          have hi : i < ns.length := hsz ▸ (Array.getElem?_eq_some_iff.mp e).1
          obtain ⟨t, e2⟩ := PyProof.Rows.IntsAre.int_at hit i v (by rw [Array.getElem?_toList]; exact e)
          exact ⟨ns[i], t, List.getElem?_eq_getElem hi, by rw [e2, List.getD_eq_getElem?_getD, List.getElem?_eq_getElem hi] <;> rfl⟩
        obtain ⟨ol, hol, hcl, nl, hdl⟩ := id hli
        obtain ⟨ocls, odict, odata, oslots⟩ := ol
        simp only at hcl hdl
        subst hcl; subst hdl
        have hol' : (s.heap.push O).get? l = some { cls := .type "list", dict := odict, data := .seq items nl, slots := oslots } := Heap.get?_push_of_some _ hol
        have q8 := PySem.F.sub_list_set
        have q9 := PySem.F.sub_list_frozenset
        have q10 : (Value.type "list" == Value.type "dict") = false := by decide
        have hl1 : (s.heap.push O).IsList l items := ⟨_, hol', rfl, nl, rfl⟩
        have nf : s.heap.objs.size ∉ [(s.heap.push O).objs.size, l] := by
          rw [Heap.size_push, List.mem_cons, List.mem_singleton, not_or]
          exact ⟨Nat.ne_of_lt (Nat.lt_succ_self _), Nat.ne_of_gt (Heap.lt_size hol)⟩
        have W := (Walks.list (prog := P) (w := w) hh3 (s.heap.push O).objs.size l (hneI hol) items).toS
        subst hO
        unfold Builtin.«set.__init__» noKeywords Builtin.Frozenset.updateFrom
        generalize hPI : pyIter = PI
        wp_walk
        subst hPI
        refine wpAny_pyIter_list hl1 ?_
        refine wpAny_bind (wpAny_runValue ?_)
        refine set_update_ints W s.heap.objs.size nf ns hsz hx hv items.size 0 _ (Nat.sub_zero _) (Nat.zero_le _) ⟨⟨_, Heap.get?_push_size _ rfl, rfl, rfl⟩, hl1.push _⟩ ⟨0, Nat.le_refl 0, setR_new_at (Heap.get?_push_of_some _ hS)⟩ fun s3 c3 hm hc hS3 => ?_
        obtain ⟨h', g2, d', tk', os'⟩ := s3
        have eg : g2 = s.gens := hm.gens
        have ed : d' = s.drawn := hm.drawn
        have eo : os' = s.os := hm.os
        subst eg; subst ed; subst eo
        rw [hsz] at hc
        refine wpAny_pure (wpAny_pure ⟨rfl, h', tk', c3, rfl, fun b o e => ?_, hS3, hc⟩)
        refine hm.heap b o (fun z => ?_) (Heap.get?_push_of_some _ (Heap.get?_push_of_some _ e))
        rcases List.mem_cons.mp z with z | z
        · exact Nat.ne_of_lt (Heap.lt_size e) z
        · exact hneI e (List.mem_singleton.mp z)
      · cases r₂ with
        | error e => exact hr₂
        | ok fl₂ =>
          cases fl₂ with
          | ret r =>
            obtain ⟨rfl, h', tk, c2, rfl, k, T, hc⟩ := hr₂
            repeat (any_goals (first | assumption | wp_step))
            exact h _ _ _ k T hc
          | _ => exact hr₂.elim
    | _ => exact hr.elim
end
section
variable {X : Cx}
/-- set(ints below m) -/
def rSetIL (K : PySem.W.Frag) (w : World) : List V → Hp → VK → Prop := fun vs H Q => ∃ (a : Addr) (ns : List Int) (m : Nat), vs = [.ref a] ∧ SqL K H a (ns.map V.int) ∧ ns.length + 1 < scanBound ∧ (∀ k ∈ ns, 0 ≤ k ∧ k < (m : Int)) ∧
  ∀ p n, H p = none → n ≤ m → Q (.ref p) (upd H p (SetO w p (fun j => decide (j ∈ ns)) n))
theorem cr_setIL (hc : X.calm = true) : CallR X (.type "set") (rSetIL X.K X.w) := by
  intro pins s σ H vs us Q I r h
  obtain ⟨a, ns, m, rfl, hs, hx, hm, q⟩ := h
  rw [Vals.ref1 r]
  obtain ⟨its, rv, pl, _⟩ := I.list hs
  refine call_setIL ns (I.ok.hd hc) pl.isList rv.ints hx fun h' tk c k T hcn => ?_
  exact ⟨.ref _, upd H s.heap.objs.size (SetO X.w s.heap.objs.size (fun j => decide (j ∈ ns)) c), I.laid (t' := tk) k (Nat.le_refl _) (setO_new T), rfl, q _ _ (I.hok.fresh (Nat.le_refl _)) (setR_few T hm)⟩
end
end Sf
namespace Sf4
open PySem PySem.Spec PyProof.Rows L2 Sf
/-- the members below n, ascending -/
def ascL (n : Nat) (l : List Nat) : List Nat := (List.range n).filter fun i => decide (i ∈ l)
def zI (l : List Nat) : List Int := l.map fun (i : Nat) => (i : Int)
theorem nIs_z (l : List Nat) : nIs l = (zI l).map V.int := by
  unfold nIs zI
  rw [List.map_map] <;> rfl
theorem zI_mem {l : List Nat} {k : Int} : k ∈ zI l ↔ ∃ i, i ∈ l ∧ k = (i : Int) := by
  unfold zI
  rw [List.mem_map]
  exact ⟨fun ⟨a, b, c⟩ => ⟨a, b, c.symm⟩, fun ⟨a, b, c⟩ => ⟨a, b, c.symm⟩⟩
theorem asc_pw (n : Nat) (l : List Nat) : (zI (ascL n l)).Pairwise (· < ·) := by
  unfold zI ascL
  rw [List.pairwise_map]
  exact (List.Pairwise.filter _ List.pairwise_lt_range).imp fun h => by omega
theorem asc_uniq {ms : List Int} {n : Nat} {l : List Nat} (h1 : ms.Pairwise (· < ·)) (h2 : ∀ k : Int, k ∈ ms ↔ decide (k ∈ zI l) = true) (h3 : ∀ i ∈ l, i < n) : ms = zI (ascL n l) := by
  have h4 := asc_pw n l
  have nd1 : ms.Nodup := h1.imp fun h => by omega
  have nd2 : (zI (ascL n l)).Nodup := h4.imp fun h => by omega
  refine List.Perm.eq_of_pairwise (le := (· < ·)) (fun a b _ _ x y => by omega) h1 h4 ((List.perm_ext_iff_of_nodup nd1 nd2).mpr fun k => ?_)
  rw [h2, decide_eq_true_iff, zI_mem, zI_mem]
  refine ⟨fun ⟨i, h, e⟩ => ⟨i, List.mem_filter.mpr ⟨List.mem_range.mpr (h3 i h), decide_eq_true h⟩, e⟩, fun ⟨i, h, e⟩ => ⟨i, of_decide_eq_true (List.mem_filter.mp h).2, e⟩⟩
theorem spPO_mono {C : Addr} {e d : Nat} (h : e ≤ d) {vs : List V} {H : Hp} {Q : VK} {E : XK} (q : spPO C e vs H Q E) : spPO C d vs H Q E := by
  obtain ⟨p, dx, la, fa, v, t, w, as, O, S, n, M, r, hd, q⟩ := q
  exact ⟨p, dx, la, fa, v, t, w, as, O, S, n, M, r, Nat.le_trans hd h, q⟩
theorem spCnt_mono {C : Addr} {e d : Nat} (h : e ≤ d) {vs : List V} {H : Hp} {Q : VK} {E : XK} (q : spCnt C e vs H Q E) : spCnt C d vs H Q E := by
  obtain ⟨p, dx, la, fa, a, b, v, t, w, as, O, S, n, M, r, hd, q⟩ := q
  exact ⟨p, dx, la, fa, a, b, v, t, w, as, O, S, n, M, r, Nat.le_trans hd h, q⟩
/-- a tuple of tuples of ints -/
def BehT (H : Hp) (b : Addr) (ls : List (List Nat)) : Prop := ∃ bs : List Addr, H b = some (.tup (bs.map V.ref)) ∧ bs.length = ls.length ∧ ∀ (j : Nat) (x : Addr) (r : List Nat), bs[j]? = some x → ls[j]? = some r → H x = some (.tup (nIs r))
theorem BehT.mono {H H' : Hp} {b : Addr} {ls : List (List Nat)} (h : BehT H b ls) (k : KT H H') : BehT H' b ls := by
  obtain ⟨bs, h1, h2, h3⟩ := h
  exact ⟨bs, k _ _ h1, h2, fun j x r a b => k _ _ (h3 j x r a b)⟩
def w0 : Wp := ⟨[], []⟩
theorem w0_ok : WOk w0 0 0 := ⟨rfl, rfl, fun _ h => nomatch h⟩
/-- the four rows that are written -/
structure WrOut (H : Hp) (a : Addr) (t : Tr) : Prop where
  ex : ∃ l f g b, H a = some (.tup [.ref l, .ref f, .ref g, .ref b]) ∧ H l = some (.tup (nmV (spts t))) ∧ H f = some (.tup (nIs (ascL (sz t) (pO t w0).1.2.1))) ∧ H g = some (.tup (nIs (ascL (sz t) (pO t w0).1.2.2))) ∧ BehT H b ((pO t w0).2.fo.map (ascL (sz t)))
/-- the bounds of a tree that is written out -/
structure Sml (t : Tr) : Prop where
  d : dep t ≤ 40
  w : wid t ≤ 1000
  s : sz t ≤ 24
  l : lks t ≤ 4000
def spWrt : Sp := fun vs H Q _ => ∃ (v : V) (t : Tr), vs = [v] ∧ TrO H v t ∧ Sml t ∧ ∀ a H', WrOut H' a t → Same H H' → Q (.ref a) H'
def NWrt : List Str := ["tree", "here", "can_be_empty", "first", "last", "behind", "later"]
theorem scWrt : FnScope NWrt ["tree"] (defScope sWrt) := ⟨rfl, rfl, rfl, by decide +kernel, rfl, by decide +kernel, by decide +kernel⟩
section
variable {P : Program} {w : World} {K : PySem.W.Frag} {mg : Str → Option Value} {base : Heap} {C : Addr} {f : Nat → Addr} {fd : Nat → FuncData} {tk : Nat → Tok}
theorem ok_po (T : WT K mg C f fd tk) : ∀ d, FnOk P w K mg base CX0 (3 + 2 * d) (f 3) (fd 3) ["self", "tree"] (spPO C d)
  | 0 => ok_partOf T (k := 2) (d := 0) (spA := spNo) (spB := spNo) (by decide) ok_no ok_no (fun e _ _ _ _ h => absurd h (by omega)) (fun e _ _ _ _ h => absurd h (by omega))
  | d + 1 => by
    have GA := ok_po T d
    have GB := ok_counted T (k := 3 + 2 * d) (by omega) GA
    have G := ok_partOf T (k := 4 + 2 * d) (d := d + 1) (spA := spPO C d) (spB := spCnt C d) (by omega) (GA.mono (by omega)) (GB.mono (by omega)) (fun e _ _ _ _ h q => spPO_mono (by omega) q) (fun e _ _ _ _ h q => spCnt_mono (by omega) q)
    exact G.mono (by omega)
theorem ok_written (T : WT K mg C f fd tk) {g : Addr} {gd : FuncData} (F : Fun K "written" "written" sWrt g gd) : FnOk P w K mg base CX0 84 g gd ["tree"] spWrt := by
  refine F.ok scWrt (fun vs H Q E h => ?_) (fun cdv A outer s H vs Q E hr h => ?_)
  · obtain ⟨v, t, rfl, _⟩ := h
    rfl
  · obtain ⟨v, t, rfl, ht, hs, q⟩ := h
    have GI := ok_wi (P := P) (w := w) (base := base) T
    have GP := ok_po (P := P) (w := w) (base := base) T 40
    refine ⟨_, pss_cons (ps_set (i := 1) scWrt.nd rfl (.inl rfl) (pe_make0 T.mkC GI (hr.mono (by decide)) rfl T.gC T.mI.b .nil pass0))
      (pss_cons (ps_asg (pe_meth (pv 1) T.cl T.mPart.m GP hr T.mPart.b .nil pass0 (pa_cons (pv 0) pa_nil)) (pg_tup rfl (pgs_cons (pg_name (i := 2) scWrt.nd rfl (.inl rfl)) (pgs_cons (pg_name (i := 3) scWrt.nd rfl (.inl rfl)) (pgs_cons (pg_name (i := 4) scWrt.nd rfl (.inl rfl)) pgs_nil)))))
      (pss_cons (ps_set (i := 5) scWrt.nd rfl (.inl rfl) (pe_tupleOf (by rfl) T.ztup (pe_lc (own := [("later", 6)]) (g := gName 6) (tt := tYes) (te := tThen (tCB (rSortedSet w) (tCons (tCB (rSetIL K w) (tCons (tVar 6) tNil)) tNil)) (kTup K)) rfl scWrt.nd (pi_list (pe_fld (pv 1) rfl)) (blkOk_by (N := NWrt) (sc := defScope sWrt) (by decide +kernel))
          (fun _ _ _ _ _ => pg_name (i := 6) scWrt.nd rfl (Or.inl rfl)) (fun _ _ _ _ _ => pts_nil)
          (fun _ _ _ _ _ => pe_tupleOf (by rfl) T.ztup (pe_callB (cr_sortedSet rfl) (by rfl) T.zsorted (by decide +kernel) (pa_cons (pe_callTy (cr_setIL rfl) (by rfl) T.zset PySem.Pv.boot_set (pa_cons (pv 6) pa_nil)) pa_nil))))))
      (pss_one (ps_ret (pe_tup (pa_cons (pe_tupleOf (by rfl) T.ztup (pe_fld (pv 1) rfl))
        (pa_cons (pe_tupleOf (by rfl) T.ztup (pe_callB (cr_sortedSet rfl) (by rfl) T.zsorted (by decide +kernel) (pa_cons (pe_callTy (cr_setIL rfl) (by rfl) T.zset PySem.Pv.boot_set (pa_cons (pv 3) pa_nil)) pa_nil)))
        (pa_cons (pe_tupleOf (by rfl) T.ztup (pe_callB (cr_sortedSet rfl) (by rfl) T.zsorted (by decide +kernel) (pa_cons (pe_callTy (cr_setIL rfl) (by rfl) T.zset PySem.Pv.boot_set (pa_cons (pv 4) pa_nil)) pa_nil)))
        (pa_cons (pv 5) pa_nil))))))))), ?_⟩
    have nP : ∀ {la fa : Addr}, (wf_ la fa).lookup ("part_of" : Str) = none := wf_no (by decide +kernel) (by decide +kernel)
    intro x dx nx ndx nex
    refine ⟨x, dx, rfl, upd_same, fun la fa H1 W1 nla nfa k1 => ⟨rfl, ?_⟩⟩
    have s1 : Same H H1 := fun b o e => k1 b o (ne_of_none e nx) (by
      rw [upd_ne (ne_of_none e nx), upd_ne (ne_of_none e ndx)]
      exact e)
    have free : ∀ {b : Addr}, upd (upd H dx (.own x)) x (.ins C dx []) b = none → H b = none := fun {b} h => by
      by_cases z : b = x
      · exact z ▸ nx
      · rw [upd_ne z] at h
        by_cases z2 : b = dx
        · exact z2 ▸ ndx
        · rw [upd_ne z2] at h
          exact h
    have s1' : ∀ b o, H b = some o → ¬ Own x la fa [] b := fun b o e z => by
      rcases z with z | z | z | z
      · rw [z, nx] at e
        cases e
      · rw [z, free nla] at e
        cases e
      · rw [z, free nfa] at e
        cases e
      · cases z
    have b1 := hs.s
    have b2 := hs.l
    refine ⟨.ref x, rfl, x, dx, _, rfl, W1.e, nP, v, rfl, ?_⟩
    refine ⟨x, dx, la, fa, v, t, w0, [], Own x la fa [], 24, 0, 0, rfl, hs.d, hs.w, ht.mono (KT.same s1), W1, ⟨fun _ h => h, fun b h => ?_⟩, ⟨w0_ok, by omega, by decide, by omega⟩, fun y H2 as2 py W2 x2 k2 => ?_⟩
    · obtain ⟨o, e, _⟩ := W1.own h
      exact ⟨o, e⟩
    obtain ⟨pa, pf, pg, rfl, pb⟩ := py
    obtain ⟨g1, g2⟩ := pO_ok (S := 24) t w0 0 0 w0_ok (by omega)
    rw [Nat.zero_add] at g1 g2
    have hfo := g1.fo
    have s2 : Same H H2 := fun b o e => k2 b o (s1' b o e) (s1 b o e)
    refine ⟨pa, _, rfl, .inl (.inl pb.t), rfl, _, _, rfl, _, _, rfl, _, _, rfl, rfl, ?_⟩
    have ms : ∀ {H3 : Hp} {b : Addr} {l : List Nat} {R : V → Hp → Prop}, H3 b = some (.lst (nIs l)) → (∀ i ∈ l, i < sz t) → l.length ≤ 4000 → (∀ T H', Same H3 H' → H3 T = none → H' T = some (.tup (nIs (ascL (sz t) l))) → R (.ref T) H') →
        rSetIL K w [.ref b] H3 fun v1 H4 => rSortedSet w [v1] H4 fun v2 H5 => kTup K v2 H5 R := fun {H3 b l R} e hl hn hR => by
      refine ⟨b, zI l, sz t, rfl, .inl (.inl (by rw [← nIs_z]; exact e)), ?_, fun k hk => ?_, fun S c hS hc => ?_⟩
      · unfold zI
        rw [List.length_map]
        exact Nat.lt_of_le_of_lt (show l.length + 1 ≤ 4001 by omega) (by decide)
      · obtain ⟨i, h1, rfl⟩ := zI_mem.mp hk
        have := hl i h1
        omega
      refine ⟨S, _, c, rfl, upd_same, by omega, fun ns L pw mem len hL => ?_⟩
      obtain rfl := asc_uniq pw mem hl
      refine .inl ⟨L, _, rfl, .inl (.inl upd_same), fun T hT => ?_⟩
      have s3 := smU (o := SetO w S (fun j => decide (j ∈ zI l)) c) hS
      have s4 := smU (o := HO.lst ((zI (ascL (sz t) l)).map V.int)) hL
      have s5 := smU (o := HO.tup ((zI (ascL (sz t) l)).map V.int)) hT
      exact hR T _ (s3.trans (s4.trans s5)) ((s3.trans s4).free hT) (by rw [upd_same, nIs_z])
    refine ⟨.ref x, rfl, x, C, dx, _, _, rfl, W2.e, T.cl, T.nFo, wf_fo, fa, rfl, ⟨_, .inl (.inl W2.f)⟩, fun D hD => ?_⟩
    refine lc_it (walk_list (K := K) (a := fa) (xs := as2.map V.ref)) (fun i H3 => ∃ bs : List Addr, H3 D = some (.lst (bs.map V.ref)) ∧ bs.length = i ∧ Same H2 H3 ∧ ∀ (j : Nat) (b : Addr) (r : List Nat), bs[j]? = some b → (pO t w0).2.fo[j]? = some r → H3 b = some (.tup (nIs (ascL (sz t) r))))
      ⟨[], upd_same, rfl, smU hD, fun j b r h => by cases h⟩ (fun i H3 _ ⟨_, _, _, s3, _⟩ => .inl (.inl (s3 _ _ W2.f))) (fun i xi H3 H3' hi hP hy => ?_) (fun H3 hP => ?_)
    · obtain ⟨bs, eD, hbl, s3, hb⟩ := hP
      obtain ⟨rfl, hxi⟩ := hy
      rw [List.getElem?_map] at hxi
      obtain ⟨ai, hai, rfl⟩ : ∃ ai, as2[i]? = some ai ∧ xi = .ref ai := by
        cases e : as2[i]? with
        | none =>
          rw [e] at hxi
          cases hxi
        | some ai =>
          rw [e] at hxi
          exact ⟨ai, rfl, (Option.some.inj hxi).symm⟩
      have hil : i < (pO t w0).2.fo.length := by
        rw [← W2.n]
        exact (List.getElem?_eq_some_iff.mp hai).1
      obtain ⟨c1, _, _⟩ := W2.at_ i ai _ hai (List.getElem?_eq_getElem hil)
      obtain ⟨d1, d2⟩ := g1.bd _ (List.getElem_mem hil)
      refine ⟨rfl, .ref ai, rfl, ?_⟩
      have mm := ms (R := fun y H' => ∃ acc, H' D = some (.lst acc) ∧ acc.length < sizeLine ∧ ∃ bs : List Addr, upd H' D (.lst (acc ++ [y])) D = some (.lst (bs.map V.ref)) ∧ bs.length = i + 1 ∧ Same H2 (upd H' D (.lst (acc ++ [y]))) ∧ ∀ (j : Nat) (b : Addr) (r : List Nat), bs[j]? = some b → (pO t w0).2.fo[j]? = some r → upd H' D (.lst (acc ++ [y])) b = some (.tup (nIs (ascL (sz t) r)))) (s3 _ _ c1) d2 (by omega) fun T H' sm hT e => ?_
      · exact mm
      · have nTD : ∀ {c : Addr} {xs : List V}, H' c = some (.tup xs) → c ≠ D := fun h => ne_of h (sm _ _ eD) (by intro z; cases z)
        refine ⟨bs.map V.ref, sm _ _ eD, ?_, bs ++ [T], by rw [upd_same, List.map_append] <;> rfl, by rw [List.length_append, hbl] <;> rfl, fun c o h => ?_, fun j b r h1 h2 => ?_⟩
        · rw [List.length_map, hbl]
          exact Nat.lt_of_le_of_lt (show i ≤ 24 by omega) (by decide)
        · rw [upd_ne (ne_of_none h hD)]
          exact sm _ _ (s3 _ _ h)
        · by_cases hj : j < bs.length
          · rw [List.getElem?_append_left hj] at h1
            have := sm _ _ (hb j b r h1 h2)
            rw [upd_ne (nTD this)]
            exact this
          · have hl := (List.getElem?_eq_some_iff.mp h1).1
            rw [List.length_append, List.length_singleton] at hl
            obtain rfl : j = i := by omega
            rw [List.getElem?_append_right (by omega), hbl, Nat.sub_self] at h1
            cases h1
            rw [List.getElem?_eq_getElem hil] at h2
            cases h2
            rw [upd_ne (nTD e)]
            exact e
    obtain ⟨bs, eD, hbl, s3, hb⟩ := hP
    have hal := W2.n
    rw [List.length_map] at hbl
    refine .inl ⟨D, _, rfl, .inl (.inl eD), fun B hB => ?_⟩
    have sB := smU (o := HO.tup (bs.map V.ref)) hB
    have W4 := (W2.up s3).up sB
    have s4 := s3.trans sB
    refine ⟨.ref x, rfl, x, C, dx, _, _, rfl, W4.e, T.cl, T.nLe, wf_le, .inl ⟨la, _, rfl, .inl (.inl W4.l), fun L hL => ?_⟩⟩
    have sL := smU (o := HO.tup (nmV (pO t w0).2.le)) hL
    have lf := g2.f.len
    have ll := g2.l.len
    refine ⟨.ref pf, rfl, ms (R := fun y H' => _) ((s4.trans sL) _ _ pb.f) (fun i hi => (g2.f.lt i hi).2) (by omega) fun F1 H5 s5 nF eF => ?_⟩
    refine ⟨.ref pg, rfl, ms (R := fun y H' => _) ((s4.trans (sL.trans s5)) _ _ pb.g) (fun i hi => (g2.l.lt i hi).2) (by omega) fun G1 H6 s6 nG eG => ?_⟩
    refine ⟨.ref B, rfl, (show 4 ≤ sizeLine by decide), fun a ha => ?_⟩
    have sa := smU (o := HO.tup [.ref L, .ref F1, .ref G1, .ref B]) ha
    have sT := sL.trans (s5.trans (s6.trans sa))
    refine q a _ ⟨L, F1, G1, B, upd_same, ?_, (s6.trans sa) _ _ eF, sa _ _ eG, bs, sT _ _ upd_same, ?_, fun j b r h1 h2 => ?_⟩ (s2.trans (s4.trans sT))
    · have e := (s5.trans (s6.trans sa)) _ _ (upd_same (H := _) (a := L) (o := HO.tup (nmV (pO t w0).2.le)))
      rw [pO_le] at e
      exact e
    · rw [hbl, List.length_map, hal]
    · rw [List.getElem?_map] at h2
      cases e : (pO t w0).2.fo[j]? with
      | none =>
        rw [e] at h2
        cases h2
      | some r0 =>
        rw [e] at h2
        cases h2
        exact (sB.trans sT) _ _ (hb j b r0 h1 e)
end
end Sf4
namespace Sf4
open PySem PySem.Spec PyProof.Rows L2 Sf
/-! ### a target that is an attribute -/
def gFld (K : PySem.W.Frag) (to : TE) (f : Str) : TG := fun v σ H Q => to σ H fun x H1 => ∃ a C dx fs, x = .ref a ∧ H1 a = some (.ins C dx fs) ∧ Cls K C ∧ NoAttr K C f ∧ fs.length < 1000 ∧ Q σ (upd H1 a (.ins C dx (putF f v fs)))
theorem pg_fld {X : Cx} {o : Expr} {f : Str} {pos : Pos} {to : TE} (ho : PE X o to)
    (ha : ∀ v, assign (.Attribute o f pos) X.env v = (do
      let ov ← holding [v] (eval o X.env)
      standAt pos.atName
      holding [v, ov] (setAttr ov f v)
      release [v, ov] []) := by intro _; rfl) : PG X (.Attribute o f pos) (gFld X.K to f) := by
  refine ⟨fun pins s σ H v u Q I r h => ?_⟩
  rw [ha]
  refine wpAny_bind (wpAny_holding (thn (ho.run pins s σ H _ I h) fun ov s1 ⟨x, H1, I1, r1, a, C, dx, fs, ex, ea, c, n, l, q⟩ => ?_))
  subst ex
  obtain rfl : ov = Value.ref a := r1
  refine wpAny_bind (wpAny_standAt (wpAny_bind (wpAny_holding (setattr_ok I1 ea c n l r fun s2 I2 => ?_))))
  exact wpAny_release ⟨σ, _, I2, q⟩
/-! ### how many places -/
def NSz : List Str := ["tree", "part", "least", "most"]
theorem scSize : FnScope NSz ["tree"] (defScope sSize) := ⟨rfl, rfl, rfl, by decide +kernel, rfl, by decide +kernel, by decide +kernel⟩
def spSize (d : Nat) : Sp := fun vs H Q _ => ∃ (v : V) (t : Tr), vs = [v] ∧ dep t ≤ d ∧ wid t ≤ 1000 ∧ TrO H v t ∧ ∀ H', Same H H' → Q (.int (sz t)) H'
structure ST (K : PySem.W.Frag) (mg : Str → Option Value) (tk : Nat → Tok) (g : Addr) (gd : FuncData) : Prop where
  F : Fun K "size_of" "size_of" sSize g gd
  b : Binds K gd ["tree"] []
  gg : mg "size_of" = some (.ref g)
  gPl : mg "PLACE" = some (.str plW (tk 9))
  gCh : mg "CHAIN" = some (.str chW (tk 10))
  gAl : mg "CHOICE" = some (.str alW (tk 11))
  gCo : mg "COUNT" = some (.str coW (tk 12))
  gCa : mg "CAPTURE" = some (.str caW (tk 13))
  zsum : mg "sum" = none
  zmax : mg "max" = none
section
variable {P : Program} {w : World} {K : PySem.W.Frag} {mg : Str → Option Value} {base : Heap} {tk : Nat → Tok} {g : Addr} {gd : FuncData}
theorem szL_sum : ∀ l : List Tr, ((l.map fun t => ((sz t : Nat) : Int)).sum) = ((szL l : Nat) : Int)
  | [] => rfl
  | t :: r => by
    rw [List.map_cons, List.sum_cons, szL_sum r]
    show _ = ((sz t + szL r : Nat) : Int)
    omega
theorem ok_size1 (T : ST K mg tk g gd) {k d : Nat} {spA : Sp} (G : FnOk P w K mg base CX0 k g gd ["tree"] spA) (hA : ∀ e vs H Q E, e + 1 ≤ d → spSize e vs H Q E → spA vs H Q E) : FnOk P w K mg base CX0 (k + 1) g gd ["tree"] (spSize d) := by
  refine T.F.ok scSize (fun vs H Q E h => ?_) (fun cdv A outer s H vs Q E hr h => ?_)
  · obtain ⟨v, t, rfl, _⟩ := h
    rfl
  · obtain ⟨v, t, rfl, hd, hw, ht, q⟩ := h
    refine ⟨_, pss_cons (ps_if (pt_cmpR op_eq (pe_ix ix_tup (pv 0) pe_int (fun _ _ => rfl)) (pe_glob (v := .str plW) rfl T.gPl ⟨_, rfl⟩) (nomark _)) (pss_one (ps_ret pe_int)) pss_nil)
      (pss_cons (ps_if (pt_cmpR op_in_seq (pe_ix ix_tup (pv 0) pe_int (fun _ _ => rfl)) (pe_tup (pa_cons (pe_glob (v := .str chW) rfl T.gCh ⟨_, rfl⟩) (pa_cons (pe_glob (v := .str alW) rfl T.gAl ⟨_, rfl⟩) pa_nil))) rfl)
          (pss_one (ps_ret (pe_callB (cr_sum rfl) (by rfl) T.zsum (by decide +kernel) (pa_cons (pe_lc (own := [("part", 1)]) (g := gName 1) (tt := tYes) (te := tCall spA [] E0 (tCons (tVar 1) tNil)) rfl scSize.nd (pi_tup (pe_ix ix_tup (pv 0) pe_int (fun _ _ => rfl))) (blkOk_by (N := NSz) (sc := defScope sSize) (by decide +kernel))
              (fun _ _ _ _ _ => pg_name (i := 1) scSize.nd rfl (Or.inl rfl)) (fun _ _ _ _ _ => pts_nil) (fun _ _ _ _ _ => pe_call G hr (by rfl) T.gg T.F.kp T.b .nil pass0 (pa_cons (pv 1) pa_nil))) pa_nil)))) pss_nil)
      (pss_cons (ps_if (pt_cmpR op_eq (pe_ix ix_tup (pv 0) pe_int (fun _ _ => rfl)) (pe_glob (v := .str caW) rfl T.gCa ⟨_, rfl⟩) (nomark _)) (pss_one (ps_ret (pe_call G hr (by rfl) T.gg T.F.kp T.b .nil pass0 (pa_cons (pe_ix ix_tup (pv 0) pe_int (fun _ _ => rfl)) pa_nil)))) pss_nil)
      (pss_cons (ps_if (pt_cmpR op_ne (pe_ix ix_tup (pv 0) pe_int (fun _ _ => rfl)) (pe_glob (v := .str coW) rfl T.gCo ⟨_, rfl⟩) (nomark _)) (pss_one (ps_ret pe_int)) pss_nil)
      (pss_cons (ps_asg (pe_slice sl_tup (pv 0) (po_some pe_int) po_none) (pg_tup rfl (pgs_cons (pg_name (i := 2) scSize.nd rfl (.inl rfl)) (pgs_cons (pg_name (i := 3) scSize.nd rfl (.inl rfl)) (pgs_cons (pg_name (i := 1) scSize.nd rfl (.inl rfl)) pgs_nil)))))
      (pss_one (ps_ret (pe_op op_mul (pe_ifExp (pt_cmpR op_isN (pv 3) pe_non (nomark _)) (pe_callB (call_max2 rfl) (by rfl) T.zmax (by decide +kernel) (pa_cons (pv 2) (pa_cons pe_int pa_nil))) (pv 3)) (pe_call G hr (by rfl) T.gg T.F.kp T.b .nil pass0 (pa_cons (pv 1) pa_nil))))))))), ?_⟩
    by_cases hp : ∃ s, t = .place s
    · obtain ⟨s, rfl⟩ := hp
      cases ht with
      | place e =>
      rename_i a
      refine ⟨.ref a, rfl, a, _, 0, _, rfl, rfl, .inl (.inl e), atI_nat (j := 0) rfl, rfl, _, rfl, ?_⟩
      rw [decide_eq_true rfl]
      exact iteT (q H (Same.refl H))
    obtain ⟨a, X, rest, rfl, e, n1, hX⟩ : ∃ a X rest, v = .ref a ∧ H a = some (.tup (.str X :: rest)) ∧ ¬ (V.str X = V.str plW) ∧
        ((t = .empty ∧ X = emW) ∨ (∃ b vs l, (t = .chain l ∧ X = chW ∨ t = .choice l ∧ X = alW) ∧ rest = [.ref b] ∧ H b = some (.tup vs) ∧ TrOs H vs l) ∨ (∃ n z u, t = .capture n u ∧ X = caW ∧ rest = [.str (tx n), z] ∧ TrO H z u) ∨ (∃ a b z u, t = .count a b u ∧ X = coW ∧ rest = [.int a, mst b, z] ∧ TrO H z u)) := by
      cases ht with
      | place e => exact absurd ⟨_, rfl⟩ hp
      | capture e r => exact ⟨_, _, _, rfl, e, by decide +kernel, .inr (.inr (.inl ⟨_, _, _, rfl, rfl, rfl, r⟩))⟩
      | count e r => exact ⟨_, _, _, rfl, e, by decide +kernel, .inr (.inr (.inr ⟨_, _, _, _, rfl, rfl, rfl, r⟩))⟩
      | empty e => exact ⟨_, _, _, rfl, e, by decide +kernel, .inl ⟨rfl, rfl⟩⟩
      | chain e e2 r => exact ⟨_, _, _, rfl, e, by decide +kernel, .inr (.inl ⟨_, _, _, .inl ⟨rfl, rfl⟩, rfl, e2, r⟩)⟩
      | choice e e2 r => exact ⟨_, _, _, rfl, e, by decide +kernel, .inr (.inl ⟨_, _, _, .inr ⟨rfl, rfl⟩, rfl, e2, r⟩)⟩
    refine ⟨.ref a, rfl, a, _, 0, _, rfl, rfl, .inl (.inl e), atI_nat (j := 0) rfl, rfl, _, rfl, ?_⟩
    rw [decide_eq_false n1]
    refine iteF ⟨.ref a, rfl, a, _, 0, _, rfl, rfl, .inl (.inl e), atI_nat (j := 0) rfl, (show 2 ≤ sizeLine by decide), fun T0 h0 => ?_⟩
    have s0 := smU (o := HO.tup [.str chW, .str alW]) h0
    refine ⟨T0, _, rfl, .inr (.inl (.inl upd_same)), rfl, rfl, _, rfl, ?_⟩
    show if inV (V.str X) [V.str chW, V.str alW] = true then _ else _
    have e1 := s0 _ _ e
    rcases hX with ⟨rfl, rfl⟩ | ⟨b, vs, l, hXl, rfl, eb, os⟩ | ⟨n, z, u, rfl, rfl, rfl, r⟩ | ⟨a0, b0, z, u, rfl, rfl, rfl, r⟩
    · rw [show inV (V.str emW) [V.str chW, V.str alW] = false by decide +kernel]
      refine iteF ⟨.ref a, rfl, a, _, 0, _, rfl, rfl, .inl (.inl e1), atI_nat (j := 0) rfl, rfl, _, rfl, ?_⟩
      rw [decide_eq_false (show ¬ (V.str emW = V.str caW) by decide +kernel)]
      refine iteF ⟨.ref a, rfl, a, _, 0, _, rfl, rfl, .inl (.inl e1), atI_nat (j := 0) rfl, rfl, _, rfl, ?_⟩
      rw [decide_eq_false (show ¬ (V.str emW = V.str coW) by decide +kernel)]
      exact iteT (q _ s0)
    · have hin : inV (V.str X) [V.str chW, V.str alW] = true := by
        rcases hXl with ⟨_, rfl⟩ | ⟨_, rfl⟩ <;> decide +kernel
      have hd : depL l + 1 ≤ d := by
        rcases hXl with ⟨rfl, _⟩ | ⟨rfl, _⟩ <;> exact hd
      have hw : max l.length (widL l) ≤ 1000 := by
        rcases hXl with ⟨rfl, _⟩ | ⟨rfl, _⟩ <;> exact hw
      have hsz : sz t = szL l := by
        rcases hXl with ⟨rfl, _⟩ | ⟨rfl, _⟩ <;> rfl
      rw [hin]
      have hvl := os.len
      refine iteT ⟨.ref a, rfl, a, _, 1, _, rfl, rfl, .inl (.inl e1), atI_nat (j := 1) rfl, b, rfl, ⟨_, .inl (.inl (s0 _ _ eb))⟩, fun D hD => ?_⟩
      refine lc_it (walk_tup (K := K) (a := b) (xs := vs)) (fun i H3 => H3 D = some (.lst (((l.take i).map fun t => ((sz t : Nat) : Int)).map V.int)) ∧ Same H H3)
        ⟨upd_same, s0.trans (smU hD)⟩ (fun i H3 _ hP => .inl (.inl (hP.2 _ _ eb))) (fun i xi H3 H3' hi hP hy => ?_) (fun H3 hP => ?_)
      · obtain ⟨eD, s3⟩ := hP
        obtain ⟨rfl, hxi⟩ := hy
        obtain ⟨ti, hti, oti⟩ := os.get hxi
        obtain ⟨d1, d2⟩ := depL_get hti
        obtain ⟨hil, hie⟩ := List.getElem?_eq_some_iff.mp hti
        have ht : l.take (i + 1) = l.take i ++ [ti] := by rw [List.take_succ_eq_append_getElem hil, hie]
        refine ⟨rfl, xi, rfl, hA (depL l) _ _ _ _ hd ⟨xi, ti, rfl, d1, by omega, oti.mono (KT.same s3), fun H4 s4 => ?_⟩⟩
        refine ⟨_, s4 _ _ eD, ?_, ?_, fun c o h => ?_⟩
        · rw [List.length_map, List.length_map, List.length_take]
          exact Nat.lt_of_le_of_lt (show min i l.length ≤ 1000 by omega) (by decide)
        · rw [upd_same, ht, List.map_append, List.map_append] <;> rfl
        · rw [upd_ne (ne_of_none (s0 _ _ h) hD)]
          exact s4 _ _ (s3 _ _ h)
      · obtain ⟨eD, s3⟩ := hP
        rw [hvl, List.take_of_length_le (Nat.le_refl _)] at eD
        refine ⟨D, _, rfl, .inl (.inl eD), ?_⟩
        rw [szL_sum, ← hsz]
        exact q _ s3
    · have hd : dep u + 1 ≤ d := hd
      rw [show inV (V.str caW) [V.str chW, V.str alW] = false by decide +kernel]
      refine iteF ⟨.ref a, rfl, a, _, 0, _, rfl, rfl, .inl (.inl e1), atI_nat (j := 0) rfl, rfl, _, rfl, ?_⟩
      rw [decide_eq_true rfl]
      refine iteT ⟨.ref a, rfl, a, _, 2, _, rfl, rfl, .inl (.inl e1), atI_nat (j := 2) rfl, ?_⟩
      exact hA (dep u) _ _ _ _ hd ⟨z, u, rfl, Nat.le_refl _, hw, r.mono (KT.same s0), fun H4 s4 => q H4 (s0.trans s4)⟩
    · have hd : dep u + 1 ≤ d := hd
      have hw : max (many a0 b0) (wid u) ≤ 1000 := hw
      rw [show inV (V.str coW) [V.str chW, V.str alW] = false by decide +kernel]
      refine iteF ⟨.ref a, rfl, a, _, 0, _, rfl, rfl, .inl (.inl e1), atI_nat (j := 0) rfl, rfl, _, rfl, ?_⟩
      rw [decide_eq_false (show ¬ (V.str coW = V.str caW) by decide +kernel)]
      refine iteF ⟨.ref a, rfl, a, _, 0, _, rfl, rfl, .inl (.inl e1), atI_nat (j := 0) rfl, rfl, _, rfl, ?_⟩
      rw [decide_eq_true rfl]
      refine iteF ⟨.ref a, rfl, 1, rfl, a, _, rfl, .inl (.inl e1), fun z => absurd z.1 (show ¬ (HT.sIx 4 0 (some 1) = 0) by decide), fun T1 h1 => ?_⟩
      have s1 := smU (o := HO.tup (cutV [V.str coW, .int a0, mst b0, z] (some 1) none)) h1
      refine ⟨T1, _, rfl, .inl (.inl upd_same), rfl, _, _, rfl, _, _, rfl, _, _, rfl, rfl, ?_⟩
      have mm : ∀ (Q2 : VK), Q2 (.int (many a0 b0 : Nat)) (upd (upd H T0 (.tup [.str chW, .str alW])) T1 (.tup (cutV [V.str coW, .int a0, mst b0, z] (some 1) none))) → tIf (tTest (tOp (fun x y H Q => y = V.non ∧ Q (V.bl (decide (x = V.non))) H) (tVar 3) (tC V.non))) (tCB (fun xs H Q => ∃ i j, xs = [V.int i, V.int j] ∧ Q (V.int (if j > i then j else i)) H) (tCons (tVar 2) (tCons (tC (V.int 1)) tNil))) (tVar 3) [some (.ref a), some z, some (.int a0), some (mst b0)] (upd (upd H T0 (.tup [.str chW, .str alW])) T1 (.tup (cutV [V.str coW, .int a0, mst b0, z] (some 1) none))) Q2 := fun Q2 h2 => by
        refine ⟨mst b0, rfl, rfl, _, rfl, ?_⟩
        cases b0 with
        | none =>
          refine iteT ⟨_, rfl, (a0 : Int), 1, rfl, ?_⟩
          have e : (if (1 : Int) > (a0 : Int) then (1 : Int) else (a0 : Int)) = ((many a0 none : Nat) : Int) := by
            show _ = ((max a0 1 : Nat) : Int)
            split <;> omega
          rw [e]
          exact h2
        | some m => exact iteF ⟨_, rfl, h2⟩
      refine mm _ ?_
      refine ⟨z, rfl, hA (dep u) _ _ _ _ hd ⟨z, u, rfl, Nat.le_refl _, by omega, r.mono (KT.same (s0.trans s1)), fun H4 s4 => ?_⟩⟩
      refine ⟨_, _, rfl, rfl, .inl ⟨by omega, by omega⟩, ?_⟩
      have q1 := q H4 ((s0.trans s1).trans s4)
      have e5 : ((sz (.count a0 b0 u) : Nat) : Int) = ((many a0 b0 : Nat) : Int) * ((sz u : Nat) : Int) := by
        show ((many a0 b0 * sz u : Nat) : Int) = _
        rw [Int.natCast_mul]
      rw [e5] at q1
      exact q1
theorem ok_size (T : ST K mg tk g gd) : ∀ d, FnOk P w K mg base CX0 (1 + d) g gd ["tree"] (spSize d)
  | 0 => ok_size1 T (k := 0) (d := 0) (spA := spNo) ok_no (fun e _ _ _ _ h => absurd h (by omega))
  | d + 1 => (ok_size1 T (d := d + 1) (spA := spSize d) (ok_size T d) (fun e vs H Q E h ⟨v, t, r, hd, q⟩ => ⟨v, t, r, Nat.le_trans hd (by omega), q⟩)).mono (by omega)
end
end Sf4
namespace Sf4
open PySem PySem.Spec PyProof.Rows L2 Sf
abbrev sPI : Stmt := inClass cPat 0
abbrev sPEq : Stmt := inClass cPat 1
/-- what Pattern's methods find -/
structure PatT (K : PySem.W.Frag) (mg : Str → Option Value) (C : Addr) (f : Nat → Addr) (fd : Nat → FuncData) (tk : Nat → Tok) (gR gW : Addr) (dR dW : FuncData) : Prop where
  cl : Cls K C
  n1 : NoAttr K C "is_bound_left"
  n2 : NoAttr K C "tree"
  n3 : NoAttr K C "is_bound_right"
  n4 : NoAttr K C "string"
  n5 : NoAttr K C "names"
  n6 : NoAttr K C "places"
  n7 : NoAttr K C "first"
  n8 : NoAttr K C "last"
  n9 : NoAttr K C "later_places"
  mI : Mt K C "__init__" "Pattern.__init__" sPI ["self", "string"] (f 0) (fd 0)
  mE : Mt K C "__eq__" "Pattern.__eq__" sPEq ["self", "other"] (f 1) (fd 1)
  mkC : Mk K C (f 0)
  gC : mg "Pattern" = some (.ref C)
  FR : Fun K "read_pattern" "read_pattern" sRp gR dR
  bR : Binds K dR ["value"] []
  gR_ : mg "read_pattern" = some (.ref gR)
  FW : Fun K "written" "written" sWrt gW dW
  bW : Binds K dW ["tree"] []
  gW_ : mg "written" = some (.ref gW)
  gMP : mg "MOST_PLACES" = some (.int 24 (tk 15))
  ztup : mg "tuple" = none
  zisi : mg "isinstance" = none
  ha : PySem.W.findIn K (.ref C) "__class__" = some (some (.builtin "object.__class__"))
  hn : PySem.W.specialIn K (.builtin "object.__class__") "__get__" = some (some (.builtin "getset_descriptor.__get__"))
  ht : PySem.W.takesIn K (.builtin "object.__class__") = some true
  hm : PySem.W.mroIn K C (.type "object") = some true
  k1 : PySem.W.kitOne K (.ref C) (.ref C) = some true
  k2 : PySem.W.kitOne K (.type "str") (.ref C) = some false
  sb : PySem.W.subIn K (.type "str") (.ref C) = some false
def pf9 (l r : Bool) (tv : V) (Z : List Nat) (nm pl fi la be : Addr) : List (Str × V) := [("is_bound_left", .bl l), ("tree", tv), ("is_bound_right", .bl r), ("string", .str (tx Z)), ("names", .ref nm), ("places", .ref pl), ("first", .ref fi), ("last", .ref la), ("later_places", .ref be)]
/-- the pattern of a string at x -/
def PatO (C : Addr) (H : Hp) (x : Addr) (Z : List Nat) (l : Bool) (t : Tr) (r : Bool) (nm : Nm) : Prop := ∃ dx tv na pl fi la be, H x = some (.ins C dx (pf9 l r tv Z na pl fi la be)) ∧ TrO H tv t ∧ H na = some (.tup (nmV nm)) ∧ H pl = some (.tup (nmV (spts t))) ∧
  H fi = some (.tup (nIs (ascL (sz t) (pO t w0).1.2.1))) ∧ H la = some (.tup (nIs (ascL (sz t) (pO t w0).1.2.2))) ∧ BehT H be ((pO t w0).2.fo.map (ascL (sz t)))
theorem PatO.mono {C : Addr} {H H' : Hp} {x : Addr} {Z : List Nat} {l : Bool} {t : Tr} {r : Bool} {nm : Nm} (h : PatO C H x Z l t r nm) (k : Same H H') : PatO C H' x Z l t r nm := by
  obtain ⟨dx, tv, na, pl, fi, la, be, h1, h2, h3, h4, h5, h6, h7⟩ := h
  exact ⟨dx, tv, na, pl, fi, la, be, k _ _ h1, h2.mono (KT.same k), k _ _ h3, k _ _ h4, k _ _ h5, k _ _ h6, h7.mono (KT.same k)⟩
def spPI (C : Addr) : Sp := fun vs H Q _ => ∃ (Z : List Nat) (x dx : Addr) (l : Bool) (t : Tr) (r : Bool) (nm : Nm), vs = [.ref x, .str (tx Z)] ∧ H x = some (.ins C dx []) ∧ Z.length ≤ 60 ∧ RWhole Z l t r nm ∧ Sml t ∧
  ∀ H', PatO C H' x Z l t r nm → (∀ b o, b ≠ x → H b = some o → H' b = some o) → Q .non H'
theorem scPI : FnScope ["self", "string", "reader", "parts"] ["self", "string"] (defScope sPI) := ⟨rfl, rfl, rfl, by decide +kernel, rfl, by decide +kernel, by decide +kernel⟩
theorem scPEq : FnScope ["self", "other"] ["self", "other"] (defScope sPEq) := ⟨rfl, rfl, rfl, by decide +kernel, rfl, by decide +kernel, by decide +kernel⟩
theorem KT.ins {H : Hp} {a C dx dx' : Addr} {fs gs : List (Str × V)} (h : H a = some (.ins C dx fs)) : KT H (upd H a (.ins C dx' gs)) := fun b zs e => by
  rw [upd_ne (ne_of e h (by intro z; cases z))]
  exact e
section
variable {P : Program} {w : World} {K : PySem.W.Frag} {mg : Str → Option Value} {base : Heap} {C : Addr} {f : Nat → Addr} {fd : Nat → FuncData} {tk : Nat → Tok} {gR gW gS : Addr} {dR dW dS : FuncData}
variable {RC WC : Addr} {rf_ wf' : Nat → Addr} {rd wd : Nat → FuncData} {cd : Addr} {ces : Array DictEntry} {cn : Nat} {ct : Nat → Addr}
theorem ok_pi (T : PatT K mg C f fd tk gR gW dR dW) (TR : RT K w mg RC rf_ rd tk cd ces cn ct) (TW : WT K mg WC wf' wd tk) (TS : ST K mg tk gS dS) : FnOk P w K mg base CX0 85 (f 0) (fd 0) ["self", "string"] (spPI C) := by
  refine T.mI.F.ok scPI (fun vs H Q E h => ?_) (fun cdv A outer s H vs Q E hr h => ?_)
  · obtain ⟨Z, x, dx, l, t, r, nm, rfl, _⟩ := h
    rfl
  · obtain ⟨Z, x, dx, l, t, r, nm, rfl, hx, hZ, hw, hs, q⟩ := h
    have GR := ok_rp (P := P) (base := base) TR T.FR
    have GW := ok_written (P := P) (w := w) (base := base) TW T.FW
    have GS := ok_size (P := P) (w := w) (base := base) TS 40
    refine ⟨_, pss_cons (ps_asg (pe_call GR (hr.mono (by decide)) rfl T.gR_ T.FR.kp T.bR .nil pass0 (pa_cons (pv 1) pa_nil)) (pg_tup rfl (pgs_cons (pg_name (i := 2) scPI.nd rfl (.inl rfl)) (pgs_cons (pg_name (i := 3) scPI.nd rfl (.inl rfl)) pgs_nil))))
      (pss_cons (ps_asg (pv 3) (pg_tup rfl (pgs_cons (pg_fld (pv 0)) (pgs_cons (pg_fld (pv 0)) (pgs_cons (pg_fld (pv 0)) pgs_nil)))))
      (pss_cons (ps_if (pt_cmpR op_gt (pe_call GS (hr.mono (by decide)) rfl TS.gg TS.F.kp TS.b .nil pass0 (pa_cons (pe_fld (pv 0) rfl) pa_nil)) (pe_glob (v := .int 24) rfl T.gMP ⟨_, rfl⟩) (nomark _)) pss_never pss_nil)
      (pss_cons (ps_fld (pv 0) (pv 1) rfl)
      (pss_cons (ps_fld (pv 0) (pe_tupleOf (by rfl) T.ztup (pe_fld (pv 2) rfl)) rfl)
      (pss_one (ps_asg (pe_call GW hr rfl T.gW_ T.FW.kp T.bW .nil pass0 (pa_cons (pe_fld (pv 0) rfl) pa_nil)) (pg_tup rfl (pgs_cons (pg_fld (pv 0)) (pgs_cons (pg_fld (pv 0)) (pgs_cons (pg_fld (pv 0)) (pgs_cons (pg_fld (pv 0)) pgs_nil))))))))))), ?_⟩
    refine ⟨.str (tx Z), rfl, Z, l, t, r, nm, rfl, hZ, hw, fun a b p rx rl v H1 ea eb ot R s1 => ⟨a, _, rfl, .inl (.inl ea), rfl, _, _, rfl, _, _, rfl, rfl, ?_⟩⟩
    have hx1 := s1 _ _ hx
    -- three attributes
    refine ⟨.ref b, rfl, b, _, rfl, .inl (.inl eb), rfl, _, _, rfl, .ref x, rfl, x, C, dx, _, rfl, hx1, T.cl, T.n1, (show 0 < 1000 by decide), _, _, rfl, .ref x, rfl, x, C, dx, _, rfl, upd_same, T.cl, T.n2, (show 1 < 1000 by decide), _, _, rfl, .ref x, rfl, x, C, dx, _, rfl, upd_same, T.cl, T.n3, (show 2 < 1000 by decide), rfl, ?_⟩
    have pnx : p ≠ x := fun z => by
      have e := R.e
      rw [z, hx1] at e
      cases e
    have lnx : rl ≠ x := ne_of R.n hx1 (by intro z; cases z)
    have kt1 : KT H1 (upd (upd (upd H1 x (.ins C dx (putF "is_bound_left" (.bl l) []))) x (.ins C dx (putF "tree" v (putF "is_bound_left" (.bl l) [])))) x (.ins C dx (putF "is_bound_right" (.bl r) (putF "tree" v (putF "is_bound_left" (.bl l) []))))) := ((KT.ins hx1).trans (KT.ins upd_same)).trans (KT.ins upd_same)
    have st1 : ∀ c o, c ≠ x → H1 c = some o → (upd (upd (upd H1 x (.ins C dx (putF "is_bound_left" (.bl l) []))) x (.ins C dx (putF "tree" v (putF "is_bound_left" (.bl l) [])))) x (.ins C dx (putF "is_bound_right" (.bl r) (putF "tree" v (putF "is_bound_left" (.bl l) []))))) c = some o := fun c o n e => by
      rw [upd_ne n, upd_ne n, upd_ne n]
      exact e
    have e1 : (upd (upd (upd H1 x (.ins C dx (putF "is_bound_left" (.bl l) []))) x (.ins C dx (putF "tree" v (putF "is_bound_left" (.bl l) [])))) x (.ins C dx (putF "is_bound_right" (.bl r) (putF "tree" v (putF "is_bound_left" (.bl l) []))))) x = some (.ins C dx (([("is_bound_left", V.bl l), ("tree", v), ("is_bound_right", V.bl r)] : List (Str × V)))) := upd_same.trans rfl
    generalize (upd (upd (upd H1 x (.ins C dx (putF "is_bound_left" (.bl l) []))) x (.ins C dx (putF "tree" v (putF "is_bound_left" (.bl l) [])))) x (.ins C dx (putF "is_bound_right" (.bl r) (putF "tree" v (putF "is_bound_left" (.bl l) []))))) = H2 at kt1 st1 e1 ⊢
    -- not too many places
    refine ⟨.ref x, rfl, x, C, dx, _, v, rfl, e1, T.cl, T.n2, rfl, v, t, rfl, hs.d, hs.w, ot.mono kt1, fun H3 s3 => ⟨_, _, rfl, rfl, _, rfl, ?_⟩⟩
    have b1 := hs.s
    rw [decide_eq_false (show ¬ ((24 : Int) < ((sz t : Nat) : Int)) by omega)]
    refine iteF ⟨.str (tx Z), rfl, .ref x, rfl, x, C, dx, _, rfl, s3 _ _ e1, T.cl, T.n4, (show 3 < 1000 by decide), ?_⟩
    have kt3 : KT H1 (upd H3 x (.ins C dx (putF "string" (.str (tx Z)) ([("is_bound_left", V.bl l), ("tree", v), ("is_bound_right", V.bl r)] : List (Str × V))))) := (kt1.trans (KT.same s3)).trans (KT.ins (s3 _ _ e1))
    have st3 : ∀ c o, c ≠ x → H1 c = some o → (upd H3 x (.ins C dx (putF "string" (.str (tx Z)) ([("is_bound_left", V.bl l), ("tree", v), ("is_bound_right", V.bl r)] : List (Str × V))))) c = some o := fun c o n e => by
      rw [upd_ne n]
      exact s3 _ _ (st1 c o n e)
    have e3 : (upd H3 x (.ins C dx (putF "string" (.str (tx Z)) ([("is_bound_left", V.bl l), ("tree", v), ("is_bound_right", V.bl r)] : List (Str × V))))) x = some (.ins C dx ([("is_bound_left", V.bl l), ("tree", v), ("is_bound_right", V.bl r), ("string", .str (tx Z))] : List (Str × V))) := upd_same.trans rfl
    generalize (upd H3 x (.ins C dx (putF "string" (.str (tx Z)) ([("is_bound_left", V.bl l), ("tree", v), ("is_bound_right", V.bl r)] : List (Str × V))))) = H4 at kt3 st3 e3 ⊢
    refine ⟨.ref p, rfl, p, RC, rx, _, _, rfl, st3 _ _ pnx R.e, TR.cl, TR.nNm, rf_names, .inl ⟨rl, _, rfl, .inl (.inl (st3 _ _ lnx R.n)), fun na hna => ?_⟩⟩
    have sn := smU (o := HO.tup (nmV nm)) hna
    refine ⟨.ref x, rfl, x, C, dx, _, rfl, sn _ _ e3, T.cl, T.n5, (show 4 < 1000 by decide), ?_⟩
    have nna : na ≠ x := fun z => by
      rw [z, e3] at hna
      cases hna
    have kt5 : KT H1 (upd (upd H4 na (.tup (nmV nm))) x (.ins C dx (putF "names" (.ref na) ([("is_bound_left", V.bl l), ("tree", v), ("is_bound_right", V.bl r), ("string", .str (tx Z))] : List (Str × V))))) := (kt3.trans (KT.same sn)).trans (KT.ins (sn _ _ e3))
    have st5 : ∀ c o, c ≠ x → H1 c = some o → (upd (upd H4 na (.tup (nmV nm))) x (.ins C dx (putF "names" (.ref na) ([("is_bound_left", V.bl l), ("tree", v), ("is_bound_right", V.bl r), ("string", .str (tx Z))] : List (Str × V))))) c = some o := fun c o n e => by
      rw [upd_ne n]
      exact sn _ _ (st3 c o n e)
    have e5 : (upd (upd H4 na (.tup (nmV nm))) x (.ins C dx (putF "names" (.ref na) ([("is_bound_left", V.bl l), ("tree", v), ("is_bound_right", V.bl r), ("string", .str (tx Z))] : List (Str × V))))) x = some (.ins C dx ([("is_bound_left", V.bl l), ("tree", v), ("is_bound_right", V.bl r), ("string", .str (tx Z)), ("names", .ref na)] : List (Str × V))) := upd_same.trans rfl
    have en : (upd (upd H4 na (.tup (nmV nm))) x (.ins C dx (putF "names" (.ref na) ([("is_bound_left", V.bl l), ("tree", v), ("is_bound_right", V.bl r), ("string", .str (tx Z))] : List (Str × V))))) na = some (.tup (nmV nm)) := (upd_ne nna).trans upd_same
    generalize (upd (upd H4 na (.tup (nmV nm))) x (.ins C dx (putF "names" (.ref na) ([("is_bound_left", V.bl l), ("tree", v), ("is_bound_right", V.bl r), ("string", .str (tx Z))] : List (Str × V))))) = H5 at kt5 st5 e5 en ⊢
    refine ⟨.ref x, rfl, x, C, dx, _, v, rfl, e5, T.cl, T.n2, rfl, v, t, rfl, ot.mono kt5, hs, fun a4 H6 wo s6 => ?_⟩
    obtain ⟨pl, fi, la, be, h1, h2, h3, h4, h5⟩ := wo.ex
    have e6 := s6 _ _ e5
    refine ⟨a4, _, rfl, .inl (.inl h1), rfl, _, _, rfl, .ref x, rfl, x, C, dx, _, rfl, e6, T.cl, T.n6, (show 5 < 1000 by decide), _, _, rfl, .ref x, rfl, x, C, dx, _, rfl, upd_same, T.cl, T.n7, (show 6 < 1000 by decide), _, _, rfl, .ref x, rfl, x, C, dx, _, rfl, upd_same, T.cl, T.n8, (show 7 < 1000 by decide), _, _, rfl, .ref x, rfl, x, C, dx, _, rfl, upd_same, T.cl, T.n9, (show 8 < 1000 by decide), rfl, ?_⟩
    have kt6 : KT H6 _ := (((KT.ins (dx' := dx) (gs := putF "places" (.ref pl) ([("is_bound_left", V.bl l), ("tree", v), ("is_bound_right", V.bl r), ("string", .str (tx Z)), ("names", .ref na)] : List (Str × V))) e6).trans (KT.ins (dx' := dx) (gs := putF "first" (.ref fi) (putF "places" (.ref pl) ([("is_bound_left", V.bl l), ("tree", v), ("is_bound_right", V.bl r), ("string", .str (tx Z)), ("names", .ref na)] : List (Str × V)))) upd_same)).trans (KT.ins (dx' := dx) (gs := putF "last" (.ref la) (putF "first" (.ref fi) (putF "places" (.ref pl) ([("is_bound_left", V.bl l), ("tree", v), ("is_bound_right", V.bl r), ("string", .str (tx Z)), ("names", .ref na)] : List (Str × V))))) upd_same)).trans
      (KT.ins (dx' := dx) (gs := putF "later_places" (.ref be) (putF "last" (.ref la) (putF "first" (.ref fi) (putF "places" (.ref pl) ([("is_bound_left", V.bl l), ("tree", v), ("is_bound_right", V.bl r), ("string", .str (tx Z)), ("names", .ref na)] : List (Str × V)))))) upd_same)
    refine q _ ⟨dx, v, na, pl, fi, la, be, upd_same.trans rfl, ((ot.mono kt5).mono (KT.same s6)).mono kt6, kt6 _ _ (s6 _ _ en), kt6 _ _ h2, kt6 _ _ h3, kt6 _ _ h4, h5.mono kt6⟩ fun c o n e => ?_
    rw [upd_ne n, upd_ne n, upd_ne n, upd_ne n]
    exact s6 _ _ (st5 c o n (s1 _ _ e))
/-! ### equal patterns -/
def spPEq (C : Addr) : Sp := fun vs H Q _ => ∃ (a dx : Addr) (fs : List (Str × V)) (y : V) (z : Str) (b : Bool), vs = [.ref a, y] ∧ H a = some (.ins C dx fs) ∧ fs.lookup ("string" : Str) = some (.str z) ∧
  ((∃ c dy gs u, y = .ref c ∧ H c = some (.ins C dy gs) ∧ gs.lookup ("string" : Str) = some (.str u) ∧ b = decide (V.str z = V.str u)) ∨ (∃ u, y = .str u ∧ b = false)) ∧ Q (.bl b) H
theorem ok_peq (T : PatT K mg C f fd tk gR gW dR dW) : FnOk P w K mg base CX0 1 (f 1) (fd 1) ["self", "other"] (spPEq C) := by
  refine T.mE.F.ok scPEq (fun vs H Q E h => ?_) (fun cdv A outer s H vs Q E hr h => ?_)
  · obtain ⟨a, dx, fs, y, z, b, rfl, _⟩ := h
    rfl
  · obtain ⟨a, dx, fs, y, z, b, rfl, ha, hl, hy, q⟩ := h
    refine ⟨_, pss_one (ps_ret (pe_and (pe_callB call_isi (by rfl) T.zisi PyProof.Rows.boot_isinstance (pa_cons (pv 1) (pa_cons (pe_glob (v := .ref C) rfl T.gC rfl) pa_nil))) (pe_one (pe_cmpR op_eq (pe_fld (pv 0) rfl) (pe_fld (pv 1) rfl) (nomark _))))), ?_⟩
    rcases hy with ⟨c, dy, gs, u, rfl, hc, hg, rfl⟩ | ⟨u, rfl, rfl⟩
    · refine ⟨.ref c, rfl, .ref c, .ref C, _, _, true, rfl, .own C, .base (.ins hc T.cl T.ha T.hn T.ht T.hm), T.k1, true, rfl, iteT ?_⟩
      exact ⟨.ref a, rfl, a, C, dx, fs, _, rfl, ha, T.cl, T.n4, hl, .ref c, rfl, c, C, dy, gs, _, rfl, hc, T.cl, T.n4, hg, rfl, q⟩
    · exact ⟨.str u, rfl, .str u, .ref C, _, _, false, rfl, .own C, .base (.str u), T.k2, false, rfl, iteF q⟩
/-- == by an own __eq__ -/
theorem op_eqOwn {X : Cx} {n : Nat} {g : Addr} {gd : FuncData} {ps : List Str} {sp : Sp} {D : Addr} (F : FnOk X.prog X.w X.K X.mg X.base CX0 n g gd ps sp) (hs : PySem.W.findIn X.K (.ref D) "__eq__" = some (some (.ref g))) (hf : PySem.W.isFn X.K (.ref g) = true) (hb : Binds X.K gd ps []) (hr : Room n X.A) (hsub : PySem.W.subIn X.K (.type "str") (.ref D) = some false) :
    OpR X (compareOp .Eq) (fun x y H Q => ∃ a dx fs, x = .ref a ∧ H a = some (.ins D dx fs) ∧ ((∃ c dy gs, y = .ref c ∧ H c = some (.ins D dy gs)) ∨ ∃ u, y = .str u) ∧ sp [x, y] H (fun v H' => (∃ b, v = .bl b) ∧ Q v H') E0) := by
  intro pins s σ H x y u1 u2 Q I rx ry hq
  obtain ⟨a, dx, fs, rfl, ha, hy, hsp⟩ := hq
  cases rx
  obtain ⟨mA, J, _⟩ := ins_get I.hok ha
  obtain ⟨od, J, _⟩ := J.look
  obtain ⟨m, hF⟩ := I.fr
  have r2 : Vals [V.ref a, y] [Value.ref a, u2] := .cons rfl (.cons ry .nil)
  have hl := F.len _ _ _ _ hsp
  have go : wpAny (model X.prog X.w) X.A (call (.ref g) [.ref a, u2]) (PySem.W.CmpBack (EP X pins σ Q)) X.xe s := by
    refine wpAny_call (codeAny_mono (F.run X.A X.stack s H ⟨[.ref a, u2], []⟩ [.ref a, u2] [.ref a, y] _ E0 hr I.env0 (by
      have := hb s [.ref a, u2] I.kIn (by simpa using hl)
      simpa using this) r2 hsp) fun r s' hq => ?_)
    cases r with
    | error e => exact False.elim hq
    | ok fl =>
      cases fl with
      | ret w =>
        obtain ⟨z, H', I', rz, ⟨b, ez⟩, ex⟩ := I.after hq
        subst ez
        cases rz
        exact ⟨.bl b, H', I', rfl, ex⟩
      | next => exact False.elim hq
      | brk => exact False.elim hq
      | cont => exact False.elim hq
  show wpAny (model X.prog X.w) X.A (richCompare .Eq (.ref a) u2) (EP X pins σ Q) X.xe s
  rcases hy with ⟨c, dy, gs, rfl, hc⟩ | ⟨z, rfl⟩
  · cases ry
    obtain ⟨mB, J', _⟩ := ins_get I.hok hc
    obtain ⟨od', J', _⟩ := J'.look
    exact PySem.W.cmp_K (op := .Eq) (tb := .ref D) hr.units0 hF I.ok.mod.kin J J'.type (by simp [PySem.W.notFirst]) hs hf go
  · obtain ⟨t, rfl⟩ := ry
    exact PySem.W.cmp_K (op := .Eq) (tb := .type "str") hr.units0 hF I.ok.mod.kin J (PySem.W.Looks.of_pure rfl) (by simp [PySem.W.notFirst, hsub]) hs hf go
end
end Sf4
/-! Pattern.__init__ with both outcomes. -/
namespace Sf6
open PySem PySem.Spec PyProof.Rows L2 Sf Sf4
/-- it raises with the string, all but one object as it stood -/
def RzX (D : Addr) (E : XK) (x : Addr) (H : Hp) (Z : List Nat) : Prop := ∀ dd H', (∀ b o, b ≠ x → H b = some o → H' b = some o) → H' dd = some (.xd [("value", .str (tx Z))]) → E (.ref D) (some dd) H'
def Fin6 (Z : List Nat) : Prop := ∀ W, fPat Z = some W → dep W.t ≤ 40 ∧ wid W.t ≤ 1000 ∧ (sz W.t ≤ 24 → lks W.t ≤ 4000)
def spPI6 (C D : Addr) : Sp := fun vs H Q E => ∃ (Z : List Nat) (x dx : Addr), vs = [.ref x, .str (tx Z)] ∧ H x = some (.ins C dx []) ∧ Z.length ≤ 2000 ∧ Fin6 Z ∧
  (∀ W, fPat Z = some W → sz W.t ≤ 24 → ∀ H', PatO C H' x Z W.l W.t W.r W.nm → (∀ b o, b ≠ x → H b = some o → H' b = some o) → Q .non H') ∧ ((∀ W, fPat Z = some W → 24 < sz W.t) → RzX D E x H Z)
section
variable {P : Program} {w : World} {K : PySem.W.Frag} {mg : Str → Option Value} {base : Heap} {C : Addr} {f : Nat → Addr} {fd : Nat → FuncData} {tk : Nat → Tok} {gR gW gS : Addr} {dR dW dS : FuncData}
variable {RC WC : Addr} {rf_ wf' : Nat → Addr} {rd wd : Nat → FuncData} {cd : Addr} {ces : Array DictEntry} {cn : Nat} {ct : Nat → Addr} {D fB : Addr} {dB : FuncData}
theorem ok_pi6 (T : PatT K mg C f fd tk gR gW dR dW) (TR : RT K w mg RC rf_ rd tk cd ces cn ct) (B : Bad P w K mg base 1 D fB dB) (TW : WT K mg WC wf' wd tk) (TS : ST K mg tk gS dS) : FnOk P w K mg base (L2.CX P w) 85 (f 0) (fd 0) ["self", "string"] (spPI6 C D) := by
  refine T.mI.F.okX scPI (fun vs H Q E h => ?_) (fun cdv A outer s H vs Q E hr h => ?_)
  · obtain ⟨Z, x, dx, rfl, _⟩ := h
    rfl
  · obtain ⟨Z, x, dx, rfl, hx, hZ, hfi, q1, q2⟩ := h
    have GR := ok_rp6 TR B T.FR
    have GW := ok_written (P := P) (w := w) (base := base) TW T.FW
    have GS := ok_size (P := P) (w := w) (base := base) TS 40
    refine ⟨_, pss_cons (ps_asg (pe_call GR (hr.mono (by decide)) rfl T.gR_ T.FR.kp T.bR .nil (passes_call (takes_of rfl rfl rfl rfl) (fun _ _ _ _ h => h)) (pa_cons (pv 1) pa_nil)) (pg_tup rfl (pgs_cons (pg_name (i := 2) scPI.nd rfl (.inl rfl)) (pgs_cons (pg_name (i := 3) scPI.nd rfl (.inl rfl)) pgs_nil))))
      (pss_cons (ps_asg (pv 3) (pg_tup rfl (pgs_cons (pg_fld (pv 0)) (pgs_cons (pg_fld (pv 0)) (pgs_cons (pg_fld (pv 0)) pgs_nil)))))
      (pss_cons (ps_if (pt_cmpR op_gt (pe_call GS (hr.mono (by decide)) rfl TS.gg TS.F.kp TS.b .nil pass0 (pa_cons (pe_fld (pv 0) rfl) pa_nil)) (pe_glob (v := .int 24) rfl T.gMP ⟨_, rfl⟩) (nomark _)) (pss_one (ps_raise rfl (takes_of rfl rfl rfl rfl) (pmk_oex B.T B.iC B.tI B.G (hr.mono (by decide)) B.b .nil pass0 (by rfl) B.g (pa_cons (pv 1) pa_nil)))) pss_nil)
      (pss_cons (ps_fld (pv 0) (pv 1) rfl)
      (pss_cons (ps_fld (pv 0) (pe_tupleOf (by rfl) T.ztup (pe_fld (pv 2) rfl)) rfl)
      (pss_one (ps_asg (pe_call GW hr rfl T.gW_ T.FW.kp T.bW .nil pass0 (pa_cons (pe_fld (pv 0) rfl) pa_nil)) (pg_tup rfl (pgs_cons (pg_fld (pv 0)) (pgs_cons (pg_fld (pv 0)) (pgs_cons (pg_fld (pv 0)) (pgs_cons (pg_fld (pv 0)) pgs_nil))))))))))), ?_⟩
    refine ⟨.str (tx Z), rfl, Z, rfl, hZ, fun W eW a b p rx rl v H1 ea eb ot R s1 => ?_, fun eW dd H' s e => q2 (fun W e2 => by rw [eW] at e2; cases e2) dd H' (fun b o _ h => s b o h) e⟩
    obtain ⟨f1, f2, f3⟩ := hfi W eW
    have q := q1 W eW
    have qz : 24 < sz W.t → RzX D E x H Z := fun z => q2 fun W' e' => by
      rw [eW] at e'
      cases e'
      exact z
    obtain ⟨l, t, r, nm⟩ := W
    dsimp only at f1 f2 f3 q qz ot R eb
    refine ⟨a, _, rfl, .inl (.inl ea), rfl, _, _, rfl, _, _, rfl, rfl, ?_⟩
    have hx1 := s1 _ _ hx
    -- three attributes
    refine ⟨.ref b, rfl, b, _, rfl, .inl (.inl eb), rfl, _, _, rfl, .ref x, rfl, x, C, dx, _, rfl, hx1, T.cl, T.n1, (show 0 < 1000 by decide), _, _, rfl, .ref x, rfl, x, C, dx, _, rfl, upd_same, T.cl, T.n2, (show 1 < 1000 by decide), _, _, rfl, .ref x, rfl, x, C, dx, _, rfl, upd_same, T.cl, T.n3, (show 2 < 1000 by decide), rfl, ?_⟩
    have pnx : p ≠ x := fun z => by
      have e := R.e
      rw [z, hx1] at e
      cases e
    have lnx : rl ≠ x := ne_of R.n hx1 (by intro z; cases z)
    have kt1 : KT H1 (upd (upd (upd H1 x (.ins C dx (putF "is_bound_left" (.bl l) []))) x (.ins C dx (putF "tree" v (putF "is_bound_left" (.bl l) [])))) x (.ins C dx (putF "is_bound_right" (.bl r) (putF "tree" v (putF "is_bound_left" (.bl l) []))))) := ((KT.ins hx1).trans (KT.ins upd_same)).trans (KT.ins upd_same)
    have st1 : ∀ c o, c ≠ x → H1 c = some o → (upd (upd (upd H1 x (.ins C dx (putF "is_bound_left" (.bl l) []))) x (.ins C dx (putF "tree" v (putF "is_bound_left" (.bl l) [])))) x (.ins C dx (putF "is_bound_right" (.bl r) (putF "tree" v (putF "is_bound_left" (.bl l) []))))) c = some o := fun c o n e => by
      rw [upd_ne n, upd_ne n, upd_ne n]
      exact e
    have e1 : (upd (upd (upd H1 x (.ins C dx (putF "is_bound_left" (.bl l) []))) x (.ins C dx (putF "tree" v (putF "is_bound_left" (.bl l) [])))) x (.ins C dx (putF "is_bound_right" (.bl r) (putF "tree" v (putF "is_bound_left" (.bl l) []))))) x = some (.ins C dx (([("is_bound_left", V.bl l), ("tree", v), ("is_bound_right", V.bl r)] : List (Str × V)))) := upd_same.trans rfl
    generalize (upd (upd (upd H1 x (.ins C dx (putF "is_bound_left" (.bl l) []))) x (.ins C dx (putF "tree" v (putF "is_bound_left" (.bl l) [])))) x (.ins C dx (putF "is_bound_right" (.bl r) (putF "tree" v (putF "is_bound_left" (.bl l) []))))) = H2 at kt1 st1 e1 ⊢
    -- not too many places
    refine ⟨.ref x, rfl, x, C, dx, _, v, rfl, e1, T.cl, T.n2, rfl, v, t, rfl, f1, f2, ot.mono kt1, fun H3 s3 => ⟨_, _, rfl, rfl, _, rfl, ?_⟩⟩
    by_cases h24 : 24 < sz t
    · rw [decide_eq_true (show (24 : Int) < ((sz t : Nat) : Int) by omega)]
      have z : RzS D E H3 (.str (tx Z)) := fun dd H' s e => qz h24 dd H' (fun c o n h => s _ _ (s3 _ _ (st1 c o n (s1 _ _ h)))) e
      exact iteT ⟨.str (tx Z), rfl, (show 1 ≤ 1000 by decide), fun a na => ⟨a, _, rfl, upd_same, fun dx nx hne => ⟨rfl, dx, _, upd_same, by rw [upd_ne hne, upd_same], by rw [upd_ne hne] at nx; exact nx, raised z.rz na nx hne⟩⟩⟩
    have b1 : sz t ≤ 24 := Nat.le_of_not_lt h24
    have hs : Sml t := ⟨f1, f2, b1, f3 b1⟩
    have q := q b1
    rw [decide_eq_false (show ¬ ((24 : Int) < ((sz t : Nat) : Int)) by omega)]
    refine iteF ⟨.str (tx Z), rfl, .ref x, rfl, x, C, dx, _, rfl, s3 _ _ e1, T.cl, T.n4, (show 3 < 1000 by decide), ?_⟩
    have kt3 : KT H1 (upd H3 x (.ins C dx (putF "string" (.str (tx Z)) ([("is_bound_left", V.bl l), ("tree", v), ("is_bound_right", V.bl r)] : List (Str × V))))) := (kt1.trans (KT.same s3)).trans (KT.ins (s3 _ _ e1))
    have st3 : ∀ c o, c ≠ x → H1 c = some o → (upd H3 x (.ins C dx (putF "string" (.str (tx Z)) ([("is_bound_left", V.bl l), ("tree", v), ("is_bound_right", V.bl r)] : List (Str × V))))) c = some o := fun c o n e => by
      rw [upd_ne n]
      exact s3 _ _ (st1 c o n e)
    have e3 : (upd H3 x (.ins C dx (putF "string" (.str (tx Z)) ([("is_bound_left", V.bl l), ("tree", v), ("is_bound_right", V.bl r)] : List (Str × V))))) x = some (.ins C dx ([("is_bound_left", V.bl l), ("tree", v), ("is_bound_right", V.bl r), ("string", .str (tx Z))] : List (Str × V))) := upd_same.trans rfl
    generalize (upd H3 x (.ins C dx (putF "string" (.str (tx Z)) ([("is_bound_left", V.bl l), ("tree", v), ("is_bound_right", V.bl r)] : List (Str × V))))) = H4 at kt3 st3 e3 ⊢
    refine ⟨.ref p, rfl, p, RC, rx, _, _, rfl, st3 _ _ pnx R.e, TR.cl, TR.nNm, rf_names, .inl ⟨rl, _, rfl, .inl (.inl (st3 _ _ lnx R.n)), fun na hna => ?_⟩⟩
    have sn := smU (o := HO.tup (nmV nm)) hna
    refine ⟨.ref x, rfl, x, C, dx, _, rfl, sn _ _ e3, T.cl, T.n5, (show 4 < 1000 by decide), ?_⟩
    have nna : na ≠ x := fun z => by
      rw [z, e3] at hna
      cases hna
    have kt5 : KT H1 (upd (upd H4 na (.tup (nmV nm))) x (.ins C dx (putF "names" (.ref na) ([("is_bound_left", V.bl l), ("tree", v), ("is_bound_right", V.bl r), ("string", .str (tx Z))] : List (Str × V))))) := (kt3.trans (KT.same sn)).trans (KT.ins (sn _ _ e3))
    have st5 : ∀ c o, c ≠ x → H1 c = some o → (upd (upd H4 na (.tup (nmV nm))) x (.ins C dx (putF "names" (.ref na) ([("is_bound_left", V.bl l), ("tree", v), ("is_bound_right", V.bl r), ("string", .str (tx Z))] : List (Str × V))))) c = some o := fun c o n e => by
      rw [upd_ne n]
      exact sn _ _ (st3 c o n e)
    have e5 : (upd (upd H4 na (.tup (nmV nm))) x (.ins C dx (putF "names" (.ref na) ([("is_bound_left", V.bl l), ("tree", v), ("is_bound_right", V.bl r), ("string", .str (tx Z))] : List (Str × V))))) x = some (.ins C dx ([("is_bound_left", V.bl l), ("tree", v), ("is_bound_right", V.bl r), ("string", .str (tx Z)), ("names", .ref na)] : List (Str × V))) := upd_same.trans rfl
    have en : (upd (upd H4 na (.tup (nmV nm))) x (.ins C dx (putF "names" (.ref na) ([("is_bound_left", V.bl l), ("tree", v), ("is_bound_right", V.bl r), ("string", .str (tx Z))] : List (Str × V))))) na = some (.tup (nmV nm)) := (upd_ne nna).trans upd_same
    generalize (upd (upd H4 na (.tup (nmV nm))) x (.ins C dx (putF "names" (.ref na) ([("is_bound_left", V.bl l), ("tree", v), ("is_bound_right", V.bl r), ("string", .str (tx Z))] : List (Str × V))))) = H5 at kt5 st5 e5 en ⊢
    refine ⟨.ref x, rfl, x, C, dx, _, v, rfl, e5, T.cl, T.n2, rfl, v, t, rfl, ot.mono kt5, hs, fun a4 H6 wo s6 => ?_⟩
    obtain ⟨pl, fi, la, be, h1, h2, h3, h4, h5⟩ := wo.ex
    have e6 := s6 _ _ e5
    refine ⟨a4, _, rfl, .inl (.inl h1), rfl, _, _, rfl, .ref x, rfl, x, C, dx, _, rfl, e6, T.cl, T.n6, (show 5 < 1000 by decide), _, _, rfl, .ref x, rfl, x, C, dx, _, rfl, upd_same, T.cl, T.n7, (show 6 < 1000 by decide), _, _, rfl, .ref x, rfl, x, C, dx, _, rfl, upd_same, T.cl, T.n8, (show 7 < 1000 by decide), _, _, rfl, .ref x, rfl, x, C, dx, _, rfl, upd_same, T.cl, T.n9, (show 8 < 1000 by decide), rfl, ?_⟩
    have kt6 : KT H6 _ := (((KT.ins (dx' := dx) (gs := putF "places" (.ref pl) ([("is_bound_left", V.bl l), ("tree", v), ("is_bound_right", V.bl r), ("string", .str (tx Z)), ("names", .ref na)] : List (Str × V))) e6).trans (KT.ins (dx' := dx) (gs := putF "first" (.ref fi) (putF "places" (.ref pl) ([("is_bound_left", V.bl l), ("tree", v), ("is_bound_right", V.bl r), ("string", .str (tx Z)), ("names", .ref na)] : List (Str × V)))) upd_same)).trans (KT.ins (dx' := dx) (gs := putF "last" (.ref la) (putF "first" (.ref fi) (putF "places" (.ref pl) ([("is_bound_left", V.bl l), ("tree", v), ("is_bound_right", V.bl r), ("string", .str (tx Z)), ("names", .ref na)] : List (Str × V))))) upd_same)).trans
      (KT.ins (dx' := dx) (gs := putF "later_places" (.ref be) (putF "last" (.ref la) (putF "first" (.ref fi) (putF "places" (.ref pl) ([("is_bound_left", V.bl l), ("tree", v), ("is_bound_right", V.bl r), ("string", .str (tx Z)), ("names", .ref na)] : List (Str × V)))))) upd_same)
    refine q _ ⟨dx, v, na, pl, fi, la, be, upd_same.trans rfl, ((ot.mono kt5).mono (KT.same s6)).mono kt6, kt6 _ _ (s6 _ _ en), kt6 _ _ h2, kt6 _ _ h3, kt6 _ _ h4, h5.mono kt6⟩ fun c o n e => ?_
    rw [upd_ne n, upd_ne n, upd_ne n, upd_ne n]
    exact s6 _ _ (st5 c o n (s1 _ _ e))
end
end Sf6
/-! A caught exception that is looked at behind its except suite: it stays pinned while the rest of the body runs. -/
namespace Sf
open PySem PySem.Spec PyProof.Rows L2
/-- what the clause wishes of an exception: ts reads the suite, te the rest of the body behind it -/
def wKeep (K : PySem.W.Frag) (m : Nat) (c : Value) (i : Nat) (ts te : Addr → Value → Option Addr → TS) (Wo : WX) (D : Ends) : WX := fun cls d σ H => σ.length = m →
  ∃ b, PySem.W.exmOne K cls c = some b ∧ (b = true → ∀ a, H a = none → ts a cls d { nx := fun σ' H' => te a cls d D (σ'.set i none) H', rt := fun _ _ => False } (σ.set i (some (.ref a))) H) ∧ (b = false → Wo cls d σ H)
section
variable {X : Cx} {x n : Str} {c : Value} {i : Nat} {body suite rest : List Stmt} {b0 : Stmt} {np pos pos' : Pos} {tb : WX → TS} {tr : TS} {ts te : Addr → Value → Option Addr → TS} {Wo : WX}
theorem keepPin {pins pn' : List (Addr × Obj)} {σ : L2.St} {H : Hp} {s : Shared} {q : Addr × Obj} {xe : Value → Shared → Prop} (I : Inv (X.tr (q :: (X.pn ++ pins)) xe) pn' σ H s) (ok : X.Ok) : Inv X pins σ H s :=
  ⟨ok, I.os, I.bare, I.base, I.loc, I.cell, I.free, I.freeC, fun p hp => I.pin p (List.mem_append_left _ (List.mem_cons_of_mem _ hp)), I.hok, I.len⟩
theorem pss_try_keep (hs : X.stack = X.env :: X.outer) (hf : X.env.frame = some X.env.locals) (hN : X.N.Nodup) (hi : X.N[i]? = some n) (hln : X.env.kindOf n = some .local) (hc : Names X x c) (tk : Takes X Wo)
    (hb : ∀ (W : WX) (pn : List (Addr × Obj)) (xe : Value → Shared → Prop), Takes (X.tr pn xe) W → PassesOwn (model X.prog X.w) X.A X.env xe → PSs (X.tr pn xe) body (tb W))
    (hsu : ∀ (a : Addr) (oe : Obj) (cls : Value) (d : Option Addr) (pn : List (Addr × Obj)), Zc cls d oe → (∃ vs, oe.data = .fields vs) → PSs (X.suite a ((a, oe) :: pn)) (b0 :: suite) (ts a cls d))
    (hr : PSs X rest tr)
    (hk : ∀ (a : Addr) (oe : Obj) (cls : Value) (d : Option Addr) (pn : List (Addr × Obj)), Zc cls d oe → (∃ vs, oe.data = .fields vs) → PSs (X.tr ((a, oe) :: pn) X.xe) rest (te a cls d)) :
    PSs X (.Try body [.ExceptHandler (some (.Name x np)) (some n) (b0 :: suite) pos'] [] [] pos :: rest) (fun D σ H => tb (wKeep X.K X.N.length c i ts te Wo D) { D with nx := tr D } σ H) := by
  refine ⟨fun pins st σ H D I prom => ?_⟩
  have ok := I.ok
  have frm : X.A.frames = some (X.env :: X.outer) := by
    rw [ok.frames, hs]
  -- what stands behind the try
  let End : Flow → Shared → Prop := fun fl sx => SP X pins { D with nx := tr D } fl sx ∨ (fl = .next ∧ ∃ (a : Addr) (oe : Obj) (cls : Value) (d : Option Addr) (σ' : L2.St) (H' : Hp), Zc cls d oe ∧ (∃ vs, oe.data = .fields vs) ∧ Inv (X.tr ((a, oe) :: (X.pn ++ pins)) X.xe) [] σ' H' sx ∧ te a cls d D σ' H')
  refine wpAny_execs_cons (wpAny_mono (Q := End) (E := X.xe) ?_ (fun fl sx done => ?_) fun _ _ z => z)
  · refine wpAny_Try_except ?_
    refine wpAny_mono ((hb (wKeep X.K X.N.length c i ts te Wo D) (X.pn ++ pins) (fun ex s1 => wpAny (model X.prog X.w) X.A (noteFrame ex X.env) (fun _ s2 => wpAny (model X.prog X.w) X.A (setFlight ex none) (fun _ s3 =>
      wpAny (model X.prog X.w) X.A (handleBy ex X.env [.ExceptHandler (some (.Name x np)) (some n) (b0 :: suite) pos']) End X.xe s3) X.xe s2) X.xe s1) (fun u sx air => ?_) PassesOwn.looking).run [] st σ H _ (I.toTry _) prom) (fun fl s1 done => ?_) (fun _ _ z => z)
    · obtain ⟨a, B, sI, pins', σ', H', cls, d, rfl, J0, nb, up, sky, na, os, ag, wk⟩ := air
      obtain ⟨b, hb1, yes, no⟩ := wk J0.len
      have J : Inv X pins σ' H' sI := J0.ofTry ok
      have sky2 : Sky B (X.env :: X.outer) a (Zc cls d) X.env.locals sx.heap := by
        rw [← hs]
        exact sky
      show wpAny (model X.prog X.w) X.A (noteFrame (.ref a) X.env) _ _ _
      refine Sky.land Zc.steady frm hf sky2 fun g3 fly3 up3 => ?_
      have J3 : Inv X pins σ' H' { sx with heap := g3 } := J.landed nb fly3.1 (up.trans up3) os ag
      obtain ⟨oe3, vs3, he3, hz3, hd3⟩ := fly3.there
      have out : a ∉ frs (X.env :: X.outer) := fun hm => by
        obtain ⟨_, o', e', hnf⟩ := fly3.2.2.1.mem hm
        rw [he3] at e'
        cases e'
        exact hnf _ hd3
      have nL : a ≠ X.env.locals := fun z => out (List.mem_filterMap.mpr ⟨X.env, List.mem_cons_self, by rw [hf, z]⟩)
      have nF : a ∉ X.fs := fun hm => by
        obtain ⟨ev, he, q⟩ := List.mem_filterMap.mp hm
        exact out (List.mem_filterMap.mpr ⟨ev, List.mem_cons_of_mem _ he, q⟩)
      have S3 := J3.suite he3 hd3 na nL nF
      refine wpAny_handleBy_cons (codeAny_handlers_test ?_) (fun q => nomatch q)
      have LT : PySem.W.Looks (model X.prog X.w) g3 (typeOf (.ref a)) cls := fun A Q E s k q => wpAny_typeOf_ref (k _ _ he3) (by rw [hz3.1]; exact q)
      have LM := PySem.W.exm_one (M := model X.prog X.w) J3.kIn LT hb1
      have named : ∀ {Q : Value → Shared → Prop} {E : Value → Shared → Prop}, Q c { sx with heap := g3 } → wpAny (model X.prog X.w) (X.A.mark (some (.ref a))) (eval (.Name x np) X.env) Q E { sx with heap := g3 } := fun {Q E} q => by
        obtain ⟨hg, hdb, hm | ⟨hm, hv, hnn⟩⟩ := hc
        · exact ld_glob (X := X.suite a ((a, oe3) :: (X.pn ++ pins))) S3 hg hm q hdb
        · exact ld_blt (X := X.suite a ((a, oe3) :: (X.pn ++ pins))) S3 hg hm hv q hnn hdb
      refine named (LM.here ?_)
      cases b with
      | true =>
        refine codeAny_handlers_suite_as (HandSPX.lands_againZ fly3 fun g4 fly4 up4 => ?_)
        have J4 : Inv X pins σ' H' { sx with heap := g4 } := J.landed nb fly4.1 ((up.trans up3).trans up4) os ag
        obtain ⟨oe4, vs4, he4, hz4, hd4⟩ := fly4.there
        have S4 := J4.suite he4 hd4 na nL nF
        refine store_ok (X := X.suite a ((a, oe4) :: (X.pn ++ pins))) (v := .ref a) S4 hN hi (.inl hln) rfl (fun s5 S5 => ?_) (.inr hln)
        refine wpAny_mono ((hsu a oe4 cls d (X.pn ++ pins) hz4 ⟨_, hd4⟩).run [] s5 _ H' _ S5 (yes rfl a na)) (fun fl s6 done => ?_) (fun _ _ z => False.elim z)
        match fl, done with
        | .next, ⟨σ6, H6, S6, q6⟩ =>
          have P6 : Inv (X.tr ((a, oe4) :: (X.pn ++ pins)) X.xe) [] σ6 H6 s6 := ⟨ok.toTry _ _, S6.os, S6.bare, S6.base, S6.loc, S6.cell, S6.free, S6.freeC, S6.pin, S6.hok, S6.len⟩
          exact gone_ok (X := X.tr ((a, oe4) :: (X.pn ++ pins)) X.xe) P6 hN hi hln fun s7 P7 => .inr ⟨rfl, a, oe4, cls, d, _, _, hz4, ⟨_, hd4⟩, P7, q6⟩
        | .ret u, ⟨_, _, _, _, _, z⟩ => exact z.elim
        | .brk, ⟨_, _, _, z⟩ => exact z.elim
        | .cont, ⟨_, _, _, z⟩ => exact z.elim
      | false =>
        show wpAny _ X.A (handleBy (.ref a) X.env []) _ _ _
        refine wpAny_handleBy_nil ?_
        obtain ⟨_, _, _, oe, vs, T, oT, ts', he, hz, hd, h1, hr2⟩ := id fly3
        unfold PySem.passOn
        refine wpAny_bind (wpAny_field he hd h1 ?_)
        rw [if_neg (show ¬ ((Value.ref T == Value.none) = true) from by simp)]
        have fin : wpAny (model X.prog X.w) X.A (setFlight (.ref a) X.env.frame) (fun _ s4 => wpAny (model X.prog X.w) X.A (throw (.ref a) : Sem Flow) End X.xe s4) X.xe { sx with heap := g3 } := by
          rw [hf]
          exact HandSPX.setFlight_upZ fly3 fun g4 held4 up4 => wpAny_throw (tk _ _ ⟨a, B, sI, pins, σ', H', cls, d, rfl, J, nb, (up.trans up3).trans up4, .inr (.inr (by rw [hs]; exact held4)), na, os, ag, no rfl⟩)
        first
          | exact wpAny_bind (wpAny_pure (wpAny_bind fin))
          | exact wpAny_bind fin
    · match fl, done with
      | .next, ⟨σ', H', J', q⟩ => exact wpAny_execs_nil (.inl ⟨σ', H', J'.ofTry ok, q⟩)
      | .brk, ⟨σ', H', J', q⟩ => exact .inl ⟨σ', H', J'.ofTry ok, q⟩
      | .cont, ⟨σ', H', J', q⟩ => exact .inl ⟨σ', H', J'.ofTry ok, q⟩
      | .ret u, ⟨v, σ', H', J', rv, q⟩ => exact .inl ⟨v, σ', H', J'.ofTry ok, rv, q⟩
  · rcases done with done | ⟨rfl, a, oe, cls, d, σ', H', hz, hv, P, q⟩
    · match fl, done with
      | .next, ⟨σ', H', J', q⟩ => exact hr.run pins sx σ' H' D J' q
      | .brk, done => exact done
      | .cont, done => exact done
      | .ret u, done => exact done
    · refine wpAny_mono ((hk a oe cls d (X.pn ++ pins) hz hv).run [] sx σ' H' D P q) (fun fl s8 done => ?_) fun _ _ z => z
      match fl, done with
      | .next, ⟨σ', H', J', q⟩ => exact ⟨σ', H', keepPin J' ok, q⟩
      | .brk, ⟨σ', H', J', q⟩ => exact ⟨σ', H', keepPin J' ok, q⟩
      | .cont, ⟨σ', H', J', q⟩ => exact ⟨σ', H', keepPin J' ok, q⟩
      | .ret u, ⟨v, σ', H', J', rv, q⟩ => exact ⟨v, σ', H', keepPin J' ok, rv, q⟩
end
/-! ### looking at a pinned exception -/
section
variable {X : Cx} {a D dd : Addr} {oe : Obj}
theorem pin_at {pins : List (Addr × Obj)} {σ : L2.St} {H : Hp} {s : Shared} (I : Inv X pins σ H s) (hp : (a, oe) ∈ X.pn) (hz : Zc (.ref D) (some dd) oe) (hf : ∃ vs, oe.data = .fields vs) {fs : List (Str × V)} (ed : H dd = some (.xd fs)) :
    ∃ (od : Obj) (mA : Str → Option Value), PySem.W.InstAt s.heap a oe D (some od) ∧ (∀ n, PySem.W.lookIn n od = some (mA n)) ∧ ∀ n, RelO (fs.lookup n) (mA n) := by
  obtain ⟨ha, _⟩ := I.pin (a, oe) (List.mem_append_left _ hp)
  obtain ⟨vs, hd⟩ := hf
  have hx : ObjOk X.prog X.w H s.heap dd (.xd fs) := I.hok dd _ ed
  obtain ⟨mA, hns, hr⟩ := hx
  obtain ⟨od, ho, hl⟩ := lookIn_ns hns
  exact ⟨od, mA, ⟨ha, hz.1, by unfold PySem.W.notCls; rw [hd] <;> rfl, by rw [hz.2]; exact ho⟩, fun n => hl n, hr⟩
/-- isinstance(e, C) -/
def rIsP (K : PySem.W.Frag) (a D dd : Addr) : List V → Hp → VK → Prop := fun xs H Q => ∃ (c : V) (cv : Value) (b : Bool) (fs : List (Str × V)), xs = [.ref a, c] ∧ ClsV c cv ∧ H dd = some (.xd fs) ∧ PySem.W.kitOne K (.ref D) cv = some b ∧ Q (.bl b) H
theorem call_isP (C : ExcC X.K D) (hp : (a, oe) ∈ X.pn) (hz : Zc (.ref D) (some dd) oe) (hf : ∃ vs, oe.data = .fields vs) : CallR X (.builtin "isinstance") (rIsP X.K a D dd) := by
  intro pins s σ H xs us Q I r h
  obtain ⟨c, cv, b, fs, rfl, kc, ed, e, q⟩ := h
  obtain ⟨u1, u2, rfl, r1, r2⟩ := vals2 r
  obtain rfl : u1 = Value.ref a := r1
  have e2 := kc.eq r2
  subst e2
  obtain ⟨od, mA, J, _, _⟩ := pin_at I hp hz hf ed
  have hcl : (PySem.W.clsIn X.K D).isSome = true := by
    obtain ⟨cd, hc, _⟩ := PySem.W.any_some C.hd
    rw [hc] <;> rfl
  exact PySem.W.kia_one (PySem.W.kitx_exc hcl C.hg C.hk C.hs C.ha C.hn C.ht C.hm) I.kIn J e (fun z => nomatch z) fun tk => ⟨.bl b, H, I.tok tk, rfl, q⟩
/-- isinstance(e, (C1, C2, ..)) -/
def rIsPT (K : PySem.W.Frag) (a D dd : Addr) : List V → Hp → VK → Prop := fun xs H Q => ∃ (tp : Addr) (cs : List V) (vs : List Value) (b : Bool) (fs : List (Str × V)), xs = [.ref a, .ref tp] ∧ H tp = some (.tup cs) ∧ Paired ClsV cs vs ∧ H dd = some (.xd fs) ∧ PySem.W.kitAny K (.ref D) vs = some b ∧ Q (.bl b) H
theorem call_isPT (C : ExcC X.K D) (hp : (a, oe) ∈ X.pn) (hz : Zc (.ref D) (some dd) oe) (hf : ∃ vs, oe.data = .fields vs) : CallR X (.builtin "isinstance") (rIsPT X.K a D dd) := by
  intro pins s σ H xs us Q I r h
  obtain ⟨tp, cs, ws, b, fs, rfl, hT, kc, ed, e, q⟩ := h
  obtain ⟨u1, u2, rfl, r1, r2⟩ := vals2 r
  obtain rfl : u1 = Value.ref a := r1
  obtain rfl : u2 = Value.ref tp := r2
  obtain ⟨od, mA, J, _, _⟩ := pin_at I hp hz hf ed
  have hcl : (PySem.W.clsIn X.K D).isSome = true := by
    obtain ⟨cd, hc, _⟩ := PySem.W.any_some C.hd
    rw [hc] <;> rfl
  obtain ⟨_, its, rv, o, h1, h2, n, h3⟩ := (show ObjOk X.prog X.w H s.heap tp (.tup cs) from I.hok tp _ hT)
  have e3 := ClsV.all kc rv
  subst e3
  obtain ⟨oc, od2, dt, sl⟩ := o
  simp only at h2 h3
  subst h2 h3
  exact PySem.W.kia_tup (PySem.W.kitx_exc hcl C.hg C.hk C.hs C.ha C.hn C.ht C.hm) I.kIn J h1 e (fun z => nomatch z) fun tk => ⟨.bl b, H, I.tok tk, rfl, q⟩
/-- e.n -/
def tFieldP (a dd : Addr) (f : Str) (te : TE) : TE := fun σ H Q => te σ H fun x H1 => x = .ref a ∧ ∃ (fs : List (Str × V)) (v : V), H1 dd = some (.xd fs) ∧ fs.lookup f = some v ∧ Q v H1
theorem pe_fieldP {e : Expr} {te : TE} {pos : Pos} {n : Str} (T : XfC X.K D) (hno : PySem.W.findIn X.K (.ref D) n = some none) (hp : (a, oe) ∈ X.pn) (hz : Zc (.ref D) (some dd) oe) (hf : ∃ vs, oe.data = .fields vs) (he : PE X e te)
    (hb : attributeBase e n X.env (eval e X.env) = eval e X.env := by rfl) : PE X (.Attribute e n pos) (tFieldP a dd n te) :=
  ⟨fun pins s σ H Q I h => attr_of hb (thn (he.run pins s σ H _ I h) fun u s1 ⟨x, H1, I1, rx, ex, fs, v, ed, l, q⟩ => by
    subst ex
    obtain rfl : u = Value.ref a := rx
    obtain ⟨od, mA, J, hl, hr⟩ := pin_at I1 hp hz hf ed
    obtain ⟨u, hu, ru⟩ := RelO.some_of (v := v) (o := mA n) (by rw [← l]; exact hr n)
    exact HandSPX.exc_get I1.kIn J T.ga T.gg T.exC (PySem.W.findObj_own T.hdC hno rfl (by rw [hl n, hu])) (handed_of ru) ⟨v, H1, I1.tok _, ru, q⟩)⟩
end
end Sf
/-! The end of a claim whose law knows that no repr is under way, and in which one def makes lambdas: its table of code objects is tracked. -/
namespace Sf
open PySem PySem.Spec PyProof.Rows L2 LamX
section
variable {P : Program} {w : World} {K : PySem.W.Frag} {mg : Str → Option Value} {base : Heap}
theorem law_callGT {mb : Str → Option Value} {k : Nat} {fa a c T : Addr} {fd : FuncData} {x : Str} {sp : Sp} {sh : Shared} {us : List Value} {ns : List Int} (KX : K.In sh.heap) (hm : sh.heap.Ns mainGlobals mg) (hb : sh.heap.Ns builtinsNs mb) (hbb : ∀ y : Str, y ≠ "__name__" → mb y = bootBuiltins y)
    (lim : sh.heap.NoLimit) (gens : sh.gens = #[]) (hT : sh.heap.get? T = some { cls := .none, data := .fields #[] }) (nT : K.lookup T = none) (hcd : PySem.W.codeHdIn K c T = true)
    (hbm : ∃ (bm : Addr) (ob : Obj), mg "__builtins__" = some (.ref bm) ∧ bm ≠ builtinsNs ∧ sh.heap.get? bm = some ob ∧ ob.cls = .type "module" ∧ ob.dict = some builtinsNs ∧ ob.data = .plain)
    (at_ : sh.heap.get? a = some { cls := .type "list", data := .seq us.toArray }) (hints : IntsAre us ns) (fits : ns.length ≤ sizeLine) (room : Room k callerA)
    (F : ∀ b : Heap, K.In b → b.Ns mainGlobals mg → TabB b mg c T → FnG P w K mg b k fa fd [x] sp) (bind : ∀ (s : Shared) (u : Value), BindsTo s fd ⟨[u], []⟩ [(x, u)]) (prom : ∀ Hh : Hp, Hh T = some (.tbl #[]) → SqL K Hh a (ns.map V.int) → sp [.ref a] Hh (fun v _ => v = .bl true) E0) :
    codeAny (model P w) callerA (.call (.ref fa) ⟨[.ref a], []⟩) (fun r s' => r = .ok (.ret (.bool true)) ∧ OldK sh.heap s'.heap ∧ s'.os = sh.os ∧ AllBare s'.gens) sh := by
  have rel := vals_ints hints
  have lens : us.length ≤ sizeLine := by
    rw [hints.length]
    exact fits
  have aT : a ≠ T := fun z => by
    rw [z, hT] at at_
    have y : Data.fields #[] = Data.seq us.toArray _ := congrArg Obj.data (Option.some.inj at_)
    cases y
  -- tracked: the table, and the script's list unless the module has it
  obtain ⟨Hh, only, tabAt, hS⟩ : ∃ Hh : Hp, (∀ b u, Hh b = some u → (b = a ∧ K.lookup a = none ∧ u = .frz { cls := .type "list", data := .seq us.toArray } (.lst (ns.map V.int))) ∨ (b = T ∧ u = .tbl #[])) ∧ Hh T = some (.tbl #[]) ∧ SqL K Hh a (ns.map V.int) := by
    cases hk : K.lookup a with
    | some ob =>
      obtain rfl : ob = _ := Option.some.inj ((KX a ob hk).symm.trans at_)
      refine ⟨fun b => if b = T then some (.tbl #[]) else none, fun b u z => ?_, if_pos rfl, .inr ⟨_, us.toArray, _, hk, rfl, rfl, rfl, by rw [List.size_toArray]; exact lens, by simpa using rel⟩⟩
      dsimp only at z
      by_cases e : b = T
      · rw [if_pos e] at z
        exact .inr ⟨e, (Option.some.inj z).symm⟩
      · rw [if_neg e] at z
        cases z
    | none =>
      refine ⟨fun b => if b = a then some (.frz { cls := .type "list", data := .seq us.toArray } (.lst (ns.map V.int))) else if b = T then some (.tbl #[]) else none, fun b u z => ?_, ?_, .inl (.inr ⟨_, if_pos rfl⟩)⟩
      · dsimp only at z
        by_cases e : b = a
        · rw [if_pos e] at z
          exact .inl ⟨e, rfl, (Option.some.inj z).symm⟩
        · rw [if_neg e] at z
          by_cases e2 : b = T
          · rw [if_pos e2] at z
            exact .inr ⟨e2, (Option.some.inj z).symm⟩
          · rw [if_neg e2] at z
            cases z
      · dsimp only
        rw [if_neg aT.symm, if_pos rfl]
  have notK : ∀ b o, K.lookup b = some o → Hh b = none := fun b o e => by
    cases q : Hh b with
    | none => rfl
    | some u =>
      rcases only b u q with ⟨e1, e2, _⟩ | ⟨e1, _⟩
      · rw [e1, e2] at e
        cases e
      · rw [e1, nT] at e
        cases e
  have notO : ∀ (b : Addr) (o : Obj), sh.heap.get? b = some o → (∀ vs n, o.data ≠ .seq vs n) → o.data ≠ .fields #[] → Hh b = none := fun b o e h1 h2 => by
    cases q : Hh b with
    | none => rfl
    | some u =>
      rcases only b u q with ⟨e1, _, _⟩ | ⟨e1, _⟩
      · rw [e1, at_] at e
        cases e
        exact absurd rfl (h1 _ _)
      · rw [e1, hT] at e
        cases e
        exact absurd rfl h2
  have notD : ∀ (b : Addr) (o : Obj) (es : Array DictEntry) (ep : Nat), sh.heap.get? b = some o → o.data = .dict es ep → Hh b = none := fun b o es ep e d => notO b o e (fun vs n z => by rw [d] at z; cases z) fun z => by rw [d] at z; cases z
  have space : ∀ {b : Addr} {m : Str → Option Value}, sh.heap.Ns b m → (hidT sh.heap Hh).Ns b m := fun {b m} ⟨o, es, ep, e, d, r⟩ => ⟨o, es, ep, hidT_get e (notD b o es ep e d), d, r⟩
  have inB : K.In (hidT sh.heap Hh) := fun b o e => hidT_get (KX b o e) (notK b o e)
  have md : Mod K mg (hidT sh.heap Hh) := ⟨inB, space hm, ⟨mb, space hb, hbb⟩, lim.elim fun mc z => ⟨mc, space z.1, z.2⟩⟩
  have tb : TabB (hidT sh.heap Hh) mg c T := by
    obtain ⟨bm, ob, b1, b2, b3, b4, b5, b6⟩ := hbm
    obtain ⟨og, es, ep, eg, dg, _⟩ := hm
    refine NdefX.tabB_of_K inB hcd ⟨bm, ob, b1, b2, fun z => ?_, fun z => ?_, hidT_get b3 (notO bm ob b3 (fun vs n z => by rw [b6] at z; cases z) fun z => by rw [b6] at z; cases z), b4, b5, b6⟩ fun z => ?_
    · rw [z, eg] at b3
      cases b3
      rw [dg] at b6
      cases b6
    · rw [z, hT] at b3
      cases b3
      cases b6
    · rw [z, hT] at eg
      cases eg
      cases dg
  have held : HOk P w Hh sh.heap := fun b u z => by
    rcases only b u z with ⟨e1, _, e3⟩ | ⟨e1, e3⟩
    · subst e1
      subst e3
      exact ⟨at_, by rw [List.length_map]; exact fits, us, _, rel, at_⟩
    · subst e1
      subst e3
      exact hT
  have e0 : Env0 P w K mg (hidT sh.heap Hh) callerA [] sh Hh := ⟨rfl, md, fun b o e => of_hidT e, Nat.le_of_eq (hidT_size _ _), trivial, (fun b z => nomatch z), held, .of_eq gens⟩
  refine codeAny_mono ((F _ inB (space hm) tb).go callerA [] sh Hh ⟨[.ref a], []⟩ [.ref a] [.ref a] _ _ room rfl e0 (bind sh (.ref a)) (.cons rfl .nil) (prom Hh tabAt hS)) fun r s2 done => ?_
  match r, done with
  | .error ex, z => exact absurd z (by
      intro z
      exact z)
  | .ok .next, z => exact z.elim
  | .ok .brk, z => exact z.elim
  | .ok .cont, z => exact z.elim
  | .ok (.ret u), ⟨v, H2, os, bare, un, held2, rv, qv⟩ =>
    obtain rfl : v = .bl true := qv
    obtain rfl : u = Value.bool true := rv
    have stay : ∀ b o, b ≠ T → sh.heap.get? b = some o → s2.heap.get? b = some o := fun b o nb e => by
      cases q : Hh b with
      | none => exact un.keep b o e q (fun z => nomatch z) (fun z => nomatch z)
      | some t =>
        rcases only b t q with ⟨e1, _, e3⟩ | ⟨e1, _⟩
        · rw [e3] at q
          obtain ⟨g1, _⟩ := held b _ q
          obtain ⟨g2, _⟩ := held2 b _ (un.frzs b _ _ q)
          rw [e] at g1
          cases g1
          exact g2
        · exact absurd e1 nb
    obtain ⟨more, grown⟩ := un.tbls T #[] tabAt
    have grown2 : s2.heap.get? T = some { cls := .none, data := .fields (#[] ++ more) } := held2 T _ grown
    refine ⟨rfl, ⟨fun b o e => ?_, fun b o e => ?_⟩, os, bare⟩
    · by_cases nb : b = T
      · subst nb
        rw [hT] at e
        cases e
        exact .inr (.inl ⟨((PySem.W.codeHd_of_K KX hcd).tab hT).isCodeTable, rfl, #[], more, rfl, grown2⟩)
      · exact .inl (stay b o nb e)
    · by_cases nb : b = T
      · subst nb
        exact ⟨_, grown2⟩
      · exact ⟨o, stay b o nb e⟩
theorem walk_GT {l : PySem.W.OpenLaw} {n k : Nat} {q : Program} {loose : List Str} {XP : (Str → Option Value) → Heap → Prop} {YP : World → Heap → Prop} {d : DefRec} {KK : Params → PySem.W.Frag} {sp : World → Addr → Sp} {x nR : Str} (most : l.most = some n) (few : n ≤ sizeLine) (nodef : d.params.defaults = []) (room : Room k callerA)
    (hrec : ((recsOf q).any fun e => e.name == nR) = true) (hY : ∀ (w : World) (h : Heap), YP w h → (KK w.params).In h)
    (F : ∀ (w : World) (mg : Str → Option Value) (fa : Addr) (h : Heap), (KK w.params).In h → h.Ns mainGlobals mg → mg d.name = some (.ref fa) →
      ∃ (fd fdR : FuncData) (c T fR : Addr) (o : Obj) (e : Value) (dd : Option Addr) (vs : Array Value) (sl : Array (Option Value)), (KK w.params).lookup T = none ∧ PySem.W.codeHdIn (KK w.params) c T = true ∧ mg nR = some (.ref fR) ∧ (KK w.params).lookup fR = some o ∧ o.data = .func fdR ∧ fdR.code = .ref c ∧
        (KK w.params).lookup c = some ⟨e, dd, .fields vs, sl⟩ ∧ vs[11]? = some (.ref T) ∧ (∀ (s : Shared) (u : Value), BindsTo s fd ⟨[u], []⟩ [(x, u)]) ∧ ∀ b : Heap, (KK w.params).In b → b.Ns mainGlobals mg → TabB b mg c T → FnG l.prog w (KK w.params) mg b k fa fd [x] (sp w T))
    (prom : ∀ (w : World) (T : Addr) (Hh : Hp) (a : Addr) (ns : List Int), ns.length ≤ n → Hh T = some (.tbl #[]) → SqL (KK w.params) Hh a (ns.map V.int) → sp w T [.ref a] Hh (fun v _ => v = .bl true) E0) :
    PySem.W.WalkO q loose XP YP l.row.toRowW d [] (fun f vs => PySem.call f vs) :=
  Att.attach_call most nodef fun w s0 s1 mg mb fa o pm cd doc a vs ns G Y _ _ _ hmg hobj hints hlen hg => by
    have KX := hY w _ Y
    obtain ⟨fd, fdR, c, T, fR, oR, e, dd, us, sl, nT, hcd, g1, k1, k2, k3, k4, k5, bind, hF⟩ := F w mg fa _ KX G.T.g hmg
    obtain ⟨dR, hd1, hd2⟩ := List.any_eq_true.mp hrec
    have hd3 : dR.name = nR := beq_iff_eq.mp hd2
    obtain ⟨a', o', fd', c', T', h1, h2, h3, h4, h5, h6⟩ := G.T.tab dR hd1
    rw [hd3, g1] at h1
    cases h1
    have q1 := KX _ _ k1
    rw [q1] at h2
    cases h2
    rw [k2] at h3
    cases h3
    rw [k3] at h4
    cases h4
    obtain ⟨⟨oc, vc, e1, _, e3, e4⟩, hP⟩ := h6
    have q2 := KX _ _ k4
    rw [q2] at e1
    cases e1
    cases e3
    rw [k5] at e4
    cases e4
    exact law_callGT KX G.T.g G.T.b G.T.builtins G.T.nolimit hg hP nT hcd G.T.bmain hobj hints (Nat.le_trans hlen few) room hF bind fun Hh hH hS => prom w T Hh a ns hlen hH hS
end
end Sf
namespace Sf6
open PySem PySem.Spec PyProof.Rows L2 Sf Sf4 LamX
theorem _root_.L2.Same.upd {H : Hp} {p : Addr} {o : HO} (h : H p = none) : Same H (upd H p o) := fun b u e => by
  rw [upd_ne (ne_of_none e h)]
  exact e
def tld : Str := Str.ofString "told"
def bad : Str := Str.ofString "bad"
abbrev sMet : Stmt := topS 52
def NMet : List Str := ["_law_ask", "_law_caught", "_law_told", "error", "_law_is_due"]
theorem scMet : FnScope NMet ["_law_ask"] (defScope sMet) := ⟨rfl, rfl, rfl, by decide +kernel, rfl, by decide +kernel, by decide +kernel⟩
/-- the classes that _law_met names -/
structure MetC (K : PySem.W.Frag) (mg : Str → Option Value) (D S N1 N2 : Addr) : Prop where
  ex : ExcC K D
  xf : XfC K D
  noVal : PySem.W.findIn K (.ref D) "value" = some none
  gS : mg "SiftError" = some (.ref S)
  gD : mg "BadPattern" = some (.ref D)
  g1 : mg "NoName" = some (.ref N1)
  g2 : mg "BadQuestion" = some (.ref N2)
  m0 : PySem.W.exmOne K (.ref D) (.ref S) = some true
  m1 : PySem.W.kitOne K (.ref D) (.ref D) = some true
  m2 : PySem.W.kitOne K (.ref D) (.type "ValueError") = some true
  m3 : PySem.W.kitAny K (.ref D) [.ref N1, .ref N2] = some false
  mi : mg "isinstance" = none
  mv : mg "ValueError" = none
/-- what _law_met makes of the reading of the lambda that it got -/
def TMet (D : Addr) : (XK → Hp → VK → Prop) → Hp → VK → Prop := fun tl H Q => ∀ (H1 : Hp) (E' : XK) (Q' : VK), Same H H1 →
  (∀ (dd : Addr) (v : V) (H' : Hp), H' dd = some (.xd [("value", v)]) → (∀ T H'', H' T = none → Same H' H'' → H'' T = some (.tup [.str bad, v]) → Q (.ref T) H'') → E' (.ref D) (some dd) H') →
  (∀ (v : V) (H' : Hp), (∀ T H'', H' T = none → Same H' H'' → H'' T = some (.tup [.str tld, v]) → Q (.ref T) H'') → Q' v H') → tl E' H1 Q'
theorem list5 {σ : L2.St} (h : σ.length = 5) : ∃ a b c d e, σ = [a, b, c, d, e] := by
  match σ, h with
  | [a, b, c, d, e], _ => exact ⟨a, b, c, d, e, rfl⟩
def teMet (D : Addr) : Addr → Value → Option Addr → TS := fun a cls d Dn σ Hh => ∃ (dd : Addr) (v : V), cls = .ref D ∧ d = some dd ∧ Hh dd = some (.xd [("value", v)]) ∧ (∃ y0 y2 y4, σ = [y0, some (.ref a), y2, none, y4]) ∧
  ∀ T H'', Hh T = none → Same Hh H'' → H'' T = some (.tup [.str bad, v]) → Dn.rt (.ref T) H''
abbrev Zm (X : Cx) (g : Addr) (cdg : Value) (s : Shared) (H : Hp) : Cx := (cxOf C8.CX0 X.prog X.w X.K X.mg X.base NMet "_law_met" (defScope sMet) g cdg X.A X.stack s H C8.E0).nox
theorem met_gives {X : Cx} {D S N1 N2 g : Addr} {cdg : Value} {q : Str} (C : MetC X.K X.mg D S N1 N2) : GivesTo X NMet "_law_met" (defScope sMet) g cdg (defBody sMet) "_law_ask" q (TMet D) := by
  intro f c' s H Q tl act hc h
  refine ⟨_, pss_cons (ps_asg (pe_tup (pa_cons pe_non (pa_cons pe_non pa_nil))) (pg_tup rfl (pgs_cons (pg_name (i := 1) scMet.nd rfl (.inl rfl)) (pgs_cons (pg_name (i := 2) scMet.nd rfl (.inl rfl)) pgs_nil))))
    (pss_try_keep (i := 3) (c := .ref S) (Wo := fun _ _ _ _ => False) (te := teMet D) (ts := fun _ _ _ => tAsg (tVar 3) (gName 1))
      (tb := fun W Dn σ Hh => ∃ Ech : XK, (∀ cls d σ' H', Ech cls d H' → W cls d σ' H') ∧ tAsg (fun σZ HZ Q' => σZ[0]? = some (some (.ref f)) ∧ HZ c' = some (CodeO c' q) ∧ tl Ech HZ Q') (gName 2) Dn σ Hh)
      rfl rfl scMet.nd rfl rfl ⟨rfl, rfl, .inl C.gS⟩ L2.takes0 (fun W pn xe tk _ => ?_) (fun a oe cls d pn _ _ => pss_one (ps_set (i := 1) scMet.nd rfl (.inl rfl) (pv 3)))
      (pss_cons (ps_if (pt_cmpR op_isN (pv 1) pe_non (nomark _)) (pss_one (ps_ret (pe_tup (pa_cons pe_str (pa_cons (pv 2) pa_nil))))) pss_nil) pss_never)
      (fun a oe cls d pn hz hf => ?_)), ?_⟩
  · refine ⟨fun pins s' σ H' Dn I h' => ?_⟩
    obtain ⟨Ech, hW, h1⟩ := h'
    exact (pss_one (ps_set (i := 2) scMet.nd rfl (.inl rfl) (act W pn xe Ech _ _ tk hW))).run pins s' σ H' Dn I h1
  · refine ⟨fun pins s' σ H' Dn I h' => ?_⟩
    obtain ⟨dd, v, rfl, rfl, ed, ⟨y0, y2, y4, rfl⟩, q1⟩ := h'
    have hp : (a, oe) ∈ (a, oe) :: pn := List.mem_cons_self
    have fin : ∀ t, PSs ((Zm X g cdg s H).tr ((a, oe) :: pn) (Zm X g cdg s H).xe) ((defBody sMet).drop 2) t → t Dn [y0, some (.ref a), y2, none, y4] H' →
      wpAny (model X.prog X.w) (Zm X g cdg s H).A (execs ((defBody sMet).drop 2) (Zm X g cdg s H).env) (SP ((Zm X g cdg s H).tr ((a, oe) :: pn) (Zm X g cdg s H).xe) pins Dn) (Zm X g cdg s H).xe s' := fun t h1 h2 => h1.run pins s' _ H' Dn I h2
    refine fin _ (pss_cons (ps_if (pt_cmpR op_isN (pv 1) pe_non (nomark _)) pss_never pss_nil)
      (pss_cons (ps_set (i := 4) scMet.nd rfl (.inl rfl) (pe_and (pe_callB (call_isP C.ex hp hz hf) (by rfl) C.mi PyProof.Rows.boot_isinstance (pa_cons (pv 1) (pa_cons (pe_glob (v := .ref D) (by rfl) C.gD rfl) pa_nil)))
        (pe_one (pe_callB (call_isP C.ex hp hz hf) (by rfl) C.mi PyProof.Rows.boot_isinstance (pa_cons (pv 1) (pa_cons (pe_bltn (by rfl) C.mv PyProof.Rows.Boot.«ValueError» (v := .ty "ValueError") rfl) pa_nil))))))
      (pss_cons (ps_if (PW.pt (pw_or (pt_not (pt_val (pv 4))) (pw_or1 (pt_val (pe_callB (call_isPT C.ex hp hz hf) (by rfl) C.mi PyProof.Rows.boot_isinstance (pa_cons (pv 1) (pa_cons (pe_tup (pa_cons (pe_glob (v := .ref N1) (by rfl) C.g1 rfl) (pa_cons (pe_glob (v := .ref N2) (by rfl) C.g2 rfl) pa_nil))) pa_nil)))))))
          pss_never pss_nil)
      (pss_one (ps_ret (pe_tup (pa_cons pe_str (pa_cons (pe_fieldP C.xf C.noVal hp hz hf (pv 1)) pa_nil)))))))) ?_
    refine ⟨.ref a, rfl, rfl, _, rfl, ite2 (fun z => ?_) (fun _ => ?_)⟩
    · cases (of_decide_eq_true z)
    refine ⟨.ref a, rfl, .ref D, .ref D, true, _, rfl, .own D, ed, C.m1, true, rfl, iteT ?_⟩
    refine ⟨.ref a, rfl, .ty "ValueError", .type "ValueError", true, _, rfl, .ty _, ed, C.m2, ?_⟩
    refine ⟨.bl true, rfl, true, rfl, iteF ?_⟩
    refine ⟨.ref a, rfl, (show 2 ≤ sizeLine by decide), fun T2 n2 => ?_⟩
    have nd2 : dd ≠ T2 := fun z => by
      rw [z, n2] at ed
      cases ed
    have ed2 : upd H' T2 (.tup [.ref N1, .ref N2]) dd = some (.xd [("value", v)]) := by
      rw [upd_ne nd2]
      exact ed
    refine ⟨T2, [.ref N1, .ref N2], [.ref N1, .ref N2], false, _, rfl, upd_same, .cons (.own N1) (.cons (.own N2) .nil), ed2, C.m3, false, rfl, iteF ?_⟩
    refine ⟨.ref a, rfl, rfl, _, v, ed2, rfl, (show 2 ≤ sizeLine by decide), fun T nT => ?_⟩
    have s2 := Same.upd (o := HO.tup [.ref N1, .ref N2]) n2
    exact q1 T _ (s2.free nT) (s2.trans (Same.upd nT)) upd_same
  · refine ⟨(show 2 ≤ sizeLine by decide), fun T0 n0 => ⟨T0, _, rfl, .inl (.inl upd_same), rfl, _, _, rfl, _, _, rfl, rfl, ?_⟩⟩
    have s0 := Same.upd (o := HO.tup [.non, .non]) n0
    refine ⟨fun cls d H' => cls = .ref D ∧ ∃ (dd : Addr) (v : V), d = some dd ∧ H' dd = some (.xd [("value", v)]) ∧ ∀ T H'', H' T = none → Same H' H'' → H'' T = some (.tup [.str bad, v]) → Q (.ref T) H'', fun cls d σ' H' hE hlen => ?_, rfl, s0 _ _ hc, h _ _ _ s0 (fun dd v H' e q1 => ⟨rfl, dd, v, rfl, e, q1⟩) (fun v H' q1 => ?_)⟩
    · obtain ⟨rfl, dd, v, rfl, e, q1⟩ := hE
      obtain ⟨y0, y1, y2, y3, y4, rfl⟩ := list5 hlen
      exact ⟨true, C.m0, fun _ a na => ⟨.ref a, rfl, dd, v, rfl, rfl, e, ⟨_, _, _, rfl⟩, q1⟩, fun z => nomatch z⟩
    · refine ⟨.non, rfl, rfl, _, rfl, ite2 (fun _ => ?_) (fun z => absurd (decide_eq_true rfl) z)⟩
      exact ⟨v, rfl, (show 2 ≤ sizeLine by decide), fun T nT => q1 T _ nT (Same.upd nT) upd_same⟩
end Sf6
/-! The law's pot: drawn numbers. -/
namespace Sf4
open PySem PySem.Spec PyProof.Rows L2 Sf
abbrev sPot : Stmt := topS 34
abbrev sDraw : Stmt := topS 35
abbrev sAny : Stmt := topS 36
abbrev sLets : Stmt := topS 37
theorem scPot : FnScope ["_law_script", "_law_k", "_law_cell", "_law_own"] ["_law_script", "_law_k"] (defScope sPot) := ⟨rfl, rfl, rfl, by decide +kernel, rfl, by decide +kernel, by decide +kernel⟩
theorem scDraw : FnScope ["_law_pot_here", "_law_many", "_law_digit", "_law_prime", "_law_made"] ["_law_pot_here", "_law_many"] (defScope sDraw) := ⟨rfl, rfl, rfl, by decide +kernel, rfl, by decide +kernel, by decide +kernel⟩
theorem scAny : FnScope ["_law_pot_here", "_law_items"] ["_law_pot_here", "_law_items"] (defScope sAny) := ⟨rfl, rfl, rfl, by decide +kernel, rfl, by decide +kernel, by decide +kernel⟩
theorem scLets : FnScope [] [] (defScope sLets) := ⟨rfl, rfl, rfl, by decide +kernel, rfl, by decide +kernel, by decide +kernel⟩
theorem str_len (x : Str) : x.length = x.cps.toList.length := TL.len_tl x
/-! ### the pot -/
/-- a pot out of which at most n mixed numbers were drawn -/
def Pot (H : Hp) (p : Addr) (n : Int) : Prop := ∃ a b c : Int, H p = some (.lst [.int a, .int b, .int c]) ∧ 0 ≤ a ∧ 0 ≤ b ∧ b < 2305843009213693951 ∧ 0 ≤ c ∧ c ≤ n
theorem Pot.mono {H : Hp} {p : Addr} {n m : Int} (h : Pot H p n) (l : n ≤ m) : Pot H p m := by
  obtain ⟨a, b, c, e, h1, h2, h3, h4, h5⟩ := h
  exact ⟨a, b, c, e, h1, h2, h3, h4, by omega⟩
/-- all but the pot stands as it stood -/
def Kp (p : Addr) (H H' : Hp) : Prop := ∀ b o, b ≠ p → H b = some o → H' b = some o
theorem Kp.refl (p : Addr) (H : Hp) : Kp p H H := fun _ _ _ h => h
theorem Kp.trans {p : Addr} {H H1 H2 : Hp} (a : Kp p H H1) (b : Kp p H1 H2) : Kp p H H2 := fun c o n h => b c o n (a c o n h)
theorem Kp.same {p : Addr} {H H1 : Hp} (a : Same H H1) : Kp p H H1 := fun c o _ h => a c o h
theorem Kp.pot {p : Addr} {H : Hp} {o : HO} : Kp p H (upd H p o) := fun c u n h => by
  rw [upd_ne n]
  exact h
theorem sq_le {c : Int} (h0 : 0 ≤ c) (h1 : c ≤ 1000000) : 0 ≤ 99991 * c * c ∧ 99991 * c * c ≤ 99991000000000000 := by
  have h2 : 0 ≤ c * c := Int.mul_nonneg h0 h0
  have h3 : c * c ≤ 1000000 * 1000000 := Int.mul_le_mul h1 h1 h0 (by decide)
  rw [Int.mul_assoc]
  omega
def spDraw : Sp := fun vs H Q _ => ∃ (p : Addr) (n m : Int), vs = [.ref p, .int m] ∧ Pot H p n ∧ n < 1000000 ∧ 0 < m ∧ m < 1073741824 ∧
  ∀ (r : Int) (H' : Hp), 0 ≤ r → r < m → Pot H' p (n + 1) → Kp p H H' → Q (.int r) H'
section
variable {P : Program} {w : World} {K : PySem.W.Frag} {mg : Str → Option Value} {base : Heap}
theorem ok_draw {f : Addr} {fd : FuncData} {k : Nat} (F : Fun K "_law_draw" "_law_draw" sDraw f fd) (mi : mg "int" = none) : FnOk P w K mg base CX0 (k + 1) f fd ["_law_pot_here", "_law_many"] spDraw := by
  refine F.ok scDraw (fun vs H Q E h => ?_) (fun cdv A outer s H vs Q E hr h => ?_)
  · obtain ⟨p, n, m, rfl, _⟩ := h
    rfl
  · obtain ⟨p, n, m, rfl, ⟨a, b, c, hp, ha, hb0, hb1, hc0, hc1⟩, hn, hm0, hm1, q⟩ := h
    refine ⟨_, pss_cons (ps_if (pt_cmpR op_gt (pe_ix ix_list (pv 0) pe_int (fun _ _ => rfl)) pe_int (nomark _))
        (pss_cons (ps_set (i := 2) scDraw.nd rfl (.inl rfl) (pe_op op_mod (pe_callTy call_int1 (by rfl) mi PySem.Pv.boot_int (pa_cons (pe_ix ix_list (pv 0) pe_int (fun _ _ => rfl)) pa_nil)) (pv 1)))
        (pss_cons (ps_asg (pe_op op_fdiv (pe_ix ix_list (pv 0) pe_int (fun _ _ => rfl)) (pv 1)) (pg_sub (pv 0) pe_int set_list (fun _ => rfl)))
        (pss_one (ps_ret (pv 2)))))
        pss_nil)
      (pss_cons (ps_asg (pe_op op_add (pe_ix ix_list (pv 0) pe_int (fun _ _ => rfl)) pe_int) (pg_sub (pv 0) pe_int set_list (fun _ => rfl)))
      (pss_cons (ps_set (i := 3) scDraw.nd rfl (.inl rfl) (pe_ix ix_list (pe_lst (pa_cons pe_int (pa_cons pe_int (pa_cons pe_int (pa_cons pe_int (pa_cons pe_int pa_nil))))))
          (pe_op op_mod (pe_callTy call_int1 (by rfl) mi PySem.Pv.boot_int (pa_cons (pe_ix ix_list (pv 0) pe_int (fun _ _ => rfl)) pa_nil)) pe_int) (fun _ _ => rfl)))
      (pss_cons (ps_set (i := 4) scDraw.nd rfl (.inl rfl) (pe_op op_mod (pe_callTy call_int1 (by rfl) mi PySem.Pv.boot_int (pa_cons
          (pe_op op_pow (pe_op op_add (pe_op op_add (pe_ix ix_list (pv 0) pe_int (fun _ _ => rfl)) (pe_op op_mul (pe_op op_mul pe_int (pe_ix ix_list (pv 0) pe_int (fun _ _ => rfl))) (pe_ix ix_list (pv 0) pe_int (fun _ _ => rfl)))) pe_int) pe_int) pa_nil)) (pv 3)))
      (pss_cons (ps_set (i := 4) scDraw.nd rfl (.inl rfl) (pe_op op_mod (pe_callTy call_int1 (by rfl) mi PySem.Pv.boot_int (pa_cons
          (pe_op op_mul (pv 4) (pe_op op_add (pe_op op_mod (pe_callTy call_int1 (by rfl) mi PySem.Pv.boot_int (pa_cons (pv 4) pa_nil)) pe_int) (pe_op op_mul pe_int (pe_ix ix_list (pv 0) pe_int (fun _ _ => rfl))))) pa_nil)) pe_int))
      (pss_one (ps_ret (pe_op op_mod (pe_callTy call_int1 (by rfl) mi PySem.Pv.boot_int (pa_cons (pe_op op_fdiv (pv 4) pe_int) pa_nil)) (pv 1)))))))), ?_⟩
    have hS : ∀ {H1 : Hp} {xs : List V}, H1 p = some (.lst xs) → SqL K H1 p xs := fun h => .inl (.inl h)
    -- pot[0] > 0
    refine ⟨.ref p, rfl, p, _, 0, _, rfl, rfl, hS hp, rfl, _, _, rfl, rfl, _, rfl, ?_⟩
    refine ite2 (fun h => ?_) (fun h => ?_)
    · have h0 : 0 < a := of_decide_eq_true h
      -- digit
      refine ⟨.ref p, rfl, p, _, 0, _, rfl, rfl, hS hp, rfl, .inl ⟨_, rfl, .int m, rfl, _, _, rfl, rfl, hm0, ?_⟩⟩
      -- pot[0] = pot[0] // many
      refine ⟨.ref p, rfl, p, _, 0, _, rfl, rfl, hS hp, rfl, .int m, rfl, _, _, rfl, rfl, ⟨hm0, hm1⟩, ?_⟩
      refine ⟨.ref p, rfl, p, _, 0, 0, rfl, rfl, hp, rfl, ?_⟩
      refine ⟨_, rfl, q _ _ (Int.emod_nonneg _ (by omega)) (Int.emod_lt_of_pos _ hm0) ⟨a / m, b, c, upd_same, Int.ediv_nonneg ha (by omega), hb0, hb1, hc0, by omega⟩ Kp.pot⟩
    · have h0 : ¬ 0 < a := fun z => h (decide_eq_true z)
      -- pot[2] = pot[2] + 1
      refine ⟨.ref p, rfl, p, _, 2, _, rfl, rfl, hS hp, rfl, _, _, rfl, rfl, .ref p, rfl, p, _, 2, 2, rfl, rfl, hp, rfl, ?_⟩
      have e1 : upd H p (.lst [.int a, .int b, .int (c + 1)]) p = some (.lst [.int a, .int b, .int (c + 1)]) := upd_same
      -- prime
      refine ⟨by show 5 ≤ sizeLine; decide, fun l hl => ?_⟩
      have nlp : p ≠ l := ne_of_none e1 hl
      have e2 : upd (upd H p (.lst [.int a, .int b, .int (c + 1)])) l (.lst [.int 2147483647, .int 2147483629, .int 2147483587, .int 2147483579, .int 2147483563]) p = some (.lst [.int a, .int b, .int (c + 1)]) := by
        rw [upd_ne nlp]
        exact e1
      have kp : Kp p H (upd (upd H p (.lst [.int a, .int b, .int (c + 1)])) l (.lst [.int 2147483647, .int 2147483629, .int 2147483587, .int 2147483579, .int 2147483563])) := by
        intro b' o nb hb
        have nl : H l = none := by
          rw [upd_ne nlp.symm] at hl
          exact hl
        rw [upd_ne (ne_of_none hb nl), upd_ne nb]
        exact hb
      obtain ⟨pr, hpr, p0⟩ : ∃ pr : Int, atI [V.int 2147483647, V.int 2147483629, V.int 2147483587, V.int 2147483579, V.int 2147483563] ((c + 1) % 5) = some (.int pr) ∧ 0 < pr ∧ pr ≤ 2147483647 := by
        have h1 : 0 ≤ (c + 1) % 5 := Int.emod_nonneg _ (by decide)
        have h2 : (c + 1) % 5 < 5 := Int.emod_lt_of_pos _ (by decide)
        generalize (c + 1) % 5 = r at h1 h2
        have : r = 0 ∨ r = 1 ∨ r = 2 ∨ r = 3 ∨ r = 4 := by omega
        rcases this with rfl | rfl | rfl | rfl | rfl
        · exact ⟨2147483647, rfl, by decide⟩
        · exact ⟨2147483629, rfl, by decide⟩
        · exact ⟨2147483587, rfl, by decide⟩
        · exact ⟨2147483579, rfl, by decide⟩
        · exact ⟨2147483563, rfl, by decide⟩
      refine ⟨.ref p, rfl, p, _, 2, _, rfl, rfl, hS e2, rfl, .inl ⟨_, rfl, _, _, rfl, rfl, by show (0 : Int) < 5; decide, l, _, _, _, rfl, rfl, .inl (.inl upd_same), hpr, ?_⟩⟩
      -- made
      refine ⟨.ref p, rfl, p, _, 1, _, rfl, rfl, hS e2, rfl, .ref p, rfl, p, _, 2, _, rfl, rfl, hS e2, rfl, _, _, rfl, rfl, .inl ⟨by decide, by decide⟩, .ref p, rfl, p, _, 2, _, rfl, rfl, hS e2, rfl, _, _, rfl, rfl, .inl ⟨?_, ?_⟩, _, _, rfl, rfl, _, _, rfl, rfl, ?_⟩
      · omega
      · omega
      refine ⟨_, _, rfl, rfl, ⟨by decide, by decide, ?_⟩, .inl ⟨_, rfl, _, rfl, _, _, rfl, rfl, p0.1, ?_⟩⟩
      · have hq := sq_le (c := c + 1) (by omega) (by omega)
        show (b + 99991 * (c + 1) * (c + 1) + 61).natAbs < 2 ^ 64
        omega
      generalize (b + 99991 * (c + 1) * (c + 1) + 61) ^ Int.toNat 3 = X
      have hM0 : 0 ≤ X % pr := Int.emod_nonneg _ (by omega)
      have hM1 : X % pr < pr := Int.emod_lt_of_pos _ p0.1
      refine ⟨.int (X % pr), rfl, .int (X % pr), rfl, .inl ⟨_, rfl, _, _, rfl, rfl, by show (0 : Int) < 10007; decide, .ref p, rfl, p, _, 2, _, rfl, rfl, hS e2, rfl, _, _, rfl, rfl, .inl ⟨by decide, by decide⟩, _, _, rfl, rfl, _, _, rfl, rfl, .inl ⟨by omega, by omega⟩, .inl ⟨_, rfl, _, _, rfl, rfl, by show (0 : Int) < 2305843009213693907; decide, ?_⟩⟩⟩
      generalize X % pr * (X % pr % 10007 + 83 * (c + 1)) = Y
      refine ⟨.int (Y % 2305843009213693907), rfl, _, _, rfl, rfl, ⟨by decide, by decide⟩, .inl ⟨_, rfl, .int m, rfl, _, _, rfl, rfl, hm0, ?_⟩⟩
      exact q _ _ (Int.emod_nonneg _ (by omega)) (Int.emod_lt_of_pos _ hm0) ⟨a, b, c + 1, e2, ha, hb0, hb1, by omega, by omega⟩ kp
end
/-! ### powers of greater numbers -/
def CPw (i j : Int) : Prop := 0 ≤ j ∧ (Builtin.Int.intBits i : Int) * j ≤ 2 ^ 27
section
variable {X : Cx}
theorem op_powW : OpR X (binaryOp .Pow) (rI CPw fun i j => .int (i ^ j.toNat)) := opI fun _ _ _ _ _ _ _ hc q => pow_int hc.1 hc.2 q
end
section
variable {P : Program} {w : World} {K : PySem.W.Frag} {mg : Str → Option Value} {base : Heap}
/-! ### _law_pot -/
def spPot (K : PySem.W.Frag) : Sp := fun vs H Q _ => ∃ (a : Addr) (ns : List Int) (k : Nat), vs = [.ref a, .int (k : Int)] ∧ SqL K H a (ns.map V.int) ∧ k ≤ 2 ∧ ∀ (p : Addr) H', H p = none → Same H H' → Pot H' p 0 → Q (.ref p) H'
theorem ok_pot {f : Addr} {fd : FuncData} {k : Nat} (F : Fun K "_law_pot" "_law_pot" sPot f fd) (mi : mg "int" = none) (ma : mg "abs" = none) (ml : mg "len" = none) : FnOk P w K mg base CX0 (k + 1) f fd ["_law_script", "_law_k"] (spPot K) := by
  refine F.ok scPot (fun vs H Q E h => ?_) (fun cdv A outer s H vs Q E hr h => ?_)
  · obtain ⟨a, ns, k, rfl, _⟩ := h
    rfl
  · obtain ⟨a, ns, k, rfl, hS, hk, q⟩ := h
    refine ⟨_, Evl.pss_cut (ps_set (i := 2) scPot.nd rfl (.inl rfl) (pe_ifExp (pt_cmpR op_lt (pv 1) (pe_callB call_len_seq (by rfl) ml PySem.boot_len (pa_cons (pv 0) pa_nil)) (nomark _))
        (pe_ix ix_list (pv 0) (pv 1) (fun _ _ => rfl)) (pe_op op_add (pe_op op_mul pe_int (pv 1)) pe_int)))
      (pss_cons (ps_set (i := 3) scPot.nd rfl (.inl rfl) (pe_op op_mul (pe_op op_mod (pe_callTy call_int1 (by rfl) mi PySem.Pv.boot_int (pa_cons (pe_callB call_abs (by rfl) ma (by decide +kernel) (pa_cons (pv 2) pa_nil)) pa_nil))
          (pe_op op_powW (pe_op op_pow pe_int pe_int) pe_int))
        (pe_callTy call_int1 (by rfl) mi PySem.Pv.boot_int (pa_cons (pe_cmpR op_ge (pe_callB call_abs (by rfl) ma (by decide +kernel) (pa_cons (pv 2) pa_nil)) (pe_op op_pow pe_int pe_int) (nomark _)) pa_nil))))
      (pss_one (ps_ret (pe_lst (pa_cons (pv 3) (pa_cons (pe_op op_mod (pe_callTy call_int1 (by rfl) mi PySem.Pv.boot_int (pa_cons
          (pe_op op_add (pe_op op_add (pe_op op_mul (pe_op op_mod (pe_callTy call_int1 (by rfl) mi PySem.Pv.boot_int (pa_cons (pv 2) pa_nil)) pe_int) pe_int) (pe_op op_mul (pe_op op_mul pe_int (pv 1)) (pv 1))) pe_int) pa_nil)) pe_int)
        (pa_cons pe_int pa_nil))))))), ?_⟩
    refine ⟨fun σ H' => ∃ c : Int, σ = [some (.ref a), some (.int k), some (.int c), none] ∧ H' = H, ?_, fun σ H' hM => ?_⟩
    · refine ⟨.int k, rfl, .ref a, rfl, a, _, rfl, .inl hS, _, _, rfl, rfl, _, rfl, ?_⟩
      refine ite2 (fun h => ?_) (fun h => ?_)
      · have h1 : (k : Int) < ((ns.map V.int).length : Int) := of_decide_eq_true h
        rw [List.length_map] at h1
        have hk2 : k < ns.length := by omega
        exact ⟨.ref a, rfl, .int k, rfl, a, _, k, .int ns[k], rfl, rfl, hS, atI_nat (by rw [List.getElem?_map, List.getElem?_eq_getElem hk2] <;> rfl), ns[k], rfl, rfl⟩
      · exact ⟨.int k, rfl, _, _, rfl, rfl, .inl ⟨by decide, by decide⟩, _, _, rfl, rfl, _, rfl, rfl⟩
    · obtain ⟨c, rfl, rfl⟩ := hM
      have p0 : (0 : Int) < (10 ^ Int.toNat 60) ^ Int.toNat 5 := by decide +kernel
      have m0 : ∀ z : Int, 0 ≤ z % (10 ^ Int.toNat 60) ^ Int.toNat 5 := fun z => Int.emod_nonneg _ (by omega)
      have b0 : ∀ b : Bool, (0 : Int) ≤ (if b = true then 1 else 0) ∧ (if b = true then (1 : Int) else 0) < 2 ^ 64 := fun b => by cases b <;> decide
      have c0 : 0 ≤ c % 2305843009213693951 ∧ c % 2305843009213693951 < 2305843009213693951 := ⟨Int.emod_nonneg _ (by decide), Int.emod_lt_of_pos _ (by decide)⟩
      refine ⟨.int c, rfl, c, rfl, .inl ⟨_, rfl, _, _, rfl, rfl, ⟨by decide, by decide, by decide⟩, _, _, rfl, rfl, ⟨by decide, by decide +kernel⟩, _, _, rfl, rfl, p0,
        .int c, rfl, c, rfl, _, _, rfl, rfl, ⟨by decide, by decide, by decide⟩, _, _, rfl, rfl, .inr ⟨_, rfl, _, _, rfl, rfl, .inr ⟨Int.lt_of_lt_of_le (by decide) (b0 _).1, (b0 _).2⟩, ?_⟩⟩⟩
      refine ⟨_, rfl, .int c, rfl, .inl ⟨_, rfl, _, _, rfl, rfl, by show (0 : Int) < 2305843009213693951; decide, _, _, rfl, rfl, .inr ⟨by decide, by decide⟩,
        .int k, rfl, _, _, rfl, rfl, .inl ⟨by decide, by decide⟩, .int k, rfl, _, _, rfl, rfl, .inl ⟨by omega, by omega⟩, _, _, rfl, rfl, _, _, rfl, rfl,
        .inl ⟨_, rfl, _, _, rfl, rfl, by show (0 : Int) < 2305843009213693921; decide, by show 3 ≤ sizeLine; decide, fun p np => q p _ np (smU np) ?_⟩⟩⟩
      refine ⟨_, _, 0, upd_same, Int.mul_nonneg (m0 _) (b0 _).1, Int.emod_nonneg _ (by decide), Int.lt_trans (Int.emod_lt_of_pos _ (by decide)) (by decide), Int.le_refl _, Int.le_refl _⟩
/-! ### _law_any -/
def spAny (K : PySem.W.Frag) : Sp := fun vs H Q _ => ∃ (p : Addr) (n : Int) (x : V), vs = [.ref p, x] ∧ Pot H p n ∧ n < 1000000 ∧
  ((∃ z : Str, x = .str z ∧ 0 < z.length ∧ z.length ≤ 1000 ∧ ∀ (c : Nat) H', c ∈ z.cps.toList → Pot H' p (n + 1) → Kp p H H' → Q (.str ⟨#[c]⟩) H') ∨
   (∃ (a : Addr) (xs : List V), x = .ref a ∧ (∀ {H'}, Kp p H H' → SqL K H' a xs) ∧ 0 < xs.length ∧ xs.length ≤ 1000 ∧ ∀ (v : V) H', v ∈ xs → Pot H' p (n + 1) → Kp p H H' → Q v H'))
theorem atI_of {α : Type} {xs : List α} {r : Int} (h0 : 0 ≤ r) (h1 : r < (xs.length : Int)) : ∃ x, atI xs r = some x ∧ x ∈ xs := by
  obtain ⟨n, rfl⟩ := Int.eq_ofNat_of_zero_le h0
  have hn : n < xs.length := by omega
  exact ⟨xs[n], atI_nat (List.getElem?_eq_getElem hn), List.getElem_mem hn⟩
theorem ok_any {f fD : Addr} {fd fdD : FuncData} {k : Nat} (F : Fun K "_law_any" "_law_any" sAny f fd) (FD : Fun K "_law_draw" "_law_draw" sDraw fD fdD) (bD : Binds K fdD ["_law_pot_here", "_law_many"] []) (gD : mg "_law_draw" = some (.ref fD))
    (GD : FnOk P w K mg base CX0 (k + 1) fD fdD ["_law_pot_here", "_law_many"] spDraw) (ml : mg "len" = none) : FnOk P w K mg base CX0 (k + 2) f fd ["_law_pot_here", "_law_items"] (spAny K) := by
  refine F.ok scAny (fun vs H Q E h => ?_) (fun cdv A outer s H vs Q E hr h => ?_)
  · obtain ⟨p, n, x, rfl, _⟩ := h
    rfl
  · obtain ⟨p, n, x, rfl, hp, hn, h⟩ := h
    refine ⟨_, pss_one (ps_ret (pe_ix ix_seq (pv 1) (pe_call GD hr (by rfl) gD FD.kp bD .nil pass0 (pa_cons (pv 0) (pa_cons (pe_callB (CallR.or call_len_seq call_len_str) (by rfl) ml PySem.boot_len (pa_cons (pv 1) pa_nil)) pa_nil))) (fun _ _ => rfl))), ?_⟩
    rcases h with ⟨z, rfl, z0, z1, q⟩ | ⟨a, xs, rfl, hS, x0, x1, q⟩
    · have zl : z.length ≤ sizeLine := Nat.le_trans z1 (by decide)
      refine ⟨.str z, rfl, .ref p, rfl, .str z, rfl, .inr ⟨z, rfl, zl, p, n, _, rfl, hp, hn, by omega, by omega, fun r H' h0 h1 hp' hk => ?_⟩⟩
      rw [str_len] at h1
      obtain ⟨c, e, hc⟩ := atI_of h0 h1
      exact .inr (.inr ⟨z, r, c, rfl, rfl, zl, e, q c H' hc hp' hk⟩)
    · refine ⟨.ref a, rfl, .ref p, rfl, .ref a, rfl, .inl ⟨a, xs, rfl, .inl (hS (Kp.refl p H)), p, n, _, rfl, hp, hn, by omega, by omega, fun r H' h0 h1 hp' hk => ?_⟩⟩
      obtain ⟨v, e, hv⟩ := atI_of h0 h1
      exact .inl ⟨a, xs, r, v, rfl, rfl, hS hk, e, q v H' hv hp' hk⟩

def spLets : Sp := fun vs H Q _ => vs = [] ∧ Q (.str LSs) H
theorem ok_lets {f : Addr} {fd : FuncData} {k : Nat} (F : Fun K "_law_all_letters" "_law_all_letters" sLets f fd) : FnOk P w K mg base CX0 (k + 1) f fd [] spLets := by
  refine F.ok scLets (fun vs H Q E h => ?_) (fun cdv A outer s H vs Q E hr h => ?_)
  · obtain ⟨rfl, _⟩ := h
    rfl
  · obtain ⟨rfl, q⟩ := h
    exact ⟨_, pss_one (ps_ret pe_str), q⟩
end
theorem Pot.up {H : Hp} {p D : Addr} {o : HO} {n : Int} (h : Pot H p n) (hD : H D = none) : Pot (upd H D o) p n := by
  obtain ⟨a, b, c, e, r⟩ := h
  refine ⟨a, b, c, ?_, r⟩
  rw [upd_ne (ne_of_none e hD)]
  exact e
theorem Pot.ne {H : Hp} {p D : Addr} {n : Int} (h : Pot H p n) (hD : H D = none) : D ≠ p := by
  obtain ⟨a, b, c, e, r⟩ := h
  exact (ne_of_none e hD).symm
theorem Pot.wr {H : Hp} {p D : Addr} {o : HO} {n : Int} (h : Pot H p n) (hD : D ≠ p) : Pot (upd H D o) p n := by
  obtain ⟨a, b, c, e, r⟩ := h
  refine ⟨a, b, c, ?_, r⟩
  rw [upd_ne hD.symm]
  exact e
end Sf4
namespace Sf
open PySem PySem.Spec PyProof.Rows L2 LamX
/-! ### values through lambdas: tables may grow -/
section
variable {g : Bool} {p q : Addr} {H H' : Hp}
mutual
/-- objects at p or q alone may change, and tables -/
theorem Od.both (k : ∀ b o, b ≠ p → b ≠ q → H b = some o → (∀ ps, o ≠ .tbl ps) → H' b = some o) : ∀ {d : PyData} {v : V}, Od g p H v d → Od g q H v d → Od g p H' v d
  | .none, _, h, _ => by
    cases h
    exact .non
  | .bool b, _, h, _ => by
    cases h
    exact .bl b
  | .int i, _, h, _ => by
    cases h
    exact .int i
  | .str x, _, h, _ => by
    cases h
    exact .str x
  | .list ds, _, h, h2 => by
    cases h with
    | lst n1 n2 e t =>
      cases h2 with
      | lst n3 _ e2 t2 =>
        rw [e] at e2
        cases e2
        exact .lst n1 n2 (k _ _ n1 n3 e (fun ps z => by cases z)) (OdAll.both k t t2)
  | .tuple ds, _, h, h2 => by
    cases h with
    | tup n1 e t =>
      cases h2 with
      | tup n3 e2 t2 =>
        rw [e] at e2
        cases e2
        exact .tup n1 (k _ _ n1 n3 e (fun ps z => by cases z)) (OdAll.both k t t2)
  | .dict [], _, h, h2 => by
    cases h with
    | dic0 g1 n1 e =>
      cases h2 with
      | dic0 _ n3 _ => exact .dic0 g1 n1 (k _ _ n1 n3 e (fun ps z => by cases z))
  | .dict [(.str x, d)], _, h, h2 => by
    cases h with
    | dic1 g1 n1 e t =>
      cases h2 with
      | dic1 _ n3 e2 t2 =>
        rw [e] at e2
        cases e2
        exact .dic1 g1 n1 (k _ _ n1 n3 e (fun ps z => by cases z)) (Od.both k t t2)
  | .dict ((.none, _) :: _), _, h, _ => by cases h
  | .dict ((.bool _, _) :: _), _, h, _ => by cases h
  | .dict ((.int _, _) :: _), _, h, _ => by cases h
  | .dict ((.list _, _) :: _), _, h, _ => by cases h
  | .dict ((.tuple _, _) :: _), _, h, _ => by cases h
  | .dict ((.dict _, _) :: _), _, h, _ => by cases h
  | .dict ((.str _, _) :: _ :: _), _, h, _ => by cases h
theorem OdAll.both (k : ∀ b o, b ≠ p → b ≠ q → H b = some o → (∀ ps, o ≠ .tbl ps) → H' b = some o) : ∀ {ds : List PyData} {vs : List V}, OdAll g p H vs ds → OdAll g q H vs ds → OdAll g p H' vs ds
  | [], _, h, _ => by
    cases h
    exact .nil
  | d :: ds, _, h, h2 => by
    cases h with
    | cons a b =>
      cases h2 with
      | cons a2 b2 => exact .cons (Od.both k a a2) (OdAll.both k b b2)
end
mutual
/-- none of its objects stands where nothing is -/
theorem Od.off (n : H q = none) : ∀ {d : PyData} {v : V}, Od g p H v d → Od g q H v d
  | .none, _, h => by
    cases h
    exact .non
  | .bool b, _, h => by
    cases h
    exact .bl b
  | .int i, _, h => by
    cases h
    exact .int i
  | .str x, _, h => by
    cases h
    exact .str x
  | .list ds, _, h => by
    cases h with
    | lst n1 n2 e t => exact .lst (ne_of_none e n) n2 e (OdAll.off n t)
  | .tuple ds, _, h => by
    cases h with
    | tup n1 e t => exact .tup (ne_of_none e n) e (OdAll.off n t)
  | .dict [], _, h => by
    cases h with
    | dic0 g1 n1 e => exact .dic0 g1 (ne_of_none e n) e
  | .dict [(.str x, d)], _, h => by
    cases h with
    | dic1 g1 n1 e t => exact .dic1 g1 (ne_of_none e n) e (Od.off n t)
  | .dict ((.none, _) :: _), _, h => by cases h
  | .dict ((.bool _, _) :: _), _, h => by cases h
  | .dict ((.int _, _) :: _), _, h => by cases h
  | .dict ((.list _, _) :: _), _, h => by cases h
  | .dict ((.tuple _, _) :: _), _, h => by cases h
  | .dict ((.dict _, _) :: _), _, h => by cases h
  | .dict ((.str _, _) :: _ :: _), _, h => by cases h
theorem OdAll.off (n : H q = none) : ∀ {ds : List PyData} {vs : List V}, OdAll g p H vs ds → OdAll g q H vs ds
  | [], _, h => by
    cases h
    exact .nil
  | d :: ds, _, h => by
    cases h with
    | cons a b => exact .cons (Od.off n a) (OdAll.off n b)
end
theorem Od.ext {d : PyData} {v : V} (e : ExtN H H') (h : Od g p H v d) : Od g p H' v d := Od.both (q := p) (fun b o _ _ z n => e b o z n) h h
theorem OdAll.ext {ds : List PyData} {vs : List V} (e : ExtN H H') (h : OdAll g p H vs ds) : OdAll g p H' vs ds := OdAll.both (q := p) (fun b o _ _ z n => e b o z n) h h
end
end Sf
namespace Sf6
open PySem PySem.Spec PyProof.Rows L2 Sf Sf4 LamX
section
variable {g : Bool} {p q : Addr} {H H' : Hp}
theorem extS (s : Same H H') : ExtN H H' := fun b o z _ => s b o z
theorem _root_.LamX.ExtN.mut {H2 : Hp} {l : Addr} {o : HO} (e : ExtN H H2) (n : H l = none) : ExtN H (upd H2 l o) := fun b u z w => by
  rw [upd_ne (ne_of_none z n)]
  exact e b u z w
theorem _root_.LamX.ExtN.pot {n : Int} (e : ExtN H H') (h : Pot H p n) : Pot H' p n := by
  obtain ⟨a, b, c, z, r⟩ := h
  exact ⟨a, b, c, e _ _ z (fun ps w => by cases w), r⟩
/-- a list or tuple may change beside the tables -/
theorem _root_.LamX.Tabs.wr {T : List (Addr × Str)} {l : Addr} {xs : List V} {o : HO} (hl : H l = some (.lst xs)) (t : Tabs T H) : Tabs T (upd H l o) := fun r hr => by
  obtain ⟨ps, e, ok, f⟩ := t r hr
  have n1 : r.1 ≠ l := fun z => by
    rw [z, hl] at e
    cases e
  refine ⟨ps, by rw [upd_ne n1]; exact e, ok, fun pos cv hc => ?_⟩
  obtain ⟨c, e1, e2⟩ := f pos cv hc
  refine ⟨c, e1, ?_⟩
  have n2 : c ≠ l := fun z => by
    rw [z, hl] at e2
    cases e2
  rw [upd_ne n2]
  exact e2
theorem _root_.LamX.Tabs.kp {T : List (Addr × Str)} {n : Int} (hp : Pot H p n) (k : Kp p H H') (t : Tabs T H) : Tabs T H' := fun r hr => by
  obtain ⟨a, b, c, ep, _⟩ := hp
  obtain ⟨ps, e, ok, f⟩ := t r hr
  have n1 : r.1 ≠ p := fun z => by
    rw [z, ep] at e
    cases e
  refine ⟨ps, k _ _ n1 e, ok, fun pos cv hc => ?_⟩
  obtain ⟨c', e1, e2⟩ := f pos cv hc
  have n2 : c' ≠ p := fun z => by
    rw [z, ep] at e2
    cases e2
  exact ⟨c', e1, k _ _ n2 e2⟩
def KpN (p : Addr) (H H' : Hp) : Prop := ∀ b o, b ≠ p → H b = some o → (∀ ps, o ≠ .tbl ps) → H' b = some o
theorem KpN.of {H H' : Hp} (k : Kp p H H') : KpN p H H' := fun b o n e _ => k b o n e
theorem KpN.ext {H H' : Hp} (k : ExtN H H') : KpN p H H' := fun b o _ e z => k b o e z
theorem KpN.trans {H H1 H2 : Hp} (a : KpN p H H1) (b : KpN p H1 H2) : KpN p H H2 := fun c o n e z => b c o n (a c o n e z) z
end
section
variable {P : Program} {w : World} {K : PySem.W.Frag} {mg : Str → Option Value} {base : Heap}
/-- as okG, the body's code told -/
theorem okG2 {x qual : Str} {st : Stmt} {f : Addr} {fd : FuncData} {N ps : List Str} {k : Nat} {sp : Sp} (F : Fun K x qual st f fd) (S : FnScope N ps (defScope st)) (cnt : ∀ xs Hh W Ex, sp xs Hh W Ex → xs.length = ps.length)
    (body : ∀ (cdv : Value) (A : Around) (out : List Env) (sh : Shared) (Hh : Hp) (xs : List V) (W : VK) (Ex : XK), fd.code = cdv → Room k (A.deeper (envOfC qual (defScope st) sh.heap.objs.size f cdv)) → A.guards = some [] → sp xs Hh W Ex →
      ∃ t, PSs (cxOf CX0 P w K mg base N qual (defScope st) f cdv A out sh Hh Ex).nox (defBody st) t ∧ t { nx := fun _ H' => W .non H', rt := W } (start N xs) Hh) : FnG P w K mg base (k + 1) f fd ps sp := by
  obtain ⟨oc, od, kV, doc, pm, an, cdv, ct, osl, rfl, look, code⟩ := F.ex
  refine ⟨cnt, fun A out sh Hh ar ys xs W Ex room gd e0 bind rel prom => ?_⟩
  have count := cnt _ _ _ _ prom
  have here : K.In sh.heap := e0.mod.kin.keeps fun p ob e => (e0.bs p ob e).1
  have calm : sh.heap.NoLimit := e0.mod.nolimit.keeps fun p ob e => (e0.bs p ob e).1
  have kinds : ∀ z ∈ ps.zip ys, (defScope st).names.lookup z.1 = some .local ∨ ((defScope st).names.lookup z.1 = some .cell ∧ ((cellsFrom (sh.heap.objs.size + 1) (defScope st).names []).lookup z.1).isSome = true) := fun ⟨nm, vl⟩ hz =>
    (S.par nm (List.of_mem_zip hz).1).elim .inl fun c => .inr ⟨c, PySem.W.cellsFrom_some _ _ _ (.inl c)⟩
  refine codeAny_call_function room.depth (here _ _ look) rfl S.co S.gen rfl (PySem.W.codeRec_of here code) (bind _ _ _ _ (wpAny_newFunctionEnv_cells S.kind kinds fun env ee sh1 ent => ?_))
  subst ee
  refine ⟨calm.keeps ent.toInCall.keep, codeAny_func ?_⟩
  obtain ⟨t, walk, start1⟩ := body cdv A out sh Hh xs W Ex rfl (room.deeper _) gd prom
  have I := inv_start (CX := CX0) (E := Ex) S room.hd e0 count rel ent
  refine wpAny_mono (walk.nox.run [] sh1 (start N xs) Hh _ I start1) (fun how sh2 done => ?_) fun ex sh2 done => done
  match how, done with
  | .ret u, ⟨v, σ2, H2, J, rv, qv⟩ => exact ⟨v, H2, J.os, J.bare, J.base, J.hok, rv, qv⟩
  | .next, ⟨σ2, H2, J, qv⟩ => exact ⟨V.non, H2, J.os, J.bare, J.base, J.hok, rfl, qv⟩
  | .brk, ⟨_, _, _, no⟩ => exact no.elim
  | .cont, ⟨_, _, _, no⟩ => exact no.elim
end
section
variable {K : PySem.W.Frag} {p a D : Addr} {H : Hp} {n : Int} {T : List (Addr × Str)} {Q : VK} {l : Addr}
theorem use_met {tl : XK → Hp → VK → Prop} {t : XK → TE} {σ : L2.St} (h : Tabs T H ∧ ∀ H1, ExtN H H1 → Tabs T H1 → TMet D tl H1 Q) (i : ∀ E H' Q', (∀ H1 Q1, tl E H1 Q1 → tl E H1 Q1) → tl E H' Q' → t E σ H' Q') : tLam T (TMet D) t σ H Q :=
  ⟨h.1, fun H1 a b H2 E' Q' s h1 h2 => i _ _ _ (fun _ _ z => z) (h.2 H1 a b H2 E' Q' s h1 h2)⟩
theorem _root_.Sf4.Pot.lst (h : Pot H p n) : ∃ zs, H p = some (.lst zs) := by
  obtain ⟨_, _, _, e, _⟩ := h
  exact ⟨_, e⟩
theorem lst_ne {xs zs : List V} (ea : H a = some (.tup xs)) (el : H l = some (.lst zs)) : a ≠ l := fun z => by
  rw [z, el] at ea
  cases ea
theorem lst_ext {H' : Hp} {zs : List V} (e : ExtN H H') (el : H l = some (.lst zs)) : H' l = some (.lst zs) := e _ _ el (fun _ z => by cases z)
theorem tmet_imp {tl tl' : XK → Hp → VK → Prop} (h : TMet D tl H Q) (i : ∀ E H' Q', tl E H' Q' → tl' E H' Q') : TMet D tl' H Q := fun H1 E' Q' s h1 h2 => i _ _ _ (h H1 E' Q' s h1 h2)
theorem od_out {H' : Hp} {t : Addr} {b : Str} {v : V} {d : PyData} (n : t ≠ p) (e : H' t = some (.tup [.str b, v])) (h : Od true p H' v d) : Od true p H' (.ref t) (.tuple [.str b, d]) := .tup n e (.cons (.str _) (.cons h .nil))
theorem pot_tup {xs : List V} (hp : Pot H p n) (ea : H a = some (.tup xs)) : a ≠ p := fun z => by
  obtain ⟨_, _, _, e, _⟩ := hp
  rw [z, e] at ea
  cases ea
theorem pot_lst {xs : List V} (hp : Pot H p n) (ea : H a = some (.lst xs)) (l : xs.length ≠ 3) : a ≠ p := fun z => by
  obtain ⟨_, _, _, e, _⟩ := hp
  rw [z, e] at ea
  cases ea
  exact l rfl
end
theorem _root_.Sf.Sm.all {n m k : Nat} {ds : List PyData} (h : ∀ d ∈ ds, Sm n m d) (l : ds.length ≤ k) : PyData.showableAll ds = true ∧ PyData.leavesShortAll 40 ds = true ∧ PyData.weightAll ds ≤ k * (n + 1) ∧ PyData.depthAll ds ≤ m := by
  induction ds generalizing k with
  | nil => exact ⟨rfl, rfl, Nat.zero_le _, Nat.zero_le _⟩
  | cons d r ih =>
    cases k with
    | zero => cases l
    | succ k =>
      obtain ⟨h1, h2, h3, h4⟩ := h d List.mem_cons_self
      obtain ⟨i1, i2, i3, i4⟩ := ih (fun e he => h e (List.mem_cons_of_mem _ he)) (Nat.le_of_succ_le_succ l)
      refine ⟨by simp [PyData.showableAll, h1, i1], by simp [PyData.leavesShortAll, h2, i2], ?_, ?_⟩
      · simp only [PyData.weightAll]
        rw [Nat.succ_mul]
        omega
      · simp only [PyData.depthAll]
        omega
theorem _root_.Sf.Sm.tup {n m k : Nat} {ds : List PyData} (h : ∀ d ∈ ds, Sm n m d) (l : ds.length ≤ k) : Sm (k * (n + 1) + 2) (m + 1) (.tuple ds) := by
  obtain ⟨h1, h2, h3, h4⟩ := Sm.all h l
  refine ⟨by simp [PyData.showable, h1], by simp [PyData.leavesShort, h2], ?_, ?_⟩
  · simp only [PyData.weight]
    omega
  · simp only [PyData.depth]
    omega
theorem _root_.Sf.Sm.lst {n m k : Nat} {ds : List PyData} (h : ∀ d ∈ ds, Sm n m d) (l : ds.length ≤ k) : Sm (k * (n + 1) + 2) (m + 1) (.list ds) := by
  obtain ⟨h1, h2, h3, h4⟩ := Sm.all h l
  refine ⟨by simp [PyData.showable, h1], by simp [PyData.leavesShort, h2], ?_, ?_⟩
  · simp only [PyData.weight]
    omega
  · simp only [PyData.depth]
    omega
theorem str_ne {A B : Prop} {x : Str} (h : B) : if (!decide (V.str x = V.str x)) = true then A else B := by
  rw [decide_eq_true rfl]
  exact iteF h

/-! ### a pattern through lambdas -/
theorem kt_ext {H H' : Hp} (e : ExtN H H') : KT H H' := fun b xs h => e b _ h (fun _ z => by cases z)
theorem _root_.Sf4.PatO.ext {C : Addr} {H H' : Hp} {x : Addr} {Z : List Nat} {l : Bool} {t : Tr} {r : Bool} {nm : Nm} (h : PatO C H x Z l t r nm) (e : ExtN H H') : PatO C H' x Z l t r nm := by
  obtain ⟨dx, tv, na, pl, fi, la, be, h1, h2, h3, h4, h5, h6, h7⟩ := h
  have k := kt_ext e
  exact ⟨dx, tv, na, pl, fi, la, be, e _ _ h1 (fun _ z => by cases z), h2.mono k, k _ _ h3, k _ _ h4, k _ _ h5, k _ _ h6, h7.mono k⟩
end Sf6
/-! Whatever string is read: its tree has small bounds. -/
namespace Sf6
open Sf4
theorem mz_le {m z : Nat} (h : ¬ m * z = 0) : z + m ≤ m * z + 1 := by
  cases m with
  | zero => exact absurd (Nat.zero_mul z) h
  | succ m =>
    cases z with
    | zero => exact absurd (Nat.mul_zero _) h
    | succ z =>
      have e : (m + 1) * (z + 1) = m * z + m + z + 1 := by
        rw [Nat.succ_mul, Nat.mul_succ]
        omega
      rw [e]
      omega
mutual
theorem lks_le : ∀ t : Tr, lks t ≤ sz t * (2 * dep t + sz t)
  | .place _ => Nat.zero_le _
  | .empty => Nat.zero_le _
  | .capture n t => Nat.le_trans (lks_le t) (Nat.mul_le_mul_left (sz t) (by show _ ≤ 2 * (dep t + 1) + sz t; omega))
  | .chain l => by
    have h := lksL_le l
    show lksL l + szL l ≤ szL l * (2 * (depL l + 1) + szL l)
    rw [show 2 * (depL l + 1) + szL l = 2 * depL l + szL l + 2 by omega, Nat.mul_add (szL l) (2 * depL l + szL l) 2]
    omega
  | .choice l => Nat.le_trans (lksL_le l) (Nat.mul_le_mul_left (szL l) (by show _ ≤ 2 * (depL l + 1) + szL l; omega))
  | .count a b t => by
    have h := Nat.mul_le_mul_left (many a b) (lks_le t)
    show many a b * lks t + many a b * sz t * (many a b + 1) ≤ many a b * sz t * (2 * (dep t + 1) + many a b * sz t)
    rw [← Nat.mul_assoc] at h
    generalize many a b = m at *
    generalize sz t = z at *
    generalize dep t = d at *
    by_cases h0 : m * z = 0
    · rw [h0] at h ⊢
      rw [Nat.zero_mul] at h
      rw [Nat.zero_mul, Nat.zero_mul]
      omega
    · have h1 := mz_le h0
      refine Nat.le_trans (Nat.add_le_add_right h _) ?_
      rw [← Nat.mul_add]
      exact Nat.mul_le_mul_left _ (by omega)
theorem lksL_le : ∀ l : List Tr, lksL l ≤ szL l * (2 * depL l + szL l)
  | [] => Nat.zero_le _
  | t :: r => by
    have h1 := lks_le t
    have h2 := lksL_le r
    show lks t + lksL r ≤ (sz t + szL r) * (2 * max (dep t) (depL r) + (sz t + szL r))
    rw [Nat.add_mul]
    exact Nat.add_le_add (Nat.le_trans h1 (Nat.mul_le_mul_left _ (by omega))) (Nat.le_trans h2 (Nat.mul_le_mul_left _ (by omega)))
end
/-- what is read has bounds -/
def Bd (R : Rd6) (D : Nat) : Prop := ∀ p nm t q nm', R p nm = some (t, q, nm') → dep t ≤ D ∧ wid t ≤ 60
section
variable {Z : List Nat}
theorem unit_b {can : Bool} {C : Rd6} {D : Nat} (h : Bd C D) : Bd (fUnit Z can C) (D + 1) := fun p nm t q nm' e => by
  unfold fUnit at e
  split at e
  · cases e
  · split at e
    · cases e
      exact ⟨Nat.zero_le _, Nat.zero_le _⟩
    · split at e
      · cases e
        exact ⟨Nat.zero_le _, Nat.zero_le _⟩
      · split at e
        · split at e
          · cases e
          · cases e
            exact ⟨Nat.zero_le _, Nat.zero_le _⟩
        · split at e
          · split at e
            · unfold fGrp at e
              split at e
              · cases e
                exact ⟨Nat.zero_le _, Nat.zero_le _⟩
              · split at e
                · cases e
                · rename_i t1 q1 nm1 h1
                  have := h _ _ _ _ _ h1
                  split at e
                  · cases e
                    exact ⟨by omega, this.2⟩
                  · cases e
            · unfold fCap at e
              split at e
              · split at e
                · cases e
                · rename_i t1 q1 nm1 h1
                  have := h _ _ _ _ _ h1
                  split at e
                  · cases e
                    refine ⟨?_, this.2⟩
                    show dep t1 + 1 ≤ D + 1
                    omega
                  · cases e
              · cases e
          · cases e
theorem cnt_sign {c a : Nat} {b : Option Nat} (h : cnt c = some (a, b)) : many a b ≤ 20 := by
  unfold cnt at h
  split at h
  · cases h
    decide
  · cases h
    decide
  · cases h
    decide
  · cases h
theorem item_b {U : Rd6} {D : Nat} (h : Bd U D) : Bd (fItem Z U) (D + 1) := fun p nm t q nm' e => by
  have fin : ∀ {a : Nat} {b : Option Nat} {u : Tr}, many a b ≤ 20 → dep u ≤ D ∧ wid u ≤ 60 → dep (.count a b u) ≤ D + 1 ∧ wid (.count a b u) ≤ 60 := fun {a b u} hm hu => by
    refine ⟨?_, ?_⟩
    · show dep u + 1 ≤ D + 1
      omega
    · show max (many a b) (wid u) ≤ 60
      omega
  unfold fItem at e
  split at e
  · cases e
  · rename_i t1 q1 nm1 h1
    have hu := h _ _ _ _ _ h1
    split at e
    · rename_i a b h2
      cases e
      obtain ⟨c, _, hc⟩ := Option.bind_eq_some_iff.mp h2
      exact fin (cnt_sign hc) hu
    · split at e
      · unfold fCnt at e
        split at e
        · cases e
        · rename_i a r1 h3
          have n1 := num_go h3
          split at e
          · split at e
            · cases e
              exact fin (show max a 1 ≤ 20 by omega) hu
            · split at e
              · cases e
              · rename_i b s h4
                have n2 := num_go h4
                split at e
                · cases e
                  exact fin (show b ≤ 20 by omega) hu
                · cases e
          · split at e
            · cases e
              exact fin (show a ≤ 20 by omega) hu
            · cases e
      · cases e
        exact ⟨by omega, hu.2⟩
theorem depL_app (a b : List Tr) : depL (a ++ b) = max (depL a) (depL b) := by
  induction a with
  | nil =>
    show depL b = max 0 (depL b)
    omega
  | cons t r ih =>
    show max (dep t) (depL (r ++ b)) = max (max (dep t) (depL r)) (depL b)
    omega
theorem widL_app (a b : List Tr) : widL (a ++ b) = max (widL a) (widL b) := by
  induction a with
  | nil =>
    show widL b = max 0 (widL b)
    omega
  | cons t r ih =>
    show max (wid t) (widL (r ++ b)) = max (max (wid t) (widL r)) (widL b)
    omega
theorem more_b {R : Rd6} {go : Nat → Bool} {g : Nat → Nat} {D : Nat} (hR : Bd R D) (hG : Go6 Z R) (hg : ∀ q, q ≤ g q) : ∀ {n q r : Nat} {nm nm' : Nm} {ts rs : List Tr}, depL ts ≤ D → widL ts ≤ 60 → ts.length ≤ q → fMore R go g n q nm ts = some (rs, r, nm') → depL rs ≤ D ∧ widL rs ≤ 60 ∧ rs.length ≤ r
  | 0, _, _, _, _, _, _, _, _, _, e => by cases e
  | n + 1, q, r, nm, nm', ts, rs, h1, h2, h3, e => by
    unfold fMore at e
    split at e
    · split at e
      · cases e
      · rename_i t q1 nm1 h4
        have a := hR _ _ _ _ _ h4
        have b := hG _ _ _ _ _ h4
        have c := hg q
        refine more_b hR hG hg ?_ ?_ ?_ e
        · rw [depL_app]
          show max (depL ts) (max (dep t) 0) ≤ D
          omega
        · rw [widL_app]
          show max (widL ts) (max (wid t) 0) ≤ 60
          omega
        · rw [List.length_append, List.length_singleton]
          omega
    · cases e
      exact ⟨h1, h2, h3⟩
theorem row_b {R : Rd6} {go : Nat → Bool} {g : Nat → Nat} {f : List Tr → Tr} {D : Nat} (hZ : Z.length ≤ 60) (hR : Bd R D) (hG : Go6 Z R) (hg : ∀ q, q ≤ g q) (hf : ∀ ts, dep (f ts) = depL ts + 1 ∧ wid (f ts) = max ts.length (widL ts)) : Bd (fRow Z R go g f) (D + 1) := fun p nm t q nm' e => by
  unfold fRow at e
  split at e
  · cases e
  · rename_i t1 q1 nm1 h1
    have a := hR _ _ _ _ _ h1
    have b := hG _ _ _ _ _ h1
    split at e
    · cases e
    · rename_i ts r nm2 h2
      have hm := more_b hR hG hg (ts := [t1]) (by show max (dep t1) 0 ≤ D; omega) (by show max (wid t1) 0 ≤ 60; omega) (show 1 ≤ q1 by omega) h2
      have hr := (more_go hG hg b.2 h2).2
      cases e
      obtain ⟨m1, m2, m3⟩ := hm
      match ts, m1, m2, m3 with
      | [], m1, m2, m3 =>
        obtain ⟨f1, f2⟩ := hf []
        show dep (f []) ≤ _ ∧ wid (f []) ≤ _
        rw [f1, f2]
        exact ⟨by omega, by show max 0 (widL []) ≤ 60; exact (show max 0 0 ≤ 60 by decide)⟩
      | [u], m1, m2, m3 =>
        have m1 : max (dep u) 0 ≤ D := m1
        have m2 : max (wid u) 0 ≤ 60 := m2
        show dep u ≤ _ ∧ wid u ≤ _
        exact ⟨by omega, by omega⟩
      | u :: v :: w, m1, m2, m3 =>
        obtain ⟨f1, f2⟩ := hf (u :: v :: w)
        show dep (f (u :: v :: w)) ≤ _ ∧ wid (f (u :: v :: w)) ≤ _
        rw [f1, f2]
        exact ⟨by omega, by omega⟩
theorem nope_b : Bd nope 0 := fun _ _ _ _ _ e => by cases e
theorem fC_b (hZ : Z.length ≤ 60) : ∀ d, Bd (fC Z d) (4 * d + 4)
  | 0 => row_b (D := 3) hZ (row_b (D := 2) hZ (item_b (D := 1) (unit_b (D := 0) nope_b)) (item_go (fU_go Z 0)) (fun q => Nat.le_refl q) (fun _ => ⟨rfl, rfl⟩)) (chain_go (item_go (fU_go Z 0))) (fun q => Nat.le_succ q) (fun _ => ⟨rfl, rfl⟩)
  | d + 1 => row_b (D := 4 * d + 7) hZ (row_b (D := 4 * d + 6) hZ (item_b (D := 4 * d + 5) (unit_b (D := 4 * d + 4) (fC_b hZ d))) (item_go (fU_go Z (d + 1))) (fun q => Nat.le_refl q) (fun _ => ⟨rfl, rfl⟩)) (chain_go (item_go (fU_go Z (d + 1)))) (fun q => Nat.le_succ q) (fun _ => ⟨rfl, rfl⟩)
end
theorem fin6 (Z : List Nat) : Fin6 Z := fun W e => by
  unfold fPat at e
  split at e
  · rename_i hZ
    unfold fWhole at e
    split at e
    · cases e
    · rename_i t q nm h
      have b := fC_b hZ 8 _ _ _ _ _ h
      by_cases hc : (if Z[q]? = some 36 then q + 1 else q) = Z.length
      · rw [if_pos hc] at e
        cases e
        refine ⟨Nat.le_trans b.1 (by decide), Nat.le_trans b.2 (by decide), fun hs => ?_⟩
        have hs : sz t ≤ 24 := hs
        have b1 : dep t ≤ 36 := b.1
        refine Nat.le_trans (lks_le t) (Nat.le_trans (Nat.mul_le_mul hs (show 2 * dep t + sz t ≤ 96 by omega)) (by decide))
      · rw [if_neg hc] at e
        cases e
  · cases e
end Sf6
/-! The law's drawn trees. -/
namespace Sf4
open PySem PySem.Spec PyProof.Rows L2 Sf
/-- text * 0, text * 1 -/
theorem op_mul_s {X : Cx} : OpR X (binaryOp .Mult) (fun x y H Q => ∃ (i : Str) (n : Int), x = .str i ∧ y = .int n ∧ (n = 0 ∨ n = 1) ∧ Q (.str (if n = 0 then Str.empty else i)) H) := by
  intro pins s σ H x y v u Q I rx ry h
  obtain ⟨i, n, rfl, rfl, hn, q⟩ := h
  obtain ⟨t, rfl⟩ := rx
  obtain ⟨t', rfl⟩ := ry
  refine PySem.SB.mul (n := n) ⟨?_, fun h1 h2 => ?_, fun h1 h2 => ?_⟩ fun t' k => ?_
  · rcases hn with rfl | rfl <;> decide
  · rcases hn with rfl | rfl
    · exact absurd (by decide) h1
    · rw [show ((1 : Int) == 1) = true by decide] at h2
      cases h2
  · rcases hn with rfl | rfl
    · exact absurd (by decide) h1
    · rw [show ((1 : Int) == 1) = true by decide] at h2
      cases h2
  · have e : Txt.mul i n = if n = 0 then Str.empty else i := by
      unfold Txt.mul
      rcases hn with rfl | rfl
      · rw [if_pos (by decide), if_pos rfl]
      · rw [if_neg (show ¬ ((1 : Int) < 1) by decide), show ((1 : Int) == 1) = true by decide, Bool.true_or, if_pos rfl]
        rfl
    rw [e]
    exact ⟨.str (if n = 0 then Str.empty else i), H, I.tok _, ⟨_, rfl⟩, q⟩
/-! ### bounds of drawn trees -/
def lb : Nat → Nat
  | 0 => 0
  | d + 1 => 3 * (lb d + 1) + 1
def pb : Nat → Nat
  | 0 => 40
  | d + 1 => 3 * (pb d + 3)
def cst : Nat → Nat
  | 0 => 41
  | d + 1 => 3 * cst d + 2
structure Dr (d : Nat) (t : Tr) : Prop where
  w : wf t
  dd : dep t ≤ d
  wd : wid t ≤ 3
  l : 0 ≤ lb d
  p : (prn t).length ≤ pb d
def DrL (d : Nat) (l : List Tr) : Prop := ∀ t ∈ l, Dr d t
theorem DrL.wf {d : Nat} : ∀ {l : List Tr}, DrL d l → wfL l
  | [], _ => True.intro
  | t :: r, h => ⟨(h t List.mem_cons_self).w, DrL.wf fun u hu => h u (List.mem_cons_of_mem _ hu)⟩
theorem DrL.dep {d : Nat} : ∀ {l : List Tr}, DrL d l → depL l ≤ d
  | [], _ => Nat.zero_le _
  | t :: r, h => Nat.max_le.mpr ⟨(h t List.mem_cons_self).dd, DrL.dep fun u hu => h u (List.mem_cons_of_mem _ hu)⟩
theorem DrL.wid {d : Nat} : ∀ {l : List Tr}, DrL d l → widL l ≤ 3
  | [], _ => Nat.zero_le _
  | t :: r, h => Nat.max_le.mpr ⟨(h t List.mem_cons_self).wd, DrL.wid fun u hu => h u (List.mem_cons_of_mem _ hu)⟩
theorem grp_len (b : Bool) (x : List Nat) : (grp b x).length ≤ x.length + 2 := by
  unfold grp
  split
  · rw [List.length_cons, List.length_append, List.length_singleton]
    omega
  · omega
theorem DrL.ch {d : Nat} : ∀ {l : List Tr}, DrL d l → (prnCh l).length ≤ l.length * (pb d + 3)
  | [], _ => Nat.zero_le _
  | t :: r, h => by
    have a := (h t List.mem_cons_self).p
    have b := DrL.ch fun u hu => h u (List.mem_cons_of_mem _ hu)
    have c := grp_len (isCh t || isAl t) (prn t)
    show (grp (isCh t || isAl t) (prn t) ++ prnCh r).length ≤ (r.length + 1) * (pb d + 3)
    rw [Nat.succ_mul, List.length_append]
    omega
theorem DrL.mo {d : Nat} : ∀ {l : List Tr}, DrL d l → (prnMo l).length ≤ l.length * (pb d + 3)
  | [], _ => Nat.zero_le _
  | t :: r, h => by
    have a := (h t List.mem_cons_self).p
    have b := DrL.mo fun u hu => h u (List.mem_cons_of_mem _ hu)
    have c := grp_len (isAl t) (prn t)
    show (124 :: (grp (isAl t) (prn t) ++ prnMo r)).length ≤ (r.length + 1) * (pb d + 3)
    rw [Nat.succ_mul, List.length_cons, List.length_append]
    omega
theorem DrL.al {d : Nat} : ∀ {l : List Tr}, DrL d l → (prnAl l).length ≤ l.length * (pb d + 3)
  | [], _ => Nat.zero_le _
  | t :: r, h => by
    have a := (h t List.mem_cons_self).p
    have b := DrL.mo fun u hu => h u (List.mem_cons_of_mem _ hu)
    have c := grp_len (isAl t) (prn t)
    show (grp (isAl t) (prn t) ++ prnMo r).length ≤ (r.length + 1) * (pb d + 3)
    rw [Nat.succ_mul, List.length_append]
    omega
theorem Dr.up {d : Nat} {t : Tr} (h : Dr d t) : Dr (d + 1) t := ⟨h.w, Nat.le_succ_of_le h.dd, h.wd, Nat.zero_le _, Nat.le_trans h.p (by show pb d ≤ 3 * (pb d + 3); omega)⟩
theorem lb_mono : ∀ d, 0 ≤ lb d := fun _ => Nat.zero_le _
theorem pb_40 : ∀ d, 40 ≤ pb d
  | 0 => Nat.le_refl _
  | d + 1 => by
    have := pb_40 d
    show 40 ≤ 3 * (pb d + 3)
    omega
theorem dr_empty {d : Nat} : Dr d .empty := ⟨True.intro, Nat.zero_le _, Nat.zero_le _, Nat.zero_le _, by
  have := pb_40 d
  show 2 ≤ pb d
  omega⟩
theorem dr_place {d : Nat} {s : List Nat} (h : s ≠ []) (hs : (LETc.filter fun c => decide (c ∈ s)) = s) : Dr d (.place s) := by
  refine ⟨⟨h, hs⟩, Nat.zero_le _, Nat.zero_le _, Nat.zero_le _, ?_⟩
  have l : s.length ≤ 38 := by
    rw [← hs]
    exact Nat.le_trans (List.length_filter_le _ _) (by decide +kernel)
  have := pb_40 d
  unfold prn
  split
  · show 1 ≤ _
    omega
  · split
    · omega
    · rw [List.length_cons, List.length_append, List.length_singleton]
      omega
theorem dr_chain {d : Nat} {l : List Tr} (h : DrL d l) (h2 : 2 ≤ l.length) (h3 : l.length ≤ 3) : Dr (d + 1) (.chain l) := by
  have a := h.dep
  have b := h.wid
  have e := h.ch
  have m1 : l.length * lb d ≤ 3 * lb d := Nat.mul_le_mul_right _ h3
  have m2 : l.length * (pb d + 3) ≤ 3 * (pb d + 3) := Nat.mul_le_mul_right _ h3
  exact ⟨⟨h2, h.wf⟩, Nat.succ_le_succ a, Nat.max_le.mpr ⟨h3, b⟩, Nat.zero_le _, by show (prnCh l).length ≤ 3 * (pb d + 3); omega⟩
theorem dr_choice {d : Nat} {l : List Tr} (h : DrL d l) (h2 : 2 ≤ l.length) (h3 : l.length ≤ 3) : Dr (d + 1) (.choice l) := by
  have a := h.dep
  have b := h.wid
  have e := h.al
  have m1 : l.length * lb d ≤ 3 * lb d := Nat.mul_le_mul_right _ h3
  have m2 : l.length * (pb d + 3) ≤ 3 * (pb d + 3) := Nat.mul_le_mul_right _ h3
  exact ⟨⟨h2, h.wf⟩, Nat.succ_le_succ a, Nat.max_le.mpr ⟨h3, b⟩, Nat.zero_le _, by show (prnAl l).length ≤ 3 * (pb d + 3); omega⟩
theorem dr_capture {d : Nat} {n : List Nat} {t : Tr} (h : Dr d t) (h1 : 1 ≤ n.length) (h2 : n.length ≤ 8) (h3 : ∀ c ∈ n, small c) : Dr (d + 1) (.capture n t) := by
  have a := h.dd
  have b := h.l
  have c := h.p
  refine ⟨⟨h1, h2, h3, h.w⟩, Nat.succ_le_succ a, h.wd, Nat.zero_le _, ?_⟩
  have := pb_40 d
  show (60 :: (n ++ 58 :: (prn t ++ [62]))).length ≤ 3 * (pb d + 3)
  simp only [List.length_cons, List.length_append, List.length_nil]
  omega
theorem num_len (n : Nat) : (num n).length ≤ 2 := by
  unfold num
  split
  · exact Nat.le_succ 1
  · exact Nat.le_refl 2
theorem cntS_len (a : Nat) (b : Option Nat) : (cntS a b).length ≤ 7 := by
  have h1 := num_len a
  unfold cntS
  cases b with
  | none =>
    dsimp only
    split
    · decide
    · split
      · decide
      · simp only [List.length_cons, List.length_append, List.length_nil]
        omega
  | some b =>
    have h2 := num_len b
    dsimp only
    split
    · decide
    · split
      · simp only [List.length_cons, List.length_append, List.length_nil]
        omega
      · simp only [List.length_cons, List.length_append, List.length_nil]
        omega
theorem dr_count {d a : Nat} {b : Option Nat} {t : Tr} (h : Dr d t) (h1 : a ≤ 20) (h2 : ∀ c, b = some c → a ≤ c ∧ c ≤ 20) (h3 : many a b ≤ 3) : Dr (d + 1) (.count a b t) := by
  have x := h.dd
  have y := h.l
  have z := h.p
  refine ⟨⟨h1, h2, h.w⟩, Nat.succ_le_succ x, Nat.max_le.mpr ⟨h3, h.wd⟩, Nat.zero_le _, ?_⟩
  have := pb_40 d
  have c := grp_len (isCh t || isAl t || isCo t) (prn t)
  have e := cntS_len a b
  show (grp (isCh t || isAl t || isCo t) (prn t) ++ cntS a b).length ≤ 3 * (pb d + 3)
  rw [List.length_append]
  omega
/-! parentheses open within one another -/
mutual
theorem opn_dep : ∀ t : Tr, opn t ≤ dep t + 1
  | .place _ => Nat.zero_le _
  | .empty => Nat.le_refl _
  | .capture _ t => Nat.succ_le_succ (opn_dep t)
  | .chain l => opnCh_dep l
  | .choice l => opnAl_dep l
  | .count _ _ t => by
    have := opn_dep t
    show opn t + (if isCh t || isAl t || isCo t then 1 else 0) ≤ dep t + 1 + 1
    split <;> omega
theorem opnCh_dep : ∀ l : List Tr, opnCh l ≤ depL l + 1 + 1
  | [] => Nat.zero_le _
  | t :: r => by
    have a := opn_dep t
    have b := opnCh_dep r
    show max (opn t + (if isCh t || isAl t then 1 else 0)) (opnCh r) ≤ max (dep t) (depL r) + 1 + 1
    split <;> omega
theorem opnAl_dep : ∀ l : List Tr, opnAl l ≤ depL l + 1 + 1
  | [] => Nat.zero_le _
  | t :: r => by
    have a := opn_dep t
    have b := opnAl_dep r
    show max (opn t + (if isAl t then 1 else 0)) (opnAl r) ≤ max (dep t) (depL r) + 1 + 1
    split <;> omega
end
end Sf4
namespace Sf4
open PySem PySem.Spec PyProof.Rows L2 Sf
abbrev sTree : Stmt := topS 38
abbrev sMany : Stmt := topS 39
abbrev sGrouped : Stmt := topS 40
abbrev sString : Stmt := topS 41
abbrev sWholeL : Stmt := topS 42
abbrev sPatS : Stmt := topS 43
/-- a def of the law, where it stands -/
structure Fd (K : PySem.W.Frag) (mg : Str → Option Value) (x : Str) (st : Stmt) (ps : List Str) (f : Addr) (fd : FuncData) : Prop where
  F : Fun K x x st f fd
  b : Binds K fd ps []
  g : mg x = some (.ref f)
structure LawT (K : PySem.W.Frag) (mg : Str → Option Value) (f : Nat → Addr) (fd : Nat → FuncData) : Prop where
  pot : Fd K mg "_law_pot" sPot ["_law_script", "_law_k"] (f 0) (fd 0)
  draw : Fd K mg "_law_draw" sDraw ["_law_pot_here", "_law_many"] (f 1) (fd 1)
  any : Fd K mg "_law_any" sAny ["_law_pot_here", "_law_items"] (f 2) (fd 2)
  lets : Fd K mg "_law_all_letters" sLets [] (f 3) (fd 3)
  tree : Fd K mg "_law_tree" sTree ["_law_pot_here", "_law_deep", "_law_letters", "_law_names"] (f 4) (fd 4)
  many : Fd K mg "_law_many_places" sMany ["_law_tree_here"] (f 5) (fd 5)
  grouped : Fd K mg "_law_grouped" sGrouped ["_law_tree_here", "_law_words"] (f 6) (fd 6)
  string : Fd K mg "_law_string" sString ["_law_tree_here"] (f 7) (fd 7)
  whole : Fd K mg "_law_whole" sWholeL ["_law_pot_here", "_law_letters", "_law_most", "_law_names"] (f 8) (fd 8)
  pats : Fd K mg "_law_pattern_string" sPatS ["_law_whole_here"] (f 9) (fd 9)
  zint : mg "int" = none
  zabs : mg "abs" = none
  zlen : mg "len" = none
  zmax : mg "max" = none
  zmin : mg "min" = none
  zrange : mg "range" = none
  zsum : mg "sum" = none
  ztup : mg "tuple" = none
  zstr : mg "str" = none
  zrepr : mg "repr" = none
def NTree : List Str := ["_law_pot_here", "_law_deep", "_law_letters", "_law_names", "_law_way", "_law_some", "_law_letter", "_law_least", "_law_most", "_law_name", "_law_turn"]
theorem scTree : FnScope NTree ["_law_pot_here", "_law_deep", "_law_letters", "_law_names"] (defScope sTree) := ⟨rfl, rfl, rfl, by decide +kernel, rfl, by decide +kernel, by decide +kernel⟩
def okNm (nm : Nm) : Prop := ∀ n ∈ nm, 1 ≤ n.length ∧ n.length ≤ 8 ∧ ∀ c ∈ n, small c
def CTb : List (Nat × Option Nat) := [(0, none), (1, none), (0, some 1), (2, some 2), (0, some 2), (1, some 3), (2, none), (0, some 0), (1, some 1)]
theorem ctb_ok : ∀ x ∈ CTb, x.1 ≤ 20 ∧ (∀ c, x.2 = some c → x.1 ≤ c ∧ c ≤ 20) ∧ many x.1 x.2 ≤ 3 := by
  intro x hx
  simp only [CTb, List.mem_cons, List.not_mem_nil, or_false] at hx
  rcases hx with rfl | rfl | rfl | rfl | rfl | rfl | rfl | rfl | rfl <;> exact ⟨by decide, fun c h => by cases h <;> decide, by decide⟩
theorem one_let : ∀ c ∈ LETc, (LETc.filter fun e => decide (e ∈ [c])) = [c] := by decide +kernel
theorem all_let : (LETc.filter fun e => decide (e ∈ LETc)) = LETc := by decide +kernel
theorem nd_let : LETc.Nodup := by decide +kernel
theorem sub_filter {l m : List Nat} (h : l.Sublist m) : m.Nodup → (m.filter fun e => decide (e ∈ l)) = l := by
  induction h with
  | slnil => intro _; rfl
  | cons a h ih =>
    rename_i l1 l2
    intro nd
    obtain ⟨h1, h2⟩ := List.nodup_cons.mp nd
    rw [List.filter_cons, decide_eq_false (fun z => h1 (h.subset z)), if_neg Bool.false_ne_true]
    exact ih h2
  | cons_cons a h ih =>
    rename_i l1 l2
    intro nd
    obtain ⟨h1, h2⟩ := List.nodup_cons.mp nd
    rw [List.filter_cons, decide_eq_true List.mem_cons_self, if_pos rfl]
    congr 1
    rw [← ih h2]
    refine List.filter_congr fun e he => ?_
    have hne : e ≠ a := fun z => h1 (z ▸ he)
    rw [ih h2]
    simp only [List.mem_cons, hne, false_or]
theorem nmsL_snoc : ∀ (ts : List Tr) (t : Tr), nmsL (ts ++ [t]) = nmsL ts ++ nms t
  | [], t => List.append_nil _
  | u :: r, t => by
    show nms u ++ nmsL (r ++ [t]) = nms u ++ nmsL r ++ nms t
    rw [nmsL_snoc r t, List.append_assoc]
def nmD (nm : Nm) : List PyData := nm.map fun n => PyData.str (tx n)
theorem nm_dp {K : PySem.W.Frag} {H : Hp} : ∀ nm : Nm, DpAll K H (nmV nm) (nmD nm)
  | [] => .nil
  | n :: r => .cons (.str _) (nm_dp r)
theorem nmD_lay : ∀ {nm : Nm}, okNm nm → PyData.canLayAll0 (nmD nm) = true ∧ PyData.depthAll (nmD nm) = 0
  | [], _ => ⟨rfl, rfl⟩
  | n :: r, h => by
    obtain ⟨a, b⟩ := nmD_lay (nm := r) fun m hm => h m (List.mem_cons_of_mem _ hm)
    obtain ⟨_, _, hs⟩ := h n List.mem_cons_self
    have e : PyData.canLay0 (.str (tx n)) = true := by
      show (n.toArray).all (· < 0x110000) = true
      rw [List.all_toArray, List.all_eq_true]
      intro c hc
      have := (hs c hc).2
      exact decide_eq_true (by omega)
    refine ⟨?_, ?_⟩
    · show (PyData.canLay0 (.str (tx n)) && PyData.canLayAll0 (nmD r)) = true
      rw [a, e] <;> rfl
    · show max 0 (PyData.depthAll (nmD r)) = 0
      rw [b] <;> rfl
theorem nmD_shaped {nm : Nm} (h : okNm nm) : SeqAt.shaped (.list (nmD nm)) = true := by
  obtain ⟨a, b⟩ := nmD_lay h
  have h1 : PyData.canLay0 (.list (nmD nm)) = true := by simpa only [PyData.canLay0] using a
  have h2 : PyData.depth (.list (nmD nm)) ≤ 64 := by
    simp only [PyData.depth]
    omega
  unfold SeqAt.shaped
  rw [h1, decide_eq_true h2] <;> rfl
theorem nmD_eqv (nm : Nm) : PyData.eqv (.list (nmD nm)) (.list []) = nm.isEmpty := by
  cases nm <;> rfl
theorem Kp.k2 {p q : Addr} {H H' : Hp} (k : Kp p H H') : K2 p q H H' := fun b o n _ h => k b o n h
theorem Pot.kt {p : Addr} {n : Int} {H H' : Hp} (h : Pot H p n) (k : Kp p H H') : KT H H' := fun b xs e => k b _ (by
  obtain ⟨a, b', c, e2, _⟩ := h
  exact ne_of e e2 (by intro z; cases z)) e
theorem Pot.same {p : Addr} {n : Int} {H H' : Hp} (h : Pot H p n) (k : Same H H') : Pot H' p n := by
  obtain ⟨a, b, c, e, r⟩ := h
  exact ⟨a, b, c, k _ _ e, r⟩
theorem kt2 {p q : Addr} {n : Int} {H H' : Hp} {ys : List V} (h : Pot H p n) (hq : H q = some (.lst ys)) (k : K2 p q H H') : KT H H' := fun b xs e => k b _ (by
  obtain ⟨a, b', c, e2, _⟩ := h
  exact ne_of e e2 (by intro z; cases z)) (ne_of e hq (by intro z; cases z)) e
def spTree (d : Nat) : Sp := fun vs H Q _ => ∃ (p q : Addr) (n : Int) (L : List Nat) (nm : Nm), vs = [.ref p, .int (d : Int), .str (tx L), .ref q] ∧ Pot H p n ∧ n + (cst d : Nat) < 1000000 ∧ H q = some (.lst (nmV nm)) ∧ okNm nm ∧ p ≠ q ∧ L ≠ [] ∧ L.length ≤ 38 ∧ (∀ c ∈ L, c ∈ LETc) ∧
  ∀ v t H' nm', TrO H' v t → Dr d t → nm = nms t ++ nm' → Pot H' p (n + (cst d : Nat)) → H' q = some (.lst (nmV nm')) → K2 p q H H' → Q v H'
section
variable {P : Program} {w : World} {K : PySem.W.Frag} {mg : Str → Option Value} {base : Heap} {f : Nat → Addr} {fd : Nat → FuncData}
theorem law_draw (T : LawT K mg f fd) : FnOk P w K mg base CX0 1 (f 1) (fd 1) ["_law_pot_here", "_law_many"] spDraw := ok_draw (k := 0) T.draw.F T.zint
theorem law_any (T : LawT K mg f fd) : FnOk P w K mg base CX0 2 (f 2) (fd 2) ["_law_pot_here", "_law_items"] (spAny K) := ok_any (k := 0) T.any.F T.draw.F T.draw.b T.draw.g (law_draw T) T.zlen
theorem law_lets (T : LawT K mg f fd) : FnOk P w K mg base CX0 1 (f 3) (fd 3) [] spLets := ok_lets (k := 0) T.lets.F
theorem cst_pos : ∀ d, 41 ≤ cst d
  | 0 => Nat.le_refl _
  | d + 1 => by
    have := cst_pos d
    show 41 ≤ 3 * cst d + 2
    omega
theorem ok_tree1 (T : LawT K mg f fd) {k d : Nat} {spT : Sp} (hk : 2 ≤ k) (GT : FnOk P w K mg base CX0 k (f 4) (fd 4) ["_law_pot_here", "_law_deep", "_law_letters", "_law_names"] spT) (hT : ∀ e vs H Q E, e + 1 = d → spTree e vs H Q E → spT vs H Q E) :
    FnOk P w K mg base CX0 (k + 1) (f 4) (fd 4) ["_law_pot_here", "_law_deep", "_law_letters", "_law_names"] (spTree d) := by
  refine T.tree.F.ok scTree (fun vs H Q E h => ?_) (fun cdv A outer s H vs Q E hr h => ?_)
  · obtain ⟨p, q, n, L, nm, rfl, _⟩ := h
    rfl
  · obtain ⟨p, q, n, L, nm, rfl, hp, hn, hq, hnm, npq, hL, hL2, hL3, fin⟩ := h
    have GD := law_draw (P := P) (w := w) (base := base) T
    have GA := law_any (P := P) (w := w) (base := base) T
    have GL := law_lets (P := P) (w := w) (base := base) T
    have h1 : 1 ≤ k := Nat.le_trans (by decide) hk
    have hu := hr.units
    refine ⟨_, Evl.pss_cut (ps_set (i := 4) scTree.nd rfl (.inl rfl) (pe_ifExp (pt_cmpR op_gt (pv 1) pe_int (nomark _)) (pe_call GD (hr.mono h1) (by rfl) T.draw.g T.draw.F.kp T.draw.b .nil pass0 (pa_cons (pv 0) (pa_cons pe_int pa_nil))) (pe_call GD (hr.mono h1) (by rfl) T.draw.g T.draw.F.kp T.draw.b .nil pass0 (pa_cons (pv 0) (pa_cons pe_int pa_nil)))))
      (pss_cons (ps_if (pt_cmpR op_lt (pv 4) pe_int (nomark _)) (pss_one (ps_ret (pe_tup (pa_cons pe_str (pa_cons (pe_call GA (hr.mono hk) (by rfl) T.any.g T.any.F.kp T.any.b .nil pass0 (pa_cons (pv 0) (pa_cons (pv 2) pa_nil))) pa_nil))))) pss_nil)
      (pss_cons (ps_if (pt_cmpR op_eq (pv 4) pe_int (nomark _))
          (pss_cons (ps_set (i := 5) scTree.nd rfl (.inl rfl) pe_str)
          (pss_cons (ps_for PassesOwn.never rfl (pi_str (pe_call0 GL (hr.mono h1) (by rfl) T.lets.g T.lets.F.kp T.lets.b .nil pass0)) (pg_name (i := 6) scTree.nd rfl (Or.inl rfl))
            (pss_one (ps_if (pt_cmpR op_inS (pv 6) (pv 2) rfl) (pss_one (ps_set (i := 5) scTree.nd rfl (.inl rfl) (pe_op op_add_str (pv 5) (pe_op op_mul_s (pv 6) (pe_call GD (hr.mono h1) (by rfl) T.draw.g T.draw.F.kp T.draw.b .nil pass0 (pa_cons (pv 0) (pa_cons pe_int pa_nil))))))) pss_nil)))
          (pss_one (ps_ret (pe_tup (pa_cons pe_str (pa_cons (pe_call GA (hr.mono hk) (by rfl) T.any.g T.any.F.kp T.any.b .nil pass0 (pa_cons (pv 0) (pa_cons (pe_lst (pa_cons (pe_call0 GL (hr.mono h1) (by rfl) T.lets.g T.lets.F.kp T.lets.b .nil pass0)
            (pa_cons (pe_ifExp (pt_cmpR op_ne (pv 5) pe_str (nomark _)) (pv 5) (pe_ix ix_str (pv 2) pe_int (fun _ _ => rfl))) pa_nil))) pa_nil))) pa_nil))))))) pss_nil)
      (pss_cons (ps_if (pt_cmpR op_lt (pv 4) pe_int (nomark _)) (pss_one (ps_ret (pe_tup (pa_cons pe_str (pa_cons (pe_tupleOf (by rfl) T.ztup (pe_lc (own := [("_law_turn", 10)]) (g := gName 10) (tt := tYes) (te := tCall spT [] E0 (tCons (tVar 0) (tCons (tOp (rI0 fun i j => .int (i - j)) (tVar 1) (tC (.int 1))) (tCons (tVar 2) (tCons (tVar 3) tNil))))) rfl scTree.nd
          (pi_range1 rfl T.zrange (pa_cons (pe_op op_add pe_int (pe_call GD (hr.mono h1) (by rfl) T.draw.g T.draw.F.kp T.draw.b .nil pass0 (pa_cons (pv 0) (pa_cons pe_int pa_nil)))) pa_nil)) (blkOk_by (N := NTree) (sc := defScope sTree) (by decide +kernel))
          (fun _ _ _ _ _ => pg_name (i := 10) scTree.nd rfl (Or.inl rfl)) (fun _ _ _ _ _ => pts_nil) (fun _ _ _ _ _ => (pe_call GT hr (by rfl) T.tree.g T.tree.F.kp T.tree.b .nil pass0 (pa_cons (pv 0) (pa_cons (pe_op op_sub (pv 1) pe_int) (pa_cons (pv 2) (pa_cons (pv 3) pa_nil)))))))) pa_nil))))) pss_nil)
      (pss_cons (ps_if (pt_cmpR op_eq (pv 4) pe_int (nomark _)) (pss_one (ps_ret (pe_tup (pa_cons pe_str (pa_cons (pe_tupleOf (by rfl) T.ztup (pe_lc (own := [("_law_turn", 10)]) (g := gName 10) (tt := tYes) (te := tCall spT [] E0 (tCons (tVar 0) (tCons (tOp (rI0 fun i j => .int (i - j)) (tVar 1) (tC (.int 1))) (tCons (tVar 2) (tCons (tVar 3) tNil))))) rfl scTree.nd
          (pi_range1 rfl T.zrange (pa_cons (pe_op op_add pe_int (pe_call GD (hr.mono h1) (by rfl) T.draw.g T.draw.F.kp T.draw.b .nil pass0 (pa_cons (pv 0) (pa_cons pe_int pa_nil)))) pa_nil)) (blkOk_by (N := NTree) (sc := defScope sTree) (by decide +kernel))
          (fun _ _ _ _ _ => pg_name (i := 10) scTree.nd rfl (Or.inl rfl)) (fun _ _ _ _ _ => pts_nil) (fun _ _ _ _ _ => (pe_call GT hr (by rfl) T.tree.g T.tree.F.kp T.tree.b .nil pass0 (pa_cons (pv 0) (pa_cons (pe_op op_sub (pv 1) pe_int) (pa_cons (pv 2) (pa_cons (pv 3) pa_nil)))))))) pa_nil))))) pss_nil)
      (pss_cons (ps_if (pt_cmpR op_lt (pv 4) pe_int (nomark _))
          (pss_cons (ps_asg (pe_call GA (hr.mono hk) (by rfl) T.any.g T.any.F.kp T.any.b .nil pass0 (pa_cons (pv 0) (pa_cons (pe_lst (pa_cons (pe_tup (pa_cons pe_int (pa_cons pe_non pa_nil))) (pa_cons (pe_tup (pa_cons pe_int (pa_cons pe_non pa_nil))) (pa_cons (pe_tup (pa_cons pe_int (pa_cons pe_int pa_nil))) (pa_cons (pe_tup (pa_cons pe_int (pa_cons pe_int pa_nil))) (pa_cons (pe_tup (pa_cons pe_int (pa_cons pe_int pa_nil))) (pa_cons (pe_tup (pa_cons pe_int (pa_cons pe_int pa_nil))) (pa_cons (pe_tup (pa_cons pe_int (pa_cons pe_non pa_nil))) (pa_cons (pe_tup (pa_cons pe_int (pa_cons pe_int pa_nil))) (pa_cons (pe_tup (pa_cons pe_int (pa_cons pe_int pa_nil))) pa_nil)))))))))) pa_nil))) (pg_tup rfl (pgs_cons (pg_name (i := 7) scTree.nd rfl (.inl rfl)) (pgs_cons (pg_name (i := 8) scTree.nd rfl (.inl rfl)) pgs_nil))))
          (pss_one (ps_ret (pe_tup (pa_cons pe_str (pa_cons (pv 7) (pa_cons (pv 8) (pa_cons (pe_call GT hr (by rfl) T.tree.g T.tree.F.kp T.tree.b .nil pass0 (pa_cons (pv 0) (pa_cons (pe_op op_sub (pv 1) pe_int) (pa_cons (pv 2) (pa_cons (pv 3) pa_nil))))) pa_nil)))))))) pss_nil)
      (pss_cons (ps_if (PW.pt (pw_and (pt_cmpR op_eq (pv 4) pe_int (nomark _)) (pw_and1 (pt_cmpR (op_neD hu) (pv 3) (pe_lst pa_nil) (nomark _)))))
          (pss_cons (ps_set (i := 9) scTree.nd rfl (.inl rfl) (pe_bm PySem.F.plainAttrs_list PySem.F.slot_list_pop PySem.F.type_list_pop mt_popAt (pv 3) (pa_cons pe_int pa_nil)))
          (pss_one (ps_ret (pe_tup (pa_cons pe_str (pa_cons (pv 9) (pa_cons (pe_call GT hr (by rfl) T.tree.g T.tree.F.kp T.tree.b .nil pass0 (pa_cons (pv 0) (pa_cons (pe_op op_sub (pv 1) pe_int) (pa_cons (pv 2) (pa_cons (pv 3) pa_nil))))) pa_nil))))))) pss_nil)
      (pss_one (ps_ret (pe_tup (pa_cons pe_str pa_nil)))))))))), ?_⟩
    have cp := cst_pos d
    refine ⟨fun σ H1 => ∃ r : Int, 0 ≤ r ∧ r < 12 ∧ (d = 0 → r < 4) ∧ σ = [some (.ref p), some (.int (d : Int)), some (.str (tx L)), some (.ref q), some (.int r), none, none, none, none, none, none] ∧ Pot H1 p (n + 1) ∧ Kp p H H1, ?_, fun σ H1 hM => ?_⟩
    · refine ⟨_, rfl, _, _, rfl, rfl, _, rfl, ite2 (fun hd => ?_) (fun hd => ?_)⟩
      · refine ⟨.ref p, rfl, p, n, 12, rfl, hp, by omega, by decide, by decide, fun r H1 r0 r1 hp1 k1 => ⟨r, r0, r1, fun z => ?_, rfl, hp1, k1⟩⟩
        have := of_decide_eq_true hd
        omega
      · exact ⟨.ref p, rfl, p, n, 4, rfl, hp, by omega, by decide, by decide, fun r H1 r0 r1 hp1 k1 => ⟨r, r0, by omega, fun _ => r1, rfl, hp1, k1⟩⟩
    obtain ⟨r, r0, r1, rd, rfl, hp1, k1⟩ := hM
    have hq1 : H1 q = some (.lst (nmV nm)) := k1 q _ npq.symm hq
    refine ⟨_, rfl, _, _, rfl, rfl, _, rfl, ite2 (fun h => ?_) (fun h => ?_)⟩
    · -- a letter
      refine ⟨.ref p, rfl, .str (tx L), rfl, p, _, .str (tx L), rfl, hp1, by omega, .inl ⟨tx L, rfl, ?_, ?_, fun c H2 hc hp2 k2 => ⟨(show 2 ≤ sizeLine by decide), fun b hb => ?_⟩⟩⟩
      · rw [tx_len]
        exact List.length_pos_iff.mpr hL
      · rw [tx_len]
        omega
      have s2 := smU (o := HO.tup [.str plW, .str ⟨#[c]⟩]) hb
      refine fin _ (.place [c]) _ nm (.place upd_same) (dr_place (by intro z; cases z) (one_let c (hL3 c hc))) rfl ((hp2.up hb).mono (by omega)) (s2 _ _ (k2 q _ npq.symm hq1)) ((k1.trans (k2.trans (Kp.same s2))).k2)
    refine ⟨_, rfl, rfl, _, rfl, ite2 (fun h3 => ?_) (fun h3 => ?_)⟩
    · refine ⟨rfl, LSs, rfl, for_it (walk_str (z := LSs)) (fun i σ H2 => ∃ S x6, σ = [some (.ref p), some (.int (d : Int)), some (.str (tx L)), some (.ref q), some (.int r), some (.str (tx S)), x6, none, none, none, none] ∧ S.Sublist (LETc.take i) ∧ Pot H2 p (n + 1 + i) ∧ Kp p H H2)
        ⟨[], _, rfl, List.nil_sublist _, hp1.mono (by omega), k1⟩ (fun _ _ _ _ _ => True.intro) (fun i xi σ H2 H2' hi hP hy => ?_) (fun σ H2 hP => ?_)⟩
      · obtain ⟨S, x6, rfl, hS, hp2, k2⟩ := hP
        obtain ⟨rfl, c, hc, rfl⟩ := hy
        have hc : LETc[i]? = some c := by
          rw [← LS_cps, Array.getElem?_toList]
          exact hc
        obtain ⟨hil, hie⟩ := List.getElem?_eq_some_iff.mp hc
        have ht : LETc.take (i + 1) = LETc.take i ++ [c] := by rw [List.take_succ_eq_append_getElem hil, hie]
        have hil2 : i < 38 := hil
        have hSl : S.length ≤ 38 := Nat.le_trans hS.length_le (Nat.le_trans (List.length_take_le' _ _) (by decide +kernel))
        refine ⟨.str ⟨#[c]⟩, rfl, .str (tx L), rfl, c, _, rfl, rfl, _, rfl, ite2 (fun hin => ?_) (fun hin => ?_)⟩
        · refine ⟨.str (tx S), rfl, .str ⟨#[c]⟩, rfl, .ref p, rfl, p, _, 2, rfl, hp2, by omega, by decide, by decide, fun m H3 m0 m1 hp3 k3 => ⟨⟨#[c]⟩, m, rfl, rfl, by omega, tx S, _, rfl, rfl, ?_, ?_⟩⟩
          · have : (if m = 0 then Str.empty else (⟨#[c]⟩ : Str)).length ≤ 1 := by
              split
              · exact Nat.zero_le _
              · exact Nat.le_refl 1
            rw [tx_len]
            exact Nat.le_trans (show S.length + (if m = 0 then Str.empty else (⟨#[c]⟩ : Str)).length ≤ 100 by omega) (by decide)
          · by_cases hm : m = 0
            · rw [if_pos hm, show Str.empty = tx [] from rfl, tx_app, List.append_nil]
              exact ⟨S, _, rfl, hS.trans (by rw [ht]; exact List.sublist_append_left _ _), hp3.mono (by omega), k2.trans k3⟩
            · rw [if_neg hm, show (⟨#[c]⟩ : Str) = tx [c] from rfl, tx_app]
              exact ⟨S ++ [c], _, rfl, by rw [ht]; exact hS.append (List.Sublist.refl _), hp3.mono (by omega), k2.trans k3⟩
        · exact ⟨S, _, rfl, hS.trans (by rw [ht]; exact List.sublist_append_left _ _), hp2.mono (by omega), k2⟩
      · obtain ⟨S, x6, rfl, hS, hp2, k2⟩ := hP
        have hS : S.Sublist LETc := by
          rw [List.take_of_length_le (by decide +kernel)] at hS
          exact hS
        have hp2 : Pot H2 p (n + 39) := hp2.mono (by have : LSs.cps.size = 38 := by decide +kernel
                                                     omega)
        obtain ⟨c0, L', rfl⟩ : ∃ c L', L = c :: L' := by
          cases L with
          | nil => exact absurd rfl hL
          | cons c L' => exact ⟨c, L', rfl⟩
        have mid : ∀ (s : List Nat), s ≠ [] → (LETc.filter fun e => decide (e ∈ s)) = s → ∀ l, H2 l = none → spAny K [.ref p, .ref l] (upd H2 l (.lst [.str LSs, .str (tx s)])) (fun v H' => 2 ≤ sizeLine ∧ ∀ b, H' b = none → Q (.ref b) (upd H' b (.tup [.str (Str.ofString "place"), v]))) E0 := fun s hs1 hs2 l hl => by
          have sl := smU (o := HO.lst [.str LSs, .str (tx s)]) hl
          refine ⟨p, _, .ref l, rfl, hp2.same sl, by omega, .inr ⟨l, _, rfl, fun hK => .inl (.inl (hK l _ (hp2.ne hl) upd_same)), (show 0 < 2 by decide), (show 2 ≤ 1000 by decide), fun v H4 hv hp4 k4 => ⟨by decide, fun b hb => ?_⟩⟩⟩
          obtain ⟨s', rfl, hd1⟩ : ∃ s', v = .str (tx s') ∧ Dr d (.place s') := by
            rcases List.mem_cons.mp hv with rfl | hv
            · exact ⟨LETc, by decide +kernel, dr_place (by decide) all_let⟩
            · exact ⟨s, List.mem_singleton.mp hv, dr_place hs1 hs2⟩
          have sb := smU (o := HO.tup [.str plW, .str (tx s')]) hb
          exact fin _ (.place s') _ nm (.place upd_same) hd1 rfl ((hp4.up hb).mono (by omega)) (sb _ _ (k4 q _ npq.symm (sl _ _ (k2 q _ npq.symm hq)))) ((k2.trans ((Kp.same sl).trans (k4.trans (Kp.same sb)))).k2)
        refine ⟨.ref p, rfl, rfl, _, rfl, rfl, _, rfl, ?_⟩
        by_cases he : S = []
        · subst he
          rw [decide_eq_true em_eq]
          refine iteF ⟨.str (tx (c0 :: L')), rfl, tx (c0 :: L'), 0, c0, rfl, rfl, ?_, atI_nat (j := 0) rfl, (show 2 ≤ sizeLine by decide), fun l hl => ?_⟩
          · rw [tx_len]
            exact Nat.le_trans hL2 (by decide)
          · exact mid [c0] (by intro z; cases z) (one_let c0 (hL3 c0 List.mem_cons_self)) l hl
        · obtain ⟨c1, S', rfl⟩ : ∃ c S', S = c :: S' := by
            cases S with
            | nil => exact absurd rfl he
            | cons c S' => exact ⟨c, S', rfl⟩
          rw [decide_eq_false em_ne]
          exact iteT ⟨_, rfl, (show 2 ≤ sizeLine by decide), fun l hl => mid (c1 :: S') he (sub_filter hS nd_let) l hl⟩
    refine ⟨_, rfl, _, _, rfl, rfl, _, rfl, ite2 (fun h4 => ?_) (fun h4 => ?_)⟩
    · obtain ⟨e, rfl⟩ : ∃ e, d = e + 1 := by
        cases d with
        | zero =>
          have := rd rfl
          have a1 : ¬ (r < 3) := fun z => h (decide_eq_true z)
          have a2 : ¬ (V.int r = V.int 3) := fun z => h3 (decide_eq_true z)
          exact absurd (show V.int r = V.int 3 by rw [show r = 3 by omega]) a2
        | succ e => exact ⟨e, rfl⟩
      have ee : (((e + 1 : Nat) : Int) - 1) = (e : Int) := by omega
      have ec : cst (e + 1) = 3 * cst e + 2 := rfl
      refine ⟨.ref p, rfl, p, _, 2, rfl, hp1, by omega, by decide, by decide, fun m H2 m0 m1 hp2 k2 => ⟨_, _, rfl, rfl, _, rfl, by omega, by omega, fun D hD => ?_⟩⟩
      obtain ⟨j, rfl⟩ := Int.eq_ofNat_of_zero_le m0
      rw [show (2 + (j : Int)).toNat = 2 + j by omega]
      have nDp := hp2.ne hD
      have hq2 := k2 q _ npq.symm hq1
      have nDq : D ≠ q := fun z => by
        rw [z, hq2] at hD
        cases hD
      have kk2 : K2 p q H H2 := (k1.trans k2).k2
      refine lc_it (walk_range (lo := 0) (n := 2 + j)) (fun i H3 => ∃ acc ts nm', H3 D = some (.lst acc) ∧ acc.length = i ∧ TrOs H3 acc ts ∧ DrL e ts ∧ nm = nmsL ts ++ nm' ∧ Pot H3 p (n + 2 + ((i * cst e : Nat) : Int)) ∧ H3 q = some (.lst (nmV nm')) ∧ K2 p q H H3)
        ⟨[], [], nm, upd_same, rfl, .nil, (fun _ h => nomatch h), rfl, (hp2.up hD).mono (by omega), (by rw [upd_ne nDq.symm]; exact hq2), K2.trans kk2 (K2.same (smU hD))⟩ (fun _ _ _ _ => True.intro) (fun i xi H3 H3' hi hP hy => ?_) (fun H3 hP => ?_)
      · obtain ⟨acc, ts, nm', eD, hai, os, dl, en, hp3, hq3, k3⟩ := hP
        obtain ⟨rfl, rfl⟩ := hy
        have eim : (i + 1) * cst e = i * cst e + cst e := Nat.succ_mul _ _
        have ile : i * cst e ≤ 2 * cst e := Nat.mul_le_mul_right _ (by omega)
        refine ⟨rfl, .ref p, rfl, _, rfl, _, _, rfl, rfl, .str (tx L), rfl, .ref q, rfl, hT e _ _ _ _ rfl ⟨p, q, _, L, nm', by show [V.ref p, V.int (((e + 1 : Nat) : Int) - 1), V.str (tx L), V.ref q] = _; rw [ee], hp3, by omega, hq3, fun a ha => hnm a (by rw [en]; exact List.mem_append.mpr (.inr ha)), npq, hL, hL2, hL3, fun z u H4 nm2 oz du en2 hp4 hq4 k4 => ?_⟩⟩
        have eD4 := k4 D _ nDp nDq eD
        refine ⟨acc, eD4, Nat.lt_of_le_of_lt (show acc.length ≤ 10 by omega) (by decide), acc ++ [z], ts ++ [u], nm2, upd_same, by rw [List.length_append, hai] <;> rfl, ((os.mono (kt2 hp3 hq3 k4)).mono (KT.lst eD4)).snoc (oz.mono (KT.lst eD4)), fun a ha => ?_, ?_, (hp4.wr nDp).mono (by omega), (by rw [upd_ne nDq.symm]; exact hq4), fun c o c1 c2 hc => ?_⟩
        · rcases List.mem_append.mp ha with z | z
          · exact dl a z
          · exact List.mem_singleton.mp z ▸ du
        · rw [nmsL_snoc, List.append_assoc, ← en2]
          exact en
        · rw [upd_ne (ne_of_none (kk2 c o c1 c2 hc) hD)]
          exact k4 c o c1 c2 (k3 c o c1 c2 hc)
      · obtain ⟨acc, ts, nm', eD, hai, os, dl, en, hp3, hq3, k3⟩ := hP
        have hlt := os.len
        have jle : (2 + j) * cst e ≤ 3 * cst e := Nat.mul_le_mul_right _ (by omega)
        refine .inl ⟨D, _, rfl, .inl (.inl eD), fun B hB => ⟨(show 2 ≤ sizeLine by decide), fun b hb => ?_⟩⟩
        have s4 := smU (o := HO.tup acc) hB
        have s5 := smU (o := HO.tup [.str chW, .ref B]) hb
        exact fin _ (.chain ts) _ nm' (.chain upd_same (s5 _ _ upd_same) (os.mono (KT.same (s4.trans s5)))) (dr_chain dl (by omega) (by omega)) en ((hp3.same (s4.trans s5)).mono (by omega)) ((s4.trans s5) _ _ hq3) (k3.trans (K2.same (s4.trans s5)))
    refine ⟨_, rfl, rfl, _, rfl, ite2 (fun h5 => ?_) (fun h5 => ?_)⟩
    · obtain ⟨e, rfl⟩ : ∃ e, d = e + 1 := by
        cases d with
        | zero =>
          have := rd rfl
          have a1 : ¬ (r < 3) := fun z => h (decide_eq_true z)
          have a2 : ¬ (V.int r = V.int 3) := fun z => h3 (decide_eq_true z)
          exact absurd (show V.int r = V.int 3 by rw [show r = 3 by omega]) a2
        | succ e => exact ⟨e, rfl⟩
      have ee : (((e + 1 : Nat) : Int) - 1) = (e : Int) := by omega
      have ec : cst (e + 1) = 3 * cst e + 2 := rfl
      refine ⟨.ref p, rfl, p, _, 2, rfl, hp1, by omega, by decide, by decide, fun m H2 m0 m1 hp2 k2 => ⟨_, _, rfl, rfl, _, rfl, by omega, by omega, fun D hD => ?_⟩⟩
      obtain ⟨j, rfl⟩ := Int.eq_ofNat_of_zero_le m0
      rw [show (2 + (j : Int)).toNat = 2 + j by omega]
      have nDp := hp2.ne hD
      have hq2 := k2 q _ npq.symm hq1
      have nDq : D ≠ q := fun z => by
        rw [z, hq2] at hD
        cases hD
      have kk2 : K2 p q H H2 := (k1.trans k2).k2
      refine lc_it (walk_range (lo := 0) (n := 2 + j)) (fun i H3 => ∃ acc ts nm', H3 D = some (.lst acc) ∧ acc.length = i ∧ TrOs H3 acc ts ∧ DrL e ts ∧ nm = nmsL ts ++ nm' ∧ Pot H3 p (n + 2 + ((i * cst e : Nat) : Int)) ∧ H3 q = some (.lst (nmV nm')) ∧ K2 p q H H3)
        ⟨[], [], nm, upd_same, rfl, .nil, (fun _ h => nomatch h), rfl, (hp2.up hD).mono (by omega), (by rw [upd_ne nDq.symm]; exact hq2), K2.trans kk2 (K2.same (smU hD))⟩ (fun _ _ _ _ => True.intro) (fun i xi H3 H3' hi hP hy => ?_) (fun H3 hP => ?_)
      · obtain ⟨acc, ts, nm', eD, hai, os, dl, en, hp3, hq3, k3⟩ := hP
        obtain ⟨rfl, rfl⟩ := hy
        have eim : (i + 1) * cst e = i * cst e + cst e := Nat.succ_mul _ _
        have ile : i * cst e ≤ 2 * cst e := Nat.mul_le_mul_right _ (by omega)
        refine ⟨rfl, .ref p, rfl, _, rfl, _, _, rfl, rfl, .str (tx L), rfl, .ref q, rfl, hT e _ _ _ _ rfl ⟨p, q, _, L, nm', by show [V.ref p, V.int (((e + 1 : Nat) : Int) - 1), V.str (tx L), V.ref q] = _; rw [ee], hp3, by omega, hq3, fun a ha => hnm a (by rw [en]; exact List.mem_append.mpr (.inr ha)), npq, hL, hL2, hL3, fun z u H4 nm2 oz du en2 hp4 hq4 k4 => ?_⟩⟩
        have eD4 := k4 D _ nDp nDq eD
        refine ⟨acc, eD4, Nat.lt_of_le_of_lt (show acc.length ≤ 10 by omega) (by decide), acc ++ [z], ts ++ [u], nm2, upd_same, by rw [List.length_append, hai] <;> rfl, ((os.mono (kt2 hp3 hq3 k4)).mono (KT.lst eD4)).snoc (oz.mono (KT.lst eD4)), fun a ha => ?_, ?_, (hp4.wr nDp).mono (by omega), (by rw [upd_ne nDq.symm]; exact hq4), fun c o c1 c2 hc => ?_⟩
        · rcases List.mem_append.mp ha with z | z
          · exact dl a z
          · exact List.mem_singleton.mp z ▸ du
        · rw [nmsL_snoc, List.append_assoc, ← en2]
          exact en
        · rw [upd_ne (ne_of_none (kk2 c o c1 c2 hc) hD)]
          exact k4 c o c1 c2 (k3 c o c1 c2 hc)
      · obtain ⟨acc, ts, nm', eD, hai, os, dl, en, hp3, hq3, k3⟩ := hP
        have hlt := os.len
        have jle : (2 + j) * cst e ≤ 3 * cst e := Nat.mul_le_mul_right _ (by omega)
        refine .inl ⟨D, _, rfl, .inl (.inl eD), fun B hB => ⟨(show 2 ≤ sizeLine by decide), fun b hb => ?_⟩⟩
        have s4 := smU (o := HO.tup acc) hB
        have s5 := smU (o := HO.tup [.str alW, .ref B]) hb
        exact fin _ (.choice ts) _ nm' (.choice upd_same (s5 _ _ upd_same) (os.mono (KT.same (s4.trans s5)))) (dr_choice dl (by omega) (by omega)) en ((hp3.same (s4.trans s5)).mono (by omega)) ((s4.trans s5) _ _ hq3) (k3.trans (K2.same (s4.trans s5)))
    refine ⟨_, rfl, _, _, rfl, rfl, _, rfl, ite2 (fun h6 => ?_) (fun h6 => ?_)⟩
    · obtain ⟨e, rfl⟩ : ∃ e, d = e + 1 := by
        cases d with
        | zero =>
          have := rd rfl
          have a1 : ¬ (r < 3) := fun z => h (decide_eq_true z)
          have a2 : ¬ (V.int r = V.int 3) := fun z => h3 (decide_eq_true z)
          exact absurd (show V.int r = V.int 3 by rw [show r = 3 by omega]) a2
        | succ e => exact ⟨e, rfl⟩
      have ee : (((e + 1 : Nat) : Int) - 1) = (e : Int) := by omega
      have ec : cst (e + 1) = 3 * cst e + 2 := rfl
      have cpe := cst_pos e
      refine ⟨.ref p, rfl, (show 2 ≤ sizeLine by decide), fun T1 n1 => ⟨(show 2 ≤ sizeLine by decide), fun T2 n2 => ⟨(show 2 ≤ sizeLine by decide), fun T3 n3 => ⟨(show 2 ≤ sizeLine by decide), fun T4 n4 => ⟨(show 2 ≤ sizeLine by decide), fun T5 n5 => ⟨(show 2 ≤ sizeLine by decide), fun T6 n6 => ⟨(show 2 ≤ sizeLine by decide), fun T7 n7 => ⟨(show 2 ≤ sizeLine by decide), fun T8 n8 => ⟨(show 2 ≤ sizeLine by decide), fun T9 n9 => ⟨(show 9 ≤ sizeLine by decide), fun l nl => ?_⟩⟩⟩⟩⟩⟩⟩⟩⟩⟩
      have t1 := smU (o := HO.tup [.int 0, .non]) n1
      have t2 := smU (o := HO.tup [.int 1, .non]) n2
      have t3 := smU (o := HO.tup [.int 0, .int 1]) n3
      have t4 := smU (o := HO.tup [.int 2, .int 2]) n4
      have t5 := smU (o := HO.tup [.int 0, .int 2]) n5
      have t6 := smU (o := HO.tup [.int 1, .int 3]) n6
      have t7 := smU (o := HO.tup [.int 2, .non]) n7
      have t8 := smU (o := HO.tup [.int 0, .int 0]) n8
      have t9 := smU (o := HO.tup [.int 1, .int 1]) n9
      have tl := smU (o := HO.lst [.ref T1, .ref T2, .ref T3, .ref T4, .ref T5, .ref T6, .ref T7, .ref T8, .ref T9]) nl
      have u9 := tl
      have u8 := t9.trans u9
      have u7 := t8.trans u8
      have u6 := t7.trans u7
      have u5 := t6.trans u6
      have u4 := t5.trans u5
      have u3 := t4.trans u4
      have u2 := t3.trans u3
      have u1 := t2.trans u2
      have u0 := t1.trans u1
      have nlp : l ≠ p := (hp1.same (t1.trans (t2.trans (t3.trans (t4.trans (t5.trans (t6.trans (t7.trans (t8.trans (t9)))))))))).ne nl
      refine ⟨p, _, .ref l, rfl, hp1.same u0, by omega, .inr ⟨l, _, rfl, fun hK => .inl (.inl (hK l _ nlp upd_same)), (show 0 < 9 by decide), (show 9 ≤ 1000 by decide), fun v H3 hv hp3 k3 => ?_⟩⟩
      obtain ⟨a, b, T0, rfl, eT3, hab⟩ : ∃ (a : Nat) (b : Option Nat) (T0 : Addr), v = .ref T0 ∧ H3 T0 = some (.tup [.int (a : Int), mst b]) ∧ (a, b) ∈ CTb := by
        simp only [List.mem_cons, List.not_mem_nil, or_false] at hv
        rcases hv with rfl | rfl | rfl | rfl | rfl | rfl | rfl | rfl | rfl
        · exact ⟨0, none, T1, rfl, (hp1.same u0).kt k3 _ _ (u1 T1 _ upd_same), by decide⟩
        · exact ⟨1, none, T2, rfl, (hp1.same u0).kt k3 _ _ (u2 T2 _ upd_same), by decide⟩
        · exact ⟨0, some 1, T3, rfl, (hp1.same u0).kt k3 _ _ (u3 T3 _ upd_same), by decide⟩
        · exact ⟨2, some 2, T4, rfl, (hp1.same u0).kt k3 _ _ (u4 T4 _ upd_same), by decide⟩
        · exact ⟨0, some 2, T5, rfl, (hp1.same u0).kt k3 _ _ (u5 T5 _ upd_same), by decide⟩
        · exact ⟨1, some 3, T6, rfl, (hp1.same u0).kt k3 _ _ (u6 T6 _ upd_same), by decide⟩
        · exact ⟨2, none, T7, rfl, (hp1.same u0).kt k3 _ _ (u7 T7 _ upd_same), by decide⟩
        · exact ⟨0, some 0, T8, rfl, (hp1.same u0).kt k3 _ _ (u8 T8 _ upd_same), by decide⟩
        · exact ⟨1, some 1, T9, rfl, (hp1.same u0).kt k3 _ _ (u9 T9 _ upd_same), by decide⟩
      obtain ⟨c1, c2, c3⟩ := ctb_ok _ hab
      have hq3 := k3 q _ npq.symm (u0 _ _ hq1)
      have kk3 : K2 p q H H3 := (k1.trans ((Kp.same u0).trans k3)).k2
      refine ⟨T0, _, rfl, .inl (.inl eT3), rfl, _, _, rfl, _, _, rfl, rfl, ?_⟩
      refine ⟨_, rfl, _, rfl, .ref p, rfl, _, rfl, _, _, rfl, rfl, .str (tx L), rfl, .ref q, rfl, hT e _ _ _ _ rfl ⟨p, q, _, L, nm, by show [V.ref p, V.int (((e + 1 : Nat) : Int) - 1), V.str (tx L), V.ref q] = _; rw [ee], hp3, by omega, hq3, hnm, npq, hL, hL2, hL3, fun z u H4 nm' oz du en hp4 hq4 k4 => ⟨(show 4 ≤ sizeLine by decide), fun b' hb => ?_⟩⟩⟩
      have sb := smU (o := HO.tup [.str coW, .int a, mst b, z]) hb
      exact fin _ (.count a b u) _ nm' (.count upd_same (oz.mono (KT.same sb))) (dr_count du c1 c2 c3) en ((hp4.up hb).mono (by omega)) (sb _ _ hq4) ((kk3.trans k4).trans (K2.same sb))
    have emp : ∀ (H2 : Hp), Same H1 H2 → 1 ≤ sizeLine ∧ ∀ b, H2 b = none → Q (.ref b) (upd H2 b (.tup [.str emW])) := fun H2 s2 => ⟨by decide, fun b hb => by
      have sb := smU (o := HO.tup [.str emW]) hb
      exact fin _ .empty _ nm (.empty upd_same) dr_empty rfl (((hp1.same s2).up hb).mono (by omega)) ((s2.trans sb) _ _ hq1) ((k1.trans (Kp.same (s2.trans sb))).k2)⟩
    refine ⟨_, rfl, rfl, _, rfl, ?_⟩
    by_cases h10 : V.int r = V.int 10
    · rw [decide_eq_true h10]
      refine iteT ⟨.ref q, rfl, Nat.zero_le _, fun e1 he1 => ?_⟩
      have s1 := smU (o := HO.lst []) he1
      refine ⟨.list (nmD nm), .list [], .lst (.inl (.inl (s1 _ _ hq1))) (nm_dp nm), .lst (.inl (.inl upd_same)) .nil, nmD_shaped hnm, by decide, _, rfl, ?_⟩
      rw [nmD_eqv]
      cases nm with
      | nil => exact iteF (emp _ s1)
      | cons n0 nr =>
        obtain ⟨e, rfl⟩ : ∃ e, d = e + 1 := by
          cases d with
          | zero =>
            have := rd rfl
            have := V.int.inj h10
            omega
          | succ e => exact ⟨e, rfl⟩
        have ee : (((e + 1 : Nat) : Int) - 1) = (e : Int) := by omega
        have ec : cst (e + 1) = 3 * cst e + 2 := rfl
        obtain ⟨m1, m2, m3⟩ := hnm n0 List.mem_cons_self
        have hsx : seqIndex? (0 : Int) (nmV (n0 :: nr)).length = some 0 := by
          have := seqIndex_of (k := 0) (n := (nmV (n0 :: nr)).length) (Int.le_refl 0) (by show (0 : Int) < ((nr.map (fun n => V.str (tx n))).length + 1 : Nat); omega)
          exact this
        refine iteT ⟨.ref q, rfl, .inl ⟨rfl, _, .inl (.inl (s1 _ _ hq1))⟩, q, _, 0, 0, .str (tx n0), rfl, rfl, s1 _ _ hq1, by decide, by decide, hsx, rfl, ?_⟩
        have hp2 := hp1.same s1
        have npq2 : q ≠ p := npq.symm
        have kk : K2 p q H (upd (upd H1 e1 (.lst [])) q (.lst ((nmV (n0 :: nr)).eraseIdx 0))) := (k1.trans (Kp.same s1)).k2.trans K2.l
        refine ⟨_, rfl, .ref p, rfl, _, rfl, _, _, rfl, rfl, .str (tx L), rfl, .ref q, rfl, hT e _ _ _ _ rfl ⟨p, q, _, L, nr, by show [V.ref p, V.int (((e + 1 : Nat) : Int) - 1), V.str (tx L), V.ref q] = _; rw [ee], hp2.wr npq2, by omega, upd_same, fun a ha => hnm a (List.mem_cons_of_mem _ ha), npq, hL, hL2, hL3, fun z u H4 nm' oz du en hp4 hq4 k4 => ⟨(show 3 ≤ sizeLine by decide), fun b' hb => ?_⟩⟩⟩
        have sb := smU (o := HO.tup [.str caW, .str (tx n0), z]) hb
        exact fin _ (.capture n0 u) _ nm' (.capture upd_same (oz.mono (KT.same sb))) (dr_capture du m1 m2 m3) (by rw [en] <;> rfl) ((hp4.up hb).mono (by omega)) (sb _ _ hq4) ((kk.trans k4).trans (K2.same sb))
    · rw [decide_eq_false h10]
      exact iteF (iteF (emp _ (Same.refl _)))
end
end Sf4
/-! A dict display whose keys are tuples of None, ints and texts; its get with a default. -/
namespace Sf
open PySem PySem.Spec PyProof.Rows L2
def oV : Option Key → V
  | none => .non
  | some k => kV k
abbrev NKd (P : Program) (w : World) : HeapKind P w (List (Option Key)) := tupleKind (noneKind P w)
theorem oV_is {P : Program} {w : World} {k : Option Key} {v : Value} (r : RelV (oV k) v) : (noneKind P w).is k v = true := by
  cases k with
  | none =>
    cases (show v = Value.none from r)
    rfl
  | some k => exact kV_is (P := P) (w := w) r
theorem itemsN_are {P : Program} {w : World} : ∀ {ks : List (Option Key)} {its : List Value}, Vals (ks.map oV) its → ItemsAre (noneKind P w) ks its
  | [], _, h => by
    cases h
    exact .nil
  | k :: ks, _, h => by
    cases h with
    | cons r t => exact .cons (oV_is r) (itemsN_are t)
theorem keyN_of {P : Program} {w : World} {H : Hp} {h : Heap} {a : Addr} {ks : List (Option Key)} (ok : HOk P w H h) (e : H a = some (.tup (ks.map oV))) : (NKd P w).is h ks a := by
  obtain ⟨_, its, r, o, h1, h2, n, h3⟩ := (show ObjOk P w H h a (.tup (ks.map oV)) from ok a _ e)
  exact ⟨o, its.toArray, n, h1, h2, h3, by simpa using itemsN_are (P := P) (w := w) r⟩
/-- such a dict, by its entries -/
def DkN (P : Program) (w : World) (d : Addr) (xs : List (List (Option Key) × Addr × Value)) : HO := .ext fun h => (d == sysModules) = false ∧ ∃ o es ep, h.get? d = some o ∧ o.ExactDict ∧ o.data = .dict es ep ∧ es.toList = xs.map (entryOfKey (NKd P w)) ∧ (xs.map (·.1)).Nodup
theorem dkN_ok {P : Program} {w : World} {H : Hp} {h : Heap} {d : Addr} {xs : List (List (Option Key) × Addr × Value)} (hd : (d == sysModules) = false) (R : h.DictOfH (NKd P w) d xs) : ObjOk P w H h d (DkN P w d xs) := by
  obtain ⟨o, es, ep, h1, h2, h3, h4, h5, h6⟩ := R
  refine ⟨⟨hd, o, es, ep, h1, h2, h3, h4, h6⟩, ⟨o, h1⟩, fun a b p k => ?_⟩
  obtain ⟨_, o, es, ep, g1, g2, g3, g4, g5⟩ := p
  exact ⟨hd, o, es, ep, k o g1, g2, g3, g4, g5⟩
theorem dkN_get {P : Program} {w : World} {H : Hp} {h : Heap} {d : Addr} {xs : List (List (Option Key) × Addr × Value)} (ok : HOk P w H h) (e : H d = some (DkN P w d xs)) (hk : ∀ x ∈ xs, H x.2.1 = some (.tup (x.1.map oV))) : (d == sysModules) = false ∧ h.DictOfH (NKd P w) d xs := by
  obtain ⟨⟨hd, o, es, ep, g1, g2, g3, g4, g5⟩, _⟩ := (show ObjOk P w H h d (DkN P w d xs) from ok d _ e)
  exact ⟨hd, o, es, ep, g1, g2, g3, g4, fun x hx => keyN_of ok (hk x hx), g5⟩
theorem atKey_app {K : Type} [DecidableEq K] {xs ys : List (K × Addr × Value)} {k : K} (h : k ∉ xs.map (·.1)) : atKey (xs ++ ys) k = atKey ys k := by
  unfold atKey
  rw [List.find?_append]
  have e : (xs.find? fun x => decide (x.1 = k)) = none := List.find?_eq_none.mpr fun x hx z => h (List.mem_map.mpr ⟨x, hx, of_decide_eq_true z⟩)
  rw [e] <;> rfl
theorem storedAll_nodup {K : Type} [DecidableEq K] : ∀ (ps acc : List (K × Addr × Value)), ((acc ++ ps).map (·.1)).Nodup → storedAllH acc ps = acc ++ ps
  | [], acc, _ => (List.append_nil acc).symm
  | p :: ps, acc, h => by
    have hn : p.1 ∉ acc.map (·.1) := fun z => by
      rw [List.map_append] at h
      exact (List.nodup_append.mp h).2.2 p.1 z p.1 List.mem_cons_self rfl
    have e : atKey acc p.1 = none := by
      have q := atKey_app (ys := []) hn
      rw [List.append_nil] at q
      rw [q] <;> rfl
    show storedAllH (storedH acc p.1 p.2.1 p.2.2) ps = _
    rw [storedH_new e, storedAll_nodup ps (acc ++ [(p.1, p.2.1, p.2.2)]) (by rw [List.append_assoc]; exact h), List.append_assoc] <;> rfl
/-- what a pair of the display is -/
abbrev RelP (k : (List (Option Key) × Addr) × V) (x : List (Option Key) × Addr × Value) : Prop := k.1.1 = x.1 ∧ k.1.2 = x.2.1 ∧ RelV k.2 x.2.2
theorem relP_keys : ∀ {ks : List ((List (Option Key) × Addr) × V)} {xs : List (List (Option Key) × Addr × Value)}, Paired RelP ks xs → ks.map (·.1.1) = xs.map (·.1)
  | _, _, .nil => rfl
  | _, _, .cons h t => by
    rw [List.map_cons, List.map_cons, relP_keys t, h.1]
theorem relP_at {H : Hp} : ∀ {ks : List ((List (Option Key) × Addr) × V)} {xs : List (List (Option Key) × Addr × Value)}, Paired RelP ks xs → (∀ k ∈ ks, H k.1.2 = some (.tup (k.1.1.map oV))) → ∀ x ∈ xs, H x.2.1 = some (.tup (x.1.map oV))
  | _, _, .nil, _ => fun _ h => nomatch h
  | _, _, .cons h t, q => fun x hx => by
    rcases List.mem_cons.mp hx with rfl | hx
    · have := q _ List.mem_cons_self
      rw [h.1, h.2.1] at this
      exact this
    · exact relP_at t (fun k hk => q k (List.mem_cons_of_mem _ hk)) x hx
theorem carriesN {P : Program} {w : World} {H : Hp} {h : Heap} (ok : HOk P w H h) : ∀ {ks : List ((List (Option Key) × Addr) × V)} {ws : List (Value × Value)}, VV (ks.map fun k => (V.ref k.1.2, k.2)) ws → (∀ k ∈ ks, H k.1.2 = some (.tup (k.1.1.map oV))) → ∃ xs, CarriesH (NKd P w) h ws xs ∧ Paired RelP ks xs
  | [], _, r, _ => by
    cases r
    exact ⟨[], True.intro, .nil⟩
  | k :: ks, _, r, q => by
    cases r with
    | @cons a b as bs h0 t =>
      obtain ⟨xs, c, p⟩ := carriesN ok t fun j hj => q j (List.mem_cons_of_mem _ hj)
      obtain ⟨b1, b2⟩ := b
      refine ⟨(k.1.1, k.1.2, b2) :: xs, ⟨h0.1, rfl, keyN_of ok (q k List.mem_cons_self), c⟩, .cons ⟨rfl, rfl, h0.2⟩ p⟩
def tDispN (P : Program) (w : World) (trs : List (TE × TE)) : TE := fun σ H Q => ∀ p, H p = none → tPairs trs σ (upd H p (.dT [])) fun ps H2 => H2 p = some (.dT []) ∧ ∃ ks : List ((List (Option Key) × Addr) × V), ps = ks.map (fun k => (V.ref k.1.2, k.2)) ∧ (ks.map (·.1.1)).Nodup ∧
  (∀ k ∈ ks, H2 k.1.2 = some (.tup (k.1.1.map oV))) ∧ ∀ xs, Paired RelP ks xs → Q (.ref p) (upd H2 p (DkN P w p xs))
theorem pe_dispN {X : Cx} {pos : Pos} {keys : List (Option Expr)} {values : List Expr} {trs : List (TE × TE)} (hu : X.A.units < cLine) (h : PPs X pos keys values trs) (hall : keys.all (·.isSome) = true) (hl : keys.length = values.length) (h0 : keys ≠ [])
    (h15 : keys.length ≤ 15) : PE X (.Dict keys values pos) (tDispN X.prog X.w trs) := by
  refine ⟨fun pins s σ H Q I q => ?_⟩
  have hn := I.hok.fresh (Nat.le_refl s.heap.objs.size)
  have I1 := I.laid (a := s.heap.objs.size) (o := .dT []) (h' := s.heap.push { cls := .type "dict", data := .dict #[] }) (t' := s.toks) (fun _ _ q => Heap.get?_push_of_some _ q) (Nat.le_refl _) (dt_empty s.heap I.big)
  have hpl := pairTrees_length keys values X.env pos hall hl
  have hp0 : pairTrees keys values X.env pos ≠ [] := fun z => by
    rw [z] at hpl
    exact h0 (List.length_eq_zero_iff.mp hpl.symm)
  rw [arm_eval_Dict, zip_pairTrees keys values X.env pos hall hl, dictDisplay_pairs _ hp0 (by omega)]
  refine wpAny_bind (wpAny_standAt (wpAny_bind (wpAny_subDictH (knd := NKd X.prog X.w) (Q := fun d s' => wpAny (model X.prog X.w) X.A (pure (Value.ref d)) (EP X pins σ Q) X.xe s') hu (by omega)
    (thn (h.run pins _ σ _ _ I1 (q _ hn)) fun ws s2 ⟨ps, H2, I2, rel, e, ks, ep, nd, hk, q2⟩ => ?_))))
  subst ep
  obtain ⟨xs, c, rp⟩ := carriesN (P := X.prog) (w := X.w) I2.hok rel hk
  obtain ⟨z, hd, xs0, r0, dd⟩ := dt_of I2.hok e
  cases r0
  obtain ⟨o, es, ep, g1, g2, g3, g4, _, _⟩ := dd
  refine ⟨xs, c, ⟨o, es, ep, g1, g2, g3, g4, (fun _ h => nomatch h), List.nodup_nil⟩, fun h' tk dd' hs => wpAny_pure ⟨.ref s.heap.objs.size, _, ?_, rfl, q2 xs rp⟩⟩
  rw [storedAll_nodup xs [] (by rw [List.nil_append, ← relP_keys rp]; exact nd), List.nil_append] at dd'
  have he : ∃ q, h'.get? s.heap.objs.size = some q := let ⟨q, _, _, hq, _⟩ := dd'; ⟨q, hq⟩
  exact d_write I2 (by rw [e]; exact True.intro) hs he (dkN_ok hd dd')
/-- what get tells of such a dict -/
def tGetN (P : Program) (w : World) (td ty tx : TE) : TE := fun σ H Q => td σ H fun x H1 => (∃ d xs, x = .ref d ∧ H1 d = some (DkN P w d xs) ∧ ∀ y ∈ xs, H1 y.2.1 = some (.tup (y.1.map oV))) ∧ ty σ H1 fun y H2 => tx σ H2 fun z H3 =>
  ∃ d ks xs b k r, x = .ref d ∧ H3 d = some (DkN P w d xs) ∧ Paired RelP ks xs ∧ (∀ y ∈ xs, H3 y.2.1 = some (.tup (y.1.map oV))) ∧ y = .ref b ∧ H3 b = some (.tup (k.map oV)) ∧ (ks.find? fun j => decide (j.1.1 = k)).map (·.2) = r ∧ Q (r.getD z) H3
theorem find_rel {k : List (Option Key)} : ∀ {ks : List ((List (Option Key) × Addr) × V)} {xs : List (List (Option Key) × Addr × Value)}, Paired RelP ks xs → RelO ((ks.find? fun j => decide (j.1.1 = k)).map (·.2)) ((atKey xs k).map (·.2))
  | _, _, .nil => trivial
  | k0 :: ks, x0 :: xs, .cons h t => by
    unfold atKey
    rw [List.find?_cons, List.find?_cons]
    by_cases e : k0.1.1 = k
    · rw [decide_eq_true e, decide_eq_true (h.1 ▸ e)]
      exact h.2.2
    · rw [decide_eq_false e, decide_eq_false (h.1 ▸ e)]
      exact find_rel t
theorem relO_getD {a : Option V} {b : Option Value} {z : V} {u : Value} (h : RelO a b) (r : RelV z u) : RelV (a.getD z) (b.getD u) := by
  cases a <;> cases b <;> first | exact h.elim | exact r | exact h
theorem pe_dgetN {X : Cx} {o e f : Expr} {apos cpos : Pos} {td ty tx : TE} (hu : X.A.units + 1 < cLine) (ho : PE X o td) (he : PE X e ty) (hf : PE X f tx) (m : M2 X o "get" apos e f cpos) : PE X (.Call (.Attribute o "get" apos) [e, f] [] cpos) (tGetN X.prog X.w td ty tx) := by
  refine ⟨fun pins s σ H Q I h => ?_⟩
  refine wpAny_Call_method m.base m.few m.line PySem.F.plainAttrs_dict PySem.F.slot_dict_get PySem.F.type_dict_get (thn (ho.run pins s σ H _ I h) fun u s1 ⟨x, H1, I1, rx, ⟨d, xs, ex, ed, hk⟩, q1⟩ => ?_)
  subst ex
  obtain rfl : u = Value.ref d := rx
  obtain ⟨hd, dd⟩ := dkN_get I1.hok ed hk
  refine ⟨dd.typeIs, fun b q => ?_, ?_⟩
  · cases q
    obtain ⟨ob, _, _, h1, h2, _⟩ := dd
    exact ⟨ob, h1, h2.2.1⟩
  rw [m.trees]
  refine Calls.callWith_builtin rfl (Calls.evalArgs_plain (Calls.spliced_cons (thn (he.run pins s1 σ H1 _ I1 q1) fun iv s2 ⟨y, H2, I2, ry, q2⟩ =>
    Calls.spliced_cons (thn (hf.run pins s2 σ H2 _ I2 q2) fun fv s3 ⟨z, H3, I3, rz, d', ks, xs', b, k, r, ex, ed3, rp, hk3, ey, eb, er, q3⟩ => Calls.spliced_nil ?_))))
  cases ex
  subst ey
  obtain rfl : iv = Value.ref b := ry
  obtain ⟨hd, dd3⟩ := dkN_get I3.hok ed3 hk3
  refine call_meetsIn PySem.F.slot_dict_get dd3.typeIs PySem.F.entry_dict_get (PySem.F.args_dict_get_3 _ _ _) (meetsH_dict_get_default (NKd X.prog X.w) d b hd fv) ⟨tupleKind_room_in1 hu, k, xs', keyN_of I3.hok eb, dd3, ⟨_, H3, I3.tok _, ?_, q3⟩⟩
  rw [← er]
  exact relO_getD (find_rel rp) rz
end Sf
namespace Sf4
open PySem PySem.Spec PyProof.Rows L2 Sf
def NMany : List Str := ["_law_tree_here", "_law_part_here"]
theorem scMany : FnScope NMany ["_law_tree_here"] (defScope sMany) := ⟨rfl, rfl, rfl, by decide +kernel, rfl, by decide +kernel, by decide +kernel⟩
section
variable {P : Program} {w : World} {K : PySem.W.Frag} {mg : Str → Option Value} {base : Heap} {f : Nat → Addr} {fd : Nat → FuncData}
theorem ok_tree (T : LawT K mg f fd) : ∀ d, FnOk P w K mg base CX0 (3 + d) (f 4) (fd 4) ["_law_pot_here", "_law_deep", "_law_letters", "_law_names"] (spTree d)
  | 0 => ok_tree1 T (k := 2) (d := 0) (spT := spNo) (by decide) ok_no (fun e _ _ _ _ h => absurd h (by omega))
  | d + 1 => (ok_tree1 T (k := 3 + d) (d := d + 1) (spT := spTree d) (by omega) (ok_tree T d) (fun e vs H Q E h q => by
      obtain rfl : e = d := by omega
      exact q)).mono (by omega)
theorem ok_many1 (T : LawT K mg f fd) {k d : Nat} {spA : Sp} (G : FnOk P w K mg base CX0 k (f 5) (fd 5) ["_law_tree_here"] spA) (hA : ∀ e vs H Q E, e + 1 ≤ d → spSize e vs H Q E → spA vs H Q E) : FnOk P w K mg base CX0 (k + 1) (f 5) (fd 5) ["_law_tree_here"] (spSize d) := by
  refine T.many.F.ok scMany (fun vs H Q E h => ?_) (fun cdv A outer s H vs Q E hr h => ?_)
  · obtain ⟨v, t, rfl, _⟩ := h
    rfl
  · obtain ⟨v, t, rfl, hd, hw, ht, q⟩ := h
    have gM := T.many.g
    have kM := T.many.F.kp
    have bM := T.many.b
    refine ⟨_, pss_cons (ps_if (pt_cmpR op_eq (pe_ix ix_tup (pv 0) pe_int (fun _ _ => rfl)) pe_str (nomark _)) (pss_one (ps_ret pe_int)) pss_nil)
      (pss_cons (ps_if (pt_cmpR op_in_seq (pe_ix ix_tup (pv 0) pe_int (fun _ _ => rfl)) (pe_tup (pa_cons pe_str (pa_cons pe_str pa_nil))) rfl)
          (pss_one (ps_ret (pe_callB (cr_sum rfl) (by rfl) T.zsum (by decide +kernel) (pa_cons (pe_lc (own := [("_law_part_here", 1)]) (g := gName 1) (tt := tYes) (te := tCall spA [] E0 (tCons (tVar 1) tNil)) rfl scMany.nd (pi_tup (pe_ix ix_tup (pv 0) pe_int (fun _ _ => rfl))) (blkOk_by (N := NMany) (sc := defScope sMany) (by decide +kernel))
              (fun _ _ _ _ _ => pg_name (i := 1) scMany.nd rfl (Or.inl rfl)) (fun _ _ _ _ _ => pts_nil) (fun _ _ _ _ _ => pe_call G hr (by rfl) gM kM bM .nil pass0 (pa_cons (pv 1) pa_nil))) pa_nil)))) pss_nil)
      (pss_cons (ps_if (pt_cmpR op_eq (pe_ix ix_tup (pv 0) pe_int (fun _ _ => rfl)) pe_str (nomark _)) (pss_one (ps_ret (pe_call G hr (by rfl) gM kM bM .nil pass0 (pa_cons (pe_ix ix_tup (pv 0) pe_int (fun _ _ => rfl)) pa_nil)))) pss_nil)
      (pss_cons (ps_if (pt_cmpR op_eq (pe_ix ix_tup (pv 0) pe_int (fun _ _ => rfl)) pe_str (nomark _)) (pss_one (ps_ret pe_int)) pss_nil)
      (pss_one (ps_ret (pe_op op_mul (pe_ifExp (pt_cmpR op_isN (pe_ix ix_tup (pv 0) pe_int (fun _ _ => rfl)) pe_non (nomark _)) (pe_callB (call_max2 rfl) (by rfl) T.zmax (by decide +kernel) (pa_cons (pe_ix ix_tup (pv 0) pe_int (fun _ _ => rfl)) (pa_cons pe_int pa_nil))) (pe_ix ix_tup (pv 0) pe_int (fun _ _ => rfl)))
        (pe_call G hr (by rfl) gM kM bM .nil pass0 (pa_cons (pe_ix ix_tup (pv 0) pe_int (fun _ _ => rfl)) pa_nil)))))))), ?_⟩
    by_cases hp : ∃ s, t = .place s
    · obtain ⟨s, rfl⟩ := hp
      cases ht with
      | place e =>
      rename_i a
      refine ⟨.ref a, rfl, a, _, 0, _, rfl, rfl, .inl (.inl e), atI_nat (j := 0) rfl, rfl, _, rfl, ?_⟩
      rw [decide_eq_true (show V.str plW = V.str (Str.ofString "place") from rfl)]
      exact iteT (q H (Same.refl H))
    obtain ⟨a, X, rest, rfl, e, n1, hX⟩ : ∃ a X rest, v = .ref a ∧ H a = some (.tup (.str X :: rest)) ∧ ¬ (V.str X = V.str plW) ∧
        ((t = .empty ∧ X = emW) ∨ (∃ b vs l, (t = .chain l ∧ X = chW ∨ t = .choice l ∧ X = alW) ∧ rest = [.ref b] ∧ H b = some (.tup vs) ∧ TrOs H vs l) ∨ (∃ n z u, t = .capture n u ∧ X = caW ∧ rest = [.str (tx n), z] ∧ TrO H z u) ∨ (∃ a b z u, t = .count a b u ∧ X = coW ∧ rest = [.int a, mst b, z] ∧ TrO H z u)) := by
      cases ht with
      | place e => exact absurd ⟨_, rfl⟩ hp
      | capture e r => exact ⟨_, _, _, rfl, e, by decide +kernel, .inr (.inr (.inl ⟨_, _, _, rfl, rfl, rfl, r⟩))⟩
      | count e r => exact ⟨_, _, _, rfl, e, by decide +kernel, .inr (.inr (.inr ⟨_, _, _, _, rfl, rfl, rfl, r⟩))⟩
      | empty e => exact ⟨_, _, _, rfl, e, by decide +kernel, .inl ⟨rfl, rfl⟩⟩
      | chain e e2 r => exact ⟨_, _, _, rfl, e, by decide +kernel, .inr (.inl ⟨_, _, _, .inl ⟨rfl, rfl⟩, rfl, e2, r⟩)⟩
      | choice e e2 r => exact ⟨_, _, _, rfl, e, by decide +kernel, .inr (.inl ⟨_, _, _, .inr ⟨rfl, rfl⟩, rfl, e2, r⟩)⟩
    refine ⟨.ref a, rfl, a, _, 0, _, rfl, rfl, .inl (.inl e), atI_nat (j := 0) rfl, rfl, _, rfl, ?_⟩
    rw [decide_eq_false (show ¬ (V.str X = V.str (Str.ofString "place")) from n1)]
    refine iteF ⟨.ref a, rfl, a, _, 0, _, rfl, rfl, .inl (.inl e), atI_nat (j := 0) rfl, (show 2 ≤ sizeLine by decide), fun T0 h0 => ?_⟩
    have s0 := smU (o := HO.tup [.str chW, .str alW]) h0
    refine ⟨T0, _, rfl, .inr (.inl (.inl upd_same)), rfl, rfl, _, rfl, ?_⟩
    show if inV (V.str X) [V.str chW, V.str alW] = true then _ else _
    have e1 := s0 _ _ e
    rcases hX with ⟨rfl, rfl⟩ | ⟨b, vs, l, hXl, rfl, eb, os⟩ | ⟨n, z, u, rfl, rfl, rfl, r⟩ | ⟨a0, b0, z, u, rfl, rfl, rfl, r⟩
    · rw [show inV (V.str emW) [V.str chW, V.str alW] = false by decide +kernel]
      refine iteF ⟨.ref a, rfl, a, _, 0, _, rfl, rfl, .inl (.inl e1), atI_nat (j := 0) rfl, rfl, _, rfl, ?_⟩
      rw [decide_eq_false (show ¬ (V.str emW = V.str (Str.ofString "capture")) by decide +kernel)]
      refine iteF ⟨.ref a, rfl, a, _, 0, _, rfl, rfl, .inl (.inl e1), atI_nat (j := 0) rfl, rfl, _, rfl, ?_⟩
      rw [decide_eq_true (show V.str emW = V.str (Str.ofString "empty") from rfl)]
      exact iteT (q _ s0)
    · have hin : inV (V.str X) [V.str chW, V.str alW] = true := by
        rcases hXl with ⟨_, rfl⟩ | ⟨_, rfl⟩ <;> decide +kernel
      have hd : depL l + 1 ≤ d := by
        rcases hXl with ⟨rfl, _⟩ | ⟨rfl, _⟩ <;> exact hd
      have hw : max l.length (widL l) ≤ 1000 := by
        rcases hXl with ⟨rfl, _⟩ | ⟨rfl, _⟩ <;> exact hw
      have hsz : sz t = szL l := by
        rcases hXl with ⟨rfl, _⟩ | ⟨rfl, _⟩ <;> rfl
      rw [hin]
      have hvl := os.len
      refine iteT ⟨.ref a, rfl, a, _, 1, _, rfl, rfl, .inl (.inl e1), atI_nat (j := 1) rfl, b, rfl, ⟨_, .inl (.inl (s0 _ _ eb))⟩, fun D hD => ?_⟩
      refine lc_it (walk_tup (K := K) (a := b) (xs := vs)) (fun i H3 => H3 D = some (.lst (((l.take i).map fun t => ((sz t : Nat) : Int)).map V.int)) ∧ Same H H3)
        ⟨upd_same, s0.trans (smU hD)⟩ (fun i H3 _ hP => .inl (.inl (hP.2 _ _ eb))) (fun i xi H3 H3' hi hP hy => ?_) (fun H3 hP => ?_)
      · obtain ⟨eD, s3⟩ := hP
        obtain ⟨rfl, hxi⟩ := hy
        obtain ⟨ti, hti, oti⟩ := os.get hxi
        obtain ⟨d1, d2⟩ := depL_get hti
        obtain ⟨hil, hie⟩ := List.getElem?_eq_some_iff.mp hti
        have ht : l.take (i + 1) = l.take i ++ [ti] := by rw [List.take_succ_eq_append_getElem hil, hie]
        refine ⟨rfl, xi, rfl, hA (depL l) _ _ _ _ hd ⟨xi, ti, rfl, d1, by omega, oti.mono (KT.same s3), fun H4 s4 => ?_⟩⟩
        refine ⟨_, s4 _ _ eD, ?_, ?_, fun c o h => ?_⟩
        · rw [List.length_map, List.length_map, List.length_take]
          exact Nat.lt_of_le_of_lt (show min i l.length ≤ 1000 by omega) (by decide)
        · rw [upd_same, ht, List.map_append, List.map_append] <;> rfl
        · rw [upd_ne (ne_of_none (s0 _ _ h) hD)]
          exact s4 _ _ (s3 _ _ h)
      · obtain ⟨eD, s3⟩ := hP
        rw [hvl, List.take_of_length_le (Nat.le_refl _)] at eD
        refine ⟨D, _, rfl, .inl (.inl eD), ?_⟩
        rw [szL_sum, ← hsz]
        exact q _ s3
    · have hd : dep u + 1 ≤ d := hd
      rw [show inV (V.str caW) [V.str chW, V.str alW] = false by decide +kernel]
      refine iteF ⟨.ref a, rfl, a, _, 0, _, rfl, rfl, .inl (.inl e1), atI_nat (j := 0) rfl, rfl, _, rfl, ?_⟩
      rw [decide_eq_true (show V.str caW = V.str (Str.ofString "capture") from rfl)]
      refine iteT ⟨.ref a, rfl, a, _, 2, _, rfl, rfl, .inl (.inl e1), atI_nat (j := 2) rfl, ?_⟩
      exact hA (dep u) _ _ _ _ hd ⟨z, u, rfl, Nat.le_refl _, hw, r.mono (KT.same s0), fun H4 s4 => q H4 (s0.trans s4)⟩
    · have hd : dep u + 1 ≤ d := hd
      have hw : max (many a0 b0) (wid u) ≤ 1000 := hw
      rw [show inV (V.str coW) [V.str chW, V.str alW] = false by decide +kernel]
      refine iteF ⟨.ref a, rfl, a, _, 0, _, rfl, rfl, .inl (.inl e1), atI_nat (j := 0) rfl, rfl, _, rfl, ?_⟩
      rw [decide_eq_false (show ¬ (V.str coW = V.str (Str.ofString "capture")) by decide +kernel)]
      refine iteF ⟨.ref a, rfl, a, _, 0, _, rfl, rfl, .inl (.inl e1), atI_nat (j := 0) rfl, rfl, _, rfl, ?_⟩
      rw [decide_eq_false (show ¬ (V.str coW = V.str (Str.ofString "empty")) by decide +kernel)]
      refine iteF ⟨.ref a, rfl, a, _, 2, _, rfl, rfl, .inl (.inl e1), atI_nat (j := 2) rfl, rfl, _, rfl, ?_⟩
      have tail : ∀ y : V, y = .int ((many a0 b0 : Nat) : Int) → (tCall spA [] E0 (tCons (tOp (rIxT K) (tVar 0) (tC (.int 3))) tNil)) [some (.ref a), none] (upd H T0 (.tup [.str chW, .str alW])) (fun z2 H2 => rI CMul (fun i j => .int (i * j)) y z2 H2 Q) := fun y hy => by
        subst hy
        refine ⟨.ref a, rfl, a, _, 3, _, rfl, rfl, .inl (.inl e1), atI_nat (j := 3) rfl, hA (dep u) _ _ _ _ hd ⟨z, u, rfl, Nat.le_refl _, by omega, r.mono (KT.same s0), fun H4 s4 => ?_⟩⟩
        refine ⟨_, _, rfl, rfl, .inl ⟨by omega, by omega⟩, ?_⟩
        have q1 := q H4 (s0.trans s4)
        have e5 : ((sz (.count a0 b0 u) : Nat) : Int) = ((many a0 b0 : Nat) : Int) * ((sz u : Nat) : Int) := by
          show ((many a0 b0 * sz u : Nat) : Int) = _
          rw [Int.natCast_mul]
        rw [e5] at q1
        exact q1
      cases b0 with
      | none =>
        refine iteT ⟨.ref a, rfl, a, _, 1, _, rfl, rfl, .inl (.inl e1), atI_nat (j := 1) rfl, (a0 : Int), 1, rfl, ?_⟩
        refine tail _ ?_
        have e : (if (1 : Int) > (a0 : Int) then (1 : Int) else (a0 : Int)) = ((many a0 none : Nat) : Int) := by
          show _ = ((max a0 1 : Nat) : Int)
          split <;> omega
        rw [e]
      | some m => exact iteF ⟨.ref a, rfl, a, _, 2, _, rfl, rfl, .inl (.inl e1), atI_nat (j := 2) rfl, tail _ rfl⟩
theorem ok_many (T : LawT K mg f fd) : ∀ d, FnOk P w K mg base CX0 (1 + d) (f 5) (fd 5) ["_law_tree_here"] (spSize d)
  | 0 => ok_many1 T (k := 0) (d := 0) (spA := spNo) ok_no (fun e _ _ _ _ h => absurd h (by omega))
  | d + 1 => (ok_many1 T (d := d + 1) (spA := spSize d) (ok_many T d) (fun e vs H Q E h ⟨v, t, r, hd, q⟩ => ⟨v, t, r, Nat.le_trans hd (by omega), q⟩)).mono (by omega)
end
end Sf4
/-! The law's strings of trees. -/
namespace Sf4
open PySem PySem.Spec PyProof.Rows L2 Sf
def hdT : Tr → Str
  | .place _ => plW
  | .empty => emW
  | .capture _ _ => caW
  | .chain _ => chW
  | .choice _ => alW
  | .count _ _ _ => coW
theorem TrO.head {H : Hp} {v : V} {t : Tr} (h : TrO H v t) : ∃ a rest, v = .ref a ∧ H a = some (.tup (.str (hdT t) :: rest)) := by
  cases h with
  | place e => exact ⟨_, _, rfl, e⟩
  | capture e r => exact ⟨_, _, rfl, e⟩
  | count e r => exact ⟨_, _, rfl, e⟩
  | empty e => exact ⟨_, _, rfl, e⟩
  | chain e e2 r => exact ⟨_, _, rfl, e⟩
  | choice e e2 r => exact ⟨_, _, rfl, e⟩
def inW (t : Tr) (ws : List Str) : Bool := inV (.str (hdT t)) (ws.map V.str)
theorem inW_ch (t : Tr) : inW t [chW, alW] = (isCh t || isAl t) := by
  cases t
  · exact (by decide +kernel : inV (V.str plW) [V.str chW, V.str alW] = false)
  · exact (by decide +kernel : inV (V.str chW) [V.str chW, V.str alW] = true)
  · exact (by decide +kernel : inV (V.str alW) [V.str chW, V.str alW] = true)
  · exact (by decide +kernel : inV (V.str coW) [V.str chW, V.str alW] = false)
  · exact (by decide +kernel : inV (V.str caW) [V.str chW, V.str alW] = false)
  · exact (by decide +kernel : inV (V.str emW) [V.str chW, V.str alW] = false)
theorem inW_al (t : Tr) : inW t [alW] = isAl t := by
  cases t
  · exact (by decide +kernel : inV (V.str plW) [V.str alW] = false)
  · exact (by decide +kernel : inV (V.str chW) [V.str alW] = false)
  · exact (by decide +kernel : inV (V.str alW) [V.str alW] = true)
  · exact (by decide +kernel : inV (V.str coW) [V.str alW] = false)
  · exact (by decide +kernel : inV (V.str caW) [V.str alW] = false)
  · exact (by decide +kernel : inV (V.str emW) [V.str alW] = false)
theorem inW_co (t : Tr) : inW t [chW, alW, coW] = (isCh t || isAl t || isCo t) := by
  cases t
  · exact (by decide +kernel : inV (V.str plW) [V.str chW, V.str alW, V.str coW] = false)
  · exact (by decide +kernel : inV (V.str chW) [V.str chW, V.str alW, V.str coW] = true)
  · exact (by decide +kernel : inV (V.str alW) [V.str chW, V.str alW, V.str coW] = true)
  · exact (by decide +kernel : inV (V.str coW) [V.str chW, V.str alW, V.str coW] = true)
  · exact (by decide +kernel : inV (V.str caW) [V.str chW, V.str alW, V.str coW] = false)
  · exact (by decide +kernel : inV (V.str emW) [V.str chW, V.str alW, V.str coW] = false)
def gC (t : Tr) : List Nat := grp (isCh t || isAl t) (prn t)
def gA (t : Tr) : List Nat := grp (isAl t) (prn t)
theorem grp_ge (b : Bool) (x : List Nat) : x.length ≤ (grp b x).length := by
  unfold grp
  split
  · rw [List.length_cons, List.length_append]
    omega
  · exact Nat.le_refl _
theorem ch_flat : ∀ l : List Tr, prnCh l = (l.map gC).flatten
  | [] => rfl
  | t :: r => by
    show gC t ++ prnCh r = _
    rw [ch_flat r] <;> rfl
theorem mo_len : ∀ l : List Tr, ((l.map gA).map List.length).sum + l.length = (prnMo l).length
  | [] => rfl
  | t :: r => by
    have := mo_len r
    show (gA t).length + ((r.map gA).map List.length).sum + (r.length + 1) = (124 :: (gA t ++ prnMo r)).length
    rw [List.length_cons, List.length_append]
    omega
theorem al_len : ∀ l : List Tr, ((l.map gA).map List.length).sum + l.length ≤ (prnAl l).length + 1
  | [] => Nat.zero_le _
  | t :: r => by
    have := mo_len r
    show (gA t).length + ((r.map gA).map List.length).sum + (r.length + 1) ≤ (gA t ++ prnMo r).length + 1
    rw [List.length_append]
    omega
theorem ch_part : ∀ {l : List Tr} {i : Nat} {t : Tr}, l[i]? = some t → (prn t).length ≤ (prnCh l).length
  | [], _, _, h => by cases h
  | t :: r, 0, _, h => by
    cases h
    have := grp_ge (isCh t || isAl t) (prn t)
    show _ ≤ (gC t ++ prnCh r).length
    rw [List.length_append]
    exact Nat.le_trans this (Nat.le_add_right _ _)
  | t :: r, i + 1, u, h => by
    have := ch_part (l := r) (i := i) h
    show _ ≤ (gC t ++ prnCh r).length
    rw [List.length_append]
    omega
theorem mo_part : ∀ {l : List Tr} {i : Nat} {t : Tr}, l[i]? = some t → (prn t).length ≤ (prnMo l).length
  | [], _, _, h => by cases h
  | t :: r, 0, _, h => by
    cases h
    have : (prn t).length ≤ (gA t).length := grp_ge (isAl t) (prn t)
    show _ ≤ (124 :: (gA t ++ prnMo r)).length
    rw [List.length_cons, List.length_append]
    exact Nat.le_trans this (by omega)
  | t :: r, i + 1, u, h => by
    have := mo_part (l := r) (i := i) h
    show _ ≤ (124 :: (gA t ++ prnMo r)).length
    rw [List.length_cons, List.length_append]
    omega
theorem al_part : ∀ {l : List Tr} {i : Nat} {t : Tr}, l[i]? = some t → (prn t).length ≤ (prnAl l).length
  | [], _, _, h => by cases h
  | t :: r, 0, _, h => by
    cases h
    have : (prn t).length ≤ (gA t).length := grp_ge (isAl t) (prn t)
    show _ ≤ (gA t ++ prnMo r).length
    rw [List.length_append]
    exact Nat.le_trans this (by omega)
  | t :: r, i + 1, u, h => by
    have := mo_part (l := r) (i := i) h
    show _ ≤ (gA t ++ prnMo r).length
    rw [List.length_append]
    omega
theorem wfL_get : ∀ {l : List Tr} {i : Nat} {t : Tr}, wfL l → l[i]? = some t → wf t
  | [], _, _, _, h => by cases h
  | t :: r, 0, _, w, h => by
    cases h
    exact w.1
  | t :: r, i + 1, u, w, h => wfL_get (l := r) (i := i) w.2 h
theorem joinL_nil : ∀ ls : List (List Nat), TL.joinL [] ls = ls.flatten
  | [] => rfl
  | [c] => by
    show c = _
    rw [List.flatten_cons, List.flatten_nil, List.append_nil]
  | c :: d :: r => by
    show c ++ ([] ++ TL.joinL [] (d :: r)) = _
    rw [joinL_nil (d :: r)] <;> rfl
theorem joinL_al : ∀ (t : Tr) (r : List Tr), TL.joinL [124] ((t :: r).map gA) = gA t ++ prnMo r
  | t, [] => (List.append_nil _).symm
  | t, u :: r => by
    show gA t ++ ([124] ++ TL.joinL [124] ((u :: r).map gA)) = _
    rw [joinL_al u r] <;> rfl
theorem join_tx (s : List Nat) (S : Str) (hS : S.cps.toList = s) (ls : List (List Nat)) : Txt.join S (ls.map tx) = tx (TL.joinL s ls) := by
  rw [TL.join_eq]
  refine TL.ext_tl ?_
  rw [TL.tl_join, TL.tl, hS, List.map_map]
  have e : List.map (TL.tl ∘ tx) ls = ls := by
    have : (TL.tl ∘ tx) = id := rfl
    rw [this, List.map_id]
  rw [e] <;> rfl
theorem num_str : ∀ n, n < 21 → (Str.ofString (toString ((n : Nat) : Int))) = tx (num n) := by decide +kernel
theorem num_log : ∀ n, n < 21 → ((n : Nat) : Int).natAbs.log2 < 1920 := by decide +kernel
/-- the count, told in full -/
def told (a : Nat) (b : Option Nat) : List Nat := if mst b ≠ .int a then 123 :: (num a ++ 44 :: ((match b with | none => [] | some b => num b) ++ [125])) else 123 :: (num a ++ [125])
def kB : Option Nat → Option Key
  | none => none
  | some b => some (.inl (b : Int))
theorem oV_kB (b : Option Nat) : oV (kB b) = mst b := by cases b <;> rfl
def spStr (d : Nat) : Sp := fun vs H Q _ => ∃ (v : V) (t : Tr), vs = [v] ∧ dep t ≤ d ∧ wid t ≤ 1000 ∧ (prn t).length ≤ 5000 ∧ wf t ∧ TrO H v t ∧ ∀ H', Same H H' → Q (.str (tx (prn t))) H'
def spGrp (d : Nat) : Sp := fun vs H Q _ => ∃ (v : V) (t : Tr) (wt : Addr) (ws : List Str), vs = [v, .ref wt] ∧ H wt = some (.tup (ws.map V.str)) ∧ dep t ≤ d ∧ wid t ≤ 1000 ∧ (prn t).length ≤ 5000 ∧ wf t ∧ TrO H v t ∧ ∀ H', Same H H' → Q (.str (tx (grp (inW t ws) (prn t)))) H'
theorem scGrouped : FnScope ["_law_tree_here", "_law_words"] ["_law_tree_here", "_law_words"] (defScope sGrouped) := ⟨rfl, rfl, rfl, by decide +kernel, rfl, by decide +kernel, by decide +kernel⟩
def NStr : List Str := ["_law_tree_here", "_law_least", "_law_most", "_law_short", "_law_told", "_law_part_here"]
theorem scString : FnScope NStr ["_law_tree_here"] (defScope sString) := ⟨rfl, rfl, rfl, by decide +kernel, rfl, by decide +kernel, by decide +kernel⟩
theorem k60 : Str.ofString "<" = tx [60] := by decide +kernel
theorem k62 : Str.ofString ">" = tx [62] := by decide +kernel
theorem k58 : Str.ofString ":" = tx [58] := by decide +kernel
theorem k91 : Str.ofString "[" = tx [91] := by decide +kernel
theorem k93 : Str.ofString "]" = tx [93] := by decide +kernel
theorem k123 : Str.ofString "{" = tx [123] := by decide +kernel
theorem k125 : Str.ofString "}" = tx [125] := by decide +kernel
theorem k44 : Str.ofString "," = tx [44] := by decide +kernel
theorem kem : Str.ofString "" = tx [] := by decide +kernel
theorem sl20 {n : Nat} (h : n ≤ 20000) : n ≤ sizeLine := Nat.le_trans h (by decide)
theorem tx_lens (ls : List (List Nat)) : (ls.map tx).map (·.length) = ls.map List.length := by
  rw [List.map_map]
  exact List.map_congr_left fun c _ => tx_len c
theorem told_len (a : Nat) (b : Option Nat) : (told a b).length ≤ 8 := by
  have h1 := num_len a
  unfold told
  split
  · cases b with
    | none => simp only [List.length_cons, List.length_append, List.length_nil]; omega
    | some b =>
      have := num_len b
      simp only [List.length_cons, List.length_append, List.length_nil]
      omega
  · simp only [List.length_cons, List.length_append, List.length_nil]
    omega
theorem told_none (a : Nat) : told a none = 123 :: (num a ++ [44, 125]) := if_pos (show ¬ (mst none = V.int (a : Int)) from fun z => by cases z)
theorem told_some (a b : Nat) : told a (some b) = if a = b then 123 :: (num a ++ [125]) else 123 :: (num a ++ 44 :: (num b ++ [125])) := by
  by_cases h : a = b
  · rw [if_pos h]
    exact if_neg (show ¬ ¬ (mst (some b) = V.int (a : Int)) from fun z => z (by rw [h] <;> rfl))
  · rw [if_neg h]
    exact if_pos (show ¬ (mst (some b) = V.int (a : Int)) from fun z => h (by have := V.int.inj z; omega))
abbrev shK (A1 A2 A3 : Addr) : List ((List (Option Key) × Addr) × V) := [(([some (.inl 0), none], A1), .str (Str.ofString "*")), (([some (.inl 1), none], A2), .str (Str.ofString "+")), (([some (.inl 0), some (.inl 1)], A3), .str (Str.ofString "?"))]
theorem short_get (A1 A2 A3 : Addr) (n : Nat) (m : Option Nat) : (((shK A1 A2 A3).find? fun j => decide (j.1.1 = [some (.inl (n : Int)), kB m])).map (·.2)).getD (.str (tx (told n m))) = .str (tx (cntS n m)) := by
  have e1 : V.str (Str.ofString "*") = V.str (tx [42]) := by decide +kernel
  have e2 : V.str (Str.ofString "+") = V.str (tx [43]) := by decide +kernel
  have e3 : V.str (Str.ofString "?") = V.str (tx [63]) := by decide +kernel
  unfold shK
  rw [e1, e2, e3, List.find?_cons, List.find?_cons, List.find?_cons, List.find?_nil]
  cases m with
  | none =>
    have hc : cntS n none = if n = 0 then [42] else if n = 1 then [43] else 123 :: (num n ++ [44, 125]) := rfl
    have n3 : ¬ ([some (Sum.inl (0 : Int)), some (Sum.inl 1)] : List (Option Key)) = [some (.inl (n : Int)), kB none] := fun z => by
      simp only [kB, List.cons.injEq] at z
      cases z.2.1
    have i1 : ([some (Sum.inl (0 : Int)), none] : List (Option Key)) = [some (.inl (n : Int)), kB none] ↔ n = 0 := by
      simp only [kB, List.cons.injEq, Option.some.injEq, Sum.inl.injEq, and_true]
      omega
    have i2 : ([some (Sum.inl (1 : Int)), none] : List (Option Key)) = [some (.inl (n : Int)), kB none] ↔ n = 1 := by
      simp only [kB, List.cons.injEq, Option.some.injEq, Sum.inl.injEq, and_true]
      omega
    rw [hc]
    by_cases h0 : n = 0
    · rw [decide_eq_true (i1.mpr h0), if_pos h0] <;> rfl
    · rw [decide_eq_false (fun z => h0 (i1.mp z)), if_neg h0]
      by_cases h1 : n = 1
      · rw [decide_eq_true (i2.mpr h1), if_pos h1] <;> rfl
      · rw [decide_eq_false (fun z => h1 (i2.mp z)), decide_eq_false n3, if_neg h1, told_none] <;> rfl
  | some b =>
    have hc : cntS n (some b) = if n = 0 ∧ b = 1 then [63] else if n = b then 123 :: (num n ++ [125]) else 123 :: (num n ++ 44 :: (num b ++ [125])) := rfl
    have n1 : ∀ i : Int, ¬ ([some (Sum.inl i), none] : List (Option Key)) = [some (.inl (n : Int)), kB (some b)] := fun i z => by
      simp only [kB, List.cons.injEq] at z
      cases z.2.1
    have i3 : ([some (Sum.inl (0 : Int)), some (Sum.inl 1)] : List (Option Key)) = [some (.inl (n : Int)), kB (some b)] ↔ n = 0 ∧ b = 1 := by
      simp only [kB, List.cons.injEq, Option.some.injEq, Sum.inl.injEq, and_true]
      omega
    rw [hc, decide_eq_false (n1 0), decide_eq_false (n1 1)]
    by_cases h : n = 0 ∧ b = 1
    · rw [decide_eq_true (i3.mpr h), if_pos h] <;> rfl
    · rw [decide_eq_false (fun z => h (i3.mp z)), if_neg h, told_some] <;> rfl
theorem cnt_len (n : Nat) (m : Option Nat) : (cntS n m).length ≤ 8 := by
  have h1 := num_len n
  cases m with
  | none =>
    show (if n = 0 then [42] else if n = 1 then [43] else 123 :: (num n ++ [44, 125])).length ≤ 8
    split
    · decide
    · split
      · decide
      · simp only [List.length_cons, List.length_append, List.length_nil]
        omega
  | some b =>
    have h2 := num_len b
    show (if n = 0 ∧ b = 1 then [63] else if n = b then 123 :: (num n ++ [125]) else 123 :: (num n ++ 44 :: (num b ++ [125]))).length ≤ 8
    split
    · decide
    · split <;> simp only [List.length_cons, List.length_append, List.length_nil] <;> omega
section
variable {P : Program} {w : World} {K : PySem.W.Frag} {mg : Str → Option Value} {base : Heap} {f : Nat → Addr} {fd : Nat → FuncData}
theorem ok_grouped (T : LawT K mg f fd) {k d : Nat} (G : FnOk P w K mg base CX0 k (f 7) (fd 7) ["_law_tree_here"] (spStr d)) : FnOk P w K mg base CX0 (k + 1) (f 6) (fd 6) ["_law_tree_here", "_law_words"] (spGrp d) := by
  refine T.grouped.F.ok scGrouped (fun vs H Q E h => ?_) (fun cdv A outer s H vs Q E hr h => ?_)
  · obtain ⟨v, t, wt, ws, rfl, _⟩ := h
    rfl
  · obtain ⟨v, t, wt, ws, rfl, hwt, hd, hw, hl, hf, ht, q⟩ := h
    have gS := T.string.g
    have kS := T.string.F.kp
    have bS := T.string.b
    refine ⟨_, pss_one (ps_ret (pe_ifExp (pt_cmpR op_in_seq (pe_ix ix_tup (pv 0) pe_int (fun _ _ => rfl)) (pv 1) rfl) (pe_op op_add_str (pe_op op_add_str pe_str (pe_call G hr (by rfl) gS kS bS .nil pass0 (pa_cons (pv 0) pa_nil))) pe_str) (pe_call G hr (by rfl) gS kS bS .nil pass0 (pa_cons (pv 0) pa_nil)))), ?_⟩
    obtain ⟨a, rest, rfl, e⟩ := ht.head
    refine ⟨.ref a, rfl, a, _, 0, _, rfl, rfl, .inl (.inl e), atI_nat (j := 0) rfl, .ref wt, rfl, wt, _, rfl, .inr (.inl (.inl hwt)), rfl, ?_, _, rfl, ?_⟩
    · exact List.all_eq_true.mpr fun y hy => by
        obtain ⟨m, _, rfl⟩ := List.mem_map.mp hy
        rfl
    show if inW t ws = true then _ else _
    cases hb : inW t ws with
    | true =>
      rw [hb] at q
      refine iteT ⟨.ref a, rfl, .ref a, t, rfl, hd, hw, hl, hf, ht, fun H1 s1 => ⟨_, _, rfl, rfl, ?_, _, _, rfl, rfl, ?_, ?_⟩⟩
      · rw [tx_len]
        exact Nat.le_trans (show (Str.ofString "(").length + (prn t).length ≤ 10000 by rw [show (Str.ofString "(").length = 1 by decide +kernel]; omega) (by decide)
      · rw [TL.len_tl, TL.tl_append, List.length_append]
        show 1 + (prn t).length + 1 ≤ _
        exact Nat.le_trans (show 1 + (prn t).length + 1 ≤ 10000 by omega) (by decide)
      · have e3 : Str.ofString "(" ++ tx (prn t) ++ Str.ofString ")" = tx (grp true (prn t)) := by
          rw [show Str.ofString "(" = tx [40] by decide +kernel, show Str.ofString ")" = tx [41] by decide +kernel, tx_app, tx_app] <;> rfl
        rw [e3]
        exact q H1 s1
    | false =>
      rw [hb] at q
      exact iteF ⟨.ref a, rfl, .ref a, t, rfl, hd, hw, hl, hf, ht, q⟩
theorem ok_string1 (T : LawT K mg f fd) {k d : Nat} {spA spB : Sp} (hk : 1 ≤ k) (GA : FnOk P w K mg base CX0 k (f 7) (fd 7) ["_law_tree_here"] spA) (GB : FnOk P w K mg base CX0 k (f 6) (fd 6) ["_law_tree_here", "_law_words"] spB)
    (hA : ∀ e vs H Q E, e + 1 ≤ d → spStr e vs H Q E → spA vs H Q E) (hB : ∀ e vs H Q E, e + 1 ≤ d → spGrp e vs H Q E → spB vs H Q E) : FnOk P w K mg base CX0 (k + 1) (f 7) (fd 7) ["_law_tree_here"] (spStr d) := by
  refine T.string.F.ok scString (fun vs H Q E h => ?_) (fun cdv A outer s H vs Q E hr h => ?_)
  · obtain ⟨v, t, rfl, _⟩ := h
    rfl
  · obtain ⟨v, t, rfl, hd, hw, hl, hf, ht, q⟩ := h
    have gS := T.string.g
    have kS := T.string.F.kp
    have bS := T.string.b
    have gG := T.grouped.g
    have kG := T.grouped.F.kp
    have bG := T.grouped.b
    have GL := law_lets (P := P) (w := w) (base := base) T
    have hu := hu_of hr
    have hu0 := hr.units0
    refine ⟨_, pss_cons (ps_if (pt_cmpR op_eq (pe_ix ix_tup (pv 0) pe_int (fun _ _ => rfl)) pe_str (nomark _))
          (pss_one (ps_ret (pe_ifExp (pt_cmpR op_eq (pe_ix ix_tup (pv 0) pe_int (fun _ _ => rfl)) (pe_call0 GL (hr.mono hk) (by rfl) T.lets.g T.lets.F.kp T.lets.b .nil pass0) (nomark _)) pe_str
            (pe_ifExp (pt_cmpR op_eq (pe_callB call_len_str (by rfl) T.zlen PySem.boot_len (pa_cons (pe_ix ix_tup (pv 0) pe_int (fun _ _ => rfl)) pa_nil)) pe_int (nomark _)) (pe_ix ix_tup (pv 0) pe_int (fun _ _ => rfl))
              (pe_op op_add_str (pe_op op_add_str pe_str (pe_ix ix_tup (pv 0) pe_int (fun _ _ => rfl))) pe_str))))) pss_nil)
      (pss_cons (ps_if (pt_cmpR op_eq (pe_ix ix_tup (pv 0) pe_int (fun _ _ => rfl)) pe_str (nomark _)) (pss_one (ps_ret pe_str)) pss_nil)
      (pss_cons (ps_if (pt_cmpR op_eq (pe_ix ix_tup (pv 0) pe_int (fun _ _ => rfl)) pe_str (nomark _))
          (pss_one (ps_ret (pe_op op_add_str (pe_op op_add_str (pe_op op_add_str (pe_op op_add_str pe_str (pe_ix ix_tup (pv 0) pe_int (fun _ _ => rfl))) pe_str) (pe_call GA hr (by rfl) gS kS bS .nil pass0 (pa_cons (pe_ix ix_tup (pv 0) pe_int (fun _ _ => rfl)) pa_nil))) pe_str))) pss_nil)
      (pss_cons (ps_if (pt_cmpR op_eq (pe_ix ix_tup (pv 0) pe_int (fun _ _ => rfl)) pe_str (nomark _))
          (pss_one (ps_ret (pe_join pe_str (pe_lc (own := [("_law_part_here", 5)]) (g := gName 5) (tt := tYes) (te := tCall spB [] E0 (tCons (tVar 5) (tCons (tTup (tCons (tC (.str (Str.ofString "chain"))) (tCons (tC (.str (Str.ofString "choice"))) tNil))) tNil))) rfl scString.nd (pi_tup (pe_ix ix_tup (pv 0) pe_int (fun _ _ => rfl))) (blkOk_by (N := NStr) (sc := defScope sString) (by decide +kernel))
              (fun _ _ _ _ _ => pg_name (i := 5) scString.nd rfl (Or.inl rfl)) (fun _ _ _ _ _ => pts_nil) (fun _ _ _ _ _ => pe_call GB hr (by rfl) gG kG bG .nil pass0 (pa_cons (pv 5) (pa_cons (pe_tup (pa_cons pe_str (pa_cons pe_str pa_nil))) pa_nil))))))) pss_nil)
      (pss_cons (ps_if (pt_cmpR op_eq (pe_ix ix_tup (pv 0) pe_int (fun _ _ => rfl)) pe_str (nomark _))
          (pss_one (ps_ret (pe_join pe_str (pe_lc (own := [("_law_part_here", 5)]) (g := gName 5) (tt := tYes) (te := tCall spB [] E0 (tCons (tVar 5) (tCons (tTup (tCons (tC (.str (Str.ofString "choice"))) tNil)) tNil))) rfl scString.nd (pi_tup (pe_ix ix_tup (pv 0) pe_int (fun _ _ => rfl))) (blkOk_by (N := NStr) (sc := defScope sString) (by decide +kernel))
              (fun _ _ _ _ _ => pg_name (i := 5) scString.nd rfl (Or.inl rfl)) (fun _ _ _ _ _ => pts_nil) (fun _ _ _ _ _ => pe_call GB hr (by rfl) gG kG bG .nil pass0 (pa_cons (pv 5) (pa_cons (pe_tup (pa_cons pe_str pa_nil)) pa_nil))))))) pss_nil)
      (pss_cons (ps_par (i := 1) (j := 2) rfl scString.nd rfl rfl (by decide) rfl rfl (pa_cons (pe_ix ix_tup (pv 0) pe_int (fun _ _ => rfl)) (pa_cons (pe_ix ix_tup (pv 0) pe_int (fun _ _ => rfl)) pa_nil)) (by rfl))
      (pss_cons (ps_set (i := 3) scString.nd rfl (.inl rfl) (pe_dispN hu0 (pps_cons (pe_tup (pa_cons pe_int (pa_cons pe_non pa_nil))) pe_str (pps_cons (pe_tup (pa_cons pe_int (pa_cons pe_non pa_nil))) pe_str (pps_cons (pe_tup (pa_cons pe_int (pa_cons pe_int pa_nil))) pe_str pps_nil))) rfl rfl (by simp) (by decide)))
      (Evl.pss_cut (ps_set (i := 4) scString.nd rfl (.inl rfl) (pe_ifExp (pt_cmpR op_ne (pv 1) (pv 2) (nomark _))
          (pe_op op_add_str (pe_op op_add_str (pe_op op_add_str (pe_op op_add_str pe_str (pe_callTy call_str_int (by rfl) T.zstr PySem.Pv.boot_str (pa_cons (pv 1) pa_nil))) pe_str)
            (pe_callTy (CallR.or call_str_int SkE.call_str_str) (by rfl) T.zstr PySem.Pv.boot_str (pa_cons (pe_ifExp (pt_cmpR op_isN (pv 2) pe_non (nomark _)) pe_str (pv 2)) pa_nil))) pe_str)
          (pe_op op_add_str (pe_op op_add_str pe_str (pe_callTy call_str_int (by rfl) T.zstr PySem.Pv.boot_str (pa_cons (pv 1) pa_nil))) pe_str)))
      (pss_one (ps_ret (pe_op op_add_str (pe_call GB hr (by rfl) gG kG bG .nil pass0 (pa_cons (pe_ix ix_tup (pv 0) pe_int (fun _ _ => rfl)) (pa_cons (pe_tup (pa_cons pe_str (pa_cons pe_str (pa_cons pe_str pa_nil)))) pa_nil)))
        (pe_dgetN hu (pv 3) (pe_tup (pa_cons (pv 1) (pa_cons (pv 2) pa_nil))) (pv 4) ⟨rfl, rfl, rfl, rfl⟩))))))))))), ?_⟩
    cases ht with
    | place e =>
      rename_i a s
      refine ⟨.ref a, rfl, a, _, 0, _, rfl, rfl, .inl (.inl e), atI_nat (j := 0) rfl, rfl, _, rfl, ?_⟩
      rw [decide_eq_true (show V.str plW = V.str (Str.ofString "place") from rfl)]
      refine iteT ⟨.ref a, rfl, a, _, 1, _, rfl, rfl, .inl (.inl e), atI_nat (j := 1) rfl, rfl, rfl, _, rfl, ?_⟩
      have q0 := q H (Same.refl H)
      have hp : prn (.place s) = if s = LETc then [46] else if s.length = 1 then s else 91 :: (s ++ [93]) := rfl
      have hs38 : s.length ≤ 38 := by
        have h1 := List.length_filter_le (fun c => decide (c ∈ s)) LETc
        rw [hf.2] at h1
        exact Nat.le_trans h1 (by decide)
      by_cases hL : s = LETc
      · subst hL
        rw [hp, if_pos rfl] at q0
        rw [decide_eq_true (show V.str (tx LETc) = V.str LSs by decide +kernel)]
        refine iteT ?_
        have : V.str (Str.ofString ".") = V.str (tx [46]) := by decide +kernel
        show Q (V.str (Str.ofString ".")) H
        rw [this]
        exact q0
      · have hne : ¬ (V.str (tx s) = V.str LSs) := fun z => hL (by
          have z2 : tx s = LSs := V.str.inj z
          have : (tx s).cps.toList = LSs.cps.toList := by rw [z2]
          rw [LS_cps] at this
          exact this)
        rw [hp, if_neg hL] at q0
        rw [decide_eq_false hne]
        refine iteF ⟨.ref a, rfl, a, _, 1, _, rfl, rfl, .inl (.inl e), atI_nat (j := 1) rfl, tx s, rfl, tx_len60 (by omega), rfl, _, rfl, ?_⟩
        rw [tx_len]
        by_cases h1 : s.length = 1
        · rw [if_pos h1] at q0
          rw [h1]
          refine iteT ⟨.ref a, rfl, a, _, 1, _, rfl, rfl, .inl (.inl e), atI_nat (j := 1) rfl, q0⟩
        · rw [if_neg h1] at q0
          rw [decide_eq_false (show ¬ (V.int (s.length : Nat) = V.int 1) from fun z => h1 (by have := V.int.inj z; omega))]
          refine iteF ⟨.ref a, rfl, a, _, 1, _, rfl, rfl, .inl (.inl e), atI_nat (j := 1) rfl, _, _, rfl, rfl, ?_, _, _, rfl, rfl, ?_, ?_⟩
          · (simp only [k60, k62, k58, k91, k93, k123, k125, k44, kem, tx_app, tx_len, List.length_append, List.length_cons, List.length_nil]; exact sl20 (by omega))
          · (simp only [k60, k62, k58, k91, k93, k123, k125, k44, kem, tx_app, tx_len, List.length_append, List.length_cons, List.length_nil]; exact sl20 (by omega))
          · rw [k91, k93, tx_app, tx_app]
            exact q0
    | empty e =>
      rename_i a
      refine ⟨.ref a, rfl, a, _, 0, _, rfl, rfl, .inl (.inl e), atI_nat (j := 0) rfl, rfl, _, rfl, ?_⟩
      rw [decide_eq_false (show ¬ (V.str emW = V.str (Str.ofString "place")) by decide +kernel)]
      refine iteF ⟨.ref a, rfl, a, _, 0, _, rfl, rfl, .inl (.inl e), atI_nat (j := 0) rfl, rfl, _, rfl, ?_⟩
      rw [decide_eq_true (show V.str emW = V.str (Str.ofString "empty") from rfl)]
      refine iteT ?_
      have : V.str (Str.ofString "()") = V.str (tx [40, 41]) := by decide +kernel
      show Q (V.str (Str.ofString "()")) H
      rw [this]
      exact q H (Same.refl H)
    | capture e r =>
      rename_i a n v t
      refine ⟨.ref a, rfl, a, _, 0, _, rfl, rfl, .inl (.inl e), atI_nat (j := 0) rfl, rfl, _, rfl, ?_⟩
      rw [decide_eq_false (show ¬ (V.str caW = V.str (Str.ofString "place")) by decide +kernel)]
      refine iteF ⟨.ref a, rfl, a, _, 0, _, rfl, rfl, .inl (.inl e), atI_nat (j := 0) rfl, rfl, _, rfl, ?_⟩
      rw [decide_eq_false (show ¬ (V.str caW = V.str (Str.ofString "empty")) by decide +kernel)]
      refine iteF ⟨.ref a, rfl, a, _, 0, _, rfl, rfl, .inl (.inl e), atI_nat (j := 0) rfl, rfl, _, rfl, ?_⟩
      rw [decide_eq_true (show V.str caW = V.str (Str.ofString "capture") from rfl)]
      have hp : prn (.capture n t) = 60 :: (n ++ 58 :: (prn t ++ [62])) := rfl
      have hn : n.length ≤ 8 := hf.2.1
      have hl2 : (prn t).length ≤ 5000 := by
        rw [hp] at hl
        simp only [List.length_cons, List.length_append] at hl
        omega
      refine iteT ⟨.ref a, rfl, a, _, 1, _, rfl, rfl, .inl (.inl e), atI_nat (j := 1) rfl, _, _, rfl, rfl, ?_, _, _, rfl, rfl, ?_, .ref a, rfl, a, _, 2, _, rfl, rfl, .inl (.inl e), atI_nat (j := 2) rfl, hA (dep t) _ _ _ _ hd ⟨v, t, rfl, Nat.le_refl _, hw, hl2, hf.2.2.2, r, fun H4 s4 => ⟨_, _, rfl, rfl, ?_, _, _, rfl, rfl, ?_, ?_⟩⟩⟩
      · (simp only [k60, k62, k58, k91, k93, k123, k125, k44, kem, tx_app, tx_len, List.length_append, List.length_cons, List.length_nil]; exact sl20 (by omega))
      · (simp only [k60, k62, k58, k91, k93, k123, k125, k44, kem, tx_app, tx_len, List.length_append, List.length_cons, List.length_nil]; exact sl20 (by omega))
      · (simp only [k60, k62, k58, k91, k93, k123, k125, k44, kem, tx_app, tx_len, List.length_append, List.length_cons, List.length_nil]; exact sl20 (by omega))
      · (simp only [k60, k62, k58, k91, k93, k123, k125, k44, kem, tx_app, tx_len, List.length_append, List.length_cons, List.length_nil]; exact sl20 (by omega))
      · rw [k60, k58, k62, tx_app, tx_app, tx_app, tx_app]
        have : [60] ++ n ++ [58] ++ prn t ++ [62] = prn (.capture n t) := by
          rw [hp]
          simp only [List.cons_append, List.nil_append, List.append_assoc]
        rw [this]
        exact q H4 s4
    | chain e e2 os =>
      rename_i a b vs l
      have eP : prn (.chain l) = TL.joinL [] (l.map gC) := by
        rw [joinL_nil]
        exact ch_flat l
      have hln : (l.map gC).length = l.length := List.length_map ..
      refine ⟨.ref a, rfl, a, _, 0, _, rfl, rfl, .inl (.inl e), atI_nat (j := 0) rfl, rfl, _, rfl, ?_⟩
      rw [decide_eq_false (show ¬ (V.str chW = V.str (Str.ofString "place")) by decide +kernel)]
      refine iteF ⟨.ref a, rfl, a, _, 0, _, rfl, rfl, .inl (.inl e), atI_nat (j := 0) rfl, rfl, _, rfl, ?_⟩
      rw [decide_eq_false (show ¬ (V.str chW = V.str (Str.ofString "empty")) by decide +kernel)]
      refine iteF ⟨.ref a, rfl, a, _, 0, _, rfl, rfl, .inl (.inl e), atI_nat (j := 0) rfl, rfl, _, rfl, ?_⟩
      rw [decide_eq_false (show ¬ (V.str chW = V.str (Str.ofString "capture")) by decide +kernel)]
      refine iteF ⟨.ref a, rfl, a, _, 0, _, rfl, rfl, .inl (.inl e), atI_nat (j := 0) rfl, rfl, _, rfl, ?_⟩
      rw [decide_eq_true (show V.str chW = V.str (Str.ofString "chain") from rfl)]
      have hd : depL l + 1 ≤ d := hd
      have hw : max l.length (widL l) ≤ 1000 := hw
      have hvl := os.len
      refine iteT ⟨⟨_, rfl⟩, .ref a, rfl, a, _, 1, _, rfl, rfl, .inl (.inl e), atI_nat (j := 1) rfl, b, rfl, ⟨_, .inl (.inl e2)⟩, fun D hD => ?_⟩
      refine lc_it (walk_tup (K := K) (a := b) (xs := vs)) (fun i H3 => H3 D = some (.lst (((l.take i).map gC).map fun c => V.str (tx c))) ∧ Same H H3)
        ⟨upd_same, smU hD⟩ (fun i H3 _ hP => .inl (.inl (hP.2 _ _ e2))) (fun i xi H3 H3' hi hP hy => ?_) (fun H3 hP => ?_)
      · obtain ⟨eD, s3⟩ := hP
        obtain ⟨rfl, hxi⟩ := hy
        obtain ⟨ti, hti, oti⟩ := os.get hxi
        obtain ⟨d1, d2⟩ := depL_get hti
        obtain ⟨hil, hie⟩ := List.getElem?_eq_some_iff.mp hti
        have ht : l.take (i + 1) = l.take i ++ [ti] := by rw [List.take_succ_eq_append_getElem hil, hie]
        have hli : (prn ti).length ≤ 5000 := Nat.le_trans (ch_part hti) hl
        refine ⟨rfl, xi, rfl, (show 2 ≤ sizeLine by decide), fun T0 h0 => ?_⟩
        have s0 := smU (o := HO.tup [.str chW, .str alW]) h0
        refine hB (depL l) _ _ _ _ hd ⟨xi, ti, T0, [chW, alW], rfl, upd_same, d1, by omega, hli, wfL_get hf.2 hti, oti.mono (KT.same (s3.trans s0)), fun H4 s4 => ?_⟩
        refine ⟨_, s4 _ _ (s0 _ _ eD), ?_, ?_, fun c o h => ?_⟩
        · rw [List.length_map, List.length_map, List.length_take]
          exact Nat.lt_of_le_of_lt (show min i l.length ≤ 1000 by omega) (by decide)
        · rw [upd_same, ht, List.map_append, List.map_append, inW_ch] <;> rfl
        · rw [upd_ne (ne_of_none h hD)]
          exact s4 _ _ (s0 _ _ (s3 _ _ h))
      · obtain ⟨eD, s3⟩ := hP
        rw [hvl, List.take_of_length_le (Nat.le_refl _)] at eD
        refine ⟨_, D, (l.map gC).map tx, rfl, rfl, .inl (.inl (.inl (by rw [List.map_map]; exact eD))), ?_, ?_⟩
        · rw [tx_lens, ← List.length_flatten, ← ch_flat]
          show _ + _ * 0 ≤ _
          have : (prnCh l).length ≤ 5000 := hl
          omega
        · have := join_tx [] (Str.ofString "") (by rfl) (l.map gC)
          rw [← eP] at this
          rw [this]
          exact q _ s3
    | choice e e2 os =>
      rename_i a b vs l
      have eP : prn (.choice l) = TL.joinL [124] (l.map gA) := by
        cases l with
        | nil => exact absurd hf.1 (by decide)
        | cons t r => exact (joinL_al t r).symm
      have hln : (l.map gA).length = l.length := List.length_map ..
      refine ⟨.ref a, rfl, a, _, 0, _, rfl, rfl, .inl (.inl e), atI_nat (j := 0) rfl, rfl, _, rfl, ?_⟩
      rw [decide_eq_false (show ¬ (V.str alW = V.str (Str.ofString "place")) by decide +kernel)]
      refine iteF ⟨.ref a, rfl, a, _, 0, _, rfl, rfl, .inl (.inl e), atI_nat (j := 0) rfl, rfl, _, rfl, ?_⟩
      rw [decide_eq_false (show ¬ (V.str alW = V.str (Str.ofString "empty")) by decide +kernel)]
      refine iteF ⟨.ref a, rfl, a, _, 0, _, rfl, rfl, .inl (.inl e), atI_nat (j := 0) rfl, rfl, _, rfl, ?_⟩
      rw [decide_eq_false (show ¬ (V.str alW = V.str (Str.ofString "capture")) by decide +kernel)]
      refine iteF ⟨.ref a, rfl, a, _, 0, _, rfl, rfl, .inl (.inl e), atI_nat (j := 0) rfl, rfl, _, rfl, ?_⟩
      rw [decide_eq_false (show ¬ (V.str alW = V.str (Str.ofString "chain")) by decide +kernel)]
      refine iteF ⟨.ref a, rfl, a, _, 0, _, rfl, rfl, .inl (.inl e), atI_nat (j := 0) rfl, rfl, _, rfl, ?_⟩
      rw [decide_eq_true (show V.str alW = V.str (Str.ofString "choice") from rfl)]
      have hd : depL l + 1 ≤ d := hd
      have hw : max l.length (widL l) ≤ 1000 := hw
      have hvl := os.len
      refine iteT ⟨⟨_, rfl⟩, .ref a, rfl, a, _, 1, _, rfl, rfl, .inl (.inl e), atI_nat (j := 1) rfl, b, rfl, ⟨_, .inl (.inl e2)⟩, fun D hD => ?_⟩
      refine lc_it (walk_tup (K := K) (a := b) (xs := vs)) (fun i H3 => H3 D = some (.lst (((l.take i).map gA).map fun c => V.str (tx c))) ∧ Same H H3)
        ⟨upd_same, smU hD⟩ (fun i H3 _ hP => .inl (.inl (hP.2 _ _ e2))) (fun i xi H3 H3' hi hP hy => ?_) (fun H3 hP => ?_)
      · obtain ⟨eD, s3⟩ := hP
        obtain ⟨rfl, hxi⟩ := hy
        obtain ⟨ti, hti, oti⟩ := os.get hxi
        obtain ⟨d1, d2⟩ := depL_get hti
        obtain ⟨hil, hie⟩ := List.getElem?_eq_some_iff.mp hti
        have ht : l.take (i + 1) = l.take i ++ [ti] := by rw [List.take_succ_eq_append_getElem hil, hie]
        have hli : (prn ti).length ≤ 5000 := Nat.le_trans (al_part hti) hl
        refine ⟨rfl, xi, rfl, (show 1 ≤ sizeLine by decide), fun T0 h0 => ?_⟩
        have s0 := smU (o := HO.tup [.str alW]) h0
        refine hB (depL l) _ _ _ _ hd ⟨xi, ti, T0, [alW], rfl, upd_same, d1, by omega, hli, wfL_get hf.2 hti, oti.mono (KT.same (s3.trans s0)), fun H4 s4 => ?_⟩
        refine ⟨_, s4 _ _ (s0 _ _ eD), ?_, ?_, fun c o h => ?_⟩
        · rw [List.length_map, List.length_map, List.length_take]
          exact Nat.lt_of_le_of_lt (show min i l.length ≤ 1000 by omega) (by decide)
        · rw [upd_same, ht, List.map_append, List.map_append, inW_al] <;> rfl
        · rw [upd_ne (ne_of_none h hD)]
          exact s4 _ _ (s0 _ _ (s3 _ _ h))
      · obtain ⟨eD, s3⟩ := hP
        rw [hvl, List.take_of_length_le (Nat.le_refl _)] at eD
        refine ⟨_, D, (l.map gA).map tx, rfl, rfl, .inl (.inl (.inl (by rw [List.map_map]; exact eD))), ?_, ?_⟩
        · rw [tx_lens, List.length_map, hln]
          have h1 := al_len l
          have h2 : (prnAl l).length ≤ 5000 := hl
          show _ + _ * 1 ≤ _
          omega
        · have := join_tx [124] (Str.ofString "|") (by rfl) (l.map gA)
          rw [← eP] at this
          rw [this]
          exact q _ s3
    | count e r =>
      rename_i a n m v t
      refine ⟨.ref a, rfl, a, _, 0, _, rfl, rfl, .inl (.inl e), atI_nat (j := 0) rfl, rfl, _, rfl, ?_⟩
      rw [decide_eq_false (show ¬ (V.str coW = V.str (Str.ofString "place")) by decide +kernel)]
      refine iteF ⟨.ref a, rfl, a, _, 0, _, rfl, rfl, .inl (.inl e), atI_nat (j := 0) rfl, rfl, _, rfl, ?_⟩
      rw [decide_eq_false (show ¬ (V.str coW = V.str (Str.ofString "empty")) by decide +kernel)]
      refine iteF ⟨.ref a, rfl, a, _, 0, _, rfl, rfl, .inl (.inl e), atI_nat (j := 0) rfl, rfl, _, rfl, ?_⟩
      rw [decide_eq_false (show ¬ (V.str coW = V.str (Str.ofString "capture")) by decide +kernel)]
      refine iteF ⟨.ref a, rfl, a, _, 0, _, rfl, rfl, .inl (.inl e), atI_nat (j := 0) rfl, rfl, _, rfl, ?_⟩
      rw [decide_eq_false (show ¬ (V.str coW = V.str (Str.ofString "chain")) by decide +kernel)]
      refine iteF ⟨.ref a, rfl, a, _, 0, _, rfl, rfl, .inl (.inl e), atI_nat (j := 0) rfl, rfl, _, rfl, ?_⟩
      rw [decide_eq_false (show ¬ (V.str coW = V.str (Str.ofString "choice")) by decide +kernel)]
      have hd : dep t + 1 ≤ d := hd
      have hw : max (many n m) (wid t) ≤ 1000 := hw
      obtain ⟨hn, hm, hft⟩ : n ≤ 20 ∧ (∀ c, m = some c → n ≤ c ∧ c ≤ 20) ∧ wf t := hf
      refine iteF ⟨.ref a, rfl, a, _, 1, _, rfl, rfl, .inl (.inl e), atI_nat (j := 1) rfl, .ref a, rfl, a, _, 2, _, rfl, rfl, .inl (.inl e), atI_nat (j := 2) rfl, _, _, rfl, fun p hp => ?_⟩
      refine ⟨(show 2 ≤ sizeLine by decide), fun A1 h1 => ⟨(show 2 ≤ sizeLine by decide), fun A2 h2 => ⟨(show 2 ≤ sizeLine by decide), fun A3 h3 => ?_⟩⟩⟩
      have u0 := smU (o := HO.dT []) hp
      have u1 := smU (o := HO.tup [.int 0, .non]) h1
      have u2 := smU (o := HO.tup [.int 1, .non]) h2
      have u3 := smU (o := HO.tup [.int 0, .int 1]) h3
      generalize hH3 : upd (upd (upd (upd H p (HO.dT [])) A1 (HO.tup [.int 0, .non])) A2 (HO.tup [.int 1, .non])) A3 (HO.tup [.int 0, .int 1]) = H3
      have g0 : H3 p = some (HO.dT []) := hH3 ▸ u3 _ _ (u2 _ _ (u1 _ _ upd_same))
      have g1 : H3 A1 = some (HO.tup [.int 0, .non]) := hH3 ▸ u3 _ _ (u2 _ _ upd_same)
      have g2 : H3 A2 = some (HO.tup [.int 1, .non]) := hH3 ▸ u3 _ _ upd_same
      have g3 : H3 A3 = some (HO.tup [.int 0, .int 1]) := hH3 ▸ upd_same
      have sH : Same H H3 := hH3 ▸ (u0.trans (u1.trans (u2.trans u3)))
      refine ⟨g0, [(([some (.inl 0), none], A1), .str (Str.ofString "*")), (([some (.inl 1), none], A2), .str (Str.ofString "+")), (([some (.inl 0), some (.inl 1)], A3), .str (Str.ofString "?"))], rfl, (show ([[some (Sum.inl 0), none], [some (Sum.inl 1), none], [some (Sum.inl 0), some (Sum.inl 1)]] : List (List (Option Key))).Nodup by decide +kernel), ?_, fun xs rp => ?_⟩
      · intro k hk
        simp only [List.mem_cons, List.not_mem_nil, or_false] at hk
        rcases hk with rfl | rfl | rfl
        · exact g1
        · exact g2
        · exact g3
      have gp : (upd H3 p (DkN P w p xs)) p = some (DkN P w p xs) := upd_same
      have s4 : Same H (upd H3 p (DkN P w p xs)) := fun c o h => by
        rw [upd_ne (ne_of_none h hp)]
        exact sH _ _ h
      have hk4 : ∀ y ∈ xs, (upd H3 p (DkN P w p xs)) y.2.1 = some (.tup (y.1.map oV)) := by
        refine relP_at rp fun k hk => ?_
        simp only [List.mem_cons, List.not_mem_nil, or_false] at hk
        have np : ∀ {b : Addr} {o : List V}, H3 b = some (.tup o) → b ≠ p := fun h => ne_of h g0 (by intro z; cases z)
        rcases hk with rfl | rfl | rfl
        · exact (upd_ne (np g1)).trans g1
        · exact (upd_ne (np g2)).trans g2
        · exact (upd_ne (np g3)).trans g3
      generalize hH4 : upd H3 p (DkN P w p xs) = H4
      rw [hH4] at gp s4 hk4
      refine ⟨fun σ H' => σ = [some (.ref a), some (.int n), some (mst m), some (.ref p), some (.str (tx (told n m))), none] ∧ H' = H4, ?_, fun σ H' hM => ?_⟩
      · have hlg := num_log n (by omega)
        have hst := num_str n (by omega)
        have nl := num_len n
        refine ⟨_, rfl, _, rfl, (by cases m <;> rfl), _, rfl, ?_⟩
        by_cases hnm : V.int (n : Int) = mst m
        · have et : told n m = 123 :: (num n ++ [125]) := by
            unfold told
            rw [if_neg (fun z => z hnm.symm)]
          rw [decide_eq_true hnm, et]
          refine iteF ⟨_, rfl, _, rfl, hlg, _, _, rfl, rfl, ?_, _, _, rfl, rfl, ?_, ?_⟩
          · rw [hst]
            (simp only [k60, k62, k58, k91, k93, k123, k125, k44, kem, tx_app, tx_len, List.length_append, List.length_cons, List.length_nil]; exact sl20 (by omega))
          · rw [hst]
            (simp only [k60, k62, k58, k91, k93, k123, k125, k44, kem, tx_app, tx_len, List.length_append, List.length_cons, List.length_nil]; exact sl20 (by omega))
          · rw [hst]
            exact ⟨congrArg (fun z => [some (V.ref a), some (V.int (n : Int)), some (mst m), some (V.ref p), some (V.str z), none]) (by simp only [k123, k125, k44, kem, tx_app, List.append_assoc, List.cons_append, List.nil_append, List.append_nil]), hH4⟩
        · have et : told n m = 123 :: (num n ++ 44 :: ((match m with | none => [] | some b => num b) ++ [125])) := by
            unfold told
            rw [if_pos (fun z => hnm z.symm)]
          rw [decide_eq_false hnm, et]
          refine iteT ⟨_, rfl, _, rfl, hlg, _, _, rfl, rfl, ?_, _, _, rfl, rfl, ?_, ?_⟩
          · rw [hst]
            (simp only [k60, k62, k58, k91, k93, k123, k125, k44, kem, tx_app, tx_len, List.length_append, List.length_cons, List.length_nil]; exact sl20 (by omega))
          · rw [hst]
            (simp only [k60, k62, k58, k91, k93, k123, k125, k44, kem, tx_app, tx_len, List.length_append, List.length_cons, List.length_nil]; exact sl20 (by omega))
          rw [hst]
          cases m with
          | none =>
            refine ⟨_, rfl, rfl, _, rfl, iteT (.inr ⟨_, rfl, _, _, rfl, rfl, ?_, _, _, rfl, rfl, ?_, ?_⟩)⟩
            · (simp only [k60, k62, k58, k91, k93, k123, k125, k44, kem, tx_app, tx_len, List.length_append, List.length_cons, List.length_nil]; exact sl20 (by omega))
            · (simp only [k60, k62, k58, k91, k93, k123, k125, k44, kem, tx_app, tx_len, List.length_append, List.length_cons, List.length_nil]; exact sl20 (by omega))
            · exact ⟨congrArg (fun z => [some (V.ref a), some (V.int (n : Int)), some V.non, some (V.ref p), some (V.str z), none]) (by simp only [k123, k125, k44, kem, tx_app, List.append_assoc, List.cons_append, List.nil_append, List.append_nil]), hH4⟩
          | some b =>
            have hb : b ≤ 20 := (hm b rfl).2
            have bl := num_len b
            have hsb := num_str b (by omega)
            refine ⟨_, rfl, rfl, _, rfl, iteF ⟨_, rfl, .inl ⟨_, rfl, num_log b (by omega), _, _, rfl, rfl, ?_, _, _, rfl, rfl, ?_, ?_⟩⟩⟩
            · rw [hsb]
              (simp only [k60, k62, k58, k91, k93, k123, k125, k44, kem, tx_app, tx_len, List.length_append, List.length_cons, List.length_nil]; exact sl20 (by omega))
            · rw [hsb]
              (simp only [k60, k62, k58, k91, k93, k123, k125, k44, kem, tx_app, tx_len, List.length_append, List.length_cons, List.length_nil]; exact sl20 (by omega))
            · rw [hsb]
              exact ⟨congrArg (fun z => [some (V.ref a), some (V.int (n : Int)), some (V.int (b : Int)), some (V.ref p), some (V.str z), none]) (by simp only [k123, k125, k44, kem, tx_app, List.append_assoc, List.cons_append, List.nil_append, List.append_nil]), hH4⟩
      · obtain ⟨rfl, rfl⟩ := hM
        have hp0 : prn (.count n m t) = grp (isCh t || isAl t || isCo t) (prn t) ++ cntS n m := rfl
        have hl2 : (prn t).length ≤ 5000 := by
          have := grp_ge (isCh t || isAl t || isCo t) (prn t)
          rw [hp0, List.length_append] at hl
          omega
        have hgl : (grp (isCh t || isAl t || isCo t) (prn t)).length ≤ 5000 := by
          rw [hp0, List.length_append] at hl
          omega
        refine ⟨.ref a, rfl, a, _, 3, _, rfl, rfl, .inl (.inl (s4 _ _ e)), atI_nat (j := 3) rfl, (show 3 ≤ sizeLine by decide), fun T0 h0 => ?_⟩
        have s5 := smU (o := HO.tup [.str chW, .str alW, .str coW]) h0
        refine hB (dep t) _ _ _ _ hd ⟨v, t, T0, [chW, alW, coW], rfl, upd_same, Nat.le_refl _, by omega, hl2, hft, r.mono (KT.same (s4.trans s5)), fun H5 s6 => ?_⟩
        have hk6 : ∀ y ∈ xs, H5 y.2.1 = some (.tup (y.1.map oV)) := fun y hy => s6 _ _ (s5 _ _ (hk4 y hy))
        have gp6 := s6 _ _ (s5 _ _ gp)
        refine ⟨_, rfl, ⟨p, xs, rfl, gp6, hk6⟩, _, rfl, _, rfl, (show 2 ≤ sizeLine by decide), fun B hB' => ?_⟩
        have s7 := smU (o := HO.tup [.int n, mst m]) hB'
        refine ⟨_, rfl, p, _, xs, B, [some (.inl (n : Int)), kB m], _, rfl, s7 _ _ gp6, rp, fun y hy => s7 _ _ (hk6 y hy), rfl, ?_, rfl, ?_⟩
        · rw [List.map_cons, List.map_cons, List.map_nil, oV_kB]
          exact upd_same
        have key := short_get A1 A2 A3 n m
        refine ⟨_, tx (cntS n m), rfl, key, ?_, ?_⟩
        · show _ + (tx (cntS n m)).length ≤ _
          have h2 := cnt_len n m
          rw [inW_co]
          (simp only [k60, k62, k58, k91, k93, k123, k125, k44, kem, tx_app, tx_len, List.length_append, List.length_cons, List.length_nil]; exact sl20 (by omega))
        · show Q (.str (tx (grp (inW t [chW, alW, coW]) (prn t)) ++ tx (cntS n m))) _
          rw [inW_co, tx_app, ← hp0]
          exact q _ (s4.trans (s5.trans (s6.trans s7)))
theorem ok_string (T : LawT K mg f fd) : ∀ d, FnOk P w K mg base CX0 (2 + 2 * d) (f 7) (fd 7) ["_law_tree_here"] (spStr d)
  | 0 => ok_string1 T (k := 1) (d := 0) (spA := spNo) (spB := spNo) (by decide) ok_no ok_no (fun e _ _ _ _ h => absurd h (by omega)) (fun e _ _ _ _ h => absurd h (by omega))
  | d + 1 => (ok_string1 T (k := 2 + 2 * d + 1) (d := d + 1) (spA := spStr d) (spB := spGrp d) (by omega) ((ok_string T d).mono (by omega)) (ok_grouped T (ok_string T d))
      (fun e vs H Q E h ⟨v, t, r, hd, q⟩ => ⟨v, t, r, Nat.le_trans hd (by omega), q⟩) (fun e vs H Q E h ⟨v, t, wt, ws, r, e2, hd, q⟩ => ⟨v, t, wt, ws, r, e2, Nat.le_trans hd (by omega), q⟩)).mono (by omega)
end
end Sf4
/-! The law's whole expressions and their strings. -/
namespace Sf4
open PySem PySem.Spec PyProof.Rows L2 Sf
def NWh : List Str := ["_law_pot_here", "_law_letters", "_law_most", "_law_names", "_law_tree_here"]
theorem scWholeL : FnScope NWh ["_law_pot_here", "_law_letters", "_law_most", "_law_names"] (defScope sWholeL) := ⟨rfl, rfl, rfl, by decide +kernel, rfl, by decide +kernel, by decide +kernel⟩
theorem scPatS : FnScope ["_law_whole_here"] ["_law_whole_here"] (defScope sPatS) := ⟨rfl, rfl, rfl, by decide +kernel, rfl, by decide +kernel, by decide +kernel⟩
/-- all but the pot and the names' list stands -/
def spWholeL : Sp := fun vs H Q _ => ∃ (p q : Addr) (n : Int) (L : List Nat) (nm : Nm), vs = [.ref p, .str (tx L), .int 24, .ref q] ∧ Pot H p n ∧ n + 1300 < 1000000 ∧ H q = some (.lst (nmV nm)) ∧ okNm nm ∧ p ≠ q ∧ L ≠ [] ∧ L.length ≤ 38 ∧ (∀ c ∈ L, c ∈ LETc) ∧
  ∀ (a : Addr) (v : V) (t : Tr) (l r : Bool) (H' : Hp) (nm' : Nm), H' a = some (.tup [.bl l, v, .bl r]) → TrO H' v t → Dr 3 t → sz t ≤ 24 → (prn t).length ≤ 50 → nm = nms t ++ nm' → Pot H' p (n + 1300) → K2 p q H H' → Q (.ref a) H'
theorem tx_len5 {Z : List Nat} (h : Z.length ≤ 5000) : (tx Z).length ≤ sizeLine := by
  rw [tx_len]
  exact Nat.le_trans h (by decide)
section
variable {P : Program} {w : World} {K : PySem.W.Frag} {mg : Str → Option Value} {base : Heap} {f : Nat → Addr} {fd : Nat → FuncData}
theorem ok_wholeL (T : LawT K mg f fd) : FnOk P w K mg base CX0 9 (f 8) (fd 8) ["_law_pot_here", "_law_letters", "_law_most", "_law_names"] spWholeL := by
  refine T.whole.F.ok (k := 8) scWholeL (fun vs H Q E h => ?_) (fun cdv A outer s H vs Q E hr h => ?_)
  · obtain ⟨p, q, n, L, nm, rfl, _⟩ := h
    rfl
  · obtain ⟨p, q, n, L, nm, rfl, hp, hn, hq, hnm, npq, hL, hL2, hL3, fin⟩ := h
    have GD := law_draw (P := P) (w := w) (base := base) T
    have GA := law_any (P := P) (w := w) (base := base) T
    have GT := ok_tree (P := P) (w := w) (base := base) T 3
    have GM := ok_many (P := P) (w := w) (base := base) T 3
    have GS := ok_string (P := P) (w := w) (base := base) T 3
    refine ⟨_, Evl.pss_cut (ps_set (i := 4) scWholeL.nd rfl (.inl rfl) (pe_call GT (hr.mono (by decide)) (by rfl) T.tree.g T.tree.F.kp T.tree.b .nil pass0 (pa_cons (pv 0) (pa_cons pe_int (pa_cons (pv 1) (pa_cons (pv 3) pa_nil))))))
      (Evl.pss_cut (ps_if (PW.pt (pw_or (pt_cmpR op_gt (pe_call GM (hr.mono (by decide)) (by rfl) T.many.g T.many.F.kp T.many.b .nil pass0 (pa_cons (pv 4) pa_nil)) (pv 2) (nomark _))
          (pw_or1 (pt_cmpR op_gt (pe_callB call_len_str (by rfl) T.zlen PySem.boot_len (pa_cons (pe_call GS (hr.mono (by decide)) (by rfl) T.string.g T.string.F.kp T.string.b .nil pass0 (pa_cons (pv 4) pa_nil)) pa_nil)) pe_int (nomark _)))))
        (pss_one (ps_set (i := 4) scWholeL.nd rfl (.inl rfl) (pe_tup (pa_cons pe_str (pa_cons (pe_tup (pa_cons (pe_tup (pa_cons pe_str (pa_cons (pe_ix ix_str (pv 1) pe_int (fun _ _ => rfl)) pa_nil)))
          (pa_cons (pe_tup (pa_cons pe_str (pa_cons (pe_call GA (hr.mono (by decide)) (by rfl) T.any.g T.any.F.kp T.any.b .nil pass0 (pa_cons (pv 0) (pa_cons (pv 1) pa_nil))) pa_nil))) pa_nil))) pa_nil))))) pss_nil)
      (pss_one (ps_ret (pe_tup (pa_cons (pe_cmpR op_eq (pe_call GD (hr.mono (by decide)) (by rfl) T.draw.g T.draw.F.kp T.draw.b .nil pass0 (pa_cons (pv 0) (pa_cons pe_int pa_nil))) pe_int (nomark _)) (pa_cons (pv 4)
        (pa_cons (pe_cmpR op_eq (pe_call GD (hr.mono (by decide)) (by rfl) T.draw.g T.draw.F.kp T.draw.b .nil pass0 (pa_cons (pv 0) (pa_cons pe_int pa_nil))) pe_int (nomark _)) pa_nil))))))), ?_⟩
    refine ⟨fun σ H1 => ∃ (v : V) (t : Tr) (nm' : Nm), σ = [some (.ref p), some (.str (tx L)), some (.int 24), some (.ref q), some v] ∧ TrO H1 v t ∧ Dr 3 t ∧ nm = nms t ++ nm' ∧ Pot H1 p (n + 1200) ∧ K2 p q H H1, ?_, fun σ H1 hM => ?_⟩
    · refine ⟨_, rfl, _, rfl, _, rfl, p, q, n, L, nm, rfl, hp, ?_, hq, hnm, npq, hL, hL2, hL3, fun v t H1 nm' ht dt en hp1 hq1 k1 => ⟨v, t, nm', rfl, ht, dt, en, hp1.mono ?_, k1⟩⟩
      · show n + ((1133 : Nat) : Int) < 1000000
        omega
      · show n + ((1133 : Nat) : Int) ≤ n + 1200
        omega
    obtain ⟨v, t, nm', rfl, ht, dt, en, hp1, k1⟩ := hM
    have pb3 : (prn t).length ≤ 5000 := Nat.le_trans dt.p (by decide)
    obtain ⟨c0, L', rfl⟩ : ∃ c L', L = c :: L' := by
      cases L with
      | nil => exact absurd rfl hL
      | cons c L' => exact ⟨c, L', rfl⟩
    have p1 : ∀ c ∈ c0 :: L', (prn (.place [c])).length = 1 ∧ Dr 2 (.place [c]) := fun c hc => by
      refine ⟨?_, dr_place (by intro z; cases z) (one_let c (hL3 c hc))⟩
      show (if [c] = LETc then [46] else if [c].length = 1 then [c] else 91 :: ([c] ++ [93])).length = 1
      split
      · rfl
      · rw [if_pos (show [c].length = 1 from rfl)] <;> rfl
    refine ⟨fun σ H2 => ∃ (v : V) (t : Tr) (nm' : Nm), σ = [some (.ref p), some (.str (tx (c0 :: L'))), some (.int 24), some (.ref q), some v] ∧ TrO H2 v t ∧ Dr 3 t ∧ sz t ≤ 24 ∧ (prn t).length ≤ 50 ∧ nm = nms t ++ nm' ∧ Pot H2 p (n + 1250) ∧ K2 p q H H2, ?_, fun σ H2 hM => ?_⟩
    · have dflt : ∀ H2, Same H1 H2 → (tAsg
          (tTup (tCons (tC (V.str (Str.ofString "chain"))) (tCons (tTup (tCons (tTup (tCons (tC (V.str (Str.ofString "place"))) (tCons (tOp rIxS (tVar 1) (tC (V.int 0))) tNil)))
            (tCons (tTup (tCons (tC (V.str (Str.ofString "place"))) (tCons (tCall (spAny K) [] E0 (tCons (tVar 0) (tCons (tVar 1) tNil))) tNil))) tNil))) tNil))) (gName 4))
          { nx := fun σ H2 => ∃ (v : V) (t : Tr) (nm' : Nm), σ = [some (.ref p), some (.str (tx (c0 :: L'))), some (.int 24), some (.ref q), some v] ∧ TrO H2 v t ∧ Dr 3 t ∧ sz t ≤ 24 ∧ (prn t).length ≤ 50 ∧ nm = nms t ++ nm' ∧ Pot H2 p (n + 1250) ∧ K2 p q H H2, rt := Q }
          [some (.ref p), some (.str (tx (c0 :: L'))), some (.int 24), some (.ref q), some v] H2 := fun H2 s2 => by
        have hpx := hp1.same s2
        refine ⟨.str (tx (c0 :: L')), rfl, tx (c0 :: L'), 0, c0, rfl, rfl, ?_, atI_nat (j := 0) rfl, (show 2 ≤ sizeLine by decide), fun b1 hb1 => ?_⟩
        · rw [tx_len]
          exact Nat.le_trans hL2 (by decide)
        have u1 := smU (o := HO.tup [.str plW, .str ⟨#[c0]⟩]) hb1
        refine ⟨.ref p, rfl, .str (tx (c0 :: L')), rfl, p, _, .str (tx (c0 :: L')), rfl, hpx.same u1, by omega, .inl ⟨tx (c0 :: L'), rfl, ?_, ?_, fun c H3 hc hp3 k3 => ⟨(show 2 ≤ sizeLine by decide), fun b2 hb2 => ⟨(show 2 ≤ sizeLine by decide), fun b3 hb3 => ⟨(show 2 ≤ sizeLine by decide), fun b4 hb4 => ?_⟩⟩⟩⟩⟩
        · rw [tx_len]
          exact Nat.succ_pos _
        · rw [tx_len]
          omega
        have u2 := smU (o := HO.tup [.str plW, .str ⟨#[c]⟩]) hb2
        have u3 := smU (o := HO.tup [.ref b1, .ref b2]) hb3
        have u4 := smU (o := HO.tup [.str chW, .ref b3]) hb4
        have e1 := u4 _ _ (u3 _ _ (u2 _ _ ((hpx.same u1).kt k3 b1 _ upd_same)))
        have e2 := u4 _ _ (u3 _ _ (upd_same (H := H3) (a := b2) (o := HO.tup [.str plW, .str ⟨#[c]⟩])))
        obtain ⟨l0, d0⟩ := p1 c0 List.mem_cons_self
        obtain ⟨l1, d1⟩ := p1 c hc
        refine ⟨_, .chain [.place [c0], .place [c]], nm, rfl, .chain upd_same (u4 _ _ upd_same) (.cons (.place e1) (.cons (.place e2) .nil)), dr_chain (fun t ht => ?_) (Nat.le_refl 2) (Nat.le_succ 2), (show 2 ≤ 24 by decide), ?_, rfl, ((hp3.same (u2.trans (u3.trans u4))).mono (by omega)), (k1.trans (K2.same (s2.trans u1))).trans (k3.k2.trans (K2.same (u2.trans (u3.trans u4))))⟩
        · rcases List.mem_cons.mp ht with rfl | ht
          · exact d0
          · rcases List.mem_cons.mp ht with rfl | ht
            · exact d1
            · cases ht
        · show (prn (.place [c0]) ++ (prn (.place [c]) ++ [])).length ≤ 50
          rw [List.length_append, List.length_append, l0, l1]
          decide
      refine ⟨_, rfl, v, t, rfl, dt.dd, Nat.le_trans dt.wd (by decide), ht, fun H2 s2 => ⟨_, rfl, _, _, rfl, rfl, _, rfl, ?_⟩⟩
      by_cases h24 : (24 : Int) < ((sz t : Nat) : Int)
      · rw [decide_eq_true h24]
        exact iteT (dflt _ s2)
      · rw [decide_eq_false h24]
        refine iteF ⟨_, rfl, v, t, rfl, dt.dd, Nat.le_trans dt.wd (by decide), pb3, dt.w, ht.mono (KT.same s2), fun H3 s3 => ⟨_, rfl, tx_len5 pb3, _, _, rfl, rfl, _, rfl, ?_⟩⟩
        rw [tx_len]
        by_cases h50 : (50 : Int) < (((prn t).length : Nat) : Int)
        · rw [decide_eq_true h50]
          exact iteT (dflt _ (s2.trans s3))
        · rw [decide_eq_false h50]
          exact iteF ⟨v, t, nm', rfl, ht.mono (KT.same (s2.trans s3)), dt, by omega, by omega, en, (hp1.same (s2.trans s3)).mono (by omega), k1.trans (K2.same (s2.trans s3))⟩
    obtain ⟨v, t, nm', rfl, ht, dt, h24, h50, en, hp2, k2⟩ := hM
    refine ⟨.ref p, rfl, p, _, 5, rfl, hp2, by omega, by decide, by decide, fun r1 H3 _ _ hp3 k3 => ⟨rfl, _, rfl, .ref p, rfl, p, _, 5, rfl, hp3, by omega, by decide, by decide, fun r2 H4 _ _ hp4 k4 => ⟨rfl, (show 3 ≤ sizeLine by decide), fun a ha => ?_⟩⟩⟩
    have ua := smU (o := HO.tup [.bl (decide (V.int r1 = V.int 0)), v, .bl (decide (V.int r2 = V.int 0))]) ha
    exact fin a v t _ _ _ nm' upd_same (ht.mono ((hp2.kt k3).trans ((hp3.kt k4).trans (KT.same ua)))) dt h24 h50 en ((hp4.same ua).mono (by omega)) (k2.trans (k3.k2.trans (k4.k2.trans (K2.same ua))))
def spPatS : Sp := fun vs H Q _ => ∃ (a : Addr) (v : V) (t : Tr) (l r : Bool), vs = [.ref a] ∧ H a = some (.tup [.bl l, v, .bl r]) ∧ TrO H v t ∧ Dr 3 t ∧ ∀ H', Same H H' → Q (.str (tx (wstr l t r))) H'
theorem ok_patS (T : LawT K mg f fd) : FnOk P w K mg base CX0 9 (f 9) (fd 9) ["_law_whole_here"] spPatS := by
  refine T.pats.F.ok (k := 8) scPatS (fun vs H Q E h => ?_) (fun cdv A outer s H vs Q E hr h => ?_)
  · obtain ⟨a, v, t, l, r, rfl, _⟩ := h
    rfl
  · obtain ⟨a, v, t, l, r, rfl, e, ht, dt, fin⟩ := h
    have GS := ok_string (P := P) (w := w) (base := base) T 3
    have pb3 : (prn t).length ≤ 5000 := Nat.le_trans dt.p (by decide)
    refine ⟨_, pss_one (ps_ret (pe_op op_add_str (pe_op op_add_str (pe_op op_mul_s pe_str (pe_callTy call_int1 (by rfl) T.zint PySem.Pv.boot_int (pa_cons (pe_ix ix_tup (pv 0) pe_int (fun _ _ => rfl)) pa_nil)))
        (pe_call GS (hr.mono (by decide)) (by rfl) T.string.g T.string.F.kp T.string.b .nil pass0 (pa_cons (pe_ix ix_tup (pv 0) pe_int (fun _ _ => rfl)) pa_nil)))
      (pe_op op_mul_s pe_str (pe_callTy call_int1 (by rfl) T.zint PySem.Pv.boot_int (pa_cons (pe_ix ix_tup (pv 0) pe_int (fun _ _ => rfl)) pa_nil))))), ?_⟩
    have kl : ∀ b : Bool, (if (if b = true then (1 : Int) else 0) = 0 then Str.empty else Str.ofString "^") = tx (if b then [94] else []) := fun b => by cases b <;> decide +kernel
    have kr : ∀ b : Bool, (if (if b = true then (1 : Int) else 0) = 0 then Str.empty else Str.ofString "$") = tx (if b then [36] else []) := fun b => by cases b <;> decide +kernel
    have ll : ∀ (b : Bool) (c : Nat), (if b then [c] else [] : List Nat).length ≤ 1 := fun b c => by cases b <;> first | exact Nat.zero_le _ | exact Nat.le_refl 1
    have d01 : ∀ b : Bool, (if b = true then (1 : Int) else 0) = 0 ∨ (if b = true then (1 : Int) else 0) = 1 := fun b => by cases b <;> decide
    refine ⟨.ref a, rfl, a, _, 0, _, rfl, rfl, .inl (.inl e), atI_nat (j := 0) rfl, .inr ⟨l, rfl, _, _, rfl, rfl, d01 l, .ref a, rfl, a, _, 1, _, rfl, rfl, .inl (.inl e), atI_nat (j := 1) rfl, v, t, rfl, dt.dd, Nat.le_trans dt.wd (by decide), pb3, dt.w, ht, fun H1 s1 => ⟨_, _, rfl, rfl, ?_,
      .ref a, rfl, a, _, 2, _, rfl, rfl, .inl (.inl (s1 _ _ e)), atI_nat (j := 2) rfl, .inr ⟨r, rfl, _, _, rfl, rfl, d01 r, _, _, rfl, rfl, ?_, ?_⟩⟩⟩⟩
    · rw [kl, tx_len, tx_len]
      have := ll l 94
      exact sl20 (by omega)
    · rw [kl, kr, tx_app, tx_len, tx_len, List.length_append]
      have := ll l 94
      have := ll r 36
      exact sl20 (by omega)
    · rw [kl, kr, tx_app, tx_app, List.append_assoc]
      exact fin H1 s1
end
end Sf4
/-! What the law shows of a pattern. -/
namespace Sf4
open PySem PySem.Spec PyProof.Rows L2 Sf
abbrev asc (l : List Nat) : Bool := l.all fun c => decide (c < 1000)
theorem asc_mem {l : List Nat} (h : ∀ c ∈ l, c < 1000) : asc l = true := List.all_eq_true.mpr fun c hc => decide_eq_true (h c hc)
theorem asc_of {l : List Nat} (h : asc l = true) {c : Nat} (hc : c ∈ l) : c < 1000 := of_decide_eq_true (List.all_eq_true.mp h c hc)
theorem asc_app {a b : List Nat} (h : asc a = true) (k : asc b = true) : asc (a ++ b) = true := asc_mem fun c hc => (List.mem_append.mp hc).elim (asc_of h) (asc_of k)
theorem asc_cons {c : Nat} {b : List Nat} (h : c < 1000) (k : asc b = true) : asc (c :: b) = true := asc_mem fun d hd => by
  rcases List.mem_cons.mp hd with rfl | hd
  · exact h
  · exact asc_of k hd
theorem asc_num {n : Nat} (h : n ≤ 20) : asc (num n) = true := by
  refine asc_mem fun c hc => ?_
  unfold num at hc
  split at hc
  · have := List.mem_singleton.mp hc
    omega
  · rcases List.mem_cons.mp hc with rfl | hc
    · omega
    · have := List.mem_singleton.mp hc
      omega
theorem asc_grp {b : Bool} {l : List Nat} (h : asc l = true) : asc (grp b l) = true := by
  unfold grp
  split
  · exact asc_cons (by decide) (asc_app h rfl)
  · exact h
theorem asc_cnt {a : Nat} {b : Option Nat} (h : a ≤ 20) (k : ∀ c, b = some c → a ≤ c ∧ c ≤ 20) : asc (cntS a b) = true := by
  cases b with
  | none =>
    show asc (if a = 0 then [42] else if a = 1 then [43] else 123 :: (num a ++ [44, 125])) = true
    split
    · decide
    · split
      · decide
      · exact asc_cons (by decide) (asc_app (asc_num h) rfl)
  | some b =>
    have hb := (k b rfl).2
    show asc (if a = 0 ∧ b = 1 then [63] else if a = b then 123 :: (num a ++ [125]) else 123 :: (num a ++ 44 :: (num b ++ [125]))) = true
    split
    · decide
    · split
      · exact asc_cons (by decide) (asc_app (asc_num h) rfl)
      · exact asc_cons (by decide) (asc_app (asc_num h) (asc_cons (by decide) (asc_app (asc_num hb) rfl)))
theorem asc_let : ∀ c ∈ LETc, c < 1000 := by decide
theorem asc_pl {s : List Nat} (h : (LETc.filter fun c => decide (c ∈ s)) = s) : asc s = true := asc_mem fun c hc => by
  rw [← h] at hc
  exact asc_let c (List.mem_filter.mp hc).1
mutual
theorem asc_prn : ∀ t : Tr, wf t → asc (prn t) = true
  | .place s, h => by
    show asc (if s = LETc then [46] else if s.length = 1 then s else 91 :: (s ++ [93])) = true
    have a := asc_pl h.2
    split
    · decide
    · split
      · exact a
      · exact asc_cons (by decide) (asc_app a rfl)
  | .empty, _ => rfl
  | .capture n t, h => asc_cons (by decide) (asc_app (asc_mem fun c hc => by
      have := (h.2.2.1 c hc).2
      omega) (asc_cons (by decide) (asc_app (asc_prn t h.2.2.2) rfl)))
  | .chain l, h => asc_ch l h.2
  | .choice l, h => asc_al l h.2
  | .count a b t, h => asc_app (asc_grp (asc_prn t h.2.2)) (asc_cnt h.1 h.2.1)
theorem asc_ch : ∀ l : List Tr, wfL l → asc (prnCh l) = true
  | [], _ => rfl
  | t :: r, h => asc_app (asc_grp (asc_prn t h.1)) (asc_ch r h.2)
theorem asc_al : ∀ l : List Tr, wfL l → asc (prnAl l) = true
  | [], _ => rfl
  | t :: r, h => asc_app (asc_grp (asc_prn t h.1)) (asc_mo r h.2)
theorem asc_mo : ∀ l : List Tr, wfL l → asc (prnMo l) = true
  | [], _ => rfl
  | t :: r, h => asc_cons (by decide) (asc_app (asc_grp (asc_prn t h.1)) (asc_mo r h.2))
end
theorem asc_w {l r : Bool} {t : Tr} (h : wf t) : asc (wstr l t r) = true := by
  unfold wstr
  exact asc_app (by cases l <;> rfl) (asc_app (asc_prn t h) (by cases r <;> rfl))
def oksp (n : Nat) (s : List Nat) : Prop := asc s = true ∧ s.length ≤ n
mutual
theorem sp_ok : ∀ t : Tr, wf t → ∀ s ∈ spts t, oksp 38 s
  | .place s, h, x, hx => by
    obtain rfl := List.mem_singleton.mp hx
    refine ⟨asc_pl h.2, ?_⟩
    have h1 := List.length_filter_le (fun c => decide (c ∈ x)) LETc
    rw [h.2] at h1
    exact Nat.le_trans h1 (by decide)
  | .empty, _, _, hx => by cases hx
  | .capture _ t, h, x, hx => sp_ok t h.2.2.2 x hx
  | .chain l, h, x, hx => spL_ok l h.2 x hx
  | .choice l, h, x, hx => spL_ok l h.2 x hx
  | .count a b t, h, x, hx => by
    obtain ⟨l, hl, hxl⟩ := List.mem_flatten.mp hx
    have := (List.mem_replicate.mp hl).2
    exact sp_ok t h.2.2 x (this ▸ hxl)
theorem spL_ok : ∀ l : List Tr, wfL l → ∀ s ∈ sptsL l, oksp 38 s
  | [], _, _, hx => by cases hx
  | t :: r, h, x, hx => by
    rcases List.mem_append.mp hx with hx | hx
    · exact sp_ok t h.1 x hx
    · exact spL_ok r h.2 x hx
end
theorem nm_ok {nm : Nm} (h : okNm nm) : ∀ s ∈ nm, oksp 38 s := fun s hs => by
  obtain ⟨_, h2, h3⟩ := h s hs
  exact ⟨asc_mem fun c hc => by
    have := (h3 c hc).2
    omega, by omega⟩
theorem ls_str {s : List Nat} (h : asc s = true) : (PyData.str (tx s)).leavesShort 40 = true := by
  show (s.toArray.toList.all fun c => decide (c < 16 ^ 8)) = true
  refine List.all_eq_true.mpr fun c hc => decide_eq_true ?_
  have := of_decide_eq_true (List.all_eq_true.mp h c hc)
  omega
theorem wt_str (s : List Nat) : (PyData.str (tx s)).weight = s.length := by
  show s.toArray.size = s.length
  rw [List.size_toArray]
theorem sm_nmD : ∀ {zs : List (List Nat)}, (∀ s ∈ zs, oksp 38 s) → PyData.showableAll (nmD zs) = true ∧ PyData.leavesShortAll 40 (nmD zs) = true ∧ PyData.weightAll (nmD zs) ≤ 39 * zs.length ∧ PyData.depthAll (nmD zs) = 0
  | [], _ => ⟨rfl, rfl, Nat.le_refl _, rfl⟩
  | s :: r, h => by
    obtain ⟨a, b, c, d⟩ := sm_nmD (zs := r) fun m hm => h m (List.mem_cons_of_mem _ hm)
    obtain ⟨h1, h2⟩ := h s List.mem_cons_self
    refine ⟨?_, ?_, ?_, ?_⟩
    · show (true && PyData.showableAll (nmD r)) = true
      rw [a] <;> rfl
    · show ((PyData.str (tx s)).leavesShort 40 && PyData.leavesShortAll 40 (nmD r)) = true
      rw [b, ls_str h1] <;> rfl
    · show (PyData.str (tx s)).weight + 1 + PyData.weightAll (nmD r) ≤ 39 * (r.length + 1)
      rw [wt_str]
      omega
    · show max 0 (PyData.depthAll (nmD r)) = 0
      rw [d] <;> rfl
/-- what is shown of a pattern -/
def pD (Z : List Nat) (nm pl : List (List Nat)) (l r : Bool) : PyData := .list [.str (tx Z), .tuple (nmD nm), .tuple (nmD pl), .bool l, .bool r]
theorem sm_pD {Z : List Nat} {nm pl : List (List Nat)} {l r : Bool} (hz : asc Z = true) (lz : Z.length ≤ 60) (h1 : ∀ s ∈ nm, oksp 38 s) (h2 : ∀ s ∈ pl, oksp 38 s) (l1 : nm.length ≤ 100) (l2 : pl.length ≤ 100) : Sm 20000 10 (pD Z nm pl l r) := by
  obtain ⟨a1, a2, a3, a4⟩ := sm_nmD h1
  obtain ⟨b1, b2, b3, b4⟩ := sm_nmD h2
  refine ⟨?_, ?_, ?_, ?_⟩
  · show (true && (PyData.showableAll (nmD nm) && (PyData.showableAll (nmD pl) && (true && (true && true))))) = true
    rw [a1, b1] <;> rfl
  · show ((PyData.str (tx Z)).leavesShort 40 && (PyData.leavesShortAll 40 (nmD nm) && (PyData.leavesShortAll 40 (nmD pl) && (true && (true && true))))) = true
    rw [a2, b2, ls_str hz] <;> rfl
  · show (PyData.str (tx Z)).weight + 1 + (PyData.weightAll (nmD nm) + 1 + (PyData.weightAll (nmD pl) + 1 + (0 + 1 + (0 + 1 + 0)))) ≤ 20000
    rw [wt_str]
    omega
  · show max 0 (max (PyData.depthAll (nmD nm) + 1) (max (PyData.depthAll (nmD pl) + 1) (max 0 (max 0 0)))) + 1 ≤ 10
    rw [a4, b4]
    decide
theorem od_nm {p : Addr} {H : Hp} : ∀ zs : List (List Nat), OdAll false p H (nmV zs) (nmD zs)
  | [] => .nil
  | s :: r => .cons (.str _) (od_nm r)
/-- binding by the keyword alone, of a method -/
theorem kbn_mk {K : PySem.W.Frag} {x qual : Str} {st : Stmt} {f : Addr} {fd : FuncData} {ps ks : List Str} {n : Nat} (F : Fun K x qual st f fd)
    (h : ∀ (kV doc pm : Value) (an : Option Addr) (cdv ct : Value) (us ws : List Value), us.length = n → ws.length = ks.length → bindArgs (PySem.W.fnOf x qual (defArgs st) (defBody st) (defScope st) .none kV doc pm an cdv ct) ⟨us, ks.zip ws⟩ = pure (ps.zip (us ++ ws))) :
    KBn K fd ps n ks (fun us ws => us ++ ws) (fun vs zs => vs ++ zs) := by
  obtain ⟨oc, od, kV, doc, pm, an, cdv, ct, osl, rfl, _⟩ := F.ex
  exact ⟨fun s us ws _ l1 l2 => .of_eq (h kV doc pm an cdv ct us ws l1 l2), fun r1 r2 => r1.append r2⟩
theorem kb_pat {K : PySem.W.Frag} {x qual : Str} {f : Addr} {fd : FuncData} (F : Fun K x qual sPI f fd) : KBn K fd ["self", "string"] 1 ["string"] (fun us ws => us ++ ws) (fun vs zs => vs ++ zs) :=
  kbn_mk F fun _ _ _ _ _ _ us ws l1 l2 => match us, ws, l1, l2 with | [_], [_], _, _ => rfl
end Sf4
/-! The law's own reader: numbers. -/
namespace Sf6
open PySem PySem.Spec PyProof.Rows L2 Sf Sf4
abbrev sNE : Stmt := topS 45
abbrev sLP : Stmt := topS 46
abbrev sCE : Stmt := topS 47
abbrev sLU : Stmt := topS 48
abbrev sLI : Stmt := topS 49
abbrev sLE : Stmt := topS 50
abbrev sIP : Stmt := topS 51
theorem scNE : FnScope ["_law_text", "_law_at", "_law_end"] ["_law_text", "_law_at"] (defScope sNE) := ⟨rfl, rfl, rfl, by decide +kernel, rfl, by decide +kernel, by decide +kernel⟩
def neV (Z : List Nat) (p : Nat) : Int := match fNum Z p with
  | none => -1
  | some (_, q) => (q : Nat)
def spNE : Sp := fun vs H Q _ => ∃ (Z : List Nat) (p : Nat), vs = [.str (tx Z), .int (p : Nat)] ∧ Z.length ≤ 200 ∧ Q (.int (neV Z p)) H
section
variable {P : Program} {w : World} {K : PySem.W.Frag} {mg : Str → Option Value} {base : Heap}
theorem ok_NE {f : Addr} {fd : FuncData} {k : Nat} (F : Fun K "_law_number_end" "_law_number_end" sNE f fd) (ml : mg "len" = none) (mi : mg "int" = none) : FnOk P w K mg base CX0 (k + 1) f fd ["_law_text", "_law_at"] spNE := by
  refine F.ok scNE (fun vs H Q E h => ?_) (fun cdv A outer s H vs Q E hr h => ?_)
  · obtain ⟨Z, p, rfl, _⟩ := h
    rfl
  · obtain ⟨Z, p, rfl, hZ, q⟩ := h
    refine ⟨_, pss_cons (ps_set (i := 2) scNE.nd rfl (.inl rfl) (pv 1))
      (Evl.pss_cut (ps_while PassesOwn.never (PW.pt (pw_and (pt_cmpR op_lt (pv 2) (pe_callB call_len_str (by rfl) ml PySem.boot_len (pa_cons (pv 0) pa_nil)) (nomark _)) (pw_and1 (pt_cmpR op_in_sign (pe_ix ix_str (pv 0) (pv 2) (fun _ _ => rfl)) pe_str rfl))))
        (pss_one (ps_set (i := 2) scNE.nd rfl (.inl rfl) (pe_op op_add (pv 2) pe_int))))
      (pss_cons (ps_if (PW.pt (pw_or (pt_not (pt_chain op_lt op_lt pe_int (pe_op op_sub (pv 2) (pv 1)) pe_int)) (pw_or (PW.pt (pw_and (pt_cmpR op_eq (pe_ix ix_str (pv 0) (pv 1) (fun _ _ => rfl)) pe_str (nomark _)) (pw_and1 (pt_cmpR op_gt (pe_op op_sub (pv 2) (pv 1)) pe_int (nomark _)))))
          (pw_or1 (pt_cmpR op_gt (pe_callTy call_intT (by rfl) mi PySem.Pv.boot_int (pa_cons (pe_slice sl_str (pv 0) (po_some (pv 1)) (po_some (pv 2))) pa_nil)) pe_int (nomark _)))))) (pss_one (ps_ret (pe_un un_neg pe_int))) pss_nil)
      (pss_one (ps_ret (pv 2))))), ?_⟩
    have hZs : (tx Z).length ≤ sizeLine := by
      rw [tx_len]
      exact Nat.le_trans hZ (by decide)
    refine ⟨_, rfl, ?_⟩
    refine ⟨fun σ H1 => H1 = H ∧ σ = [some (.str (tx Z)), some (.int (p : Nat)), some (.int ((p + (run dg Z p).length : Nat) : Int))], ?_, fun σ H1 hM => ?_⟩
    · refine ⟨fun n σ H1 => ∃ s1, n = p + (run dg Z p).length - s1 ∧ p ≤ s1 ∧ s1 ≤ p + (run dg Z p).length ∧ H1 = H ∧ σ = [some (.str (tx Z)), some (.int (p : Nat)), some (.int (s1 : Nat))], ⟨_, p, rfl, Nat.le_refl _, Nat.le_add_right _ _, rfl, rfl⟩, ?_⟩
      rintro n σ H1 ⟨s1, rfl, ha, hb, rfl, rfl⟩
      refine ⟨_, rfl, _, rfl, tx Z, rfl, hZs, _, _, rfl, rfl, _, rfl, ?_⟩
      by_cases hlt : s1 < p + (run dg Z p).length
      · obtain ⟨d, hz, hdd⟩ := run_in dg Z p s1 ha hlt
        have hl := lt6 hz
        rw [decide_eq_true (show ((s1 : Nat) : Int) < ((tx Z).length : Int) by rw [tx_len]; omega)]
        refine iteT ⟨_, rfl, _, rfl, tx Z, _, d, rfl, rfl, hZs, atI_nat hz, d, _, rfl, rfl, _, rfl, ?_⟩
        rw [decide_eq_true ((dg_iff d).mpr hdd)]
        refine iteT ⟨fun σ' H' => H' = H1 ∧ σ' = [some (.str (tx Z)), some (.int (p : Nat)), some (.int ((s1 + 1 : Nat) : Int))], fun σ' H' ⟨h1, h2⟩ => ⟨p + (run dg Z p).length - (s1 + 1), by omega, s1 + 1, rfl, by omega, by omega, h1, h2⟩, ?_⟩
        exact ⟨_, rfl, _, _, rfl, rfl, rfl, rfl⟩
      · obtain rfl : s1 = p + (run dg Z p).length := by omega
        cases hz : Z[p + (run dg Z p).length]? with
        | none =>
          have := List.getElem?_eq_none_iff.mp hz
          rw [decide_eq_false (show ¬ (((p + (run dg Z p).length : Nat) : Int) < ((tx Z).length : Int)) by rw [tx_len]; omega)]
          exact iteF (iteF ⟨rfl, rfl⟩)
        | some d =>
          have hl := lt6 hz
          rw [decide_eq_true (show ((p + (run dg Z p).length : Nat) : Int) < ((tx Z).length : Int) by rw [tx_len]; omega)]
          refine iteT ⟨_, rfl, _, rfl, tx Z, _, d, rfl, rfl, hZs, atI_nat hz, d, _, rfl, rfl, _, rfl, ?_⟩
          have := run_end dg Z p d hz
          rw [decide_eq_false fun z => by rw [(dg_iff d).mp z] at this; cases this]
          exact iteF ⟨rfl, rfl⟩
    obtain ⟨rfl, rfl⟩ := hM
    have hd := run_dg Z p
    have hc := run_cut dg Z p
    have h0 : ∀ c r, run dg Z p = c :: r → Z[p]? = some c := fun c r e => by
      have := congrArg (·[0]?) hc
      rw [e] at this
      rw [List.getElem?_take_of_lt (by rw [List.length_cons]; omega), List.getElem?_drop] at this
      exact this
    have qn : ¬ (okW (run dg Z p) = true ∧ nval (run dg Z p) ≤ 20) → Q (.int (-1)) H1 := fun a => by
      have e : neV Z p = -1 := by
        unfold neV fNum
        rw [if_neg a]
      rw [← e]
      exact q
    have qy : okW (run dg Z p) = true → nval (run dg Z p) ≤ 20 → Q (.int ((p + (run dg Z p).length : Nat) : Int)) H1 := fun a b => by
      have e : neV Z p = ((p + (run dg Z p).length : Nat) : Int) := by
        unfold neV fNum
        rw [if_pos ⟨a, b⟩]
      rw [← e]
      exact q
    generalize run dg Z p = W at hd hc h0 qn qy ⊢
    have es : ((p + W.length : Nat) : Int) - ((p : Nat) : Int) = ((W.length : Nat) : Int) := by omega
    refine ⟨_, rfl, _, rfl, _, _, rfl, rfl, _, _, rfl, rfl, _, rfl, ?_⟩
    rw [es]
    by_cases w0 : 1 ≤ W.length
    rotate_left
    · rw [decide_eq_false (show ¬ ((0 : Int) < ((W.length : Nat) : Int)) by omega)]
      refine iteF ⟨false, rfl, iteT ?_⟩
      refine ⟨_, rfl, qn fun z => ?_⟩
      have z := z.1
      unfold okW at z
      rw [Bool.and_eq_true, decide_eq_true_iff] at z
      exact w0 z.1.1
    rw [decide_eq_true (show ((0 : Int) < ((W.length : Nat) : Int)) by omega)]
    refine iteT ⟨_, _, rfl, rfl, _, rfl, ?_⟩
    by_cases w3 : W.length ≤ 2
    rotate_left
    · rw [decide_eq_false (show ¬ (((p + W.length : Nat) : Int) - ((p : Nat) : Int) < 3) by omega)]
      refine iteT ?_
      refine ⟨_, rfl, qn fun z => ?_⟩
      have z := z.1
      unfold okW at z
      rw [Bool.and_eq_true, decide_eq_true_iff] at z
      exact w3 z.1.2
    rw [decide_eq_true (show ((p + W.length : Nat) : Int) - ((p : Nat) : Int) < 3 by omega)]
    refine iteF ?_
    obtain ⟨c, r, rfl⟩ : ∃ c r, W = c :: r := by
      cases W with
      | nil => exact absurd w0 (by decide)
      | cons c r => exact ⟨c, r, rfl⟩
    have hz := h0 c r rfl
    have ek := okW_cons w3
    refine ⟨_, rfl, _, rfl, tx Z, _, c, rfl, rfl, hZs, atI_nat hz, rfl, _, rfl, ?_⟩
    show if (decide (V.str (tx [c]) = V.str (Str.ofString "0"))) = true then _ else _
    rw [z48]
    have e2 : ((p + (c :: r).length : Nat) : Int) - ((p : Nat) : Int) = ((r.length + 1 : Nat) : Int) := by
      rw [List.length_cons]
      omega
    by_cases h48 : c = 48
    · rw [decide_eq_true (show [c] = [48] by rw [h48])]
      refine iteT ⟨_, rfl, _, rfl, _, _, rfl, rfl, _, _, rfl, rfl, _, rfl, ?_⟩
      cases r with
      | cons d r =>
        rw [decide_eq_true (show (1 : Int) < ((p + (c :: d :: r).length : Nat) : Int) - ((p : Nat) : Int) by rw [List.length_cons, List.length_cons]; omega)]
        refine iteT ⟨_, rfl, qn fun z => ?_⟩
        have z := z.1
        rw [ek, decide_eq_false (fun z => by cases z), decide_eq_false (fun z => z h48)] at z
        cases z
      | nil =>
      rw [decide_eq_false (show ¬ ((1 : Int) < ((p + [c].length : Nat) : Int) - ((p : Nat) : Int)) by rw [List.length_singleton]; omega)]
      refine iteF ?_
      have hok : okW [c] = true := by rw [ek, decide_eq_true (show [c] = [48] by rw [h48])] <;> rfl
      have hi := word_int hok hd
      refine ⟨_, rfl, _, rfl, p, rfl, _, rfl, p + [c].length, rfl, tx Z, rfl, hZs, ?_⟩
      have ec : cutS (tx Z) (some ((p : Nat) : Int)) (some ((p + [c].length : Nat) : Int)) = tx [c] := (cut_sub _ _ _).trans (by rw [hc])
      refine ⟨tx [c], _, congrArg (fun z => [V.str z]) ec, hi, by rw [tx_len]; omega, _, _, rfl, rfl, _, rfl, ?_⟩
      by_cases h20 : nval [c] ≤ 20
      · rw [decide_eq_false (show ¬ ((20 : Int) < ((nval [c] : Nat) : Int)) by omega)]
        exact iteF ⟨_, rfl, qy hok h20⟩
      · rw [decide_eq_true (show ((20 : Int) < ((nval [c] : Nat) : Int)) by omega)]
        exact iteT ⟨_, rfl, qn fun z => h20 z.2⟩
    · rw [decide_eq_false (fun z => h48 (List.cons.inj z).1)]
      refine iteF ?_
      have hok : okW (c :: r) = true := by rw [ek, decide_eq_true h48, Bool.or_true]
      have hi := word_int hok hd
      refine ⟨_, rfl, _, rfl, p, rfl, _, rfl, p + (c :: r).length, rfl, tx Z, rfl, hZs, ?_⟩
      have ec : cutS (tx Z) (some ((p : Nat) : Int)) (some ((p + (c :: r).length : Nat) : Int)) = tx (c :: r) := (cut_sub _ _ _).trans (by rw [hc])
      refine ⟨tx (c :: r), _, congrArg (fun z => [V.str z]) ec, hi, by rw [tx_len]; omega, _, _, rfl, rfl, _, rfl, ?_⟩
      by_cases h20 : nval (c :: r) ≤ 20
      · rw [decide_eq_false (show ¬ ((20 : Int) < ((nval (c :: r) : Nat) : Int)) by omega)]
        exact iteF ⟨_, rfl, qy hok h20⟩
      · rw [decide_eq_true (show ((20 : Int) < ((nval (c :: r) : Nat) : Int)) by omega)]
        exact iteT ⟨_, rfl, qn fun z => h20 z.2⟩
end
end Sf6
/-! The law's own reader: parts of a class. -/
namespace Sf6
open PySem PySem.Spec PyProof.Rows L2 Sf Sf4
def NLP : List Str := ["_law_text", "_law_at", "_law_letters", "_law_one", "_law_other", "_law_sorts", "_law_sort", "_law_letter"]
theorem scLP : FnScope NLP ["_law_text", "_law_at"] (defScope sLP) := ⟨rfl, rfl, rfl, by decide +kernel, rfl, by decide +kernel, by decide +kernel⟩
abbrev rLes : R2 := fun x y H Q => ∃ i j, x = V.str i ∧ y = V.str j ∧ Q (.bl (!decide (j.cps.toList < i.cps.toList))) H
theorem op_les {X : Cx} : OpR X (compareOp .LtE) rLes := op_le_str
def spLP : Sp := fun vs H Q _ => ∃ (Z : List Nat) (p : Nat), vs = [.str (tx Z), .int (p : Nat)] ∧ Z.length ≤ 200 ∧ (fPart Z p = none → ∀ H', Same H H' → Q .non H') ∧
  (∀ ss q, fPart Z p = some (ss, q) → ∀ T H', Same H H' → H' T = some (.tup [.int (q : Nat), .str (tx ss)]) → Q (.ref T) H')
theorem tx_len200 {Z : List Nat} (h : Z.length ≤ 200) : (tx Z).length ≤ sizeLine := by
  rw [tx_len]
  exact Nat.le_trans h (by decide)
theorem span_L : ∀ c ∈ LETc, ∀ e ∈ LETc, like c e = true → c ≤ e → (LETc.filter fun l => decide (c ≤ l) && decide (l ≤ e)) = span c e := by decide +kernel
section
variable {P : Program} {w : World} {K : PySem.W.Frag} {mg : Str → Option Value} {base : Heap}
theorem ok_LP {f fL : Addr} {fd fdL : FuncData} {k : Nat} (F : Fun K "_law_part" "_law_part" sLP f fd) (FL : Fun K "_law_all_letters" "_law_all_letters" sLets fL fdL) (bL : Binds K fdL [] []) (gL : mg "_law_all_letters" = some (.ref fL)) (GL : FnOk P w K mg base CX0 (k + 1) fL fdL [] spLets) (ma : mg "any" = none) :
    FnOk P w K mg base CX0 (k + 2) f fd ["_law_text", "_law_at"] spLP := by
  refine F.ok scLP (fun vs H Q E h => ?_) (fun cdv A outer s H vs Q E hr h => ?_)
  · obtain ⟨Z, p, rfl, _⟩ := h
    rfl
  · obtain ⟨Z, p, rfl, hZ, q1, q2⟩ := h
    refine ⟨_, pss_cons (ps_set (i := 2) scLP.nd rfl (.inl rfl) (pe_call0 GL hr (by rfl) gL FL.kp bL .nil pass0))
      (pss_cons (ps_asg (pe_tup (pa_cons (pe_slice sl_str (pv 0) (po_some (pv 1)) (po_some (pe_op op_add (pv 1) pe_int))) (pa_cons (pe_slice sl_str (pv 0) (po_some (pe_op op_add (pv 1) pe_int)) (po_some (pe_op op_add (pv 1) pe_int))) pa_nil)))
          (pg_tup rfl (pgs_cons (pg_name (i := 3) scLP.nd rfl (.inr rfl)) (pgs_cons (pg_name (i := 4) scLP.nd rfl (.inr rfl)) pgs_nil))))
      (pss_cons (ps_if (PW.pt (pw_or (pt_cmpR op_eq (pv 3) pe_str (nomark _)) (pw_or1 (pt_cmpR op_notInS (pv 3) (pv 2) rfl)))) (pss_one (ps_ret pe_non)) pss_nil)
      (pss_cons (ps_if (pt_cmpR op_ne (pe_slice sl_str (pv 0) (po_some (pe_op op_add (pv 1) pe_int)) (po_some (pe_op op_add (pv 1) pe_int))) pe_str (nomark _)) (pss_one (ps_ret (pe_tup (pa_cons (pe_op op_add (pv 1) pe_int) (pa_cons (pv 3) pa_nil))))) pss_nil)
      (pss_cons (ps_set (i := 5) scLP.nd rfl (.inl rfl) (pe_lst (pa_cons pe_str (pa_cons pe_str pa_nil))))
      (pss_cons (ps_if (PW.pt (pw_or (pt_cmpR op_eq (pv 4) pe_str (nomark _)) (pw_or (pt_cmpR op_gt_str (pv 3) (pv 4) (nomark _)) (pw_or1 (pt_not (pt_val (pe_callB (cr_any rfl) (by rfl) ma (by decide +kernel) (pa_cons
          (pe_lc (own := [("_law_sort", 6)]) (g := gName 6) (tt := tYes) rfl scLP.nd (pi_list (pv 5)) (blkOk_by (N := NLP) (sc := defScope sLP) (by decide +kernel)) (fun _ _ _ _ _ => pg_name (i := 6) scLP.nd rfl (Or.inl rfl)) (fun _ _ _ _ _ => pts_nil)
            (fun _ _ _ _ _ => pe_and (pe_cmpR op_inS (pv 3) (pv 6) rfl) (pe_one (pe_cmpR op_inS (pv 4) (pv 6) rfl)))) pa_nil)))))))) (pss_one (ps_ret pe_non)) pss_nil)
      (pss_one (ps_ret (pe_tup (pa_cons (pe_op op_add (pv 1) pe_int) (pa_cons (pe_join pe_str (pe_lc (own := [("_law_letter", 7)]) (g := gName 7) (tt := tTest (tChain rLes rLes (tVar 3) (tVar 7) (tVar 4))) (te := tVar 7) rfl scLP.nd (pi_str (pv 2)) (blkOk_by (N := NLP) (sc := defScope sLP) (by decide +kernel)) (fun _ _ _ _ _ => pg_name (i := 7) scLP.nd rfl (Or.inl rfl))
          (fun _ _ _ _ _ => pts_one (pt_chain op_les op_les (pv 3) (pv 7) (pv 4))) (fun _ _ _ _ _ => pv 7))) pa_nil)))))))))), ?_⟩
    have hZs := tx_len200 hZ
    have ec : ∀ a b : Nat, ∀ i j : Int, i = (a : Nat) → j = i + 1 → cutS (tx Z) (some i) (some j) = tx (sg Z a) := fun a b i j hi hj => by
      subst hi
      subst hj
      exact sg_cut Z a
    refine ⟨rfl, ?_⟩
    refine ⟨_, rfl, _, rfl, p, rfl, _, rfl, _, _, rfl, rfl, _, rfl, tx Z, rfl, hZs, ?_⟩
    rw [ec p 0 _ _ rfl rfl]
    refine ⟨_, rfl, _, rfl, _, _, rfl, rfl, _, rfl, _, rfl, _, _, rfl, rfl, _, rfl, tx Z, rfl, hZs, ?_⟩
    rw [ec (p + 2) 0 (((p : Nat) : Int) + 2) (((p : Nat) : Int) + 3) (by omega) (by omega)]
    refine ⟨(show 2 ≤ sizeLine by decide), fun T0 n0 => ⟨T0, _, rfl, .inl (.inl upd_same), rfl, _, _, rfl, _, _, rfl, rfl, ?_⟩⟩
    have s0 := smU (o := HO.tup [V.str (tx (sg Z p)), .str (tx (sg Z (p + 2)))]) n0
    generalize upd H T0 (HO.tup [V.str (tx (sg Z p)), .str (tx (sg Z (p + 2)))]) = H0 at s0 ⊢
    cases hz : Z[p]? with
    | none =>
      rw [sg_none hz]
      refine ⟨_, rfl, rfl, _, rfl, ?_⟩
      rw [decide_eq_true em_eq]
      exact iteT (q1 (part_none1 fun c h => by rw [hz] at h; cases h) H0 s0)
    | some c =>
      rw [sg_some hz]
      refine ⟨_, rfl, rfl, _, rfl, ?_⟩
      rw [decide_eq_false em_ne]
      refine iteF ⟨_, rfl, _, rfl, c, _, rfl, rfl, _, rfl, ?_⟩
      by_cases hc : c ∈ LETc
      rotate_left
      · rw [decide_eq_false (show ¬ (c ∈ LSs.cps.toList) from fun z => hc (inLS.mp z))]
        exact iteT (q1 (part_none1 fun c' h => by rw [hz] at h; cases h; exact hc) H0 s0)
      rw [decide_eq_true (show (c ∈ LSs.cps.toList) from inLS.mpr hc)]
      refine iteF ?_
      refine ⟨_, rfl, _, rfl, _, _, rfl, rfl, _, rfl, _, rfl, _, _, rfl, rfl, _, rfl, tx Z, rfl, hZs, ?_⟩
      rw [ec (p + 1) 0 (((p : Nat) : Int) + 1) (((p : Nat) : Int) + 2) (by omega) (by omega)]
      refine ⟨rfl, _, rfl, ?_⟩
      have e45 : Str.ofString "-" = tx [45] := by decide +kernel
      by_cases h45 : Z[p + 1]? = some 45
      rotate_left
      · rw [decide_eq_false fun z => sg_ne h45 ((V.str.inj z).trans e45)]
        refine iteT ⟨_, rfl, _, _, rfl, rfl, _, rfl, (show 2 ≤ sizeLine by decide), fun T nT => ?_⟩
        exact q2 _ _ (part_one hz hc h45) T _ (s0.trans (smU nT)) upd_same
      rw [sg_some h45, e45, decide_eq_true rfl]
      refine iteF ?_
      refine ⟨(show 2 ≤ sizeLine by decide), fun L nL => ?_⟩
      have sL := s0.trans (smU (o := HO.lst [V.str (Str.ofString "0123456789"), .str (Str.ofString "abcdefghijklmnopqrstuvwxyz")]) nL)
      have eL : upd H0 L (HO.lst [V.str (Str.ofString "0123456789"), .str (Str.ofString "abcdefghijklmnopqrstuvwxyz")]) L = some (.lst [V.str (Str.ofString "0123456789"), .str (Str.ofString "abcdefghijklmnopqrstuvwxyz")]) := upd_same
      generalize upd H0 L (HO.lst [V.str (Str.ofString "0123456789"), .str (Str.ofString "abcdefghijklmnopqrstuvwxyz")]) = H1 at sL eL ⊢
      cases hz2 : Z[p + 2]? with
      | none =>
        rw [show sg Z (p + 2) = [] from sg_none hz2]
        refine ⟨_, rfl, rfl, _, rfl, ?_⟩
        rw [decide_eq_true em_eq]
        exact iteT (q1 (part_none2 hz h45 hz2) H1 sL)
      | some e =>
        rw [show sg Z (p + 2) = [e] from sg_some hz2]
        refine ⟨_, rfl, rfl, _, rfl, ?_⟩
        rw [decide_eq_false em_ne]
        have ep := part_two hz hc h45 hz2
        refine iteF ⟨_, rfl, _, rfl, _, _, rfl, rfl, _, rfl, ?_⟩
        by_cases hce : c ≤ e
        rotate_left
        · rw [decide_eq_true (show (tx [e]).cps.toList < (tx [c]).cps.toList from List.cons_lt_cons_iff.mpr (.inl (by omega)))]
          exact iteT (q1 (ep.trans (if_neg fun z => hce z.2)) H1 sL)
        rw [decide_eq_false (show ¬ ((tx [e]).cps.toList < (tx [c]).cps.toList) from fun z => by
          rcases List.cons_lt_cons_iff.mp (show [e] < [c] from z) with h | h
          · omega
          · exact absurd h.2 (by decide))]
        refine iteF ?_
        have lk : like c e = (dg c && dg e || sm c && sm e) := rfl
        refine ⟨_, rfl, L, rfl, ⟨_, .inl (.inl eL)⟩, fun D hD => ?_⟩
        refine lc_it (walk_list (K := K) (a := L) (xs := [V.str (Str.ofString "0123456789"), .str (Str.ofString "abcdefghijklmnopqrstuvwxyz")])) (fun i H4 => H4 D = some (.lst ((([dg c && dg e, sm c && sm e].take i)).map V.bl)) ∧ Same H1 H4)
          ⟨upd_same, smU hD⟩ (fun i H4 _ ⟨_, s4⟩ => .inl (.inl (s4 _ _ eL))) (fun i x H4 H4' hi hP hy => ?_) (fun H4 hP => ?_)
        · obtain ⟨e4, s4⟩ := hP
          obtain ⟨rfl, hx⟩ := hy
          have fin : ∀ v : Bool, [dg c && dg e, sm c && sm e][i]? = some v → (i : Nat) < 2 → H4' D = some (.lst ((([dg c && dg e, sm c && sm e].take i)).map V.bl)) → ((([dg c && dg e, sm c && sm e].take i)).map V.bl).length < sizeLine ∧ (upd H4' D (.lst ((([dg c && dg e, sm c && sm e].take i)).map V.bl ++ [V.bl v])) D = some (.lst ((([dg c && dg e, sm c && sm e].take (i + 1))).map V.bl)) ∧ Same H1 (upd H4' D (.lst ((([dg c && dg e, sm c && sm e].take i)).map V.bl ++ [V.bl v])))) := fun v hv hi e4 => by
            refine ⟨?_, ?_, fun b o hb => ?_⟩
            · rw [List.length_map]
              exact Nat.lt_of_le_of_lt (List.length_take_le _ _) (Nat.lt_of_lt_of_le hi (by decide))
            · obtain ⟨hl, hv⟩ := List.getElem?_eq_some_iff.mp hv
              rw [upd_same, List.take_succ_eq_append_getElem hl, List.map_append, hv] <;> rfl
            · rw [upd_ne (ne_of_none hb hD)]
              exact s4 b o hb
          match i, hi, hx, e4, fin with
          | 0, _, hx, e4, fin =>
            cases hx
            refine ⟨rfl, _, rfl, _, rfl, c, _, rfl, rfl, _, rfl, ?_⟩
            rw [dg_dec]
            cases h : dg c with
            | false =>
              rw [h] at e4 fin
              exact iteF ⟨_, e4, fin false rfl (by decide) e4⟩
            | true =>
              rw [h] at e4 fin
              refine iteT ⟨_, rfl, _, rfl, e, _, rfl, rfl, ?_⟩
              rw [dg_dec]
              exact ⟨_, e4, fin (dg e) rfl (by decide) e4⟩
          | 1, _, hx, e4, fin =>
            cases hx
            refine ⟨rfl, _, rfl, _, rfl, c, _, rfl, rfl, _, rfl, ?_⟩
            rw [sm_dec]
            cases h : sm c with
            | false =>
              rw [h] at e4 fin
              exact iteF ⟨_, e4, fin false rfl (by decide) e4⟩
            | true =>
              rw [h] at e4 fin
              refine iteT ⟨_, rfl, _, rfl, e, _, rfl, rfl, ?_⟩
              rw [sm_dec]
              exact ⟨_, e4, fin (sm e) rfl (by decide) e4⟩
        · obtain ⟨e4, s4⟩ := hP
          have e4 : H4 D = some (.lst ([dg c && dg e, sm c && sm e].map V.bl)) := e4
          have sH4 := sL.trans s4
          refine ⟨D, _, rfl, .inl (.inl e4), _, rfl, ?_⟩
          rw [show [dg c && dg e, sm c && sm e].any id = like c e by rw [lk]; cases (dg c && dg e) <;> cases (sm c && sm e) <;> rfl]
          cases hlk : like c e with
          | false => exact iteT (q1 (ep.trans (if_neg fun z => by rw [hlk] at z; cases z.1)) H4 sH4)
          | true =>
            refine iteF ?_
            refine ⟨_, rfl, _, _, rfl, rfl, ⟨_, rfl⟩, _, rfl, LSs, rfl, fun D2 hD2 => ?_⟩
            refine lc_it (walk_str (z := LSs)) (fun i H5 => H5 D2 = some (.lst (((LETc.take i).filter fun l => decide (c ≤ l) && decide (l ≤ e)).map fun l => V.str ⟨#[l]⟩)) ∧ Same H4 H5)
              ⟨upd_same, smU hD2⟩ (fun _ _ _ _ => True.intro) (fun i x H5 H5' hi hP hy => ?_) (fun H5 hP => ?_)
            · obtain ⟨e5, s5⟩ := hP
              obtain ⟨rfl, d, hd, rfl⟩ := hy
              have hd : LETc[i]? = some d := by
                rw [← LS_cps, Array.getElem?_toList]
                exact hd
              have ht : LETc.take (i + 1) = LETc.take i ++ [d] := by
                obtain ⟨h1, h2⟩ := List.getElem?_eq_some_iff.mp hd
                rw [List.take_succ_eq_append_getElem h1, h2]
              have ll : (((LETc.take i).filter fun l => decide (c ≤ l) && decide (l ≤ e)).map fun l => V.str ⟨#[l]⟩).length ≤ 38 := by
                rw [List.length_map]
                exact Nat.le_trans (List.length_filter_le _ _) (Nat.le_trans (List.length_take_le' _ _) (by decide +kernel))
              have no : (decide (c ≤ d) && decide (d ≤ e)) = false → H5' D2 = some (.lst (((LETc.take (i + 1)).filter fun l => decide (c ≤ l) && decide (l ≤ e)).map fun l => V.str ⟨#[l]⟩)) ∧ Same H4 H5' := fun z => by
                refine ⟨?_, s5⟩
                rw [ht, List.filter_append, List.filter_cons, z, if_neg Bool.false_ne_true, List.filter_nil, List.append_nil]
                exact e5
              refine ⟨rfl, _, rfl, _, rfl, _, _, rfl, rfl, _, rfl, ?_⟩
              show if (!decide ((tx [d]).cps.toList < (tx [c]).cps.toList)) = true then _ else _
              rw [le_str c d]
              by_cases h1 : c ≤ d
              · rw [decide_eq_true h1] at no ⊢
                refine iteT ⟨_, rfl, _, _, rfl, rfl, _, rfl, ?_⟩
                show if (!decide ((tx [e]).cps.toList < (tx [d]).cps.toList)) = true then _ else _
                rw [le_str d e]
                by_cases h2 : d ≤ e
                · rw [decide_eq_true h2]
                  refine iteT ⟨_, rfl, _, e5, Nat.lt_of_le_of_lt ll (by decide), ?_, fun b o hb => ?_⟩
                  · rw [upd_same, ht, List.filter_append, List.filter_cons, decide_eq_true h1, decide_eq_true h2, Bool.and_self, if_pos rfl, List.filter_nil, List.map_append] <;> rfl
                  · rw [upd_ne (ne_of_none hb hD2)]
                    exact s5 b o hb
                · rw [decide_eq_false h2] at no ⊢
                  exact iteF (no rfl)
              · rw [decide_eq_false h1] at no ⊢
                exact iteF ⟨_, rfl, iteF (no rfl)⟩
            · obtain ⟨e5, s5⟩ := hP
              have ef : (LETc.filter fun l => decide (c ≤ l) && decide (l ≤ e)) = span c e := span_L c hc e (like_let hlk) hlk hce
              have e6 : H5 D2 = some (.lst (((span c e).map fun l => (⟨#[l]⟩ : Str)).map V.str)) := by
                rw [e5, ← ef, List.map_map]
                refine congrArg (fun z => some (HO.lst (List.map _ (List.filter _ z)))) ?_
                exact List.take_of_length_le (by decide +kernel)
              have ll : (span c e).length ≤ 38 := by
                rw [← ef]
                exact Nat.le_trans (List.length_filter_le _ _) (by decide +kernel)
              refine ⟨Str.ofString "", D2, _, rfl, rfl, .inl (.inl (.inl e6)), ?_, ?_⟩
              · rw [sum_ones, show (Str.ofString "").length = 0 by decide +kernel]
                omega
              rw [Sf4.join_ones]
              exact ⟨(show 2 ≤ sizeLine by decide), fun T nT => q2 _ _ (ep.trans (if_pos ⟨hlk, hce⟩)) T _ (sH4.trans (s5.trans (smU nT))) upd_same⟩
end
end Sf6
/-! The law's own reader: classes. -/
namespace Sf6
open PySem PySem.Spec PyProof.Rows L2 Sf Sf4
def NCE : List Str := ["_law_text", "_law_at", "_law_is_other", "_law_part_here", "_law_found", "_law_is_full", "_law_letter"]
theorem scCE : FnScope NCE ["_law_text", "_law_at"] (defScope sCE) := ⟨rfl, rfl, rfl, by decide +kernel, rfl, by decide +kernel, by decide +kernel⟩
def ceV (Z : List Nat) (p : Nat) : Int := match fCls Z (p + 1) with
  | none => -1
  | some (_, q) => (q : Nat)
def spCE : Sp := fun vs H Q _ => ∃ (Z : List Nat) (p : Nat), vs = [.str (tx Z), .int (p : Nat)] ∧ Z.length ≤ 200 ∧ ∀ H', Same H H' → Q (.int (ceV Z p)) H'
theorem part_in {Z : List Nat} {p q : Nat} {ss : List Nat} (h : fPart Z p = some (ss, q)) : ∃ c ∈ ss, c ∈ LETc := by
  unfold fPart at h
  split at h
  · cases h
  · rename_i c hc
    split at h
    · rename_i hl
      split at h
      · split at h
        · cases h
        · split at h
          · rename_i g
            cases h
            exact ⟨c, List.mem_map.mpr ⟨0, List.mem_range.mpr (Nat.succ_pos _), rfl⟩, hl⟩
          · cases h
      · cases h
        exact ⟨c, List.mem_singleton.mpr rfl, hl⟩
    · cases h
theorem cls_f {ss : List Nat} (h : ∃ c ∈ ss, c ∈ LETc) : cls false ss ≠ [] := fun z => by
  obtain ⟨c, h1, h2⟩ := h
  have : c ∈ cls false ss := List.mem_filter.mpr ⟨h2, by rw [decide_eq_true h1] <;> rfl⟩
  rw [z] at this
  cases this
theorem cls_t (ss : List Nat) : (cls true ss = []) ↔ (LETc.map fun c => decide (c ∈ ss)).all id = true := by
  unfold cls
  rw [List.filter_eq_nil_iff, List.all_map, List.all_eq_true]
  refine forall₂_congr fun c _ => ?_
  show ¬ (decide (c ∈ ss) != true) = true ↔ decide (c ∈ ss) = true
  cases decide (c ∈ ss) <;> simp
def clsR (o : Bool) : Option (List Nat × Nat) → Option (List Nat × Nat)
  | none => none
  | some (rs, r) => if cls o rs = [] then none else some (cls o rs, r)
theorem cls_eq2 (Z : List Nat) (s : Nat) : fCls Z s = match fPart Z (hat Z s) with
  | none => none
  | some (ss, q) => clsR (decide (Z[s]? = some 94)) (fParts Z (Z.length + 1) q ss) := by
  rw [cls_eq]
  cases fPart Z (hat Z s) with
  | none => rfl
  | some a =>
    dsimp only
    cases fParts Z (Z.length + 1) a.2 a.1 <;> rfl
/-- where the loop stands -/
def InvC (Z : List Nat) (p : Nat) (o : Bool) (H : Hp) (n : Nat) (σ : L2.St) (H3 : Hp) : Prop := ∃ (at_ : Int) (dn : List Nat) (v3 : V) (y5 y6 : Option V), σ = [some (.str (tx Z)), some (.int at_), some (.bl o), some v3, some (.str (tx dn)), y5, y6] ∧ Same H H3 ∧
  ((v3 = .non ∧ fCls Z (p + 1) = none) ∨ ∃ (T : Addr) (s2 : List Nat) (q2 : Nat), v3 = .ref T ∧ H3 T = some (.tup [.int (q2 : Nat), .str (tx s2)]) ∧ fCls Z (p + 1) = clsR o (fParts Z n q2 (dn ++ s2)) ∧ q2 ≤ Z.length ∧ Z.length - q2 < n ∧ (dn ++ s2).length ≤ 26 * q2 ∧ ∃ c ∈ dn ++ s2, c ∈ LETc)
section
variable {P : Program} {w : World} {K : PySem.W.Frag} {mg : Str → Option Value} {base : Heap}
theorem ok_CE {f fL fP : Addr} {fd fdL fdP : FuncData} {k : Nat} (F : Fun K "_law_class_end" "_law_class_end" sCE f fd) (FL : Fun K "_law_all_letters" "_law_all_letters" sLets fL fdL) (bL : Binds K fdL [] []) (gL : mg "_law_all_letters" = some (.ref fL)) (GL : FnOk P w K mg base CX0 (k + 1) fL fdL [] spLets)
    (FP : Fun K "_law_part" "_law_part" sLP fP fdP) (bP : Binds K fdP ["_law_text", "_law_at"] []) (gP : mg "_law_part" = some (.ref fP)) (GP : FnOk P w K mg base CX0 (k + 2) fP fdP ["_law_text", "_law_at"] spLP) (mi : mg "int" = none) (ma : mg "all" = none) :
    FnOk P w K mg base CX0 (k + 3) f fd ["_law_text", "_law_at"] spCE := by
  refine F.ok scCE (fun vs H Q E h => ?_) (fun cdv A outer s H vs Q E hr h => ?_)
  · obtain ⟨Z, p, rfl, _⟩ := h
    rfl
  · obtain ⟨Z, p, rfl, hZ, q⟩ := h
    refine ⟨_, pss_cons (ps_set (i := 2) scCE.nd rfl (.inl rfl) (pe_cmpR op_eq (pe_slice sl_str (pv 0) (po_some (pe_op op_add (pv 1) pe_int)) (po_some (pe_op op_add (pv 1) pe_int))) pe_str (nomark _)))
      (Evl.pss_cut (ps_asg (pe_tup (pa_cons (pe_call GP hr (by rfl) gP FP.kp bP .nil pass0 (pa_cons (pv 0) (pa_cons (pe_op op_add (pe_op op_add (pv 1) pe_int) (pe_callTy call_int1 (by rfl) mi PySem.Pv.boot_int (pa_cons (pv 2) pa_nil))) pa_nil))) (pa_cons pe_str pa_nil)))
          (pg_tup rfl (pgs_cons (pg_name (i := 3) scCE.nd rfl (.inl rfl)) (pgs_cons (pg_name (i := 4) scCE.nd rfl (.inr rfl)) pgs_nil))))
      (pss_cons (ps_while PassesOwn.never (pt_cmpR op_notN (pv 3) pe_non (nomark _))
        (pss_cons (ps_asg (pe_tup (pa_cons (pe_ix ix_tup (pv 3) pe_int (fun _ _ => rfl)) (pa_cons (pe_op op_add_str (pv 4) (pe_ix ix_tup (pv 3) pe_int (fun _ _ => rfl))) pa_nil)))
            (pg_tup rfl (pgs_cons (pg_name (i := 1) scCE.nd rfl (.inl rfl)) (pgs_cons (pg_name (i := 4) scCE.nd rfl (.inr rfl)) pgs_nil))))
        (pss_cons (ps_if (pt_cmpR op_eq (pe_slice sl_str (pv 0) (po_some (pv 1)) (po_some (pe_op op_add (pv 1) pe_int))) pe_str (nomark _))
            (pss_cons (ps_set (i := 5) scCE.nd rfl (.inl rfl) (pe_callB (cr_all rfl) (by rfl) ma (by decide +kernel) (pa_cons (pe_lc (own := [("_law_letter", 6)]) (g := gName 6) (tt := tYes) rfl scCE.nd (pi_str (pe_call0 GL (hr.mono (by omega)) (by rfl) gL FL.kp bL .nil pass0)) (blkOk_by (N := NCE) (sc := defScope sCE) (by decide +kernel))
                (fun _ _ _ _ _ => pg_name (i := 6) scCE.nd rfl (Or.inl rfl)) (fun _ _ _ _ _ => pts_nil) (fun _ _ _ _ _ => pe_cmpR op_inS (pv 6) (pv 4) rfl)) pa_nil)))
            (pss_one (ps_ret (pe_ifExp (PW.pt (pw_and (pt_val (pv 2)) (pw_and1 (pt_val (pv 5))))) (pe_un un_neg pe_int) (pe_op op_add (pv 1) pe_int))))) pss_nil)
        (pss_one (ps_set (i := 3) scCE.nd rfl (.inl rfl) (pe_call GP hr (by rfl) gP FP.kp bP .nil pass0 (pa_cons (pv 0) (pa_cons (pv 1) pa_nil))))))))
      (pss_one (ps_ret (pe_un un_neg pe_int))))), ?_⟩
    have hZs := tx_len200 hZ
    have ec : ∀ (a : Nat) (i j : Int), i = (a : Nat) → j = i + 1 → cutS (tx Z) (some i) (some j) = tx (sg Z a) := fun a i j hi hj => by
      subst hi
      subst hj
      exact sg_cut Z a
    have e94 : Str.ofString "^" = tx [94] := by decide +kernel
    have e93 : Str.ofString "]" = tx [93] := by decide +kernel
    have dsg : ∀ (a c : Nat) (S : Str), S = tx [c] → decide (V.str (tx (sg Z a)) = V.str S) = decide (Z[a]? = some c) := fun a c S hS => by
      subst hS
      by_cases h : Z[a]? = some c
      · rw [sg_some h, decide_eq_true rfl, decide_eq_true h]
      · rw [decide_eq_false h, decide_eq_false fun z => sg_ne h (V.str.inj z)]
    refine ⟨_, rfl, _, rfl, _, _, rfl, rfl, _, rfl, _, rfl, _, _, rfl, rfl, _, rfl, tx Z, rfl, hZs, ?_⟩
    rw [ec (p + 1) (((p : Nat) : Int) + 1) (((p : Nat) : Int) + 2) (by omega) (by omega)]
    refine ⟨rfl, ?_⟩
    rw [dsg (p + 1) 94 _ e94]
    have hh : ((p : Nat) : Int) + 1 + (if decide (Z[p + 1]? = some 94) = true then 1 else 0) = ((hat Z (p + 1) : Nat) : Int) := by
      unfold hat
      by_cases h : Z[p + 1]? = some 94
      · rw [if_pos h, decide_eq_true h, if_pos rfl] <;> rfl
      · rw [if_neg h, decide_eq_false h, if_neg Bool.false_ne_true] <;> omega
    have eC := cls_eq2 Z (p + 1)
    generalize decide (Z[p + 1]? = some 94) = o at hh eC ⊢
    refine ⟨fun σ H3 => ∃ n, InvC Z p o H n σ H3, ?_, fun σ H3 hM => ?_⟩
    · refine ⟨_, rfl, _, rfl, _, _, rfl, rfl, _, rfl, .inr ⟨_, rfl, _, _, rfl, rfl, ?_⟩⟩
      refine ⟨Z, hat Z (p + 1), by rw [← hh] <;> rfl, hZ, fun e1 H1 s1 => ?_, fun ss q1 e1 T1 H1 s1 eT1 => ?_⟩
      · rw [e1] at eC
        refine ⟨(show 2 ≤ sizeLine by decide), fun T0 n0 => ⟨T0, _, rfl, .inl (.inl upd_same), rfl, _, _, rfl, _, _, rfl, rfl, ?_⟩⟩
        exact ⟨0, _, [], .non, _, _, rfl, s1.trans (smU n0), .inl ⟨rfl, eC⟩⟩
      · rw [e1] at eC
        have g1 := part_go e1
        have l1 := part_len e1
        refine ⟨(show 2 ≤ sizeLine by decide), fun T0 n0 => ⟨T0, _, rfl, .inl (.inl upd_same), rfl, _, _, rfl, _, _, rfl, rfl, ?_⟩⟩
        exact ⟨Z.length + 1, _, [], .ref T1, _, _, rfl, s1.trans (smU n0), .inr ⟨T1, ss, q1, rfl, smU n0 _ _ eT1, eC, g1.2, by omega, by show ss.length ≤ 26 * q1; omega, part_in e1⟩⟩
    obtain ⟨n, hI⟩ := hM
    refine ⟨fun n σ H4 => InvC Z p o H n σ H4, ⟨n, hI⟩, ?_⟩
    rintro n σ H4 ⟨a, dn, v3, y5, y6, rfl, s4, hv⟩
    rcases hv with ⟨rfl, hn⟩ | ⟨T, s2, q2, rfl, eT, eF, hq, hf, hl, hin⟩
    · refine ⟨_, rfl, rfl, _, rfl, ?_⟩
      rw [decide_eq_true rfl]
      refine iteF ⟨_, rfl, ?_⟩
      have := q H4 s4
      unfold ceV at this
      rw [hn] at this
      exact this
    · obtain ⟨n, rfl⟩ : ∃ k, n = k + 1 := ⟨n - 1, by omega⟩
      refine ⟨_, rfl, rfl, _, rfl, ?_⟩
      rw [decide_eq_false (show ¬ (V.ref T = V.non) from fun z => by cases z)]
      refine iteT ⟨InvC Z p o H n, fun σ' H' h => ⟨n, Nat.lt_succ_self n, h⟩, ?_⟩
      refine ⟨_, rfl, T, _, 0, _, rfl, rfl, .inl (.inl eT), atI_nat (j := 0) rfl, _, rfl, _, rfl, T, _, 1, _, rfl, rfl, .inl (.inl eT), atI_nat (j := 1) rfl, _, _, rfl, rfl, ?_, ?_⟩
      · rw [tx_len, tx_len]
        rw [List.length_append] at hl
        exact Nat.le_trans (show dn.length + s2.length ≤ 6000 by omega) (by decide)
      rw [tx_app]
      refine ⟨(show 2 ≤ sizeLine by decide), fun T0 n0 => ⟨T0, _, rfl, .inl (.inl upd_same), rfl, _, _, rfl, _, _, rfl, rfl, ?_⟩⟩
      have s5 := s4.trans (smU (o := HO.tup [V.int (q2 : Nat), .str (tx (dn ++ s2))]) n0)
      generalize upd H4 T0 (HO.tup [V.int (q2 : Nat), .str (tx (dn ++ s2))]) = H5 at s5 ⊢
      generalize dn ++ s2 = ds at eF hl hin ⊢
      refine ⟨_, rfl, _, rfl, q2, rfl, _, rfl, _, _, rfl, rfl, _, rfl, tx Z, rfl, hZs, ?_⟩
      rw [ec q2 ((q2 : Nat) : Int) (((q2 : Nat) : Int) + 1) rfl rfl]
      refine ⟨rfl, _, rfl, ?_⟩
      rw [dsg q2 93 _ e93]
      by_cases h93 : Z[q2]? = some 93
      · rw [decide_eq_true h93]
        rw [parts_stop h93] at eF
        refine iteT ?_
        refine ⟨rfl, LSs, rfl, fun D hD => ?_⟩
        refine lc_it (walk_str (z := LSs)) (fun i H6 => H6 D = some (.lst (((LETc.take i).map fun c => decide (c ∈ ds)).map V.bl)) ∧ Same H5 H6) ⟨upd_same, smU hD⟩ (fun _ _ _ _ => True.intro) (fun i x H6 H7 hi hP hy => ?_) (fun H6 hP => ?_)
        · obtain ⟨e6, h6⟩ := hP
          obtain ⟨rfl, c, hc, rfl⟩ := hy
          have hc : LETc[i]? = some c := by
            rw [← LS_cps, Array.getElem?_toList]
            exact hc
          have ht : LETc.take (i + 1) = LETc.take i ++ [c] := by
            obtain ⟨h1, h2⟩ := List.getElem?_eq_some_iff.mp hc
            rw [List.take_succ_eq_append_getElem h1, h2]
          refine ⟨rfl, _, rfl, _, rfl, c, _, rfl, rfl, _, e6, ?_, ?_, fun b u hb => ?_⟩
          · rw [List.length_map, List.length_map]
            exact Nat.lt_of_le_of_lt (Nat.le_trans (List.length_take_le' _ _) (show LETc.length ≤ 38 by decide +kernel)) (by decide)
          · rw [upd_same, ht, List.map_append, List.map_append] <;> rfl
          · rw [upd_ne (ne_of_none hb hD)]
            exact h6 b u hb
        · obtain ⟨e6, h1⟩ := hP
          have h3 : H6 D = some (.lst ((LETc.map fun c => decide (c ∈ ds)).map V.bl)) := by
            rw [e6]
            refine congrArg (fun z => some (HO.lst ((List.map _ z).map V.bl))) ?_
            exact List.take_of_length_le (by decide +kernel)
          refine ⟨D, _, rfl, .inl (.inl h3), ?_⟩
          have s6 := s5.trans h1
          have hq2 := q H6 s6
          unfold ceV at hq2
          rw [eF] at hq2
          unfold clsR at hq2
          dsimp only at hq2
          refine ⟨_, rfl, o, rfl, ?_⟩
          cases o with
          | false =>
            rw [if_neg (cls_f hin)] at hq2
            exact iteF ⟨_, rfl, _, _, rfl, rfl, hq2⟩
          | true =>
            refine iteT ⟨_, rfl, _, rfl, ?_⟩
            cases hfull : (LETc.map fun c => decide (c ∈ ds)).all id with
            | true =>
              rw [if_pos ((cls_t ds).mpr hfull)] at hq2
              exact iteT ⟨_, rfl, hq2⟩
            | false =>
              rw [if_neg fun z => by rw [(cls_t ds).mp z] at hfull; cases hfull] at hq2
              exact iteF ⟨_, rfl, _, _, rfl, rfl, hq2⟩
      · rw [decide_eq_false h93]
        refine iteF ⟨_, rfl, _, rfl, Z, q2, rfl, hZ, fun e1 H6 s6 => ?_, fun ss q3 e1 T3 H6 s6 eT3 => ?_⟩
        · rw [parts_no h93 e1] at eF
          exact ⟨_, ds, .non, _, _, rfl, s5.trans s6, .inl ⟨rfl, eF⟩⟩
        · rw [parts_more h93 e1] at eF
          have g1 := part_go e1
          have l1 := part_len e1
          obtain ⟨c, h1, h2⟩ := hin
          exact ⟨_, ds, .ref T3, _, _, rfl, s5.trans s6, .inr ⟨T3, ss, q3, rfl, eT3, eF, g1.2, by omega, by rw [List.length_append]; omega, c, List.mem_append_left _ h1, h2⟩⟩
end
end Sf6
/-! An expression read in one loop. -/
namespace Sf6
open Sf4
theorem szL_app (a b : List Tr) : szL (a ++ b) = szL a + szL b := by
  induction a with
  | nil =>
    show szL b = 0 + szL b
    omega
  | cons t r ih =>
    show sz t + szL (r ++ b) = sz t + szL r + szL b
    omega
theorem one_szc (ts : List Tr) : sz (one .chain ts) = szL ts := by
  match ts with
  | [] => rfl
  | [t] =>
    show sz t = sz t + 0
    omega
  | a :: b :: r => rfl
theorem one_sza (ts : List Tr) : sz (one .choice ts) = szL ts := by
  match ts with
  | [] => rfl
  | [t] =>
    show sz t = sz t + 0
    omega
  | a :: b :: r => rfl
/-- item upon item, bars between them or not; the places are summed up -/
def fL (Z : List Nat) (I : Rd6) : Nat → Nat → Nm → Nat → Option (Nat × Nat × Nm)
  | 0, _, _, _ => none
  | n + 1, p, nm, k => match I p nm with
    | none => none
    | some (t, q, nm1) => if Z[q]? = some 124 then fL Z I n (q + 1) nm1 (k + sz t) else if goC Z q = true then fL Z I n q nm1 (k + sz t) else some (k + sz t, q, nm1)
/-- what is left behind an item -/
def rF (Z : List Nat) (I : Rd6) (n q : Nat) (nm : Nm) (k : Nat) : Option (Nat × Nat × Nm) := if Z[q]? = some 124 then fL Z I n (q + 1) nm k else if goC Z q = true then fL Z I n q nm k else some (k, q, nm)
def rC (Z : List Nat) (I : Rd6) (n1 n2 q : Nat) (nm : Nm) (ts cs : List Tr) (k : Nat) : Option (Nat × Nat × Nm) := match fMore I (goC Z) id n1 q nm ts with
  | none => none
  | some (ts', r, nm2) => match fMore (fChain Z I) (goA Z) (· + 1) n2 r nm2 (cs ++ [one .chain ts']) with
    | none => none
    | some (cs', r', nm3) => some (k + szL cs', r', nm3)
theorem fL_succ (Z : List Nat) (I : Rd6) (n p : Nat) (nm : Nm) (k : Nat) : fL Z I (n + 1) p nm k = match I p nm with
    | none => none
    | some (t, q, nm1) => rF Z I n q nm1 (k + sz t) := by
  show (match I p nm with
    | none => none
    | some (t, q, nm1) => _) = _
  cases I p nm <;> rfl
theorem chain_def (Z : List Nat) (I : Rd6) (p : Nat) (nm : Nm) : fChain Z I p nm = match I p nm with
    | none => none
    | some (t, q1, nm1) => match fMore I (goC Z) id (Z.length + 1) q1 nm1 [t] with
      | none => none
      | some (us, r, nm2) => some (one .chain us, r, nm2) := rfl
theorem choice_def (Z : List Nat) (H : Rd6) (p : Nat) (nm : Nm) : fChoice Z H p nm = match H p nm with
    | none => none
    | some (t, q1, nm1) => match fMore H (goA Z) (· + 1) (Z.length + 1) q1 nm1 [t] with
      | none => none
      | some (us, r, nm2) => some (one .choice us, r, nm2) := rfl
theorem more1 {Z : List Nat} {R : Rd6} {go : Nat → Bool} {g : Nat → Nat} {n q : Nat} {nm : Nm} {ts : List Tr} (h : go q = true) : fMore R go g (n + 1) q nm ts = match R (g q) nm with
    | none => none
    | some (t, q', nm') => fMore R go g n q' nm' (ts ++ [t]) := by
  cases e : R (g q) nm with
  | none => exact more_no h e
  | some a => exact more_of h e
theorem flat {Z : List Nat} {I : Rd6} (hI : Go6 Z I) : ∀ (m n1 n2 q : Nat) (nm : Nm) (ts cs : List Tr) (k : Nat), Z.length - q < m → Z.length - q < n1 → Z.length - q < n2 → q ≤ Z.length → rF Z I m q nm (k + szL cs + szL ts) = rC Z I n1 n2 q nm ts cs k
  | 0, _, _, _, _, _, _, _, h, _, _, _ => absurd h (Nat.not_lt_zero _)
  | m + 1, n1, n2, q, nm, ts, cs, k, hm, h1, h2, hq => by
    obtain ⟨n1, rfl⟩ : ∃ j, n1 = j + 1 := ⟨n1 - 1, by omega⟩
    obtain ⟨n2, rfl⟩ : ∃ j, n2 = j + 1 := ⟨n2 - 1, by omega⟩
    unfold rF rC
    by_cases hb : Z[q]? = some 124
    · have hg : goC Z q = false := by
        unfold goC
        rw [hb]
        decide +kernel
      have hl := lt6 hb
      have ha : goA Z q = true := decide_eq_true hb
      rw [if_pos hb, fL_succ, more_stop hg]
      dsimp only
      rw [more1 (Z := Z) ha]
      rw [chain_def]
      cases hi : I (q + 1) nm with
      | none => rfl
      | some a =>
        obtain ⟨t, q1, nm1⟩ := a
        have g := hI _ _ _ _ _ hi
        dsimp only
        have ih := flat hI m (Z.length + 1) n2 q1 nm1 [t] (cs ++ [one .chain ts]) k (by omega) (by omega) (by omega) g.2
        have e : k + szL (cs ++ [one .chain ts]) + szL [t] = k + szL cs + szL ts + sz t := by
          rw [szL_app]
          show k + (szL cs + (sz (one .chain ts) + 0)) + (sz t + 0) = _
          rw [one_szc]
          omega
        rw [e] at ih
        rw [ih]
        unfold rC
        cases fMore I (goC Z) id (Z.length + 1) q1 nm1 [t] with
        | none => rfl
        | some b => rfl
    · rw [if_neg hb]
      have ha : goA Z q = false := decide_eq_false hb
      cases hg : goC Z q with
      | false =>
        rw [if_neg Bool.false_ne_true, more_stop hg]
        dsimp only
        rw [more_stop ha]
        dsimp only
        rw [szL_app]
        show _ = some (k + (szL cs + (sz (one .chain ts) + 0)), q, nm)
        rw [one_szc]
        rw [show k + (szL cs + (szL ts + 0)) = k + szL cs + szL ts by omega]
      | true =>
        rw [if_pos rfl, fL_succ, more1 (Z := Z) hg]
        dsimp only [id]
        cases hi : I q nm with
        | none => rfl
        | some a =>
          obtain ⟨t, q1, nm1⟩ := a
          have g := hI _ _ _ _ _ hi
          dsimp only
          have ih := flat hI m n1 (n2 + 1) q1 nm1 (ts ++ [t]) cs k (by omega) (by omega) (by omega) g.2
          have e : k + szL cs + szL (ts ++ [t]) = k + szL cs + szL ts + sz t := by
            rw [szL_app]
            show k + szL cs + (szL ts + (sz t + 0)) = _
            omega
          rw [e] at ih
          exact ih
/-- the one loop reads what the two read -/
theorem fL_eq {Z : List Nat} {I : Rd6} (hI : Go6 Z I) (p : Nat) (nm : Nm) (k n : Nat) (hn : Z.length - p < n) : fL Z I n p nm k = match fChoice Z (fChain Z I) p nm with
    | none => none
    | some (t, q, nm') => some (k + sz t, q, nm') := by
  obtain ⟨n, rfl⟩ : ∃ j, n = j + 1 := ⟨n - 1, by omega⟩
  rw [fL_succ]
  rw [choice_def, chain_def]
  cases hi : I p nm with
  | none => rfl
  | some a =>
    obtain ⟨t, q1, nm1⟩ := a
    have g := hI _ _ _ _ _ hi
    dsimp only
    have ih := flat hI n (Z.length + 1) (Z.length + 1) q1 nm1 [t] [] k (by omega) (by omega) (by omega) g.2
    have e : k + szL [] + szL [t] = k + sz t := by
      show k + 0 + (sz t + 0) = _
      omega
    rw [e] at ih
    rw [ih]
    unfold rC
    cases fMore I (goC Z) id (Z.length + 1) q1 nm1 [t] with
    | none => rfl
    | some b =>
      obtain ⟨us, r, nm2⟩ := b
      dsimp only
      rw [List.nil_append]
      cases fMore (fChain Z I) (goA Z) (· + 1) (Z.length + 1) r nm2 [one .chain us] with
      | none => rfl
      | some c =>
        dsimp only
        rw [one_sza]
end Sf6
/-! What text.split(":") gives first. -/
namespace Sf6
open PySem PySem.Spec PyProof.Rows L2 Sf Sf4
def ahead (l : List Nat) : List Nat := l.takeWhile fun c => decide (c ≠ 58)
theorem spl_first : ∀ (l acc : List Nat), ∃ rest, TL.spl [58] 0 acc l = (acc ++ ahead l) :: rest
  | [], acc => ⟨[], by
    show [acc] = [acc ++ []]
    rw [List.append_nil]⟩
  | c :: r, acc => by
    by_cases h : c = 58
    · subst h
      refine ⟨TL.spl [58] 0 [] r, ?_⟩
      have e : ahead (58 :: r) = [] := by
        unfold ahead
        rw [List.takeWhile_cons]
        exact if_neg (by decide)
      rw [e, List.append_nil]
      show (if TL.pre [58] (58 :: r) = true then _ else _) = _
      exact if_pos (by rfl)
    · obtain ⟨rest, i⟩ := spl_first r (acc ++ [c])
      refine ⟨rest, ?_⟩
      have e : ahead (c :: r) = c :: ahead r := by
        unfold ahead
        rw [List.takeWhile_cons]
        exact if_pos (decide_eq_true h)
      show (if TL.pre [58] (c :: r) = true then _ else _) = _
      have hp : TL.pre [58] (c :: r) = false := by
        show ([c] == [58]) = false
        exact beq_eq_false_iff_ne.mpr fun z => h (List.cons.inj z).1
      rw [hp, if_neg Bool.false_ne_true, i, e, List.append_assoc] <;> rfl
theorem cut_from (Z : List Nat) (a : Nat) : cutS (tx Z) (some (a : Int)) none = tx (Z.drop a) := by
  have h := cut_sub Z a Z.length
  have e : cutS (tx Z) (some (a : Int)) none = cutS (tx Z) (some (a : Int)) (some ((Z.length : Nat) : Int)) := by
    unfold cutS
    rw [HT.sIx_none, HT.sIx_nat (tx Z).length (tx Z).length Z.length, tx_len, Nat.min_self]
  rw [e, h, ← List.length_drop, List.take_length]
theorem split_first (l : List Nat) (hk : ¬ Builtin.Str.strKind (tx l) < Builtin.Str.strKind (tx [58])) : ∃ rest, Txt.split (tx l) (tx [58]) = tx (ahead l) :: rest := by
  have h := TL.split_spl (tx l) (tx [58]) (by show ([58] : List Nat) ≠ []; decide) hk
  obtain ⟨rest, e⟩ := spl_first l []
  have h : (Txt.split (tx l) (tx [58])).map TL.tl = (([] : List Nat) ++ ahead l) :: rest := h.trans e
  cases hs : Txt.split (tx l) (tx [58]) with
  | nil =>
    rw [hs] at h
    cases h
  | cons y r =>
    rw [hs] at h
    have h1 : TL.tl y = ahead l := (List.cons.inj h).1
    exact ⟨r, by rw [TL.ext_tl (x := y) (y := tx (ahead l)) h1]⟩
theorem tw_all {f : Nat → Bool} {n : List Nat} {c : Nat} {r : List Nat} (h : ∀ x ∈ n, f x = true) (hc : f c = false) : (n ++ c :: r).takeWhile f = n := by
  induction n with
  | nil =>
    rw [List.nil_append, List.takeWhile_cons, hc]
    exact if_neg Bool.false_ne_true
  | cons a n ih =>
    rw [List.cons_append, List.takeWhile_cons, h a List.mem_cons_self, if_pos rfl, ih fun x hx => h x (List.mem_cons_of_mem _ hx)]
theorem split_at {Z W : List Nat} {p : Nat} (hW : W <+: Z.drop p) (h : Z[p + W.length]? = some 58) : Z.drop p = W ++ 58 :: Z.drop (p + W.length + 1) := by
  obtain ⟨hlt, e⟩ := List.getElem?_eq_some_iff.mp h
  have e1 : (Z.drop p).take W.length = W := (List.prefix_iff_eq_take.mp hW).symm
  have e2 : (Z.drop p).drop W.length = 58 :: Z.drop (p + W.length + 1) := by
    rw [List.drop_drop, List.drop_eq_getElem_cons hlt, e]
  have := List.take_append_drop W.length (Z.drop p)
  rw [e1, e2] at this
  exact this.symm
theorem ahead_run {Z : List Nat} {p : Nat} (h : Z[p + (run sm Z p).length]? = some 58) : ahead (Z.drop p) = run sm Z p := by
  have hs : ∀ c ∈ run sm Z p, sm c = true := fun c hc => List.all_eq_true.mp (List.all_takeWhile (p := sm) (l := Z.drop p)) c hc
  have hl := split_at (W := run sm Z p) (List.takeWhile_prefix sm) h
  generalize Z.drop (p + (run sm Z p).length + 1) = Y at hl
  generalize run sm Z p = R at hs hl ⊢
  rw [hl]
  exact tw_all (fun c hc => decide_eq_true fun z => by
    subst z
    exact absurd (hs 58 hc) (by decide)) (by decide)
theorem run_ahead {Z : List Nat} {p : Nat} (h : Z[p + (ahead (Z.drop p)).length]? = some 58) (hs : ∀ c ∈ ahead (Z.drop p), sm c = true) : run sm Z p = ahead (Z.drop p) := by
  have hl := split_at (W := ahead (Z.drop p)) (List.takeWhile_prefix _) h
  generalize Z.drop (p + (ahead (Z.drop p)).length + 1) = Y at hl
  generalize ahead (Z.drop p) = W at hs hl ⊢
  unfold run
  rw [hl]
  exact tw_all hs (by decide)
end Sf6
/-! The law's own reader: units. -/
namespace Sf6
open PySem PySem.Spec PyProof.Rows L2 Sf Sf4
def NLU : List Str := ["_law_text", "_law_at", "_law_deep", "_law_used", "_law_sign", "_law_name", "_law_letter", "_law_inner"]
theorem scLU : FnScope NLU ["_law_text", "_law_at", "_law_deep", "_law_used"] (defScope sLU) := ⟨rfl, rfl, rfl, by decide +kernel, rfl, by decide +kernel, by decide +kernel⟩
/-- a reading of the law's: a pair with the end and the places, or None -/
def spLF (R : List Nat → Nat → Rd6) (d : Nat) : Sp := fun vs H Q _ => ∃ (Z : List Nat) (p : Nat) (u : Addr) (nm : Nm), vs = [.str (tx Z), .int (p : Nat), .int (d : Nat), .ref u] ∧ Z.length ≤ 60 ∧ nm.length ≤ p ∧ H u = some (.lst (nmV nm)) ∧
  (R Z d p nm = none → ∀ xs H', Kp u H H' → H' u = some (.lst xs) → Q .non H') ∧
  (∀ t q nm', R Z d p nm = some (t, q, nm') → ∀ T H', nm'.length ≤ q → T ≠ u → H' T = some (.tup [.int (q : Nat), .int (sz t : Nat)]) → H' u = some (.lst (nmV nm')) → Kp u H H' → Q (.ref T) H')
theorem kind58 (x : Str) : ¬ Builtin.Str.strKind x < Builtin.Str.strKind (tx [58]) := by
  have e : Builtin.Str.strKind (tx [58]) ≤ 1 := by decide +kernel
  have e2 : 1 ≤ Builtin.Str.strKind x := by
    unfold Builtin.Str.strKind
    repeat' split
    all_goals decide
  omega
theorem dot_in {c : Nat} : c ∈ (Str.ofString "." ++ LSs).cps.toList ↔ (c ∈ LETc ∨ c = 46) := by
  rw [show (Str.ofString "." ++ LSs).cps.toList = [46] ++ LETc by decide +kernel, List.mem_append, List.mem_singleton]
  exact Or.comm
section
variable {P : Program} {w : World} {K : PySem.W.Frag} {mg : Str → Option Value} {base : Heap}
theorem ok_LU {f fL fK fE : Addr} {fd fdL fdC fdE : FuncData} {k d : Nat} {spA : Sp} (F : Fun K "_law_unit" "_law_unit" sLU f fd) (FL : Fun K "_law_all_letters" "_law_all_letters" sLets fL fdL) (bL : Binds K fdL [] []) (gL : mg "_law_all_letters" = some (.ref fL)) (GL : FnOk P w K mg base CX0 1 fL fdL [] spLets)
    (FCE : Fun K "_law_class_end" "_law_class_end" sCE fK fdC) (bC : Binds K fdC ["_law_text", "_law_at"] []) (gC : mg "_law_class_end" = some (.ref fK)) (GC : FnOk P w K mg base CX0 3 fK fdC ["_law_text", "_law_at"] spCE)
    (FE : Fun K "_law_expression" "_law_expression" sLE fE fdE) (bE : Binds K fdE ["_law_text", "_law_at", "_law_deep", "_law_used"] []) (gE : mg "_law_expression" = some (.ref fE)) (hk : 3 ≤ k) (GE : FnOk P w K mg base CX0 k fE fdE ["_law_text", "_law_at", "_law_deep", "_law_used"] spA) (hA : ∀ e vs H Q E, e + 1 = d → spLF (fun Z d => fC Z d) e vs H Q E → spA vs H Q E)
    (ml : mg "len" = none) (ma : mg "all" = none) : FnOk P w K mg base CX0 (k + 1) f fd ["_law_text", "_law_at", "_law_deep", "_law_used"] (spLF (fun Z d => fU Z d) d) := by
  refine F.ok scLU (fun vs H Q E h => ?_) (fun cdv A outer s H vs Q E hr h => ?_)
  · obtain ⟨Z, p, u, nm, rfl, _⟩ := h
    rfl
  · obtain ⟨Z, p, u, nm, rfl, hZ, hnm, hu, q1, q2⟩ := h
    have hu1 : (A.deeper _).units + 1 < cLine := Nat.lt_of_le_of_lt (Nat.add_le_add_left (by decide : 1 ≤ 64) _) hr.units
    refine ⟨_, pss_cons (ps_set (i := 4) scLU.nd rfl (.inl rfl) (pe_slice sl_str (pv 0) (po_some (pv 1)) (po_some (pe_op op_add (pv 1) pe_int))))
      (pss_cons (ps_if (PW.pt (pw_and (pt_cmpR op_ne (pv 4) pe_str (nomark _)) (pw_and1 (pt_cmpR op_inS (pv 4) (pe_op op_add_str pe_str (pe_call0 GL (hr.mono (by omega)) (by rfl) gL FL.kp bL .nil pass0)) rfl)))) (pss_one (ps_ret (pe_tup (pa_cons (pe_op op_add (pv 1) pe_int) (pa_cons pe_int pa_nil))))) pss_nil)
      (pss_cons (ps_if (pt_cmpR op_eq (pv 4) pe_str (nomark _)) (pss_one (ps_ret (pe_ifExp (pt_cmpR op_gt (pe_call GC (hr.mono hk) (by rfl) gC FCE.kp bC .nil pass0 (pa_cons (pv 0) (pa_cons (pv 1) pa_nil))) pe_int (nomark _)) (pe_tup (pa_cons (pe_call GC (hr.mono hk) (by rfl) gC FCE.kp bC .nil pass0 (pa_cons (pv 0) (pa_cons (pv 1) pa_nil))) (pa_cons pe_int pa_nil))) pe_non))) pss_nil)
      (pss_cons (ps_if (PW.pt (pw_or (pt_cmpR op_eq (pv 4) pe_str (nomark _)) (pw_or (pt_cmpR op_notInS (pv 4) pe_str rfl) (pw_or1 (pt_cmpR op_eq (pv 2) pe_int (nomark _)))))) (pss_one (ps_ret pe_non)) pss_nil)
      (pss_cons (ps_set (i := 1) scLU.nd rfl (.inl rfl) (pe_op op_add (pv 1) pe_int))
      (Evl.pss_cut (ps_if (PW.pt (pw_and (pt_cmpR op_eq (pv 4) pe_str (nomark _)) (pw_and1 (pt_cmpR op_eq (pe_slice sl_str (pv 0) (po_some (pv 1)) (po_some (pe_op op_add (pv 1) pe_int))) pe_str (nomark _))))) (pss_one (ps_ret (pe_tup (pa_cons (pe_op op_add (pv 1) pe_int) (pa_cons pe_int pa_nil))))) pss_nil)
      (Evl.pss_cut (ps_if (pt_cmpR op_eq (pv 4) pe_str (nomark _))
          (pss_cons (ps_set (i := 5) scLU.nd rfl (.inl rfl) (pe_ix ix_list (pe_bm PySem.F.plainAttrs_str PySem.F.slot_str_split PySem.F.type_str_split mt_split (pe_slice sl_str (pv 0) (po_some (pv 1)) po_none) (pa_cons pe_str pa_nil)) pe_int (fun _ _ => rfl)))
          (pss_cons (ps_if (PW.pt (pw_or (pt_not (pt_chain op_lt op_lt pe_int (pe_callB call_len_str (by rfl) ml PySem.boot_len (pa_cons (pv 5) pa_nil)) pe_int)) (pw_or (pt_cmpR op_in_seq (pv 5) (pv 3) rfl) (pw_or1 (pt_cmpR op_ne (pe_slice sl_str (pv 0) (po_some (pe_op op_add (pv 1) (pe_callB call_len_str (by rfl) ml PySem.boot_len (pa_cons (pv 5) pa_nil)))) (po_some (pe_op op_add (pe_op op_add (pv 1) (pe_callB call_len_str (by rfl) ml PySem.boot_len (pa_cons (pv 5) pa_nil))) pe_int))) pe_str (nomark _)))))) (pss_one (ps_ret pe_non)) pss_nil)
          (pss_cons (ps_if (pt_not (pt_val (pe_callB (cr_all rfl) (by rfl) ma (by decide +kernel) (pa_cons (pe_lc (own := [("_law_letter", 6)]) (g := gName 6) (tt := tYes) rfl scLU.nd (pi_str (pv 5)) (blkOk_by (N := NLU) (sc := defScope sLU) (by decide +kernel)) (fun _ _ _ _ _ => pg_name (i := 6) scLU.nd rfl (Or.inl rfl)) (fun _ _ _ _ _ => pts_nil) (fun _ _ _ _ _ => pe_cmpR op_inS (pv 6) pe_str rfl)) pa_nil)))) (pss_one (ps_ret pe_non)) pss_nil)
          (pss_cons (ps_expr (pe_bm PySem.F.plainAttrs_list PySem.F.slot_list_append PySem.F.type_list_append mt_append (pv 3) (pa_cons (pv 5) pa_nil)))
          (pss_one (ps_set (i := 1) scLU.nd rfl (.inl rfl) (pe_op op_add (pe_op op_add (pv 1) (pe_callB call_len_str (by rfl) ml PySem.boot_len (pa_cons (pv 5) pa_nil))) pe_int))))))) pss_nil)
      (pss_cons (ps_set (i := 7) scLU.nd rfl (.inl rfl) (pe_call GE hr (by rfl) gE FE.kp bE .nil pass0 (pa_cons (pv 0) (pa_cons (pv 1) (pa_cons (pe_op op_sub (pv 2) pe_int) (pa_cons (pv 3) pa_nil))))))
      (pss_cons (ps_if (PW.pt (pw_or (pt_cmpR op_isN (pv 7) pe_non (nomark _)) (pw_or1 (pt_cmpR op_ne (pe_slice sl_str (pv 0) (po_some (pe_ix ix_tup (pv 7) pe_int (fun _ _ => rfl))) (po_some (pe_op op_add (pe_ix ix_tup (pv 7) pe_int (fun _ _ => rfl)) pe_int)))
          (pe_dget hu1 (pe_disp (pps_cons pe_str pe_str (pps_cons pe_str pe_str pps_nil)) rfl rfl (by simp) (by decide)) (pv 4) (fun _ _ => rfl)) (nomark _))))) (pss_one (ps_ret pe_non)) pss_nil)
      (pss_one (ps_ret (pe_tup (pa_cons (pe_op op_add (pe_ix ix_tup (pv 7) pe_int (fun _ _ => rfl)) pe_int) (pa_cons (pe_ix ix_tup (pv 7) pe_int (fun _ _ => rfl)) pa_nil))))))))))))), ?_⟩
    have hZs := tx_len200 (Nat.le_trans hZ (by decide))
    have ec : ∀ (a : Nat) (i j : Int), i = (a : Nat) → j = i + 1 → cutS (tx Z) (some i) (some j) = tx (sg Z a) := fun a i j hi hj => by
      subst hi
      subst hj
      exact sg_cut Z a
    have np : ∀ {xs : List V} {T : Addr} {H' : Hp} {ys : List V}, H' u = some (.lst xs) → H' T = some (.tup ys) → T ≠ u := fun e1 e2 z => by
      rw [z, e1] at e2
      cases e2
    obtain ⟨can, Ci, eU, hcan, hCi⟩ := fU_is Z d
    dsimp only at q1 q2
    rw [eU] at q1 q2
    refine ⟨_, rfl, _, rfl, p, rfl, _, rfl, _, _, rfl, rfl, _, rfl, tx Z, rfl, hZs, ?_⟩
    rw [ec p _ _ rfl rfl]
    cases hz : Z[p]? with
    | none =>
      have qn := q1 (u_end hz)
      rw [sg_none hz]
      refine ⟨_, rfl, rfl, _, rfl, ?_⟩
      rw [decide_eq_true em_eq]
      refine iteF ?_
      refine ⟨_, rfl, rfl, _, rfl, ?_⟩
      rw [decide_eq_false (show ¬ (V.str (tx []) = V.str (Str.ofString "[")) by decide +kernel)]
      refine iteF ?_
      refine ⟨_, rfl, rfl, _, rfl, ?_⟩
      rw [decide_eq_true em_eq]
      exact iteT (qn _ H (Kp.refl u H) hu)
    | some c =>
      rw [u_some hz] at q1 q2
      rw [sg_some hz]
      have neq : ∀ {c d : Nat}, c ≠ d → ¬ (V.str (tx [c]) = V.str (tx [d])) := fun h z => h (List.cons.inj (tx_inj (V.str.inj z))).1
      have s91 : Str.ofString "[" = tx [91] := by decide +kernel
      refine ⟨_, rfl, rfl, _, rfl, ?_⟩
      rw [decide_eq_false em_ne]
      refine iteT ?_
      refine ⟨_, rfl, rfl, _, _, rfl, rfl, (show (Str.ofString ".").length + LSs.length ≤ sizeLine by decide +kernel), c, _, rfl, rfl, _, rfl, ?_⟩
      by_cases c1 : c ∈ LETc ∨ c = 46
      · rw [decide_eq_true (dot_in.mpr c1)]
        refine iteT ⟨_, rfl, _, _, rfl, rfl, (show 2 ≤ sizeLine by decide), fun T nT => ?_⟩
        have hp : p < Z.length := lt6 hz
        have hT : T ≠ u := fun z => by
          rw [z, hu] at nT
          cases nT
        have fin : ∀ t : Tr, sz t = 1 → (if c ∈ LETc then some (Tr.place [c], p + 1, nm) else if c = 46 then some (Tr.place LETc, p + 1, nm) else if c = 91 then (match fCls Z (p + 1) with
              | none => none
              | some (s, q) => some (Tr.place s, q, nm))
            else if (c = 40 ∨ c = 60) ∧ can = true then (if c = 40 then fGrp Z Ci (p + 1) nm else fCap Z Ci (p + 1) nm) else none) = some (t, p + 1, nm) → Q (.ref T) (upd H T (.tup [.int (((p : Nat) : Int) + 1), .int 1])) := fun t ht e => by
          refine q2 _ _ _ e T _ (by omega) hT ?_ ((upd_ne hT.symm).trans hu) (Kp.same (smU nT))
          rw [upd_same, ht] <;> rfl
        by_cases c2 : c ∈ LETc
        · exact fin _ rfl (if_pos c2)
        · exact fin (.place LETc) rfl (by rw [if_neg c2, if_pos (c1.resolve_left c2)])
      have c2 : ¬ c ∈ LETc := fun z => c1 (.inl z)
      have c3 : ¬ c = 46 := fun z => c1 (.inr z)
      rw [if_neg c2, if_neg c3] at q1 q2
      rw [decide_eq_false fun z => c1 (dot_in.mp z)]
      refine iteF ?_
      refine ⟨_, rfl, rfl, _, rfl, ?_⟩
      rw [s91]
      by_cases c4 : c = 91
      · rw [if_pos c4] at q1 q2
        subst c4
        rw [decide_eq_true rfl]
        refine iteT ?_
        refine ⟨_, rfl, _, rfl, Z, p, rfl, by omega, fun H1 s1 => ?_⟩
        cases hcl : fCls Z (p + 1) with
        | none =>
          rw [hcl] at q1
          have ev : ceV Z p = -1 := by
            unfold ceV
            rw [hcl]
          rw [ev]
          refine ⟨_, _, rfl, rfl, _, rfl, iteF ?_⟩
          exact q1 rfl _ H1 (Kp.same s1) (s1 _ _ hu)
        | some a =>
          obtain ⟨ss, r⟩ := a
          rw [hcl] at q2
          have ev : ceV Z p = ((r : Nat) : Int) := by
            unfold ceV
            rw [hcl]
          have g := cls_go hcl
          refine ⟨_, _, rfl, rfl, _, rfl, ?_⟩
          rw [ev, decide_eq_true (show (0 : Int) < ((r : Nat) : Int) by omega)]
          refine iteT ⟨_, rfl, _, rfl, Z, p, rfl, by omega, fun H2 s2 => ⟨(show 2 ≤ sizeLine by decide), fun T nT => ?_⟩⟩
          have hu2 := s2 _ _ (s1 _ _ hu)
          have hT : T ≠ u := fun z => by
            rw [z, hu2] at nT
            cases nT
          refine q2 _ _ _ rfl T _ (by omega) hT ?_ ((upd_ne hT.symm).trans hu2) (Kp.same (s1.trans (s2.trans (smU nT))))
          rw [upd_same, ev] <;> rfl
      rw [if_neg c4] at q1 q2
      rw [decide_eq_false (neq c4)]
      refine iteF ?_
      refine ⟨_, rfl, rfl, _, rfl, ?_⟩
      rw [decide_eq_false em_ne]
      refine iteF ⟨_, rfl, c, _, rfl, rfl, _, rfl, ?_⟩
      by_cases cc : c = 40 ∨ c = 60
      rotate_left
      · rw [decide_eq_false fun z => cc (op_cps.mp z)]
        exact iteT (q1 (if_neg fun z => cc z.1) _ H (Kp.refl u H) hu)
      rw [decide_eq_true (op_cps.mpr cc)]
      refine iteF ⟨_, rfl, rfl, _, rfl, ?_⟩
      cases d with
      | zero =>
        rw [decide_eq_true (show V.int ((0 : Nat) : Int) = V.int 0 from rfl)]
        exact iteT (q1 (if_neg fun z => by rw [hcan] at z; cases z.2) _ H (Kp.refl u H) hu)
      | succ d' =>
      rw [decide_eq_false (show ¬ (V.int ((d' + 1 : Nat) : Int) = V.int 0) from fun z => by have := V.int.inj z; omega)]
      obtain rfl := hCi d' rfl
      rw [if_pos ⟨cc, hcan.trans (decide_eq_true (Nat.succ_pos _))⟩] at q1 q2
      refine iteF ⟨_, rfl, _, _, rfl, rfl, ?_⟩
      have s40 : Str.ofString "(" = tx [40] := by decide +kernel
      have s60 : Str.ofString "<" = tx [60] := by decide +kernel
      have hp : p < Z.length := lt6 hz
      refine ⟨fun σ H1 => H = H1 ∧ (c = 40 → Z[p + 1]? ≠ some 41) ∧ σ = [some (.str (tx Z)), some (.int ((p : Nat) + 1)), some (.int ((d' + 1 : Nat) : Int)), some (.ref u), some (.str (tx [c])), none, none, none], ?_, fun σ H1 hM => ?_⟩
      · refine ⟨_, rfl, rfl, _, rfl, ?_⟩
        rw [s40]
        by_cases c5 : c = 40
        · rw [if_pos c5] at q1 q2
          subst c5
          rw [decide_eq_true rfl]
          refine iteT ⟨_, rfl, _, rfl, _, rfl, _, rfl, _, _, rfl, rfl, _, rfl, tx Z, rfl, hZs, ?_⟩
          rw [ec (p + 1) (((p : Nat) : Int) + 1) (((p : Nat) : Int) + 1 + 1) (by omega) rfl]
          refine ⟨rfl, _, rfl, ?_⟩
          have e41 : Str.ofString ")" = tx [41] := by decide +kernel
          by_cases h41 : Z[p + 1]? = some 41
          · rw [sg_some h41, e41, decide_eq_true rfl]
            refine iteT ⟨_, rfl, _, _, rfl, rfl, (show 2 ≤ sizeLine by decide), fun T nT => ?_⟩
            have hT : T ≠ u := fun z => by
              rw [z, hu] at nT
              cases nT
            exact q2 _ _ _ (grp_nil h41) T _ (by omega) hT upd_same ((upd_ne hT.symm).trans hu) (Kp.same (smU nT))
          · rw [decide_eq_false fun z => sg_ne h41 ((V.str.inj z).trans e41)]
            exact iteF ⟨rfl, fun _ => h41, rfl⟩
        · rw [decide_eq_false (neq c5)]
          exact iteF ⟨rfl, fun z => absurd z c5, rfl⟩
      obtain ⟨rfl, h41, rfl⟩ := hM
      refine ⟨fun σ H4 => ∃ (pz : Nat) (nmz : Nm) (y5 y6 : Option V) (cl : Nat) (wr : Tr → Tr), σ = [some (.str (tx Z)), some (.int (pz : Nat)), some (.int ((d' + 1 : Nat) : Int)), some (.ref u), some (.str (tx [c])), y5, y6, none] ∧ H4 u = some (.lst (nmV nmz)) ∧ Kp u H H4 ∧ nmz.length ≤ pz ∧ (∀ t, sz (wr t) = sz t) ∧ ((c = 40 ∧ cl = 41) ∨ (c = 60 ∧ cl = 62)) ∧
          (if c = 40 then fGrp Z (fC Z d') (p + 1) nm else fCap Z (fC Z d') (p + 1) nm) = match fC Z d' pz nmz with
            | none => none
            | some (t, q, nm') => if Z[q]? = some cl then some (wr t, q + 1, nm') else none, ?_, fun σ H4 hM => ?_⟩
      · refine ⟨_, rfl, rfl, _, rfl, ?_⟩
        rw [s60]
        by_cases c5 : c = 40
        · subst c5
          rw [decide_eq_false (neq (by decide))]
          refine iteF ⟨p + 1, nm, _, _, 41, id, rfl, hu, Kp.refl u H, by omega, fun _ => rfl, .inl ⟨rfl, rfl⟩, ?_⟩
          rw [if_pos rfl]
          cases e1 : fC Z d' (p + 1) nm with
          | none => exact grp_no (h41 rfl) e1
          | some a => exact grp_of (h41 rfl) e1
        · have c6 : c = 60 := cc.resolve_left c5
          subst c6
          rw [decide_eq_true rfl]
          refine iteT ?_
          refine ⟨_, rfl, _, rfl, _, rfl, tx Z, rfl, hZs, ?_⟩
          have ecf : cutS (tx Z) (some (((p : Nat) : Int) + 1)) none = tx (Z.drop (p + 1)) := cut_from Z (p + 1)
          have e58 : Str.ofString ":" = tx [58] := by decide +kernel
          have hl1 : (tx (Z.drop (p + 1))).length + 2 ≤ sizeLine := by
            rw [tx_len, List.length_drop]
            exact Nat.le_trans (show Z.length - (p + 1) + 2 ≤ 100 by omega) (by decide)
          obtain ⟨rest, es⟩ := split_first (Z.drop (p + 1)) (kind58 _)
          refine ⟨rfl, tx (Z.drop (p + 1)), tx [58], congrArg V.str ecf, congrArg (fun z => [V.str z]) e58, rfl, hl1, fun L nL => ?_⟩
          rw [es]
          refine ⟨L, _, 0, _, rfl, rfl, .inl (.inl upd_same), atI_nat (j := 0) rfl, ?_⟩
          have kL : Kp u H (upd H L (.lst ((tx (ahead (Z.drop (p + 1))) :: rest).map V.str))) := Kp.same (smU nL)
          have huL : (upd H L (.lst ((tx (ahead (Z.drop (p + 1))) :: rest).map V.str))) u = some (.lst (nmV nm)) := smU nL _ _ hu
          show (tSeq _ _) _ _ (upd H L (.lst ((tx (ahead (Z.drop (p + 1))) :: rest).map V.str)))
          generalize upd H L (.lst ((tx (ahead (Z.drop (p + 1))) :: rest).map V.str)) = HL at kL huL ⊢
          have a1 := fun h => ahead_run (Z := Z) (p := p + 1) h
          have a2 := run_ahead (Z := Z) (p := p + 1)
          have qn : ¬ (okN (run sm Z (p + 1)) nm = true ∧ Z[p + 1 + (run sm Z (p + 1)).length]? = some 58) → Q .non HL := fun g => q1 (by rw [if_neg (by decide)]; exact cap_no1 g) _ HL kL huL
          have okd : ∀ {R : List Nat}, okN R nm = true → (1 ≤ R.length ∧ R.length ≤ 8) ∧ R ∉ nm := fun h => by
            unfold okN at h
            rw [Bool.and_eq_true, decide_eq_true_iff, decide_eq_true_iff] at h
            exact h
          have wl : (ahead (Z.drop (p + 1))).length ≤ 60 := Nat.le_trans (List.takeWhile_prefix _).length_le (by rw [List.length_drop]; omega)
          generalize ahead (Z.drop (p + 1)) = W at a1 a2 wl ⊢
          have hWs : (tx W).length ≤ sizeLine := by
            rw [tx_len]
            exact Nat.le_trans wl (by decide)
          refine ⟨_, rfl, tx W, rfl, hWs, _, _, rfl, rfl, _, rfl, ?_⟩
          by_cases w1 : 1 ≤ W.length
          rotate_left
          · rw [decide_eq_false (show ¬ ((0 : Int) < ((tx W).length : Int)) by rw [tx_len]; omega)]
            refine iteF ⟨false, rfl, iteT (qn fun g => w1 ?_)⟩
            rw [a1 g.2]
            exact (okd g.1).1.1
          rw [decide_eq_true (show ((0 : Int) < ((tx W).length : Int)) by rw [tx_len]; omega)]
          refine iteT ⟨_, _, rfl, rfl, _, rfl, ?_⟩
          by_cases w8 : W.length ≤ 8
          rotate_left
          · rw [decide_eq_false (show ¬ (((tx W).length : Int) < 9) by rw [tx_len]; omega)]
            refine iteT (qn fun g => w8 ?_)
            rw [a1 g.2]
            exact (okd g.1).1.2
          rw [decide_eq_true (show (((tx W).length : Int) < 9) by rw [tx_len]; omega)]
          refine iteF ?_
          refine ⟨_, rfl, _, rfl, u, nmV nm, rfl, .inl (.inl (.inl huL)), rfl, ?_, ?_⟩
          · exact List.all_eq_true.mpr fun y hy => by
              obtain ⟨m, _, rfl⟩ := List.mem_map.mp hy
              rfl
          rw [inV_dec]
          by_cases w3 : W ∈ nm
          · rw [decide_eq_true w3]
            exact ⟨_, rfl, iteT (qn fun g => (okd g.1).2 (a1 g.2 ▸ w3))⟩
          rw [decide_eq_false w3]
          refine ⟨_, rfl, iteF ?_⟩
          refine ⟨_, rfl, _, rfl, _, rfl, tx W, rfl, hWs, _, _, rfl, rfl, _, rfl, _, rfl, _, rfl, tx W, rfl, hWs, _, _, rfl, rfl, _, _, rfl, rfl, _, rfl, tx Z, rfl, hZs, ?_⟩
          rw [ec (p + 1 + W.length) (((p : Nat) : Int) + 1 + ((tx W).length : Int)) (((p : Nat) : Int) + 1 + ((tx W).length : Int) + 1) (by rw [tx_len]; omega) rfl]
          refine ⟨rfl, _, rfl, ?_⟩
          rw [e58]
          by_cases w4 : Z[p + 1 + W.length]? = some 58
          rotate_left
          · rw [decide_eq_false fun z => sg_ne w4 (V.str.inj z)]
            refine iteT (qn fun g => w4 ?_)
            rw [a1 g.2]
            exact g.2
          rw [sg_some w4, decide_eq_true rfl]
          refine iteF ?_
          refine ⟨_, rfl, tx W, rfl, fun DA hDA => ?_⟩
          refine lc_it (walk_str (z := tx W)) (fun i H6 => H6 DA = some (.lst (((W.take i).map sm).map V.bl)) ∧ Same HL H6) ⟨upd_same, smU hDA⟩ (fun _ _ _ _ => True.intro) (fun i x H6 H7 hi hP hy => ?_) (fun H6 hP => ?_)
          · obtain ⟨e6, h6⟩ := hP
            obtain ⟨rfl, x, hx, rfl⟩ := hy
            have hx : W[i]? = some x := by
              have hx : (tx W).cps.toList[i]? = some x := by
                rw [Array.getElem?_toList]
                exact hx
              exact hx
            have ht : W.take (i + 1) = W.take i ++ [x] := by
              obtain ⟨h1, h2⟩ := List.getElem?_eq_some_iff.mp hx
              rw [List.take_succ_eq_append_getElem h1, h2]
            refine ⟨rfl, _, rfl, x, _, rfl, rfl, _, e6, ?_, ?_, fun b o hb => ?_⟩
            · rw [List.length_map, List.length_map]
              exact Nat.lt_of_le_of_lt (Nat.le_trans (List.length_take_le' _ _) wl) (by decide)
            · rw [upd_same, ht, List.map_append, List.map_append, sm_dec] <;> rfl
            · rw [upd_ne (ne_of_none hb hDA)]
              exact h6 b o hb
          · obtain ⟨e6, h6⟩ := hP
            have h3 : H6 DA = some (.lst ((W.map sm).map V.bl)) := by
              rw [e6]
              refine congrArg (fun z => some (HO.lst ((List.map _ z).map V.bl))) ?_
              exact List.take_of_length_le (by show W.length ≤ (tx W).cps.size; exact Nat.le_of_eq (tx_len W).symm)
            have kH := kL.trans (Kp.same h6)
            have huH := h6 _ _ huL
            refine ⟨DA, _, rfl, .inl (.inl h3), _, rfl, ?_⟩
            cases hall : (W.map sm).all id with
            | false =>
              refine iteT (q1 (by
                rw [if_neg (by decide)]
                refine cap_no1 fun g => ?_
                have ew := a1 g.2
                have : (W.map sm).all id = true := by
                  rw [ew, List.all_map]
                  exact List.all_takeWhile
                rw [hall] at this
                cases this) _ H6 kH huH)
            | true =>
              have hsm : ∀ c ∈ W, sm c = true := fun c hc => by
                rw [List.all_map, List.all_eq_true] at hall
                exact hall c hc
              have er := a2 w4 hsm
              have ok : okN W nm = true := by
                unfold okN
                rw [decide_eq_true (show 1 ≤ W.length ∧ W.length ≤ 8 from ⟨w1, w8⟩), decide_eq_true w3] <;> rfl
              refine iteF ?_
              refine ⟨_, rfl, .inl ⟨rfl, _, .inl (.inl huH)⟩, _, rfl, u, _, _, rfl, rfl, huH, Nat.lt_of_le_of_lt (show (nmV nm).length ≤ 60 by unfold nmV; rw [List.length_map]; omega) (by decide), ?_⟩
              refine ⟨_, rfl, _, rfl, tx W, rfl, hWs, _, _, rfl, rfl, _, _, rfl, rfl, ?_⟩
              refine ⟨p + 1 + W.length + 1, nm ++ [W], _, _, 62, .capture W, congrArg (fun z => [some (V.str (tx Z)), some (.int z), some (.int ((d' + 1 : Nat) : Int)), some (.ref u), some (.str (tx [60])), _, _, none]) (show ((p : Nat) : Int) + 1 + ((tx W).length : Int) + 1 = ((p + 1 + W.length + 1 : Nat) : Int) by rw [tx_len]; omega), ?_, kH.trans Kp.pot, ?_, fun _ => rfl, .inr ⟨rfl, rfl⟩, ?_⟩
              · rw [upd_same]
                unfold nmV
                rw [List.map_append] <;> rfl
              · rw [List.length_append, List.length_singleton]
                omega
              · rw [if_neg (by decide)]
                have hc : okN (run sm Z (p + 1)) nm = true ∧ Z[p + 1 + (run sm Z (p + 1)).length]? = some 58 := by
                  rw [er]
                  exact ⟨ok, w4⟩
                cases e1 : fC Z d' (p + 1 + W.length + 1) (nm ++ [W]) with
                | none => exact cap_no2 hc (by rw [er]; exact e1)
                | some a =>
                  obtain ⟨t, q, nm'⟩ := a
                  have := cap_of hc (C := fC Z d') (t := t) (q := q) (nm' := nm') (by rw [er]; exact e1)
                  rw [er] at this
                  exact this
      obtain ⟨pz, nmz, y5, y6, cl, wr, rfl, hu4, k4, hn4, hw, hcl, hV⟩ := hM
      rw [hV] at q1 q2
      refine ⟨_, rfl, _, rfl, _, rfl, _, _, rfl, rfl, _, rfl, ?_⟩
      have ed : ((d' + 1 : Nat) : Int) - 1 = ((d' : Nat) : Int) := by omega
      refine hA d' _ _ _ _ rfl ⟨Z, pz, u, nmz, congrArg (fun z => [V.str (tx Z), .int (pz : Nat), .int z, .ref u]) ed, hZ, hn4, hu4, fun e1 xs H5 k5 hu5 => ?_, fun t q nm' e1 T H5 hnq hT eT hu5 k5 => ?_⟩
      · dsimp only at e1
        rw [e1] at q1
        exact ⟨_, rfl, rfl, _, rfl, iteT (q1 rfl xs H5 (k4.trans k5) hu5)⟩
      · dsimp only at e1
        rw [e1] at q1 q2
        dsimp only at q1 q2
        refine ⟨_, rfl, rfl, _, rfl, ?_⟩
        rw [decide_eq_false (show ¬ (V.ref T = V.non) from fun z => by cases z)]
        refine iteF ⟨_, rfl, _, rfl, T, _, 0, _, rfl, rfl, .inl (.inl eT), atI_nat (j := 0) rfl, _, rfl, _, rfl, T, _, 0, _, rfl, rfl, .inl (.inl eT), atI_nat (j := 0) rfl, _, _, rfl, rfl, _, rfl, tx Z, rfl, hZs, ?_⟩
        rw [ec q ((q : Nat) : Int) (((q : Nat) : Int) + 1) rfl rfl]
        refine fun DD nD => ⟨upd_same, [(.inr (Str.ofString "("), .str (Str.ofString ")")), (.inr (Str.ofString "<"), .str (Str.ofString ">"))], rfl, (show 2 ≤ 15 by decide), ?_⟩
        have k6 : Kp u H5 (upd (upd H5 DD (.dK [])) DD (.dK (mergeK [] [(.inr (Str.ofString "("), V.str (Str.ofString ")")), (.inr (Str.ofString "<"), .str (Str.ofString ">"))]))) := fun b o nb hb => by
          rw [upd_ne (ne_of_none hb nD), upd_ne (ne_of_none hb nD)]
          exact hb
        have hu6 : (upd (upd H5 DD (.dK [])) DD (.dK (mergeK [] [(.inr (Str.ofString "("), V.str (Str.ofString ")")), (.inr (Str.ofString "<"), .str (Str.ofString ">"))]))) u = some (.lst (nmV nm')) := by
          rw [upd_ne (ne_of_none hu5 nD), upd_ne (ne_of_none hu5 nD)]
          exact hu5
        have eT6 : (upd (upd H5 DD (.dK [])) DD (.dK (mergeK [] [(.inr (Str.ofString "("), V.str (Str.ofString ")")), (.inr (Str.ofString "<"), .str (Str.ofString ">"))]))) T = some (.tup [.int (q : Nat), .int (sz t : Nat)]) := k6 _ _ hT eT
        have eD : (upd (upd H5 DD (.dK [])) DD (.dK (mergeK [] [(.inr (Str.ofString "("), V.str (Str.ofString ")")), (.inr (Str.ofString "<"), .str (Str.ofString ">"))]))) DD = some (.dK (mergeK [] [(.inr (Str.ofString "("), V.str (Str.ofString ")")), (.inr (Str.ofString "<"), .str (Str.ofString ">"))])) := upd_same
        show (tVar 4) _ _ _
        generalize upd (upd H5 DD (.dK [])) DD (.dK (mergeK [] [(.inr (Str.ofString "("), V.str (Str.ofString ")")), (.inr (Str.ofString "<"), .str (Str.ofString ">"))])) = H6 at k6 hu6 eT6 eD ⊢
        have vl : valV (mergeK [] [(.inr (Str.ofString "("), V.str (Str.ofString ")")), (.inr (Str.ofString "<"), .str (Str.ofString ">"))]) (.inr (tx [c])) = some (.str (tx [cl])) := by
          rcases hcl with ⟨rfl, rfl⟩ | ⟨rfl, rfl⟩ <;> decide +kernel
        refine ⟨_, rfl, DD, .str (tx [cl]), rfl, .inl ⟨_, .inr (tx [c]), .inl eD, rfl, vl.symm⟩, rfl, _, rfl, ?_⟩
        by_cases hc : Z[q]? = some cl
        · rw [if_pos hc] at q2
          rw [sg_some hc, decide_eq_true rfl]
          have lq := lt6 hc
          refine iteF ⟨_, rfl, T, _, 0, _, rfl, rfl, .inl (.inl eT6), atI_nat (j := 0) rfl, _, _, rfl, rfl, _, rfl, T, _, 1, _, rfl, rfl, .inl (.inl eT6), atI_nat (j := 1) rfl, (show 2 ≤ sizeLine by decide), fun T2 nT2 => ?_⟩
          have hT2 : T2 ≠ u := fun z => by
            rw [z, hu6] at nT2
            cases nT2
          refine q2 _ _ _ rfl T2 _ (by omega) hT2 ?_ ((upd_ne hT2.symm).trans hu6) (k4.trans (k5.trans (k6.trans (Kp.same (smU nT2)))))
          rw [upd_same, hw] <;> rfl
        · rw [if_neg hc] at q1
          rw [decide_eq_false fun z => sg_ne hc (V.str.inj z)]
          exact iteT (q1 rfl _ H6 (k4.trans (k5.trans k6)) hu6)
end
end Sf6
/-! The law's own reader: items. -/
namespace Sf6
open PySem PySem.Spec PyProof.Rows L2 Sf Sf4
def NLI : List Str := ["_law_text", "_law_at", "_law_deep", "_law_used", "_law_unit_here", "_law_many", "_law_end", "_law_least", "_law_last"]
theorem scLI : FnScope NLI ["_law_text", "_law_at", "_law_deep", "_law_used"] (defScope sLI) := ⟨rfl, rfl, rfl, by decide +kernel, rfl, by decide +kernel, by decide +kernel⟩
theorem num_int {Z : List Nat} {p v q : Nat} (h : fNum Z p = some (v, q)) : ∃ W, cutS (tx Z) (some ((p : Nat) : Int)) (some ((q : Nat) : Int)) = tx W ∧ W.length ≤ 2 ∧ PySem.intText? (tx W) = some ((v : Nat) : Int) := by
  obtain ⟨h1, h2, h3, h4, h5, h6⟩ := num_go h
  refine ⟨run dg Z p, ?_, ?_, ?_⟩
  · subst h6
    exact (cut_sub _ _ _).trans (by rw [run_cut])
  · unfold okW at h3
    rw [Bool.and_eq_true, decide_eq_true_iff] at h3
    exact h3.1.2
  · rw [h4]
    exact word_int h3 (run_dg Z p)
theorem neV_none {Z : List Nat} {p : Nat} (h : fNum Z p = none) : neV Z p = -1 := by
  unfold neV
  rw [h]
theorem neV_some {Z : List Nat} {p v q : Nat} (h : fNum Z p = some (v, q)) : neV Z p = ((q : Nat) : Int) := by
  unfold neV
  rw [h]
theorem two_eq {Z : List Nat} {p : Nat} {c d : Nat} : tx ((Z.drop p).take 2) = tx [c, d] ↔ Z[p]? = some c ∧ Z[p + 1]? = some d := by
  constructor
  · intro h
    have h := tx_inj h
    have a : ((Z.drop p).take 2)[0]? = some c := by rw [h] <;> rfl
    have b : ((Z.drop p).take 2)[1]? = some d := by rw [h] <;> rfl
    rw [List.getElem?_take_of_lt (by decide), List.getElem?_drop] at a b
    exact ⟨a, b⟩
  · rintro ⟨a, b⟩
    congr 1
    obtain ⟨h1, rfl⟩ := List.getElem?_eq_some_iff.mp a
    obtain ⟨h2, rfl⟩ := List.getElem?_eq_some_iff.mp b
    rw [List.drop_eq_getElem_cons h1, List.drop_eq_getElem_cons h2] <;> rfl
theorem cnt_in (Z : List Nat) (r : Nat) : inV (.str (tx (sg Z r))) (nmV [[42], [43], [63]]) = ((Z[r]?).bind Sf4.cnt).isSome := by
  rw [inV_dec]
  cases hz : Z[r]? with
  | none =>
    rw [sg_none hz]
    decide
  | some c =>
    rw [sg_some hz]
    show _ = (Sf4.cnt c).isSome
    by_cases h1 : c = 42
    · subst h1
      decide
    by_cases h2 : c = 43
    · subst h2
      decide
    by_cases h3 : c = 63
    · subst h3
      decide
    rw [decide_eq_false (fun z => by
      simp only [List.mem_cons, List.cons.injEq, and_true, List.not_mem_nil, or_false] at z
      omega)]
    unfold Sf4.cnt
    split
    · exact absurd rfl h1
    · exact absurd rfl h2
    · exact absurd rfl h3
    · rfl
theorem cnt_sz {c a : Nat} {b : Option Nat} {t : Tr} (h : Sf4.cnt c = some (a, b)) : sz (.count a b t) = sz t := by
  have e : ∀ m, many a b = 1 → sz (.count a b t) = m → m = sz t := fun m h1 h2 => by
    rw [← h2]
    show many a b * sz t = sz t
    rw [h1, Nat.one_mul]
  unfold Sf4.cnt at h
  split at h
  · cases h
    exact e _ (by decide) rfl
  · cases h
    exact e _ (by decide) rfl
  · cases h
    exact e _ (by decide) rfl
  · cases h
section
variable {P : Program} {w : World} {K : PySem.W.Frag} {mg : Str → Option Value} {base : Heap}
theorem ok_LI {f fN fU_ : Addr} {fd fdN fdU : FuncData} {k d : Nat} (F : Fun K "_law_item" "_law_item" sLI f fd) (FN : Fun K "_law_number_end" "_law_number_end" sNE fN fdN) (bN : Binds K fdN ["_law_text", "_law_at"] []) (gN : mg "_law_number_end" = some (.ref fN)) (GN : FnOk P w K mg base CX0 1 fN fdN ["_law_text", "_law_at"] spNE)
    (FU : Fun K "_law_unit" "_law_unit" sLU fU_ fdU) (bU : Binds K fdU ["_law_text", "_law_at", "_law_deep", "_law_used"] []) (gU : mg "_law_unit" = some (.ref fU_)) (hk : 1 ≤ k) (GU : FnOk P w K mg base CX0 k fU_ fdU ["_law_text", "_law_at", "_law_deep", "_law_used"] (spLF (fun Z d => fU Z d) d)) (mi : mg "int" = none) (mx : mg "max" = none) :
    FnOk P w K mg base CX0 (k + 1) f fd ["_law_text", "_law_at", "_law_deep", "_law_used"] (spLF (fun Z d => fItem Z (fU Z d)) d) := by
  refine F.ok scLI (fun vs H Q E h => ?_) (fun cdv A outer s H vs Q E hr h => ?_)
  · obtain ⟨Z, p, u, nm, rfl, _⟩ := h
    rfl
  · obtain ⟨Z, p, u, nm, rfl, hZ, hnm, hu, q1, q2⟩ := h
    refine ⟨_, pss_cons (ps_set (i := 4) scLI.nd rfl (.inl rfl) (pe_call GU hr (by rfl) gU FU.kp bU .nil pass0 (pa_cons (pv 0) (pa_cons (pv 1) (pa_cons (pv 2) (pa_cons (pv 3) pa_nil))))))
      (pss_cons (ps_if (pt_cmpR op_isN (pv 4) pe_non (nomark _)) (pss_one (ps_ret pe_non)) pss_nil)
      (pss_cons (ps_asg (pv 4) (pg_tup rfl (pgs_cons (pg_name (i := 1) scLI.nd rfl (.inl rfl)) (pgs_cons (pg_name (i := 5) scLI.nd rfl (.inl rfl)) pgs_nil))))
      (pss_cons (ps_if (pt_cmpR op_in_seq (pe_slice sl_str (pv 0) (po_some (pv 1)) (po_some (pe_op op_add (pv 1) pe_int))) (pe_tup (pa_cons pe_str (pa_cons pe_str (pa_cons pe_str pa_nil)))) rfl) (pss_one (ps_ret (pe_tup (pa_cons (pe_op op_add (pv 1) pe_int) (pa_cons (pv 5) pa_nil))))) pss_nil)
      (pss_cons (ps_if (pt_cmpR op_ne (pe_slice sl_str (pv 0) (po_some (pv 1)) (po_some (pe_op op_add (pv 1) pe_int))) pe_str (nomark _)) (pss_one (ps_ret (pv 4))) pss_nil)
      (pss_cons (ps_set (i := 6) scLI.nd rfl (.inl rfl) (pe_call GN (hr.mono hk) (by rfl) gN FN.kp bN .nil pass0 (pa_cons (pv 0) (pa_cons (pe_op op_add (pv 1) pe_int) pa_nil))))
      (pss_cons (ps_if (pt_cmpR op_lt (pv 6) pe_int (nomark _)) (pss_one (ps_ret pe_non)) pss_nil)
      (pss_cons (ps_set (i := 7) scLI.nd rfl (.inl rfl) (pe_callTy call_intT (by rfl) mi PySem.Pv.boot_int (pa_cons (pe_slice sl_str (pv 0) (po_some (pe_op op_add (pv 1) pe_int)) (po_some (pv 6))) pa_nil)))
      (pss_cons (ps_if (pt_cmpR op_eq (pe_slice sl_str (pv 0) (po_some (pv 6)) (po_some (pe_op op_add (pv 6) pe_int))) pe_str (nomark _)) (pss_one (ps_ret (pe_tup (pa_cons (pe_op op_add (pv 6) pe_int) (pa_cons (pe_op op_mul (pv 5) (pv 7)) pa_nil))))) pss_nil)
      (pss_cons (ps_if (pt_cmpR op_eq (pe_slice sl_str (pv 0) (po_some (pv 6)) (po_some (pe_op op_add (pv 6) pe_int))) pe_str (nomark _)) (pss_one (ps_ret (pe_tup (pa_cons (pe_op op_add (pv 6) pe_int) (pa_cons (pe_op op_mul (pv 5) (pe_callB (call_max2 rfl) (by rfl) mx (by decide +kernel) (pa_cons (pv 7) (pa_cons pe_int pa_nil)))) pa_nil))))) pss_nil)
      (pss_cons (ps_set (i := 8) scLI.nd rfl (.inl rfl) (pe_call GN (hr.mono hk) (by rfl) gN FN.kp bN .nil pass0 (pa_cons (pv 0) (pa_cons (pe_op op_add (pv 6) pe_int) pa_nil))))
      (pss_cons (ps_if (PW.pt (pw_or (pt_cmpR op_ne (pe_slice sl_str (pv 0) (po_some (pv 6)) (po_some (pe_op op_add (pv 6) pe_int))) pe_str (nomark _)) (pw_or (pt_cmpR op_lt (pv 8) pe_int (nomark _)) (pw_or (pt_cmpR op_ne (pe_slice sl_str (pv 0) (po_some (pv 8)) (po_some (pe_op op_add (pv 8) pe_int))) pe_str (nomark _))
          (pw_or1 (pt_cmpR op_lt (pe_callTy call_intT (by rfl) mi PySem.Pv.boot_int (pa_cons (pe_slice sl_str (pv 0) (po_some (pe_op op_add (pv 6) pe_int)) (po_some (pv 8))) pa_nil)) (pv 7) (nomark _))))))) (pss_one (ps_ret pe_non)) pss_nil)
      (pss_one (ps_ret (pe_tup (pa_cons (pe_op op_add (pv 8) pe_int) (pa_cons (pe_op op_mul (pv 5) (pe_callTy call_intT (by rfl) mi PySem.Pv.boot_int (pa_cons (pe_slice sl_str (pv 0) (po_some (pe_op op_add (pv 6) pe_int)) (po_some (pv 8))) pa_nil))) pa_nil)))))))))))))))), ?_⟩
    have hZs := tx_len200 (Nat.le_trans hZ (by decide))
    have ec : ∀ (a : Nat) (i j : Int), i = (a : Nat) → j = i + 1 → cutS (tx Z) (some i) (some j) = tx (sg Z a) := fun a i j hi hj => by
      subst hi
      subst hj
      exact sg_cut Z a
    have dsg : ∀ (a c : Nat) (S : Str), S = tx [c] → decide (V.str (tx (sg Z a)) = V.str S) = decide (Z[a]? = some c) := fun a c S hS => by
      subst hS
      by_cases h : Z[a]? = some c
      · rw [sg_some h, decide_eq_true rfl, decide_eq_true h]
      · rw [decide_eq_false h, decide_eq_false fun z => sg_ne h (V.str.inj z)]
    have e123 : Str.ofString "{" = tx [123] := by decide +kernel
    have e125 : Str.ofString "}" = tx [125] := by decide +kernel
    have e44 : Str.ofString "," = tx [44] := by decide +kernel
    have e2s : Str.ofString ",}" = tx [44, 125] := by decide +kernel
    dsimp only at q1 q2
    refine ⟨_, rfl, _, rfl, _, rfl, .ref u, rfl, ⟨Z, p, u, nm, rfl, hZ, hnm, hu, fun e1 xs H1 k1 hu1 => ?_, fun t r nm1 e1 T H1 hnq hT eT hu1 k1 => ?_⟩⟩
    · dsimp only at e1
      exact ⟨_, rfl, rfl, _, rfl, iteT (q1 (item_no e1) xs H1 k1 hu1)⟩
    dsimp only at e1
    have go := fU_go Z d _ _ _ _ _ e1
    have eG := item_of (Z := Z) e1
    refine ⟨_, rfl, rfl, _, rfl, ?_⟩
    rw [decide_eq_false (show ¬ (V.ref T = V.non) from fun z => by cases z)]
    refine iteF ⟨_, rfl, T, _, rfl, .inl (.inl eT), rfl, _, _, rfl, _, _, rfl, rfl, ?_⟩
    refine ⟨_, rfl, _, rfl, r, rfl, _, rfl, _, _, rfl, rfl, _, rfl, tx Z, rfl, hZs, ?_⟩
    rw [ec r _ _ rfl rfl]
    refine ⟨(show 3 ≤ sizeLine by decide), fun T0 n0 => ⟨T0, _, rfl, .inr (.inl (.inl upd_same)), rfl, rfl, _, rfl, ?_⟩⟩
    have s0 := smU (o := HO.tup [V.str (Str.ofString "*"), .str (Str.ofString "+"), .str (Str.ofString "?")]) n0
    have eT0 := s0 _ _ eT
    have hu0 := s0 _ _ hu1
    have k0 := k1.trans (Kp.same s0)
    have e3 : nmV [[42], [43], [63]] = [V.str (Str.ofString "*"), .str (Str.ofString "+"), .str (Str.ofString "?")] := by decide +kernel
    have ein := cnt_in Z r
    rw [e3] at ein
    show if inV (V.str (tx (sg Z r))) [V.str (Str.ofString "*"), .str (Str.ofString "+"), .str (Str.ofString "?")] = true then _ else _
    rw [ein]
    generalize upd H1 T0 (HO.tup [V.str (Str.ofString "*"), .str (Str.ofString "+"), .str (Str.ofString "?")]) = H2 at s0 eT0 hu0 k0 ⊢
    have fin : ∀ (t2 : Tr) (e : Nat), fItem Z (fU Z d) p nm = some (t2, e, nm1) → r ≤ e → ∀ i j : Int, i = (e : Nat) → j = (sz t2 : Nat) → 2 ≤ sizeLine ∧ ∀ T2, H2 T2 = none → Q (.ref T2) (upd H2 T2 (.tup [.int i, .int j])) := fun t2 e eq le i j hi hj => ⟨by decide, fun T2 nT2 => by
      have hT2 : T2 ≠ u := fun z => by
        rw [z, hu0] at nT2
        cases nT2
      subst hi
      subst hj
      exact q2 _ _ _ eq T2 _ (by omega) hT2 upd_same ((upd_ne hT2.symm).trans hu0) (k0.trans (Kp.same (smU nT2)))⟩
    have non : fItem Z (fU Z d) p nm = none → Q .non H2 := fun e => q1 e _ H2 k0 hu0
    cases hcn : (Z[r]?).bind Sf4.cnt with
    | some ab =>
      obtain ⟨a, b⟩ := ab
      rw [hcn] at eG
      dsimp only at eG
      obtain ⟨c, hz, hc⟩ := Option.bind_eq_some_iff.mp hcn
      exact iteT ⟨_, rfl, _, _, rfl, rfl, _, rfl, fin _ _ eG (Nat.le_succ r) _ _ (by omega) (by rw [cnt_sz hc])⟩
    | none =>
      rw [hcn] at eG
      dsimp only at eG
      refine iteF ⟨_, rfl, _, rfl, r, rfl, _, rfl, _, _, rfl, rfl, _, rfl, tx Z, rfl, hZs, ?_⟩
      rw [ec r _ _ rfl rfl]
      refine ⟨rfl, _, rfl, ?_⟩
      rw [dsg r 123 _ e123]
      by_cases h123 : Z[r]? = some 123
      rotate_left
      · rw [decide_eq_false h123]
        rw [if_neg h123] at eG
        exact iteT ⟨_, rfl, q2 _ _ _ eG T H2 hnq hT eT0 hu0 k0⟩
      rw [decide_eq_true h123]
      rw [if_pos h123] at eG
      have hr1 := lt6 h123
      refine iteF ⟨_, rfl, _, rfl, _, _, rfl, rfl, Z, r + 1, congrArg (fun z => [V.str (tx Z), V.int z]) (show ((r : Nat) : Int) + 1 = ((r + 1 : Nat) : Int) by omega), by omega, ?_⟩
      cases hn : fNum Z (r + 1) with
      | none =>
        rw [neV_none hn]
        exact ⟨_, rfl, _, _, rfl, rfl, _, rfl, iteT (non (eG.trans (cnt_a hn)))⟩
      | some ae =>
        obtain ⟨a, e⟩ := ae
        have hgo := num_go hn
        rw [neV_some hn]
        refine ⟨_, rfl, _, _, rfl, rfl, _, rfl, ?_⟩
        rw [decide_eq_false (show ¬ (((e : Nat) : Int) < 0) by omega)]
        refine iteF ?_
        obtain ⟨W, c1, c2, c3⟩ := num_int hn
        have c1 : cutS (tx Z) (some (((r : Nat) : Int) + 1)) (some ((e : Nat) : Int)) = tx W := c1
        refine ⟨_, rfl, _, rfl, _, _, rfl, rfl, _, rfl, _, rfl, e, rfl, tx Z, rfl, hZs, ?_⟩
        refine ⟨tx W, _, congrArg (fun z => [V.str z]) c1, c3, by rw [tx_len]; omega, ?_⟩
        -- the end as it stands
        refine ⟨_, rfl, _, rfl, e, rfl, _, rfl, _, _, rfl, rfl, _, rfl, tx Z, rfl, hZs, ?_⟩
        rw [ec e _ _ rfl rfl]
        refine ⟨rfl, _, rfl, ?_⟩
        rw [dsg e 125 _ e125]
        by_cases h125 : Z[e]? = some 125
        · rw [decide_eq_true h125]
          have h44 : Z[e]? ≠ some 44 := fun z => by
            rw [h125] at z
            cases z
          have eG := eG.trans (cnt_b hn h44)
          unfold cntR at eG
          rw [if_pos ⟨h125, decide_eq_true (Nat.le_refl a)⟩] at eG
          exact iteT ⟨_, rfl, _, _, rfl, rfl, _, rfl, _, rfl, _, _, rfl, rfl, .inr ⟨by omega, by omega⟩, fin _ _ eG (by omega) _ _ (by omega) (by show ((sz t : Nat) : Int) * ((a : Nat) : Int) = ((a * sz t : Nat) : Int); rw [Nat.mul_comm, Int.natCast_mul])⟩
        rw [decide_eq_false h125]
        refine iteF ⟨_, rfl, _, rfl, e, rfl, _, rfl, _, _, rfl, rfl, _, rfl, tx Z, rfl, hZs, ?_⟩
        rw [show cutS (tx Z) (some ((e : Nat) : Int)) (some (((e : Nat) : Int) + 2)) = tx ((Z.drop e).take 2) from (cut_sub Z e (e + 2)).trans (by rw [show e + 2 - e = 2 by omega])]
        refine ⟨rfl, _, rfl, ?_⟩
        rw [e2s]
        by_cases hb : Z[e]? = some 44 ∧ Z[e + 1]? = some 125
        · rw [decide_eq_true (show V.str (tx ((Z.drop e).take 2)) = V.str (tx [44, 125]) from congrArg V.str (two_eq.mpr hb))]
          have eG := eG.trans (cnt_c hn hb.1 hb.2)
          unfold cntR at eG
          rw [if_pos ⟨hb.2, rfl⟩] at eG
          refine iteT ⟨_, rfl, _, _, rfl, rfl, _, rfl, _, rfl, _, _, rfl, _, _, rfl, rfl, .inr ?_, fin _ _ eG (by omega) _ _ (by omega) ?_⟩
          · split <;> constructor <;> omega
          · show ((sz t : Nat) : Int) * _ = ((max a 1 * sz t : Nat) : Int)
            rw [Nat.mul_comm, Int.natCast_mul]
            congr 1
            split <;> omega
        rw [decide_eq_false (show ¬ (V.str (tx ((Z.drop e).take 2)) = V.str (tx [44, 125])) from fun z => hb (two_eq.mp (V.str.inj z)))]
        refine iteF ?_
        -- the other number
        refine ⟨_, rfl, _, rfl, _, _, rfl, rfl, Z, e + 1, congrArg (fun z => [V.str (tx Z), V.int z]) (show ((e : Nat) : Int) + 1 = ((e + 1 : Nat) : Int) by omega), by omega, ?_⟩
        refine ⟨_, rfl, _, rfl, e, rfl, _, rfl, _, _, rfl, rfl, _, rfl, tx Z, rfl, hZs, ?_⟩
        rw [ec e _ _ rfl rfl]
        refine ⟨rfl, _, rfl, ?_⟩
        rw [dsg e 44 _ e44]
        by_cases h44 : Z[e]? = some 44
        rotate_left
        · rw [decide_eq_false h44]
          refine iteT (non ?_)
          have eG := eG.trans (cnt_b hn h44)
          unfold cntR at eG
          rw [if_neg fun z => h125 z.1] at eG
          exact eG
        rw [decide_eq_true h44]
        have h1 : Z[e + 1]? ≠ some 125 := fun z => hb ⟨h44, z⟩
        refine iteF ?_
        cases hm : fNum Z (e + 1) with
        | none =>
          rw [neV_none hm]
          exact ⟨_, rfl, _, _, rfl, rfl, _, rfl, iteT (non (eG.trans (cnt_d hn h44 h1 hm)))⟩
        | some bl =>
          obtain ⟨b, l⟩ := bl
          have hgo2 := num_go hm
          have eG := eG.trans (cnt_e hn h44 h1 hm)
          unfold cntR at eG
          rw [neV_some hm]
          refine ⟨_, rfl, _, _, rfl, rfl, _, rfl, ?_⟩
          rw [decide_eq_false (show ¬ (((l : Nat) : Int) < 0) by omega)]
          refine iteF ⟨_, rfl, _, rfl, l, rfl, _, rfl, _, _, rfl, rfl, _, rfl, tx Z, rfl, hZs, ?_⟩
          rw [ec l _ _ rfl rfl]
          refine ⟨rfl, _, rfl, ?_⟩
          rw [dsg l 125 _ e125]
          by_cases hl : Z[l]? = some 125
          rotate_left
          · rw [decide_eq_false hl]
            refine iteT (non ?_)
            rw [if_neg fun z => hl z.1] at eG
            exact eG
          rw [decide_eq_true hl]
          refine iteF ?_
          obtain ⟨W2, d1, d2, d3⟩ := num_int hm
          have d1 : cutS (tx Z) (some (((e : Nat) : Int) + 1)) (some ((l : Nat) : Int)) = tx W2 := d1
          refine ⟨_, rfl, _, rfl, _, _, rfl, rfl, _, rfl, _, rfl, l, rfl, tx Z, rfl, hZs, ?_⟩
          refine ⟨tx W2, _, congrArg (fun z => [V.str z]) d1, d3, by rw [tx_len]; omega, ?_⟩
          refine ⟨_, rfl, _, _, rfl, rfl, _, rfl, ?_⟩
          by_cases hab : a ≤ b
          rotate_left
          · rw [decide_eq_true (show ((b : Nat) : Int) < ((a : Nat) : Int) by omega)]
            refine iteT (non ?_)
            rw [if_neg fun z => hab (of_decide_eq_true z.2)] at eG
            exact eG
          rw [decide_eq_false (show ¬ (((b : Nat) : Int) < ((a : Nat) : Int)) by omega)]
          rw [if_pos ⟨hl, decide_eq_true hab⟩] at eG
          refine iteF ⟨_, rfl, _, _, rfl, rfl, _, rfl, _, rfl, _, rfl, _, _, rfl, rfl, _, rfl, _, rfl, l, rfl, tx Z, rfl, hZs, ?_⟩
          refine ⟨tx W2, _, congrArg (fun z => [V.str z]) d1, d3, by rw [tx_len]; omega, ?_⟩
          refine ⟨_, _, rfl, rfl, .inr ⟨by omega, by omega⟩, fin _ _ eG (by omega) _ _ (by omega) ?_⟩
          show ((sz t : Nat) : Int) * ((b : Nat) : Int) = ((b * sz t : Nat) : Int)
          rw [Nat.mul_comm, Int.natCast_mul]
end
end Sf6
/-! The law's own reader: expressions. -/
namespace Sf6
open PySem PySem.Spec PyProof.Rows L2 Sf Sf4
def NLE : List Str := ["_law_text", "_law_at", "_law_deep", "_law_used", "_law_many", "_law_is_open", "_law_item_here"]
theorem scLE : FnScope NLE ["_law_text", "_law_at", "_law_deep", "_law_used"] (defScope sLE) := ⟨rfl, rfl, rfl, by decide +kernel, rfl, by decide +kernel, by decide +kernel⟩
def outE (r : Option (Tr × Nat × Nm)) : Option (Nat × Nat × Nm) := match r with
  | none => none
  | some (t, q, nm') => some (0 + sz t, q, nm')
def InvE (Z : List Nat) (d : Nat) (u : Addr) (I : Rd6) (R : Option (Nat × Nat × Nm)) (H : Hp) (n : Nat) (σ : L2.St) (H3 : Hp) : Prop := ∃ (a k : Nat) (nm1 : Nm) (o : Bool) (y6 : Option V), σ = [some (.str (tx Z)), some (.int (a : Nat)), some (.int (d : Nat)), some (.ref u), some (.int (k : Nat)), some (.bl o), y6] ∧ H3 u = some (.lst (nmV nm1)) ∧ Kp u H H3 ∧ nm1.length ≤ a ∧
  ((o = true ∧ R = fL Z I n a nm1 k ∧ Z.length - a < n) ∨ (o = false ∧ R = some (k, a, nm1)))
theorem goC_iff {Z : List Nat} {q c : Nat} (h : Z[q]? = some c) : goC Z q = decide (c ∈ (Str.ofString ".[(<" ++ LSs).cps.toList) := by
  unfold goC
  rw [h]
  refine decide_eq_decide.mpr ?_
  rw [show (Str.ofString ".[(<" ++ LSs).cps.toList = [46, 91, 40, 60] ++ LETc by decide +kernel, List.mem_append]
  simp only [List.mem_cons, List.not_mem_nil, or_false]
  exact Or.comm
section
variable {P : Program} {w : World} {K : PySem.W.Frag} {mg : Str → Option Value} {base : Heap}
theorem ok_LE {f gl fI : Addr} {fd fdL fdI : FuncData} {k d : Nat} (F : Fun K "_law_expression" "_law_expression" sLE f fd) (FL : Fun K "_law_all_letters" "_law_all_letters" sLets gl fdL) (bL : Binds K fdL [] []) (gL : mg "_law_all_letters" = some (.ref gl)) (GL : FnOk P w K mg base CX0 1 gl fdL [] spLets)
    (FI : Fun K "_law_item" "_law_item" sLI fI fdI) (bI : Binds K fdI ["_law_text", "_law_at", "_law_deep", "_law_used"] []) (gI : mg "_law_item" = some (.ref fI)) (hk : 1 ≤ k) (GI : FnOk P w K mg base CX0 k fI fdI ["_law_text", "_law_at", "_law_deep", "_law_used"] (spLF (fun Z d => fItem Z (fU Z d)) d)) (mi : mg "int" = none) :
    FnOk P w K mg base CX0 (k + 1) f fd ["_law_text", "_law_at", "_law_deep", "_law_used"] (spLF (fun Z d => fC Z d) d) := by
  refine F.ok scLE (fun vs H Q E h => ?_) (fun cdv A outer s H vs Q E hr h => ?_)
  · obtain ⟨Z, p, u, nm, rfl, _⟩ := h
    rfl
  · obtain ⟨Z, p, u, nm, rfl, hZ, hnm, hu, q1, q2⟩ := h
    refine ⟨_, pss_cons (ps_asg (pe_tup (pa_cons pe_int (pa_cons pe_bl pa_nil))) (pg_tup rfl (pgs_cons (pg_name (i := 4) scLE.nd rfl (.inl rfl)) (pgs_cons (pg_name (i := 5) scLE.nd rfl (.inl rfl)) pgs_nil))))
      (pss_cons (ps_while PassesOwn.never (pt_val (pv 5))
        (pss_cons (ps_set (i := 6) scLE.nd rfl (.inl rfl) (pe_call GI hr (by rfl) gI FI.kp bI .nil pass0 (pa_cons (pv 0) (pa_cons (pv 1) (pa_cons (pv 2) (pa_cons (pv 3) pa_nil))))))
        (pss_cons (ps_if (pt_cmpR op_isN (pv 6) pe_non (nomark _)) (pss_one (ps_ret pe_non)) pss_nil)
        (pss_cons (ps_par (i := 1) (j := 4) rfl scLE.nd rfl rfl (by decide) rfl rfl (pa_cons (pe_ix ix_tup (pv 6) pe_int (fun _ _ => rfl)) (pa_cons (pe_op op_add (pv 4) (pe_ix ix_tup (pv 6) pe_int (fun _ _ => rfl))) pa_nil)) rfl)
        (Evl.pss_cut (ps_set (i := 5) scLE.nd rfl (.inl rfl) (pe_or (pe_cmpR op_eq (pe_slice sl_str (pv 0) (po_some (pv 1)) (po_some (pe_op op_add (pv 1) pe_int))) pe_str (nomark _))
            (pe_one (pe_and (pe_cmpR op_ne (pe_slice sl_str (pv 0) (po_some (pv 1)) (po_some (pe_op op_add (pv 1) pe_int))) pe_str (nomark _)) (pe_one (pe_cmpR op_in_sign (pe_ix ix_str (pv 0) (pv 1) (fun _ _ => rfl)) (pe_op op_add_str pe_str (pe_call0 GL (hr.mono hk) (by rfl) gL FL.kp bL .nil pass0)) rfl))))))
        (pss_one (ps_set (i := 1) scLE.nd rfl (.inl rfl) (pe_op op_add (pv 1) (pe_callTy call_int1 (by rfl) mi PySem.Pv.boot_int (pa_cons (pe_cmpR op_eq (pe_slice sl_str (pv 0) (po_some (pv 1)) (po_some (pe_op op_add (pv 1) pe_int))) pe_str (nomark _)) pa_nil))))))))))
      (pss_one (ps_ret (pe_tup (pa_cons (pv 1) (pa_cons (pv 4) pa_nil)))))), ?_⟩
    have hZs := tx_len200 (Nat.le_trans hZ (by decide))
    have ec : ∀ (a : Nat) (i j : Int), i = (a : Nat) → j = i + 1 → cutS (tx Z) (some i) (some j) = tx (sg Z a) := fun a i j hi hj => by
      subst hi
      subst hj
      exact sg_cut Z a
    have dsg : ∀ (a c : Nat) (S : Str), S = tx [c] → decide (V.str (tx (sg Z a)) = V.str S) = decide (Z[a]? = some c) := fun a c S hS => by
      subst hS
      by_cases h : Z[a]? = some c
      · rw [sg_some h, decide_eq_true rfl, decide_eq_true h]
      · rw [decide_eq_false h, decide_eq_false fun z => sg_ne h (V.str.inj z)]
    have e124 : Str.ofString "|" = tx [124] := by decide +kernel
    dsimp only at q1 q2
    have hR := fL_eq (item6_go Z d) p nm 0 (Z.length + 1) (by omega)
    rw [← fC_eq] at hR
    replace hR : outE (fC Z d p nm) = fL Z (fItem Z (fU Z d)) (Z.length + 1) p nm 0 := hR.symm
    generalize eR : outE (fC Z d p nm) = R at hR
    refine ⟨(show 2 ≤ sizeLine by decide), fun T0 n0 => ⟨T0, _, rfl, .inl (.inl upd_same), rfl, _, _, rfl, _, _, rfl, rfl, ?_⟩⟩
    have s0 := smU (o := HO.tup [V.int 0, .bl true]) n0
    refine ⟨fun n σ H3 => InvE Z d u (fItem Z (fU Z d)) R H n σ H3, ⟨Z.length + 1, p, 0, nm, true, _, rfl, s0 _ _ hu, Kp.same s0, hnm, .inl ⟨rfl, hR, by omega⟩⟩, ?_⟩
    rintro n σ H3 ⟨a, k1, nm1, o, y6, rfl, hu3, k3, hn1, ho⟩
    rcases ho with ⟨rfl, hR1, hlt⟩ | ⟨rfl, hR1⟩
    rotate_left
    · refine ⟨_, rfl, _, rfl, ?_⟩
      refine iteF ?_
      cases e1 : fC Z d p nm with
      | none =>
        rw [e1] at eR
        rw [← eR] at hR1
        cases hR1
      | some b =>
        obtain ⟨t, q, nm'⟩ := b
        rw [e1] at eR
        rw [← eR] at hR1
        have hR2 : some (0 + sz t, q, nm') = some (k1, a, nm1) := hR1
        cases hR2
        refine ⟨_, rfl, _, rfl, (show 2 ≤ sizeLine by decide), fun T nT => ?_⟩
        have hT : T ≠ u := fun z => by
          rw [z, hu3] at nT
          cases nT
        refine q2 _ _ _ e1 T _ hn1 hT ?_ ((upd_ne hT.symm).trans hu3) (k3.trans (Kp.same (smU nT)))
        rw [upd_same, Nat.zero_add]
    · obtain ⟨n, rfl⟩ : ∃ j, n = j + 1 := ⟨n - 1, by omega⟩
      refine ⟨_, rfl, _, rfl, ?_⟩
      refine iteT ⟨fun σ H' => InvE Z d u (fItem Z (fU Z d)) R H n σ H', fun σ' H' h => ⟨n, Nat.lt_succ_self n, h⟩, ?_⟩
      rw [fL_succ] at hR1
      refine ⟨_, rfl, _, rfl, _, rfl, .ref u, rfl, ⟨Z, a, u, nm1, rfl, hZ, hn1, hu3, fun e1 xs H1 k4 hu4 => ?_, fun t r nm2 e1 T H1 hnq hT eT hu4 k4 => ?_⟩⟩
      · dsimp only at e1
        rw [e1] at hR1
        have eN : fC Z d p nm = none := by
          cases e2 : fC Z d p nm with
          | none => rfl
          | some b =>
            rw [e2] at eR
            rw [← eR] at hR1
            cases hR1
        exact ⟨_, rfl, rfl, _, rfl, iteT (q1 eN xs H1 (k3.trans k4) hu4)⟩
      · dsimp only at e1
        rw [e1] at hR1
        dsimp only at hR1
        have g := item6_go Z d _ _ _ _ _ e1
        refine ⟨_, rfl, rfl, _, rfl, ?_⟩
        rw [decide_eq_false (show ¬ (V.ref T = V.non) from fun z => by cases z)]
        refine iteF ⟨_, rfl, T, _, 0, _, rfl, rfl, .inl (.inl eT), atI_nat (j := 0) rfl, _, rfl, _, rfl, T, _, 1, _, rfl, rfl, .inl (.inl eT), atI_nat (j := 1) rfl, _, _, rfl, rfl, ?_⟩
        refine ⟨_, _, rfl, ?_⟩
        refine ⟨fun σ H6 => H6 = H1 ∧ σ = [some (.str (tx Z)), some (.int (r : Nat)), some (.int (d : Nat)), some (.ref u), some (.int (((k1 : Nat) : Int) + ((sz t : Nat) : Int))), some (.bl (decide (Z[r]? = some 124) || goC Z r)), some (.ref T)], ?_, fun σ H6 hM => ?_⟩
        · refine ⟨_, rfl, _, rfl, r, rfl, _, rfl, _, _, rfl, rfl, _, rfl, tx Z, rfl, hZs, ?_⟩
          rw [ec r _ _ rfl rfl]
          refine ⟨rfl, _, rfl, ?_⟩
          rw [dsg r 124 _ e124]
          by_cases h124 : Z[r]? = some 124
          · rw [decide_eq_true h124]
            exact iteT ⟨rfl, rfl⟩
          rw [decide_eq_false h124, Bool.false_or]
          refine iteF ⟨_, rfl, _, rfl, r, rfl, _, rfl, _, _, rfl, rfl, _, rfl, tx Z, rfl, hZs, ?_⟩
          rw [ec r _ _ rfl rfl]
          refine ⟨rfl, _, rfl, ?_⟩
          cases hz : Z[r]? with
          | none =>
            rw [sg_none hz, decide_eq_true em_eq, show goC Z r = false by unfold goC; rw [hz]]
            exact iteF ⟨rfl, rfl⟩
          | some c =>
            rw [sg_some hz, decide_eq_false em_ne]
            refine iteT ⟨_, rfl, _, rfl, tx Z, _, c, rfl, rfl, hZs, atI_nat hz, rfl, _, _, rfl, rfl, (show (Str.ofString ".[(<").length + LSs.length ≤ sizeLine by decide +kernel), c, _, rfl, rfl, ?_⟩
            rw [← goC_iff hz]
            exact ⟨rfl, rfl⟩
        obtain ⟨rfl, rfl⟩ := hM
        refine ⟨_, rfl, _, rfl, _, rfl, r, rfl, _, rfl, _, _, rfl, rfl, _, rfl, tx Z, rfl, hZs, ?_⟩
        rw [ec r _ _ rfl rfl]
        refine ⟨rfl, .inr ⟨_, rfl, _, _, rfl, rfl, ?_⟩⟩
        rw [dsg r 124 _ e124]
        have ek : ((k1 : Nat) : Int) + ((sz t : Nat) : Int) = ((k1 + sz t : Nat) : Int) := by omega
        rw [ek]
        unfold rF at hR1
        by_cases h124 : Z[r]? = some 124
        · have hl := lt6 h124
          rw [if_pos h124] at hR1
          rw [decide_eq_true h124]
          refine ⟨r + 1, k1 + sz t, nm2, true, _, rfl, hu4, k3.trans k4, by omega, .inl ⟨rfl, hR1, by omega⟩⟩
        · rw [if_neg h124] at hR1
          rw [decide_eq_false h124, Bool.false_or]
          cases hg : goC Z r with
          | true =>
            rw [if_pos hg] at hR1
            exact ⟨r, k1 + sz t, nm2, true, _, congrArg (fun z => [some (V.str (tx Z)), some (V.int z), some (.int (d : Nat)), some (.ref u), some (.int ((k1 + sz t : Nat) : Int)), some (.bl true), some (.ref T)]) (show ((r : Nat) : Int) + 0 = ((r : Nat) : Int) by omega), hu4, k3.trans k4, hnq, .inl ⟨rfl, hR1, by omega⟩⟩
          | false =>
            rw [if_neg (by rw [hg]; decide)] at hR1
            exact ⟨r, k1 + sz t, nm2, false, _, congrArg (fun z => [some (V.str (tx Z)), some (V.int z), some (.int (d : Nat)), some (.ref u), some (.int ((k1 + sz t : Nat) : Int)), some (.bl false), some (.ref T)]) (show ((r : Nat) : Int) + 0 = ((r : Nat) : Int) by omega), hu4, k3.trans k4, hnq, .inr ⟨rfl, hR1⟩⟩
end
end Sf6
/-! The law's own reader: the whole of it. -/
namespace Sf6
open PySem PySem.Spec PyProof.Rows L2 Sf Sf4
abbrev PEx : List Str := ["_law_text", "_law_at", "_law_deep", "_law_used"]
/-- the defs of the law's own reader, where they stand -/
structure LawR (K : PySem.W.Frag) (mg : Str → Option Value) (f : Nat → Addr) (fd : Nat → FuncData) : Prop where
  ne : Fd K mg "_law_number_end" sNE ["_law_text", "_law_at"] (f 0) (fd 0)
  lp : Fd K mg "_law_part" sLP ["_law_text", "_law_at"] (f 1) (fd 1)
  ce : Fd K mg "_law_class_end" sCE ["_law_text", "_law_at"] (f 2) (fd 2)
  lu : Fd K mg "_law_unit" sLU PEx (f 3) (fd 3)
  li : Fd K mg "_law_item" sLI PEx (f 4) (fd 4)
  le : Fd K mg "_law_expression" sLE PEx (f 5) (fd 5)
  ip : Fd K mg "_law_is_pattern" sIP ["_law_thing"] (f 6) (fd 6)
  lets : Fd K mg "_law_all_letters" sLets [] (f 7) (fd 7)
  zint : mg "int" = none
  zlen : mg "len" = none
  zmax : mg "max" = none
  zall : mg "all" = none
  zany : mg "any" = none
  zstr : mg "str" = none
  zisi : mg "isinstance" = none
def NIP : List Str := ["_law_thing", "_law_at", "_law_inner"]
theorem scIP : FnScope NIP ["_law_thing"] (defScope sIP) := ⟨rfl, rfl, rfl, by decide +kernel, rfl, by decide +kernel, by decide +kernel⟩
def isPt (Z : List Nat) : Bool := match fPat Z with
  | none => false
  | some W => decide (sz W.t ≤ 24)
def isPd : PyData → Bool
  | .str x => isPt x.cps.toList
  | _ => false
theorem cut_to (Z : List Nat) (b : Nat) : cutS (tx Z) none (some ((b : Nat) : Int)) = tx (Z.take b) := by
  have h := cut_sub Z 0 b
  rw [List.drop_zero, Nat.sub_zero] at h
  rw [← h] <;> rfl
theorem ends_in {Z : List Nat} {q : Nat} (hq : q ≤ Z.length) : inV (.str (tx (Z.drop q))) (nmV [[], [36]]) = decide (sE Z q = Z.length) := by
  rw [inV_dec]
  refine decide_eq_decide.mpr ?_
  simp only [List.mem_cons, List.not_mem_nil, or_false]
  unfold sE
  by_cases h : Z[q]? = some 36
  · rw [if_pos h]
    obtain ⟨h1, h2⟩ := List.getElem?_eq_some_iff.mp h
    rw [List.drop_eq_getElem_cons h1, h2]
    constructor
    · rintro (z | z)
      · cases z
      · have z := (List.cons.inj z).2
        have := congrArg List.length z
        rw [List.length_drop, List.length_nil] at this
        omega
    · intro z
      right
      rw [List.drop_eq_nil_of_le (by omega)]
  · rw [if_neg h]
    constructor
    · rintro (z | z)
      · have := congrArg List.length z
        rw [List.length_drop, List.length_nil] at this
        omega
      · exfalso
        apply h
        have e : (Z.drop q)[0]? = some 36 := by rw [z] <;> rfl
        rw [List.getElem?_drop] at e
        exact e
    · intro z
      left
      exact List.drop_eq_nil_of_le (by omega)
def spIP : Sp := fun vs H Q _ => ∃ (v : V) (g : Bool) (p : Addr) (d : PyData) (n m : Nat), vs = [v] ∧ Od g p H v d ∧ Sm n m d ∧ n ≤ 2000 ∧ ∀ H', Same H H' → Q (.bl (isPd d)) H'
section
variable {P : Program} {w : World} {K : PySem.W.Frag} {mg : Str → Option Value} {base : Heap} {f : Nat → Addr} {fd : Nat → FuncData}
theorem all_LE (T : LawR K mg f fd) : ∀ d : Nat, FnOk P w K mg base CX0 (6 + 3 * d) (f 5) (fd 5) PEx (spLF (fun Z d => fC Z d) d) := by
  have GL : FnOk P w K mg base CX0 1 (f 7) (fd 7) [] spLets := ok_lets (k := 0) T.lets.F
  have GN : FnOk P w K mg base CX0 1 (f 0) (fd 0) ["_law_text", "_law_at"] spNE := ok_NE (k := 0) T.ne.F T.zlen T.zint
  have GP : FnOk P w K mg base CX0 2 (f 1) (fd 1) ["_law_text", "_law_at"] spLP := ok_LP (k := 0) T.lp.F T.lets.F T.lets.b T.lets.g GL T.zany
  have GC : FnOk P w K mg base CX0 3 (f 2) (fd 2) ["_law_text", "_law_at"] spCE := ok_CE (k := 0) T.ce.F T.lets.F T.lets.b T.lets.g GL T.lp.F T.lp.b T.lp.g GP T.zint T.zall
  intro d
  induction d with
  | zero =>
    have GU := ok_LU (P := P) (w := w) (base := base) (k := 3) (d := 0) (spA := fun _ _ _ _ => False) T.lu.F T.lets.F T.lets.b T.lets.g GL T.ce.F T.ce.b T.ce.g GC T.le.F T.le.b T.le.g (Nat.le_refl 3) ⟨fun _ _ _ _ h => h.elim, fun _ _ _ _ _ _ _ _ _ _ _ _ _ h => h.elim⟩ (fun e _ _ _ _ h => by omega) T.zlen T.zall
    have GI := ok_LI T.li.F T.ne.F T.ne.b T.ne.g GN T.lu.F T.lu.b T.lu.g (by decide) GU T.zint T.zmax
    exact ok_LE T.le.F T.lets.F T.lets.b T.lets.g GL T.li.F T.li.b T.li.g (by decide) GI T.zint
  | succ d ih =>
    have GU := ok_LU (P := P) (w := w) (base := base) (k := 6 + 3 * d) (d := d + 1) (spA := spLF (fun Z d => fC Z d) d) T.lu.F T.lets.F T.lets.b T.lets.g GL T.ce.F T.ce.b T.ce.g GC T.le.F T.le.b T.le.g (by omega) ih (fun e _ _ _ _ h q => by
      obtain rfl : e = d := by omega
      exact q) T.zlen T.zall
    have GI := ok_LI T.li.F T.ne.F T.ne.b T.ne.g GN T.lu.F T.lu.b T.lu.g (by omega) GU T.zint T.zmax
    exact (ok_LE T.le.F T.lets.F T.lets.b T.lets.g GL T.li.F T.li.b T.li.g (by omega) GI T.zint).mono (by omega)
theorem ok_IP (T : LawR K mg f fd) : FnOk P w K mg base CX0 31 (f 6) (fd 6) ["_law_thing"] spIP := by
  have GE := all_LE (P := P) (w := w) (base := base) T 8
  refine T.ip.F.ok scIP (fun vs H Q E h => ?_) (fun cdv A outer s H vs Q E hr h => ?_)
  · obtain ⟨v, g, p, d, n, m, rfl, _⟩ := h
    rfl
  · obtain ⟨v, g, p, d, n, m, rfl, od, sm, hn, q⟩ := h
    refine ⟨_, pss_cons (ps_if (PW.pt (pw_or (pt_not (pt_val (pe_callB call_isi (by rfl) T.zisi PyProof.Rows.boot_isinstance (pa_cons (pv 0) (pa_cons (pe_bltn (by rfl) T.zstr PySem.Pv.boot_str (v := .ty "str") rfl) pa_nil))))) (pw_or1 (pt_cmpR op_gt (pe_callB call_len_str (by rfl) T.zlen PySem.boot_len (pa_cons (pv 0) pa_nil)) pe_int (nomark _))))) (pss_one (ps_ret pe_bl)) pss_nil)
      (pss_cons (ps_set (i := 1) scIP.nd rfl (.inl rfl) (pe_callTy call_int1 (by rfl) T.zint PySem.Pv.boot_int (pa_cons (pe_cmpR op_eq (pe_slice sl_str (pv 0) po_none (po_some pe_int)) pe_str (nomark _)) pa_nil)))
      (pss_cons (ps_set (i := 2) scIP.nd rfl (.inl rfl) (pe_call GE hr (by rfl) T.le.g T.le.F.kp T.le.b .nil pass0 (pa_cons (pv 0) (pa_cons (pv 1) (pa_cons pe_int (pa_cons (pe_lst pa_nil) pa_nil))))))
      (pss_one (ps_ret (pe_and (pe_cmpR op_notN (pv 2) pe_non (nomark _)) (pe_and (pe_cmpR op_lt (pe_ix ix_tup (pv 2) pe_int (fun _ _ => rfl)) pe_int (nomark _)) (pe_one (pe_cmpR op_in_seq (pe_slice sl_str (pv 0) (po_some (pe_ix ix_tup (pv 2) pe_int (fun _ _ => rfl))) po_none) (pe_tup (pa_cons pe_str (pa_cons pe_str pa_nil))) (by rfl))))))))), ?_⟩
    refine ⟨v, rfl, v, .ty "str", _, _, isS d, rfl, .ty "str", od.ty, kit_ty (kit_str d), isS d, rfl, ?_⟩
    cases od with
    | str x =>
      obtain ⟨Z, rfl⟩ : ∃ Z, x = tx Z := ⟨x.cps.toList, by
        cases x with
        | mk a =>
          show _ = (⟨a.toList.toArray⟩ : Str)
          rw [Array.toArray_toList]⟩
      replace q : ∀ H', Same H H' → Q (.bl (isPt Z)) H' := q
      have hl : Z.length ≤ 2000 := by
        have h1 : (tx Z).length ≤ n := sm.wt
        rw [tx_len] at h1
        omega
      have hZs : (tx Z).length ≤ sizeLine := by
        rw [tx_len]
        exact Nat.le_trans hl (by decide)
      refine iteF ⟨.str (tx Z), rfl, tx Z, rfl, hZs, _, _, rfl, rfl, _, rfl, ?_⟩
      by_cases h60 : Z.length ≤ 60
      rotate_left
      · rw [decide_eq_true (show (60 : Int) < ((tx Z).length : Int) by rw [tx_len]; omega)]
        have e : isPt Z = false := by
          unfold isPt fPat
          rw [if_neg h60]
        rw [e] at q
        exact iteT (q H (Same.refl H))
      rw [decide_eq_false (show ¬ ((60 : Int) < ((tx Z).length : Int)) by rw [tx_len]; omega)]
      refine iteF ⟨_, rfl, _, rfl, tx Z, rfl, hZs, ?_⟩
      rw [show cutS (tx Z) none (some 1) = tx (sg Z 0) from cut_to Z 1]
      have dsg : ∀ (a c : Nat) (S : Str), S = tx [c] → decide (V.str (tx (sg Z a)) = V.str S) = decide (Z[a]? = some c) := fun a c S hS => by
        subst hS
        by_cases h : Z[a]? = some c
        · rw [sg_some h, decide_eq_true rfl, decide_eq_true h]
        · rw [decide_eq_false h, decide_eq_false fun z => sg_ne h (V.str.inj z)]
      refine ⟨rfl, .inr ⟨_, rfl, ?_⟩⟩
      rw [dsg 0 94 _ (by decide +kernel)]
      have hs : (if decide (Z[0]? = some 94) = true then (1 : Int) else 0) = ((s0 Z : Nat) : Int) := by
        unfold s0
        by_cases h : Z[0]? = some 94
        · rw [if_pos h, decide_eq_true h] <;> rfl
        · rw [if_neg h, decide_eq_false h] <;> rfl
      rw [hs]
      have eP : fPat Z = fWhole Z := if_pos h60
      refine ⟨_, rfl, _, rfl, Nat.zero_le _, fun u nu => ⟨Z, s0 Z, u, [], rfl, h60, Nat.zero_le _, upd_same, fun e1 xs H1 k1 hu1 => ?_, fun t r nm1 e1 T H1 hnq hT eT hu1 k1 => ?_⟩⟩
      · dsimp only at e1
        have e : isPt Z = false := by
          unfold isPt
          rw [eP, whole_no e1]
        rw [e] at q
        refine ⟨_, rfl, rfl, _, rfl, ?_⟩
        rw [decide_eq_true (show V.non = V.non from rfl)]
        exact iteF (q H1 fun b o hb => k1 b o (ne_of_none hb nu) (smU nu _ _ hb))
      · dsimp only at e1
        have g := fC_go Z 8 _ _ _ _ _ e1
        have sm1 : Same H H1 := fun b o hb => k1 b o (ne_of_none hb nu) (smU nu _ _ hb)
        have e : isPt Z = (decide (sz t < 25) && decide (sE Z r = Z.length)) := by
          unfold isPt
          rw [eP, whole_of e1]
          by_cases h : sE Z r = Z.length
          · rw [if_pos h, decide_eq_true h, Bool.and_true]
            exact decide_eq_decide.mpr (show sz t ≤ 24 ↔ sz t < 25 by omega)
          · rw [if_neg h, decide_eq_false h, Bool.and_false]
        rw [e] at q
        refine ⟨_, rfl, rfl, _, rfl, ?_⟩
        rw [decide_eq_false (show ¬ (V.ref T = V.non) from fun z => by cases z)]
        refine iteT ⟨_, rfl, T, _, 1, _, rfl, rfl, .inl (.inl eT), atI_nat (j := 1) rfl, _, _, rfl, rfl, _, rfl, ?_⟩
        by_cases h25 : sz t < 25
        rotate_left
        · rw [decide_eq_false (show ¬ (((sz t : Nat) : Int) < 25) by omega)]
          rw [decide_eq_false h25, Bool.false_and] at q
          exact iteF (q H1 sm1)
        rw [decide_eq_true (show ((sz t : Nat) : Int) < 25 by omega)]
        rw [decide_eq_true h25, Bool.true_and] at q
        refine iteT ⟨_, rfl, _, rfl, T, _, 0, _, rfl, rfl, .inl (.inl eT), atI_nat (j := 0) rfl, _, rfl, tx Z, rfl, hZs, ?_⟩
        rw [show cutS (tx Z) (some ((r : Nat) : Int)) none = tx (Z.drop r) from cut_from Z r]
        refine ⟨(show 2 ≤ sizeLine by decide), fun T2 n2 => ⟨T2, _, rfl, .inr (.inl (.inl upd_same)), rfl, rfl, ?_⟩⟩
        have e2 : nmV [[], [36]] = [V.str (Str.ofString ""), V.str (Str.ofString "$")] := by decide +kernel
        have e3 := ends_in g.2
        rw [e2] at e3
        rw [← e3] at q
        exact q _ (sm1.trans (smU n2))
    | int i => exact iteT (q H (Same.refl H))
    | bl c => exact iteT (q H (Same.refl H))
    | non => exact iteT (q H (Same.refl H))
    | lst _ _ _ _ => exact iteT (q H (Same.refl H))
    | tup _ _ _ => exact iteT (q H (Same.refl H))
    | dic0 _ _ _ => exact iteT (q H (Same.refl H))
    | dic1 _ _ _ _ => exact iteT (q H (Same.refl H))
end
end Sf6
/-! read_pattern and Pattern.__init__ of any value. -/
namespace Sf6
open PySem PySem.Spec PyProof.Rows L2 Sf Sf4 LamX
theorem _root_.L2.FnOk.or {P : Program} {w : World} {K : PySem.W.Frag} {mg : Str → Option Value} {base : Heap} {CX : CXT} {k : Nat} {f : Addr} {fd : FuncData} {ps : List Str} {sp1 sp2 : Sp} (A : FnOk P w K mg base CX k f fd ps sp1) (B : FnOk P w K mg base CX k f fd ps sp2) :
    FnOk P w K mg base CX k f fd ps (fun vs H Q E => sp1 vs H Q E ∨ sp2 vs H Q E) :=
  ⟨fun vs H Q E h => h.elim (A.len vs H Q E) (B.len vs H Q E), fun A1 outer s H args us vs Q E hr he hb hv hs => hs.elim (A.run A1 outer s H args us vs Q E hr he hb hv) (B.run A1 outer s H args us vs Q E hr he hb hv)⟩
def spRpO (D : Addr) : Sp := fun vs H Q E => ∃ (v : V) (g : Bool) (p : Addr) (d : PyData), vs = [v] ∧ Od g p H v d ∧ isS d = false ∧ RzS D E H v
/-- it raises with a value, all but one object as it stood -/
def RzV (D : Addr) (E : XK) (x : Addr) (H : Hp) (v : V) : Prop := ∀ dd H', (∀ b o, b ≠ x → H b = some o → H' b = some o) → H' dd = some (.xd [("value", v)]) → E (.ref D) (some dd) H'
def spPIO (C D : Addr) : Sp := fun vs H Q E => ∃ (v : V) (x dx : Addr) (g : Bool) (p : Addr) (d : PyData), vs = [.ref x, v] ∧ H x = some (.ins C dx []) ∧ Od g p H v d ∧ isS d = false ∧ RzV D E x H v
/-- of any value -/
def spPIV (C D : Addr) : Sp := fun vs H Q E => ∃ (v : V) (x dx : Addr) (g : Bool) (p : Addr) (d : PyData) (n m : Nat), vs = [.ref x, v] ∧ H x = some (.ins C dx []) ∧ Od g p H v d ∧ Sm n m d ∧ n ≤ 2000 ∧
  (isPd d = true → ∀ H', (∀ b o, b ≠ x → H b = some o → H' b = some o) → Q .non H') ∧ (isPd d = false → RzV D E x H v)
theorem tx_of (x : Str) : ∃ Z, x = tx Z := ⟨x.cps.toList, by
  cases x with
  | mk a =>
    show _ = (⟨a.toList.toArray⟩ : Str)
    rw [Array.toArray_toList]⟩
section
variable {P : Program} {w : World} {K : PySem.W.Frag} {mg : Str → Option Value} {base : Heap} {C : Addr} {f : Nat → Addr} {fd : Nat → FuncData} {tk : Nat → Tok} {cd : Addr} {ces : Array DictEntry} {cn : Nat} {ct : Nat → Addr} {D fB : Addr} {dB : FuncData}
theorem ok_rpO (T : RT K w mg C f fd tk cd ces cn ct) (B : Bad P w K mg base 1 D fB dB) {g : Addr} {gd : FuncData} (F : Fun K "read_pattern" "read_pattern" sRp g gd) : FnOk P w K mg base (L2.CX P w) 51 g gd ["value"] (spRpO D) := by
  refine F.okX scRp (fun vs H Q E h => ?_) (fun cdv A outer s H vs Q E hr h => ?_)
  · obtain ⟨v, g, p, d, rfl, _⟩ := h
    rfl
  · obtain ⟨v, g, p, d, rfl, od, hs, z⟩ := h
    have GI := ok_ri (P := P) (base := base) T
    have GW := ok_whole6 T B
    refine ⟨_, pss_cons (ps_if (PW.pt (pw_or (pt_not (pt_val (pe_callB call_isi (by rfl) T.zisi PyProof.Rows.boot_isinstance (pa_cons (pv 0) (pa_cons (pe_bltn (by rfl) T.zstr PySem.Pv.boot_str (v := .ty "str") rfl) pa_nil)))))
        (pw_or1 (pt_cmpR op_gt (pe_callB call_len_str (by rfl) T.zlen PySem.boot_len (pa_cons (pv 0) pa_nil)) (pe_glob (v := .int 60) rfl T.gMS ⟨_, rfl⟩) (nomark _)))))
        (pss_one (ps_raise rfl (takes_of rfl rfl rfl rfl) (pmk_oex B.T B.iC B.tI B.G (hr.mono (by decide)) B.b .nil pass0 (by rfl) B.g (pa_cons (pv 0) pa_nil)))) pss_nil)
      (pss_cons (ps_set (i := 1) scRp.nd rfl (.inl rfl) (pe_make T.mkC GI (hr.mono (by decide)) rfl T.gC T.mI.b .nil pass0 (pa_cons (pv 0) pa_nil)))
      (pss_one (ps_ret (pe_tup (pa_cons (pv 1) (pa_cons (pe_meth0 (pv 1) T.cl T.mWhole.m GW hr T.mWhole.b .nil (passes_call (takes_of rfl rfl rfl rfl) (fun _ _ _ _ h => h))) pa_nil)))))), ?_⟩
    refine ⟨v, rfl, v, .ty "str", _, _, isS d, rfl, .ty "str", od.ty, kit_ty (kit_str d), isS d, rfl, ?_⟩
    rw [hs]
    exact iteT ⟨v, rfl, (show 1 ≤ 1000 by decide), fun a na => ⟨a, _, rfl, upd_same, fun dx nx hne => ⟨rfl, dx, _, upd_same, by rw [upd_ne hne, upd_same], by rw [upd_ne hne] at nx; exact nx, raised z.rz na nx hne⟩⟩⟩
end
section
variable {P : Program} {w : World} {K : PySem.W.Frag} {mg : Str → Option Value} {base : Heap} {C : Addr} {f : Nat → Addr} {fd : Nat → FuncData} {tk : Nat → Tok} {gR gW gS : Addr} {dR dW dS : FuncData}
variable {RC WC : Addr} {rf_ wf' : Nat → Addr} {rd wd : Nat → FuncData} {cd : Addr} {ces : Array DictEntry} {cn : Nat} {ct : Nat → Addr} {D fB : Addr} {dB : FuncData}
theorem ok_piO (T : PatT K mg C f fd tk gR gW dR dW) (TR : RT K w mg RC rf_ rd tk cd ces cn ct) (B : Bad P w K mg base 1 D fB dB) (TW : WT K mg WC wf' wd tk) (TS : ST K mg tk gS dS) : FnOk P w K mg base (L2.CX P w) 85 (f 0) (fd 0) ["self", "string"] (spPIO C D) := by
  refine T.mI.F.okX scPI (fun vs H Q E h => ?_) (fun cdv A outer s H vs Q E hr h => ?_)
  · obtain ⟨v, x, dx, g, p, d, rfl, _⟩ := h
    rfl
  · obtain ⟨v, x, dx, g, p, d, rfl, hx, od, hs, z⟩ := h
    have GR := ok_rpO TR B T.FR
    have GW := ok_written (P := P) (w := w) (base := base) TW T.FW
    have GS := ok_size (P := P) (w := w) (base := base) TS 40
    refine ⟨_, pss_cons (ps_asg (pe_call GR (hr.mono (by decide)) rfl T.gR_ T.FR.kp T.bR .nil (passes_call (takes_of rfl rfl rfl rfl) (fun _ _ _ _ h => h)) (pa_cons (pv 1) pa_nil)) (pg_tup rfl (pgs_cons (pg_name (i := 2) scPI.nd rfl (.inl rfl)) (pgs_cons (pg_name (i := 3) scPI.nd rfl (.inl rfl)) pgs_nil))))
      (pss_cons (ps_asg (pv 3) (pg_tup rfl (pgs_cons (pg_fld (pv 0)) (pgs_cons (pg_fld (pv 0)) (pgs_cons (pg_fld (pv 0)) pgs_nil)))))
      (pss_cons (ps_if (pt_cmpR op_gt (pe_call GS (hr.mono (by decide)) rfl TS.gg TS.F.kp TS.b .nil pass0 (pa_cons (pe_fld (pv 0) rfl) pa_nil)) (pe_glob (v := .int 24) rfl T.gMP ⟨_, rfl⟩) (nomark _)) (pss_one (ps_raise rfl (takes_of rfl rfl rfl rfl) (pmk_oex B.T B.iC B.tI B.G (hr.mono (by decide)) B.b .nil pass0 (by rfl) B.g (pa_cons (pv 1) pa_nil)))) pss_nil)
      (pss_cons (ps_fld (pv 0) (pv 1) rfl)
      (pss_cons (ps_fld (pv 0) (pe_tupleOf (by rfl) T.ztup (pe_fld (pv 2) rfl)) rfl)
      (pss_one (ps_asg (pe_call GW hr rfl T.gW_ T.FW.kp T.bW .nil pass0 (pa_cons (pe_fld (pv 0) rfl) pa_nil)) (pg_tup rfl (pgs_cons (pg_fld (pv 0)) (pgs_cons (pg_fld (pv 0)) (pgs_cons (pg_fld (pv 0)) (pgs_cons (pg_fld (pv 0)) pgs_nil))))))))))), ?_⟩
    exact ⟨v, rfl, v, g, p, d, rfl, od, hs, fun dd H' s e => z dd H' (fun b o _ h => s b o h) e⟩
theorem ok_piV (T : PatT K mg C f fd tk gR gW dR dW) (TR : RT K w mg RC rf_ rd tk cd ces cn ct) (B : Bad P w K mg base 1 D fB dB) (TW : WT K mg WC wf' wd tk) (TS : ST K mg tk gS dS) : FnOk P w K mg base (L2.CX P w) 85 (f 0) (fd 0) ["self", "string"] (spPIV C D) := by
  refine ((ok_pi6 T TR B TW TS).or (ok_piO T TR B TW TS)).imp fun vs H Q E h => ?_
  obtain ⟨v, x, dx, g, p, d, n, m, rfl, hx, od, sm, hn, q1, q2⟩ := h
  cases hs : isS d with
  | false =>
    refine .inr ⟨v, x, dx, g, p, d, rfl, hx, od, hs, q2 ?_⟩
    cases d <;> first | rfl | cases hs
  | true =>
    cases od with
    | str y =>
      obtain ⟨Z, rfl⟩ := tx_of y
      replace q1 : isPt Z = true → _ := q1
      replace q2 : isPt Z = false → _ := q2
      have hl : Z.length ≤ 2000 := by
        have h1 : (tx Z).length ≤ n := sm.wt
        rw [tx_len] at h1
        omega
      refine .inl ⟨Z, x, dx, rfl, hx, hl, fin6 Z, fun W eW h24 H' _ k => q1 ?_ H' k, fun hf => q2 ?_⟩
      · unfold isPt
        rw [eW]
        exact decide_eq_true h24
      · unfold isPt
        cases eW : fPat Z with
        | none => rfl
        | some W =>
          have := hf W eW
          exact decide_eq_false (by omega)
    | _ => cases hs
end
/-- what _law_met gets from the lambda -/
def tlV (D : Addr) (v : V) (d : PyData) : XK → Hp → VK → Prop := fun E H' Q' => (∃ (g : Bool) (p : Addr) (n m : Nat), Od g p H' v d ∧ Sm n m d ∧ n ≤ 2000) ∧ (isPd d = true → ∀ x H'', Same H' H'' → Q' (.ref x) H'') ∧ (isPd d = false → RzS D E H' v)
theorem met_val {D p : Addr} {g : Bool} {H : Hp} {T : List (Addr × Str)} {Q : VK} {v : V} {d : PyData} {n m : Nat} (hT : Tabs T H) (od : Od g p H v d) (sm : Sm n m d) (hn : n ≤ 2000)
    (q1 : isPd d = true → ∀ x tt H', ExtN H H' → Tabs T H' → H' tt = some (.tup [.str tld, .ref x]) → Q (.ref tt) H')
    (q2 : isPd d = false → ∀ tt H', ExtN H H' → Tabs T H' → H' tt = some (.tup [.str bad, v]) → Q (.ref tt) H') :
    Tabs T H ∧ ∀ H1, ExtN H H1 → Tabs T H1 → TMet D (tlV D v d) H1 Q := by
  refine ⟨hT, fun H1 e1 T1 H2 E' Q' s2 hbad htold => ?_⟩
  have e2 : ExtN H H2 := e1.trans (extS s2)
  refine ⟨⟨g, p, n, m, od.ext e2, sm, hn⟩, fun hp x H3 s3 => ?_, fun hf dd H3 s3 ed => ?_⟩
  · exact htold (.ref x) H3 fun tt H4 nt s4 et => q1 hp x tt H4 (e2.trans (extS (s3.trans s4))) (T1.ext (s2.trans (s3.trans s4))) et
  · exact hbad dd _ H3 ed fun tt H4 nt s4 et => q2 hf tt H4 (e2.trans (extS (s3.trans s4))) (T1.ext (s2.trans (s3.trans s4))) et
theorem mk_same {C x dx : Addr} {H H' : Hp} (hx : H x = none) (hd : H dx = none) (k : ∀ b o, b ≠ x → (upd (upd H dx (.own x)) x (.ins C dx [])) b = some o → H' b = some o) : Same H H' := fun b o h => by
  have n1 : b ≠ x := ne_of_none h hx
  refine k b o n1 ?_
  rw [upd_ne n1, upd_ne (ne_of_none h hd)]
  exact h
end Sf6
namespace Sf4
open PySem PySem.Spec PyProof.Rows L2 Sf
theorem Same.upd {H : Hp} {p : Addr} {o : HO} (h : H p = none) : Same H (upd H p o) := fun b u e => by
  rw [upd_ne (ne_of_none e h)]
  exact e
/-- an object that was not there may change -/
theorem Same.mut {H H' : Hp} {p : Addr} {o : HO} (a : Same H H') (h : H p = none) : Same H (L2.upd H' p o) := fun b u e => by
  rw [upd_ne (ne_of_none e h)]
  exact a b u e
abbrev sOdd : Stmt := topS 44
theorem scOdd : FnScope ["_law_pot_here", "_law_some", "_law_found", "_law_turn"] ["_law_pot_here"] (defScope sOdd) := ⟨rfl, rfl, rfl, by decide +kernel, rfl, by decide +kernel, by decide +kernel⟩
def smB (d : PyData) : Bool := d.showable && d.leavesShort 40 && decide (d.weight ≤ 105) && decide (d.depth ≤ 3)
theorem sm_of {d : PyData} (h : smB d = true) : Sm 105 3 d := by
  simp only [smB, Bool.and_eq_true, decide_eq_true_eq] at h
  exact ⟨h.1.1.1, h.1.1.2, h.1.2, h.2⟩
theorem allc {P : V → Prop} {x : V} {l : List V} (h : P x) (t : ∀ v ∈ l, P v) : ∀ v ∈ x :: l, P v := fun v hv => by
  rcases List.mem_cons.mp hv with rfl | hv
  · exact h
  · exact t v hv
theorem alln {P : V → Prop} : ∀ v ∈ ([] : List V), P v := fun _ h => nomatch h
/-- one more coat around a value -/
theorem _root_.Sf.Sm.tup1 {n m : Nat} {d : PyData} (h : Sm n m d) : Sm (n + 3) (m + 1) (.tuple [d]) := by
  obtain ⟨h1, h2, h3, h4⟩ := h
  refine ⟨by simp [PyData.showable, PyData.showableAll, h1], by simp [PyData.leavesShort, PyData.leavesShortAll, h2], ?_, ?_⟩
  · simp only [PyData.weight, PyData.weightAll]
    omega
  · simp only [PyData.depth, PyData.depthAll]
    omega
theorem _root_.Sf.Sm.lst1 {n m : Nat} {d : PyData} (h : Sm n m d) : Sm (n + 3) (m + 1) (.list [d]) := by
  obtain ⟨h1, h2, h3, h4⟩ := h
  refine ⟨by simp [PyData.showable, PyData.showableAll, h1], by simp [PyData.leavesShort, PyData.leavesShortAll, h2], ?_, ?_⟩
  · simp only [PyData.weight, PyData.weightAll]
    omega
  · simp only [PyData.depth, PyData.depthAll]
    omega
theorem sm_a : (PyData.str (Str.ofString "a")).leavesShort 40 = true := by decide +kernel
theorem _root_.Sf.Sm.dic {n m : Nat} {d : PyData} (h : Sm n m d) : Sm (n + 3) (m + 1) (.dict [(.str (Str.ofString "a"), d)]) := by
  obtain ⟨h1, h2, h3, h4⟩ := h
  refine ⟨by simp [PyData.showable, PyData.showableKv, h1], by rw [PyData.leavesShort, PyData.leavesShortKv, sm_a, h2] <;> rfl, ?_, ?_⟩
  · simp only [PyData.weight, PyData.weightKv]
    show (Str.ofString "a").cps.size + d.weight + 2 + 0 ≤ n + 3
    rw [show (Str.ofString "a").cps.size = 1 by decide +kernel]
    omega
  · simp only [PyData.depth, PyData.depthKv]
    omega
theorem sm_1 : (PyData.int 1).leavesShort 40 = true := by decide +kernel
theorem sm_1s : (PyData.int 1).showable = true := by decide +kernel
theorem sm_1w : (PyData.int 1).weight = 1 := by decide +kernel
theorem _root_.Sf.Sm.two1 {n m : Nat} {d : PyData} (h : Sm n m d) : Sm (n + 3) (m + 1) (.tuple [d, .int 1]) := by
  obtain ⟨h1, h2, h3, h4⟩ := h
  refine ⟨by rw [PyData.showable, PyData.showableAll, PyData.showableAll, sm_1s, h1] <;> rfl, by rw [PyData.leavesShort, PyData.leavesShortAll, PyData.leavesShortAll, sm_1, h2] <;> rfl, ?_, ?_⟩
  · show d.weight + 1 + ((PyData.int 1).weight + 1 + 0) ≤ n + 3
    rw [sm_1w]
    omega
  · simp only [PyData.depth, PyData.depthAll]
    omega
theorem _root_.Sf.Sm.two2 {n m : Nat} {d : PyData} (h : Sm n m d) : Sm (n + 3) (m + 1) (.tuple [.int 1, d]) := by
  obtain ⟨h1, h2, h3, h4⟩ := h
  refine ⟨by rw [PyData.showable, PyData.showableAll, PyData.showableAll, sm_1s, h1] <;> rfl, by rw [PyData.leavesShort, PyData.leavesShortAll, PyData.leavesShortAll, sm_1, h2] <;> rfl, ?_, ?_⟩
  · show (PyData.int 1).weight + 1 + (d.weight + 1 + 0) ≤ n + 3
    rw [sm_1w]
    omega
  · simp only [PyData.depth, PyData.depthAll]
    omega
theorem _root_.Sf.Sm.mono {n m n' m' : Nat} {d : PyData} (h : Sm n m d) (a : n ≤ n') (b : m ≤ m') : Sm n' m' d := ⟨h.sh, h.lv, Nat.le_trans h.wt a, Nat.le_trans h.dp b⟩
theorem sPotS {Ha Hb : Hp} {p : Addr} {n : Int} (s : Same Ha Hb) (h : Pot Ha p n) : Pot Hb p n := by
  obtain ⟨a, b, c, e, h⟩ := h
  exact ⟨a, b, c, s _ _ e, h⟩
/-- the twenty-nine values -/
theorem all29 {p : Addr} {Hf : Hp} {T0 L0 D0 T1 L1 T2 T3 T4 T5 T6 T7 D1 : Addr} (nt0 : T0 ≠ p) (nl0 : L0 ≠ p) (m0 : L0 ≠ sysModules) (nd0 : D0 ≠ p) (nt1 : T1 ≠ p) (nl1 : L1 ≠ p) (m1 : L1 ≠ sysModules) (nt2 : T2 ≠ p) (nt3 : T3 ≠ p) (nt4 : T4 ≠ p) (nt5 : T5 ≠ p) (nt6 : T6 ≠ p) (nt7 : T7 ≠ p) (nd1 : D1 ≠ p)
    (e1 : Hf T0 = some (.tup [])) (e2 : Hf L0 = some (.lst [])) (e3 : Hf D0 = some (.dK [])) (e4 : Hf T1 = some (.tup [.str (Str.ofString "ab")])) (e5 : Hf L1 = some (.lst [.str (Str.ofString "ab")])) (e6 : Hf T2 = some (.tup [.int 0])) (e7 : Hf T3 = some (.tup [.str (Str.ofString "^$")])) (e8 : Hf T4 = some (.tup [.str (Str.ofString "$^")]))
    (e9 : Hf T5 = some (.tup [.str (Str.ofString "ab"), .str (Str.ofString "ab")])) (e10 : Hf T6 = some (.tup [.str (Str.ofString "b "), .str (Str.ofString "ab")])) (e11 : Hf T7 = some (.tup [.str (Str.ofString "^"), .str (Str.ofString "$")])) (e12 : Hf D1 = some (.dK [(.inr (Str.ofString "ab"), .int 1)])) :
    ∀ v ∈ ([.non, .bl true, .bl false, .int 0, .int 1, .int (-1), .int (10 ^ Int.toNat 30), .str (Str.ofString ""), .str (Str.ofString "a"), .str (Str.ofString "^a"), .str (Str.ofString "a$"), .str (Str.ofString "^$"), .str (Str.ofString "$a"), .str (Str.ofString "a^"), .str (Str.ofString "ab"), .str (Str.ofString "A"), .str (Str.ofString "a\n"), .ref T0, .ref L0, .ref D0] ++ [.ref T1, .ref L1, .ref T2, .ref T3, .ref T4, .ref T5, .ref T6, .ref T7, .ref D1] : List V),
      ∃ d, Od true p Hf v d ∧ Sm 105 3 d :=
  allc (P := fun v => ∃ d, Od true p Hf v d ∧ Sm 105 3 d) ⟨_, .non, sm_of (by decide +kernel)⟩ (allc (P := fun v => ∃ d, Od true p Hf v d ∧ Sm 105 3 d) ⟨_, .bl true, sm_of (by decide +kernel)⟩ (allc (P := fun v => ∃ d, Od true p Hf v d ∧ Sm 105 3 d) ⟨_, .bl false, sm_of (by decide +kernel)⟩ (allc (P := fun v => ∃ d, Od true p Hf v d ∧ Sm 105 3 d) ⟨_, .int 0, sm_of (by decide +kernel)⟩ (allc (P := fun v => ∃ d, Od true p Hf v d ∧ Sm 105 3 d) ⟨_, .int 1, sm_of (by decide +kernel)⟩ (allc (P := fun v => ∃ d, Od true p Hf v d ∧ Sm 105 3 d) ⟨_, .int _, sm_of (by decide +kernel)⟩ (allc (P := fun v => ∃ d, Od true p Hf v d ∧ Sm 105 3 d) ⟨_, .int _, sm_of (by decide +kernel)⟩ (allc (P := fun v => ∃ d, Od true p Hf v d ∧ Sm 105 3 d) ⟨_, .str _, sm_of (by decide +kernel)⟩ (allc (P := fun v => ∃ d, Od true p Hf v d ∧ Sm 105 3 d) ⟨_, .str _, sm_of (by decide +kernel)⟩ (allc (P := fun v => ∃ d, Od true p Hf v d ∧ Sm 105 3 d) ⟨_, .str _, sm_of (by decide +kernel)⟩ (allc (P := fun v => ∃ d, Od true p Hf v d ∧ Sm 105 3 d) ⟨_, .str _, sm_of (by decide +kernel)⟩ (allc (P := fun v => ∃ d, Od true p Hf v d ∧ Sm 105 3 d) ⟨_, .str _, sm_of (by decide +kernel)⟩ (allc (P := fun v => ∃ d, Od true p Hf v d ∧ Sm 105 3 d) ⟨_, .str _, sm_of (by decide +kernel)⟩ (allc (P := fun v => ∃ d, Od true p Hf v d ∧ Sm 105 3 d) ⟨_, .str _, sm_of (by decide +kernel)⟩ (allc (P := fun v => ∃ d, Od true p Hf v d ∧ Sm 105 3 d) ⟨_, .str _, sm_of (by decide +kernel)⟩ (allc (P := fun v => ∃ d, Od true p Hf v d ∧ Sm 105 3 d) ⟨_, .str _, sm_of (by decide +kernel)⟩ (allc (P := fun v => ∃ d, Od true p Hf v d ∧ Sm 105 3 d) ⟨_, .str _, sm_of (by decide +kernel)⟩ (allc (P := fun v => ∃ d, Od true p Hf v d ∧ Sm 105 3 d) ⟨_, .tup nt0 e1 .nil, sm_of (by decide +kernel)⟩ (allc (P := fun v => ∃ d, Od true p Hf v d ∧ Sm 105 3 d) ⟨_, .lst nl0 (fun _ => m0) e2 .nil, sm_of (by decide +kernel)⟩ (allc (P := fun v => ∃ d, Od true p Hf v d ∧ Sm 105 3 d) ⟨_, .dic0 rfl nd0 e3, sm_of (by decide +kernel)⟩ (allc (P := fun v => ∃ d, Od true p Hf v d ∧ Sm 105 3 d) ⟨_, .tup nt1 e4 (.cons (.str _) .nil), sm_of (by decide +kernel)⟩ (allc (P := fun v => ∃ d, Od true p Hf v d ∧ Sm 105 3 d) ⟨_, .lst nl1 (fun _ => m1) e5 (.cons (.str _) .nil), sm_of (by decide +kernel)⟩ (allc (P := fun v => ∃ d, Od true p Hf v d ∧ Sm 105 3 d) ⟨_, .tup nt2 e6 (.cons (.int _) .nil), sm_of (by decide +kernel)⟩ (allc (P := fun v => ∃ d, Od true p Hf v d ∧ Sm 105 3 d) ⟨_, .tup nt3 e7 (.cons (.str _) .nil), sm_of (by decide +kernel)⟩ (allc (P := fun v => ∃ d, Od true p Hf v d ∧ Sm 105 3 d) ⟨_, .tup nt4 e8 (.cons (.str _) .nil), sm_of (by decide +kernel)⟩ (allc (P := fun v => ∃ d, Od true p Hf v d ∧ Sm 105 3 d) ⟨_, .tup nt5 e9 (.cons (.str _) (.cons (.str _) .nil)), sm_of (by decide +kernel)⟩ (allc (P := fun v => ∃ d, Od true p Hf v d ∧ Sm 105 3 d) ⟨_, .tup nt6 e10 (.cons (.str _) (.cons (.str _) .nil)), sm_of (by decide +kernel)⟩ (allc (P := fun v => ∃ d, Od true p Hf v d ∧ Sm 105 3 d) ⟨_, .tup nt7 e11 (.cons (.str _) (.cons (.str _) .nil)), sm_of (by decide +kernel)⟩ (allc (P := fun v => ∃ d, Od true p Hf v d ∧ Sm 105 3 d) ⟨_, .dic1 rfl nd1 e12 (.int _), sm_of (by decide +kernel)⟩ (alln)))))))))))))))))))))))))))))
section
variable {P : Program} {w : World} {K : PySem.W.Frag} {mg : Str → Option Value} {base : Heap}
def spOdd : Sp := fun vs H Q _ => ∃ (p : Addr) (n : Int), vs = [.ref p] ∧ Pot H p n ∧ n ≤ 900000 ∧ ∀ (v : V) (d : PyData) H', Od true p H' v d → Sm 140 15 d → Pot H' p (n + 20) → Kp p H H' → Q v H'
theorem ok_odd {f fA : Addr} {fd fdA : FuncData} {k : Nat} (F : Fun K "_law_odd" "_law_odd" sOdd f fd) (FA : Fun K "_law_any" "_law_any" sAny fA fdA) (bA : Binds K fdA ["_law_pot_here", "_law_items"] []) (gA : mg "_law_any" = some (.ref fA))
    (GA : FnOk P w K mg base CX0 k fA fdA ["_law_pot_here", "_law_items"] (spAny K)) (mr : mg "range" = none) : FnOk P w K mg base CX0 (k + 1) f fd ["_law_pot_here"] spOdd := by
  refine F.ok scOdd (fun vs H Q E h => ?_) (fun cdv A outer s H vs Q E hr h => ?_)
  · obtain ⟨p, n, rfl, _⟩ := h
    rfl
  · obtain ⟨p, n, rfl, hp, hn, q⟩ := h
    refine ⟨_, pss_cons (ps_set (i := 1) scOdd.nd rfl (.inl rfl) (pe_lst (pa_cons pe_non (pa_cons pe_bl (pa_cons pe_bl (pa_cons pe_int (pa_cons pe_int (pa_cons (pe_un un_neg pe_int) (pa_cons (pe_op op_pow pe_int pe_int)
          (pa_cons pe_str (pa_cons pe_str (pa_cons pe_str (pa_cons pe_str (pa_cons pe_str (pa_cons pe_str (pa_cons pe_str (pa_cons pe_str (pa_cons pe_str (pa_cons pe_str (pa_cons (pe_tup pa_nil) (pa_cons (pe_lstN pa_nil) (pa_cons pe_dnewK pa_nil))))))))))))))))))))))
      (pss_cons (ps_set (i := 1) scOdd.nd rfl (.inl rfl) (pe_op op_cat (pv 1) (pe_lst (pa_cons (pe_tup (pa_cons pe_str pa_nil)) (pa_cons (pe_lstN (pa_cons pe_str pa_nil)) (pa_cons (pe_tup (pa_cons pe_int pa_nil)) (pa_cons (pe_tup (pa_cons pe_str pa_nil)) (pa_cons (pe_tup (pa_cons pe_str pa_nil))
          (pa_cons (pe_tup (pa_cons pe_str (pa_cons pe_str pa_nil))) (pa_cons (pe_tup (pa_cons pe_str (pa_cons pe_str pa_nil))) (pa_cons (pe_tup (pa_cons pe_str (pa_cons pe_str pa_nil))) (pa_cons (pe_disp (pps_cons pe_str pe_int pps_nil) rfl rfl (by simp) (by decide)) pa_nil))))))))))))
      (pss_cons (ps_set (i := 2) scOdd.nd rfl (.inl rfl) (pe_call GA hr (by rfl) gA FA.kp bA .nil pass0 (pa_cons (pv 0) (pa_cons (pv 1) pa_nil))))
      (pss_cons (ps_for PassesOwn.never rfl (pi_range1 rfl mr (pa_cons (pe_call GA hr (by rfl) gA FA.kp bA .nil pass0 (pa_cons (pv 0) (pa_cons (pe_lst (pa_cons pe_int (pa_cons pe_int (pa_cons pe_int (pa_cons pe_int (pa_cons pe_int (pa_cons pe_int pa_nil))))))) pa_nil))) pa_nil)) (pg_name (i := 3) scOdd.nd rfl (.inl rfl))
          (pss_one (ps_set (i := 2) scOdd.nd rfl (.inl rfl) (pe_call GA hr (by rfl) gA FA.kp bA .nil pass0 (pa_cons (pv 0) (pa_cons (pe_lst (pa_cons (pe_tup (pa_cons (pv 2) pa_nil)) (pa_cons (pe_lstN (pa_cons (pv 2) pa_nil)) (pa_cons (pe_disp (pps_cons pe_str (pv 2) pps_nil) rfl rfl (by simp) (by decide))
            (pa_cons (pe_tup (pa_cons (pv 2) (pa_cons pe_int pa_nil))) (pa_cons (pe_tup (pa_cons pe_int (pa_cons (pv 2) pa_nil))) pa_nil)))))) pa_nil))))))
      (pss_one (ps_ret (pv 2)))))), ?_⟩
    have sl : ∀ n : Nat, n ≤ 20000 → n ≤ sizeLine := fun n h => Nat.le_trans h (by decide)
    refine ⟨_, rfl, _, _, rfl, rfl, ⟨by decide, by decide, by decide⟩, sl 0 (by decide), fun T0 t0 => ⟨sl 0 (by decide), fun L0 l0 m0 D0 d0 => ⟨sl 20 (by decide), fun S0 s0 => ?_⟩⟩⟩
    refine ⟨.ref S0, rfl, sl 1 (by decide), fun T1 t1 => ⟨sl 1 (by decide), fun L1 l1 m1 => ⟨sl 1 (by decide), fun T2 t2 => ⟨sl 1 (by decide), fun T3 t3 => ⟨sl 1 (by decide), fun T4 t4 => ⟨sl 2 (by decide), fun T5 t5 => ⟨sl 2 (by decide), fun T6 t6 => ⟨sl 2 (by decide), fun T7 t7 => ?_⟩⟩⟩⟩⟩⟩⟩⟩
    refine fun D1 d1 => ⟨upd_same, [(.inr (Str.ofString "ab"), .int 1)], rfl, (show 1 ≤ 15 by decide), sl 9 (by decide), fun S1 s1 => ?_⟩
    have nt0 : T0 ≠ p := hp.ne t0
    have nl0 : L0 ≠ p := (hp.up t0).ne l0
    have nd0 : D0 ≠ p := ((hp.up t0).up l0).ne d0
    have ns0 : S0 ≠ p := (((hp.up t0).up l0).up d0).ne s0
    have nt1 : T1 ≠ p := ((((hp.up t0).up l0).up d0).up s0).ne t1
    have nl1 : L1 ≠ p := (((((hp.up t0).up l0).up d0).up s0).up t1).ne l1
    have nt2 : T2 ≠ p := ((((((hp.up t0).up l0).up d0).up s0).up t1).up l1).ne t2
    have nt3 : T3 ≠ p := (((((((hp.up t0).up l0).up d0).up s0).up t1).up l1).up t2).ne t3
    have nt4 : T4 ≠ p := ((((((((hp.up t0).up l0).up d0).up s0).up t1).up l1).up t2).up t3).ne t4
    have nt5 : T5 ≠ p := (((((((((hp.up t0).up l0).up d0).up s0).up t1).up l1).up t2).up t3).up t4).ne t5
    have nt6 : T6 ≠ p := ((((((((((hp.up t0).up l0).up d0).up s0).up t1).up l1).up t2).up t3).up t4).up t5).ne t6
    have nt7 : T7 ≠ p := (((((((((((hp.up t0).up l0).up d0).up s0).up t1).up l1).up t2).up t3).up t4).up t5).up t6).ne t7
    have nd1 : D1 ≠ p := ((((((((((((hp.up t0).up l0).up d0).up s0).up t1).up l1).up t2).up t3).up t4).up t5).up t6).up t7).ne d1
    have g_s1 := Same.upd (o := HO.lst [V.ref T1, V.ref L1, V.ref T2, V.ref T3, V.ref T4, V.ref T5, V.ref T6, V.ref T7, V.ref D1]) s1
    have g_d1 := (Same.mut (Same.upd d1) d1).trans g_s1
    have g_t7 := (Same.upd t7).trans g_d1
    have g_t6 := (Same.upd t6).trans g_t7
    have g_t5 := (Same.upd t5).trans g_t6
    have g_t4 := (Same.upd t4).trans g_t5
    have g_t3 := (Same.upd t3).trans g_t4
    have g_t2 := (Same.upd t2).trans g_t3
    have g_l1 := (Same.upd l1).trans g_t2
    have g_t1 := (Same.upd t1).trans g_l1
    have g_s0 := (Same.upd s0).trans g_t1
    have g_d0 := (Same.upd d0).trans g_s0
    have g_l0 := (Same.upd l0).trans g_d0
    have g_t0 := (Same.upd t0).trans g_l0
    refine ⟨S0, S1, _, _, rfl, rfl, g_t1 _ _ upd_same, upd_same, sl 29 (by decide), fun S2 s2 => ?_⟩
    have f := fun {Ha : Hp} (g : Same Ha _) => g.trans (Same.upd (o := HO.lst ([.non, .bl true, .bl false, .int 0, .int 1, .int (-1), .int (10 ^ Int.toNat 30), .str (Str.ofString ""), .str (Str.ofString "a"), .str (Str.ofString "^a"), .str (Str.ofString "a$"), .str (Str.ofString "^$"), .str (Str.ofString "$a"), .str (Str.ofString "a^"), .str (Str.ofString "ab"), .str (Str.ofString "A"), .str (Str.ofString "a\n"), .ref T0, .ref L0, .ref D0] ++ [.ref T1, .ref L1, .ref T2, .ref T3, .ref T4, .ref T5, .ref T6, .ref T7, .ref D1])) s2)
    have hpf := sPotS (f g_t0) hp
    have ns2 : S2 ≠ p := (sPotS g_t0 hp).ne s2
    have kf := Kp.same (p := p) (f g_t0)
    refine ⟨.ref p, rfl, .ref S2, rfl, p, n, .ref S2, rfl, hpf, by omega, .inr ⟨S2, _, rfl, fun hK => .inl (.inl (hK S2 _ ns2 upd_same)), (show 0 < 29 by decide), (show 29 ≤ 1000 by decide), fun v H9 hv hp9 k9 => ?_⟩⟩
    obtain ⟨d, od0, sm0⟩ : ∃ d, Od true p _ v d ∧ Sm 105 3 d := all29 nt0 nl0 m0 nd0 nt1 nl1 m1 nt2 nt3 nt4 nt5 nt6 nt7 nd1 (f g_l0 _ _ upd_same) (f g_d0 _ _ upd_same) (f g_s0 _ _ upd_same) (f g_l1 _ _ upd_same) (f g_t2 _ _ upd_same) (f g_t3 _ _ upd_same) (f g_t4 _ _ upd_same) (f g_t5 _ _ upd_same) (f g_t6 _ _ upd_same) (f g_t7 _ _ upd_same) (f g_d1 _ _ upd_same) (f g_s1 _ _ upd_same) v hv
    have od9 := od0.mono k9
    have k9' : Kp p H H9 := kf.trans k9
    clear od0 hv kf hpf ns2 k9 g_s1 g_d1 g_t0 g_l0 g_d0 g_s0 g_t1 g_l1 g_t2 g_t3 g_t4 g_t5 g_t6 g_t7 f s2 s1 d1 t7 t6 t5 t4 t3 t2 l1 t1 s0 d0 l0 t0
    clear nt0 nl0 nd0 ns0 nt1 nl1 nt2 nt3 nt4 nt5 nt6 nt7 nd1 m0 m1
    -- how often
    refine ⟨.ref p, rfl, sl 6 (by decide), fun l nl => ⟨p, n + 1, .ref l, rfl, hp9.up nl, by omega, .inr ⟨l, _, rfl, fun hK => .inl (.inl (hK l _ (hp9.ne nl) upd_same)), (show 0 < 6 by decide), (show 6 ≤ 1000 by decide), fun v2 H10 hv2 hp10 k10 => ?_⟩⟩⟩
    obtain ⟨m, rfl, hm⟩ : ∃ m : Nat, v2 = .int (m : Int) ∧ m ≤ 9 := by
      simp only [List.mem_cons, List.not_mem_nil, or_false] at hv2
      rcases hv2 with h | h | h | h | h | h
      · exact ⟨0, h, by decide⟩
      · exact ⟨0, h, by decide⟩
      · exact ⟨0, h, by decide⟩
      · exact ⟨1, h, by decide⟩
      · exact ⟨2, h, by decide⟩
      · exact ⟨9, h, by decide⟩
    have k10' : Kp p H9 H10 := (Kp.same (Same.upd nl)).trans k10
    refine ⟨_, rfl, by omega, by omega, ?_⟩
    refine for_it (walk_range (lo := 0) (n := m)) (fun i σ H2 => ∃ v d y3, σ = [some (.ref p), some (.ref S2), some v, y3] ∧ Od true p H2 v d ∧ Sm (105 + 3 * i) (3 + i) d ∧ Pot H2 p (n + 2 + i) ∧ Kp p H H2)
      ⟨v, d, none, rfl, od9.mono k10', sm0, hp10.mono (by omega), k9'.trans k10'⟩ (fun _ _ _ _ _ => True.intro) (fun i x σ H2 H2' hi hP hy => ?_) (fun σ H2 hP => ?_)
    · obtain ⟨v, d, y3, rfl, od, sm, hp2, k2⟩ := hP
      obtain ⟨rfl, rfl⟩ := hy
      refine ⟨.ref p, rfl, v, rfl, sl 1 (by decide), fun A1 a1 => ⟨v, rfl, sl 1 (by decide), fun A2 a2 mA2 A3 a3 => ⟨v, rfl, upd_same, [(.inr (Str.ofString "a"), v)], rfl, (show 1 ≤ 15 by decide), v, rfl, sl 2 (by decide), fun A4 a4 => ⟨v, rfl, sl 2 (by decide), fun A5 a5 => ⟨sl 5 (by decide), fun A6 a6 => ?_⟩⟩⟩⟩⟩
      have c6 := Same.upd (o := HO.lst [V.ref A1, V.ref A2, V.ref A3, V.ref A4, V.ref A5]) a6
      have c5 := (Same.upd a5).trans c6
      have c4 := (Same.upd a4).trans c5
      have c3 := (Same.mut (Same.upd a3) a3).trans c4
      have c2 := (Same.upd a2).trans c3
      have c1 := (Same.upd a1).trans c2
      have n1 : A1 ≠ p := hp2.ne a1
      have n2 : A2 ≠ p := (hp2.up a1).ne a2
      have n3 : A3 ≠ p := ((hp2.up a1).up a2).ne a3
      have n4 : A4 ≠ p := ((((hp2.up a1).up a2).up a3).wr n3).ne a4
      have n5 : A5 ≠ p := (((((hp2.up a1).up a2).up a3).wr n3).up a4).ne a5
      have n6 : A6 ≠ p := ((((((hp2.up a1).up a2).up a3).wr n3).up a4).up a5).ne a6
      have odE := od.mono fun b o _ z => c1 b o z
      refine ⟨p, n + 2 + i, .ref A6, rfl, sPotS c1 hp2, by omega, .inr ⟨A6, _, rfl, fun hK => .inl (.inl (hK A6 _ n6 upd_same)), (show 0 < 5 by decide), (show 5 ≤ 1000 by decide), fun v' H' hv' hp' k' => ?_⟩⟩
      obtain ⟨d', od', sm'⟩ : ∃ d', Od true p _ v' d' ∧ Sm (105 + 3 * (i + 1)) (3 + (i + 1)) d' := allc (P := fun v' => ∃ d', Od true p _ v' d' ∧ Sm (105 + 3 * (i + 1)) (3 + (i + 1)) d') ⟨_, .tup n1 (c2 _ _ upd_same) (.cons odE .nil), sm.tup1⟩ (allc ⟨_, .lst n2 (fun _ => mA2) (c3 _ _ upd_same) (.cons odE .nil), sm.lst1⟩
        (allc ⟨_, .dic1 rfl n3 (c4 _ _ upd_same) odE, sm.dic⟩ (allc ⟨_, .tup n4 (c5 _ _ upd_same) (.cons odE (.cons (.int 1) .nil)), sm.two1⟩ (allc ⟨_, .tup n5 (c6 _ _ upd_same) (.cons (.int 1) (.cons odE .nil)), sm.two2⟩ alln)))) v' hv'
      exact ⟨v', d', _, rfl, od'.mono k', sm', hp'.mono (by omega), k2.trans ((Kp.same c1).trans k')⟩
    · obtain ⟨v, d, y3, rfl, od, sm, hp2, k2⟩ := hP
      exact ⟨v, rfl, q v d H2 od (sm.mono (by omega) (by omega)) (hp2.mono (by omega)) k2⟩
end
end Sf4
/-! _law_bent. -/
namespace Sf6
open PySem PySem.Spec PyProof.Rows L2 Sf Sf4
abbrev sBent : Stmt := topS 53
def NBt : List Str := ["_law_pot_here", "_law_told", "_law_signs", "_law_at", "_law_sign", "_law_way"]
theorem scBent : FnScope NBt ["_law_pot_here", "_law_told"] (defScope sBent) := ⟨rfl, rfl, rfl, by decide +kernel, rfl, by decide +kernel, by decide +kernel⟩
/-- plain signs -/
def Asc (Z : List Nat) : Prop := ∀ c ∈ Z, c < 128
theorem Asc.app {a b : List Nat} (h : Asc a) (g : Asc b) : Asc (a ++ b) := fun c hc => (List.mem_append.mp hc).elim (h c) (g c)
theorem Asc.take {a : List Nat} (h : Asc a) (n : Nat) : Asc (a.take n) := fun c hc => h c (List.mem_of_mem_take hc)
theorem Asc.drop {a : List Nat} (h : Asc a) (n : Nat) : Asc (a.drop n) := fun c hc => h c (List.mem_of_mem_drop hc)
theorem add_b {a b : List Nat} (h : a.length + b.length ≤ 1000) : (tx a).length + (tx b).length ≤ sizeLine := by
  rw [tx_len, tx_len]
  exact Nat.le_trans h (by decide)
def sgnS : Str := Str.ofString "^$|()[]<>{},:*+?.-ab0 9_z12A"
theorem sgn_asc : ∀ c ∈ sgnS.cps.toList, c < 128 := by decide +kernel
def spBent : Sp := fun vs H Q _ => ∃ (p : Addr) (n : Int) (Z : List Nat), vs = [.ref p, .str (tx Z)] ∧ Pot H p n ∧ n ≤ 900000 ∧ Z.length ≤ 100 ∧ Asc Z ∧
  ∀ Z' H', Z'.length ≤ Z.length + 2 → Asc Z' → Pot H' p (n + 10) → Kp p H H' → Q (.str (tx Z')) H'
section
variable {P : Program} {w : World} {K : PySem.W.Frag} {mg : Str → Option Value} {base : Heap}
theorem ok_bent {f fD fA : Addr} {fd fdD fdA : FuncData} {k : Nat} (F : Fun K "_law_bent" "_law_bent" sBent f fd) (FD : Fun K "_law_draw" "_law_draw" sDraw fD fdD) (bD : Binds K fdD ["_law_pot_here", "_law_many"] []) (gD : mg "_law_draw" = some (.ref fD)) (GD : FnOk P w K mg base CX0 k fD fdD ["_law_pot_here", "_law_many"] spDraw)
    (FA : Fun K "_law_any" "_law_any" sAny fA fdA) (bA : Binds K fdA ["_law_pot_here", "_law_items"] []) (gA : mg "_law_any" = some (.ref fA)) (GA : FnOk P w K mg base CX0 k fA fdA ["_law_pot_here", "_law_items"] (spAny K)) (ml : mg "len" = none) (mx : mg "max" = none) :
    FnOk P w K mg base CX0 (k + 1) f fd ["_law_pot_here", "_law_told"] spBent := by
  refine F.ok scBent (fun vs H Q E h => ?_) (fun cdv A outer s H vs Q E hr h => ?_)
  · obtain ⟨p, n, Z, rfl, _⟩ := h
    rfl
  · obtain ⟨p, n, Z, rfl, hp, hn, hZ, ha, q⟩ := h
    refine ⟨_, pss_cons (ps_set (i := 2) scBent.nd rfl (.inl rfl) pe_str)
      (pss_cons (ps_par3 (i := 3) (j := 4) (l := 5) (by rfl) scBent.nd rfl rfl rfl (by decide) (by decide) (by decide) rfl rfl rfl
          (pa_cons (pe_call GD hr (by rfl) gD FD.kp bD .nil pass0 (pa_cons (pv 0) (pa_cons (pe_op op_add (pe_callB call_len_str (by rfl) ml PySem.boot_len (pa_cons (pv 1) pa_nil)) pe_int) pa_nil)))
          (pa_cons (pe_call GA hr (by rfl) gA FA.kp bA .nil pass0 (pa_cons (pv 0) (pa_cons (pv 2) pa_nil)))
          (pa_cons (pe_call GD hr (by rfl) gD FD.kp bD .nil pass0 (pa_cons (pv 0) (pa_cons pe_int pa_nil))) pa_nil))) (by rfl))
      (pss_cons (ps_if (pt_cmpR op_eq (pv 5) pe_int (nomark _)) (pss_one (ps_ret (pe_op op_add_str (pe_slice sl_str (pv 1) po_none (po_some (pv 3))) (pe_slice sl_str (pv 1) (po_some (pe_op op_add (pv 3) pe_int)) po_none)))) pss_nil)
      (pss_cons (ps_if (pt_cmpR op_eq (pv 5) pe_int (nomark _)) (pss_one (ps_ret (pe_op op_add_str (pe_op op_add_str (pe_slice sl_str (pv 1) po_none (po_some (pv 3))) (pv 4)) (pe_slice sl_str (pv 1) (po_some (pe_op op_add (pv 3) pe_int)) po_none)))) pss_nil)
      (pss_cons (ps_if (pt_cmpR op_eq (pv 5) pe_int (nomark _)) (pss_one (ps_ret (pe_op op_add_str (pe_slice sl_str (pv 1) po_none (po_some (pv 3))) (pe_slice sl_str (pv 1) (po_some (pe_callB (call_max2 rfl) (by rfl) mx (by decide +kernel) (pa_cons pe_int (pa_cons (pe_op op_sub (pv 3) pe_int) pa_nil)))) po_none)))) pss_nil)
      (pss_one (ps_ret (pe_op op_add_str (pe_op op_add_str (pe_slice sl_str (pv 1) po_none (po_some (pv 3))) (pv 4)) (pe_slice sl_str (pv 1) (po_some (pv 3)) po_none)))))))), ?_⟩
    have hZs := tx_len200 (Nat.le_trans hZ (by decide))
    refine ⟨.ref p, rfl, _, rfl, tx Z, rfl, hZs, _, _, rfl, rfl, p, n, _, rfl, hp, by omega, by rw [tx_len]; omega, by rw [tx_len]; omega, fun r H1 r0 r1 hp1 k1 => ?_⟩
    obtain ⟨a, rfl⟩ := Int.eq_ofNat_of_zero_le r0
    rw [tx_len] at r1
    refine ⟨.ref p, rfl, .str sgnS, rfl, p, _, _, rfl, hp1, by omega, .inl ⟨sgnS, rfl, by decide +kernel, by decide +kernel, fun c H2 hc hp2 k2 => ?_⟩⟩
    have hc1 : Asc [c] := fun e he => by
      rw [List.mem_singleton.mp he]
      exact sgn_asc c hc
    refine ⟨.ref p, rfl, p, _, 5, rfl, hp2, by omega, by decide, by decide, fun r5 H3 _ _ hp3 k3 => ⟨_, _, _, rfl, ?_⟩⟩
    have k03 := (k1.trans k2).trans k3
    have fin : ∀ Z', Z'.length ≤ Z.length + 2 → Asc Z' → Q (.str (tx Z')) H3 := fun Z' h1 h2 => q Z' H3 h1 h2 (hp3.mono (by omega)) k03
    have lt := List.length_take_le' a Z
    have ld : ∀ j, (Z.drop j).length = Z.length - j := fun j => List.length_drop
    have ltk : (Z.take a).length = min a Z.length := List.length_take
    refine ⟨_, rfl, rfl, _, rfl, ite2 (fun _ => ?_) (fun _ => ?_)⟩
    · refine ⟨_, rfl, _, rfl, a, rfl, tx Z, rfl, hZs, ?_⟩
      rw [cut_to]
      refine ⟨_, rfl, _, rfl, _, _, rfl, rfl, _, rfl, tx Z, rfl, hZs, ?_⟩
      rw [show cutS (tx Z) (some (((a : Nat) : Int) + 1)) none = tx (Z.drop (a + 1)) from cut_from Z (a + 1)]
      refine ⟨_, _, rfl, rfl, add_b (by rw [ld]; omega), ?_⟩
      rw [tx_app]
      exact fin _ (by rw [List.length_append, ld]; omega) ((ha.take a).app (ha.drop _))
    refine ⟨_, rfl, rfl, _, rfl, ite2 (fun _ => ?_) (fun _ => ?_)⟩
    · refine ⟨_, rfl, _, rfl, a, rfl, tx Z, rfl, hZs, ?_⟩
      rw [cut_to]
      refine ⟨_, rfl, _, _, rfl, rfl, add_b (b := [c]) (by rw [List.length_singleton]; omega), ?_⟩
      rw [show tx (Z.take a) ++ (⟨#[c]⟩ : Str) = tx (Z.take a ++ [c]) from tx_app _ [c]]
      refine ⟨_, rfl, _, rfl, _, _, rfl, rfl, _, rfl, tx Z, rfl, hZs, ?_⟩
      rw [show cutS (tx Z) (some (((a : Nat) : Int) + 1)) none = tx (Z.drop (a + 1)) from cut_from Z (a + 1)]
      refine ⟨_, _, rfl, rfl, add_b (by rw [List.length_append, List.length_singleton, ld]; omega), ?_⟩
      rw [tx_app]
      exact fin _ (by rw [List.length_append, List.length_append, List.length_singleton, ld]; omega) (((ha.take a).app hc1).app (ha.drop _))
    refine ⟨_, rfl, rfl, _, rfl, ite2 (fun _ => ?_) (fun _ => ?_)⟩
    · refine ⟨_, rfl, _, rfl, a, rfl, tx Z, rfl, hZs, ?_⟩
      rw [cut_to]
      refine ⟨_, rfl, _, rfl, _, _, rfl, rfl, _, _, rfl, ((a - 2 : Nat) : Int), ?_, tx Z, rfl, hZs, ?_⟩
      · refine congrArg V.int ?_
        split <;> omega
      rw [cut_from]
      refine ⟨_, _, rfl, rfl, add_b (by rw [ld]; omega), ?_⟩
      rw [tx_app]
      exact fin _ (by rw [List.length_append, ld]; omega) ((ha.take a).app (ha.drop _))
    · refine ⟨_, rfl, _, rfl, a, rfl, tx Z, rfl, hZs, ?_⟩
      rw [cut_to]
      refine ⟨_, rfl, _, _, rfl, rfl, add_b (b := [c]) (by rw [List.length_singleton]; omega), ?_⟩
      rw [show tx (Z.take a) ++ (⟨#[c]⟩ : Str) = tx (Z.take a ++ [c]) from tx_app _ [c]]
      refine ⟨_, rfl, _, rfl, a, rfl, tx Z, rfl, hZs, ?_⟩
      rw [cut_from]
      refine ⟨_, _, rfl, rfl, add_b (by rw [List.length_append, List.length_singleton, ld]; omega), ?_⟩
      rw [tx_app]
      exact fin _ (by rw [List.length_append, List.length_append, List.length_singleton, ld]; omega) (((ha.take a).app hc1).app (ha.drop _))
end
end Sf6
/-! _law_hand. -/
namespace Sf6
open PySem PySem.Spec PyProof.Rows L2 Sf Sf4
abbrev sHand : Stmt := topS 54
theorem scHand : FnScope ["_law_some"] [] (defScope sHand) := ⟨rfl, rfl, rfl, by decide +kernel, rfl, by decide +kernel, by decide +kernel⟩
def okV (v : V) : Bool := match v with
  | .str x => decide (x.length ≤ 30) && x.cps.toList.all fun c => decide (c < 128)
  | _ => false
theorem okV_of {v : V} (h : okV v = true) : ∃ Z, v = .str (tx Z) ∧ Z.length ≤ 30 ∧ Asc Z := by
  cases v with
  | str x =>
    obtain ⟨Z, rfl⟩ := tx_of x
    unfold okV at h
    dsimp only at h
    rw [Bool.and_eq_true, decide_eq_true_iff, tx_len, List.all_eq_true] at h
    exact ⟨Z, rfl, h.1, fun c hc => of_decide_eq_true (h.2 c hc)⟩
  | _ => cases h
def spHand : Sp := fun vs H Q _ => vs = [] ∧ ∀ L xs H', Same H H' → H' L = some (.lst xs) → (∀ v ∈ xs, okV v = true) → xs.length ≤ 200 → Q (.ref L) H'
section
variable {P : Program} {w : World} {K : PySem.W.Frag} {mg : Str → Option Value} {base : Heap}
theorem cat_k {H : Hp} {Q : VK} {A B : Addr} {xs ys : List V} (n : Nat) (ea : H A = some (.lst xs)) (eb : H B = some (.lst ys)) (hx : ∀ v ∈ xs, okV v = true) (hy : ys.all okV = true) (hl : xs.length ≤ n) (hn : n + ys.length ≤ 200) (q : ∀ W zs H', Same H H' → H' W = some (.lst zs) → (∀ v ∈ zs, okV v = true) → zs.length ≤ n + ys.length → Q (.ref W) H') :
    rCat (.ref A) (.ref B) H Q := by
  refine ⟨A, B, xs, ys, rfl, rfl, ea, eb, Nat.le_trans (show _ ≤ 200 by omega) (by decide), fun W nW => q W _ _ (smU nW) upd_same (fun v hv => ?_) (by rw [List.length_append]; omega)⟩
  rcases List.mem_append.mp hv with h | h
  · exact hx v h
  · exact List.all_eq_true.mp hy v h
theorem ok_hand {f : Addr} {fd : FuncData} {k : Nat} (F : Fun K "_law_hand" "_law_hand" sHand f fd) : FnOk P w K mg base CX0 (k + 1) f fd [] spHand := by
  refine F.ok scHand (fun vs H Q E h => ?_) (fun cdv A outer s H vs Q E hr h => ?_)
  · obtain ⟨rfl, _⟩ := h
    rfl
  · obtain ⟨rfl, q⟩ := h
    refine ⟨_, pss_cons (ps_set (i := 0) scHand.nd rfl (.inl rfl) (pe_lst (pa_cons pe_str (pa_cons pe_str (pa_cons pe_str (pa_cons pe_str (pa_cons pe_str (pa_cons pe_str (pa_cons pe_str (pa_cons pe_str (pa_cons pe_str (pa_cons pe_str (pa_cons pe_str (pa_cons pe_str (pa_cons pe_str (pa_cons pe_str pa_nil))))))))))))))))
      (pss_cons (ps_set (i := 0) scHand.nd rfl (.inl rfl) (pe_op op_cat (pv 0) (pe_lst (pa_cons pe_str (pa_cons pe_str (pa_cons pe_str (pa_cons pe_str (pa_cons pe_str (pa_cons pe_str (pa_cons pe_str (pa_cons pe_str (pa_cons pe_str (pa_cons pe_str (pa_cons pe_str pa_nil))))))))))))))
      (pss_cons (ps_set (i := 0) scHand.nd rfl (.inl rfl) (pe_op op_cat (pv 0) (pe_lst (pa_cons pe_str (pa_cons pe_str (pa_cons pe_str (pa_cons pe_str (pa_cons pe_str (pa_cons pe_str (pa_cons pe_str (pa_cons pe_str (pa_cons pe_str (pa_cons pe_str (pa_cons pe_str pa_nil))))))))))))))
      (pss_cons (ps_set (i := 0) scHand.nd rfl (.inl rfl) (pe_op op_cat (pv 0) (pe_lst (pa_cons pe_str (pa_cons pe_str (pa_cons pe_str (pa_cons pe_str (pa_cons pe_str (pa_cons pe_str (pa_cons pe_str (pa_cons pe_str (pa_cons pe_str (pa_cons pe_str pa_nil)))))))))))))
      (pss_cons (ps_set (i := 0) scHand.nd rfl (.inl rfl) (pe_op op_cat (pv 0) (pe_lst (pa_cons pe_str (pa_cons pe_str (pa_cons pe_str (pa_cons pe_str (pa_cons pe_str (pa_cons pe_str (pa_cons pe_str (pa_cons pe_str (pa_cons pe_str (pa_cons pe_str (pa_cons pe_str (pa_cons pe_str pa_nil)))))))))))))))
      (pss_cons (ps_set (i := 0) scHand.nd rfl (.inl rfl) (pe_op op_cat (pv 0) (pe_lst (pa_cons pe_str (pa_cons pe_str (pa_cons pe_str (pa_cons pe_str (pa_cons pe_str (pa_cons pe_str (pa_cons pe_str (pa_cons pe_str (pa_cons pe_str (pa_cons pe_str pa_nil)))))))))))))
      (pss_one (ps_ret (pe_op op_cat (pv 0) (pe_lst (pa_cons pe_str (pa_cons pe_str (pa_cons pe_str (pa_cons pe_str (pa_cons pe_str (pa_cons pe_str (pa_cons pe_str (pa_cons pe_str (pa_cons pe_str (pa_cons pe_str (pa_cons pe_str pa_nil)))))))))))))))))))), ?_⟩
    have sl : ∀ n : Nat, n ≤ 200 → n ≤ sizeLine := fun n h => Nat.le_trans h (by decide)
    refine ⟨sl 14 (by decide), fun L0 n0 => ?_⟩
    have s0 := smU (o := HO.lst [V.str (Str.ofString ""), V.str (Str.ofString "^"), V.str (Str.ofString "$"), V.str (Str.ofString "^$"), V.str (Str.ofString "^()$"), V.str (Str.ofString "()"), V.str (Str.ofString "a||b"), V.str (Str.ofString "|a"), V.str (Str.ofString "a|"), V.str (Str.ofString "(|a)"), V.str (Str.ofString "(a|)"), V.str (Str.ofString "a+?"), V.str (Str.ofString "a**"), V.str (Str.ofString "(a*)*")]) n0
    have e0 := upd_same (H := H) (a := L0) (o := HO.lst [V.str (Str.ofString ""), V.str (Str.ofString "^"), V.str (Str.ofString "$"), V.str (Str.ofString "^$"), V.str (Str.ofString "^()$"), V.str (Str.ofString "()"), V.str (Str.ofString "a||b"), V.str (Str.ofString "|a"), V.str (Str.ofString "a|"), V.str (Str.ofString "(|a)"), V.str (Str.ofString "(a|)"), V.str (Str.ofString "a+?"), V.str (Str.ofString "a**"), V.str (Str.ofString "(a*)*")])
    have o0 : ∀ v ∈ [V.str (Str.ofString ""), V.str (Str.ofString "^"), V.str (Str.ofString "$"), V.str (Str.ofString "^$"), V.str (Str.ofString "^()$"), V.str (Str.ofString "()"), V.str (Str.ofString "a||b"), V.str (Str.ofString "|a"), V.str (Str.ofString "a|"), V.str (Str.ofString "(|a)"), V.str (Str.ofString "(a|)"), V.str (Str.ofString "a+?"), V.str (Str.ofString "a**"), V.str (Str.ofString "(a*)*")], okV v = true := List.all_eq_true.mp (by decide +kernel)
    have l0 : ([V.str (Str.ofString ""), V.str (Str.ofString "^"), V.str (Str.ofString "$"), V.str (Str.ofString "^$"), V.str (Str.ofString "^()$"), V.str (Str.ofString "()"), V.str (Str.ofString "a||b"), V.str (Str.ofString "|a"), V.str (Str.ofString "a|"), V.str (Str.ofString "(|a)"), V.str (Str.ofString "(a|)"), V.str (Str.ofString "a+?"), V.str (Str.ofString "a**"), V.str (Str.ofString "(a*)*")] : List V).length ≤ 14 := by decide
    show (tSeq _ _) _ _ (upd H L0 (.lst [V.str (Str.ofString ""), V.str (Str.ofString "^"), V.str (Str.ofString "$"), V.str (Str.ofString "^$"), V.str (Str.ofString "^()$"), V.str (Str.ofString "()"), V.str (Str.ofString "a||b"), V.str (Str.ofString "|a"), V.str (Str.ofString "a|"), V.str (Str.ofString "(|a)"), V.str (Str.ofString "(a|)"), V.str (Str.ofString "a+?"), V.str (Str.ofString "a**"), V.str (Str.ofString "(a*)*")]))
    generalize upd H L0 (.lst [V.str (Str.ofString ""), V.str (Str.ofString "^"), V.str (Str.ofString "$"), V.str (Str.ofString "^$"), V.str (Str.ofString "^()$"), V.str (Str.ofString "()"), V.str (Str.ofString "a||b"), V.str (Str.ofString "|a"), V.str (Str.ofString "a|"), V.str (Str.ofString "(|a)"), V.str (Str.ofString "(a|)"), V.str (Str.ofString "a+?"), V.str (Str.ofString "a**"), V.str (Str.ofString "(a*)*")]) = H0 at s0 e0 ⊢
    generalize [V.str (Str.ofString ""), V.str (Str.ofString "^"), V.str (Str.ofString "$"), V.str (Str.ofString "^$"), V.str (Str.ofString "^()$"), V.str (Str.ofString "()"), V.str (Str.ofString "a||b"), V.str (Str.ofString "|a"), V.str (Str.ofString "a|"), V.str (Str.ofString "(|a)"), V.str (Str.ofString "(a|)"), V.str (Str.ofString "a+?"), V.str (Str.ofString "a**"), V.str (Str.ofString "(a*)*")] = xs0 at e0 o0 l0
    refine ⟨_, rfl, sl 11 (by decide), fun K1 k1 => cat_k 14 (smU k1 _ _ e0) upd_same o0 (by decide +kernel) l0 (by decide) fun L1 xs1 H1 t1 e1 o1 l1 => ?_⟩
    have s1 := s0.trans ((smU k1).trans t1)
    refine ⟨_, rfl, sl 11 (by decide), fun K2 k2 => cat_k 25 (smU k2 _ _ e1) upd_same o1 (by decide +kernel) l1 (by decide) fun L2 xs2 H2 t2 e2 o2 l2 => ?_⟩
    have s2 := s1.trans ((smU k2).trans t2)
    refine ⟨_, rfl, sl 10 (by decide), fun K3 k3 => cat_k 36 (smU k3 _ _ e2) upd_same o2 (by decide +kernel) l2 (by decide) fun L3 xs3 H3 t3 e3 o3 l3 => ?_⟩
    have s3 := s2.trans ((smU k3).trans t3)
    refine ⟨_, rfl, sl 12 (by decide), fun K4 k4 => cat_k 46 (smU k4 _ _ e3) upd_same o3 (by decide +kernel) l3 (by decide) fun L4 xs4 H4 t4 e4 o4 l4 => ?_⟩
    have s4 := s3.trans ((smU k4).trans t4)
    refine ⟨_, rfl, sl 10 (by decide), fun K5 k5 => cat_k 58 (smU k5 _ _ e4) upd_same o4 (by decide +kernel) l4 (by decide) fun L5 xs5 H5 t5 e5 o5 l5 => ?_⟩
    have s5 := s4.trans ((smU k5).trans t5)
    refine ⟨_, rfl, sl 11 (by decide), fun K6 k6 => cat_k 68 (smU k6 _ _ e5) upd_same o5 (by decide +kernel) l5 (by decide) fun L6 xs6 H6 t6 e6 o6 l6 => ?_⟩
    have s6 := s5.trans ((smU k6).trans t6)
    exact q L6 xs6 H6 s6 e6 o6 (Nat.le_trans l6 (by decide))
end
end Sf6
/-! _law_is_right. -/
namespace Sf6
open PySem PySem.Spec PyProof.Rows L2 Sf Sf4 LamX
abbrev sIR : Stmt := topS 55
def NIR : List Str := ["_law_thing", "_law_kept", "_law_due", "_law_both", "_law_told"]
theorem scIR : FnScope NIR ["_law_thing"] (defScope sIR) := ⟨rfl, rfl, rfl, by decide +kernel, rfl, by decide +kernel, by decide +kernel⟩
abbrev RTabs (T : Addr) : List (Addr × Str) := [(T, "_law_is_right" ++ ".<locals>." ++ "<lambda>")]
/-- what _law_met tells of a value -/
def Tl (v : V) (d : PyData) (tt : Addr) (H : Hp) : Prop := (isPd d = true ∧ ∃ x : Addr, H tt = some (.tup [.str tld, .ref x])) ∨ (isPd d = false ∧ H tt = some (.tup [.str bad, v]))
theorem Tl.ext {v : V} {d : PyData} {tt : Addr} {H H' : Hp} (h : Tl v d tt H) (e : ExtN H H') : Tl v d tt H' := by
  rcases h with ⟨a, x, h1⟩ | ⟨a, h1⟩
  · exact .inl ⟨a, x, e _ _ h1 (fun _ z => by cases z)⟩
  · exact .inr ⟨a, e _ _ h1 (fun _ z => by cases z)⟩
theorem Tl.wr {v : V} {d : PyData} {tt B : Addr} {H : Hp} {xs : List V} {o : HO} (h : Tl v d tt H) (eB : H B = some (.lst xs)) : Tl v d tt (upd H B o) := by
  rcases h with ⟨a, x, h1⟩ | ⟨a, h1⟩
  · exact .inl ⟨a, x, (upd_ne (lst_ne h1 eB)).trans h1⟩
  · exact .inr ⟨a, (upd_ne (lst_ne h1 eB)).trans h1⟩
theorem met_val2 {D p : Addr} {g : Bool} {H : Hp} {T : List (Addr × Str)} {Q : VK} {v : V} {d : PyData} {n m : Nat} (hT : Tabs T H) (od : Od g p H v d) (sm : Sm n m d) (hn : n ≤ 2000)
    (q : ∀ tt H', ExtN H H' → Tabs T H' → Tl v d tt H' → Q (.ref tt) H') :
    Tabs T H ∧ ∀ H1, ExtN H H1 → Tabs T H1 → TMet D (tlV D v d) H1 Q :=
  met_val hT od sm hn (fun hp x tt H' e T' et => q tt H' e T' (.inl ⟨hp, x, et⟩)) fun hp tt H' e T' et => q tt H' e T' (.inr ⟨hp, et⟩)
def spIR (T : Addr) : Sp := fun vs H Q _ => ∃ (v : V) (p : Addr) (d : PyData) (n m : Nat), vs = [v] ∧ Od true p H v d ∧ Sm n m d ∧ n ≤ 2000 ∧ m ≤ 60 ∧ Tabs (RTabs T) H ∧
  ∀ H', ExtN H H' → Tabs (RTabs T) H' → Q (.bl true) H'
section
variable {P : Program} {w : World} {K : PySem.W.Frag} {mg : Str → Option Value} {base : Heap} {rl : Nat → Addr} {rld : Nat → FuncData}
variable {C : Addr} {pf : Nat → Addr} {pfd : Nat → FuncData} {tk : Nat → Tok} {gR gW gS : Addr} {dR dW dS : FuncData}
variable {RC WC : Addr} {rf_ wf' : Nat → Addr} {rd wd : Nat → FuncData} {cd : Addr} {ces : Array DictEntry} {cn : Nat} {ct : Nat → Addr} {D fB : Addr} {dB : FuncData}
theorem ok_isRight {f fMet S N1 N2 c TT : Addr} {fd dMet : FuncData} (LR : LawR K mg rl rld) (T : PatT K mg C pf pfd tk gR gW dR dW) (TR : RT K w mg RC rf_ rd tk cd ces cn ct) (TW : WT K mg WC wf' wd tk) (TS : ST K mg tk gS dS) (B : Bad P w K mg base 1 D fB dB)
    (F : Fun K "_law_is_right" "_law_is_right" sIR f fd) (FMet : Fun K "_law_met" "_law_met" sMet fMet dMet) (bMet : Binds K dMet ["_law_ask"] []) (gMet : mg "_law_met" = some (.ref fMet)) (MC : MetC K mg D S N1 N2)
    (TB : TabB base mg c TT) (hcode : fd.code = .ref c) (mp : mg "repr" = none) : FnG P w K mg base 89 f fd ["_law_thing"] (spIR TT) := by
  obtain ⟨oc, od, kV, doc, pm, an, cdm, ctm, osl, em, lkm, cim⟩ := FMet.ex
  subst em
  refine okG2 (k := 88) F scIR (fun vs H Q E h => ?_) (fun cdv A outer s H vs Q E ecd hr hgd h => ?_)
  · obtain ⟨v, p, d, n, m, rfl, _⟩ := h
    rfl
  · obtain ⟨v, p, d, n, m, rfl, od, sm, hn, hm, hT, q⟩ := h
    have hu := hr.units
    have hcd : cdv = .ref c := ecd.symm.trans hcode
    have GI := ok_IP (P := P) (w := w) (base := base) LR
    have GM := ok_piV T TR B TW TS
    have kb := kb_pat T.mI.F
    refine ⟨_, pss_cons (ps_par (i := 1) (j := 2) (by rfl) scIR.nd rfl rfl (by decide) rfl rfl (pa_cons (pe_callB (cr_repr hgd hu) (by rfl) mp (by decide +kernel) (pa_cons (pv 0) pa_nil)) (pa_cons (pe_call GI (hr.mono (by decide)) (by rfl) LR.ip.g LR.ip.F.kp LR.ip.b .nil pass0 (pa_cons (pv 0) pa_nil)) pa_nil)) (by rfl))
      (pss_cons (ps_set (i := 3) scIR.nd rfl (.inl rfl) (pe_lst (pa_cons (pe_lamcall (T := RTabs TT) (k := 86) (Ng := NMet) (by rfl) gMet FMet.kp lkm cim bMet scMet rfl (.inl rfl) (met_gives MC) TB (by rw [hcd] <;> rfl) (List.mem_singleton.mpr rfl) (fun p hp _ => by rw [List.mem_singleton.mp hp] <;> rfl) hr (lamS_by (by show lamSB (defScope sIR) _ = true; decide +kernel)) rfl (fun _ _ _ _ _ => rfl)
            (fun _ _ _ _ E _ _ hq => pe_make T.mkC GM hq (by rfl) T.gC T.mI.b .nil (passes_call (takes_of rfl rfl rfl rfl) (fun _ _ _ _ h => h)) (pa_cons (pv 0) pa_nil))) pa_nil)))
      (pss_cons (ps_expr (pe_bm PySem.F.plainAttrs_list PySem.F.slot_list_append PySem.F.type_list_append mt_append (pv 3) (pa_cons (pe_lamcall (T := RTabs TT) (k := 86) (Ng := NMet) (by rfl) gMet FMet.kp lkm cim bMet scMet rfl (.inl rfl) (met_gives MC) TB (by rw [hcd] <;> rfl) (List.mem_singleton.mpr rfl) (fun p hp _ => by rw [List.mem_singleton.mp hp] <;> rfl) hr (lamS_by (by show lamSB (defScope sIR) _ = true; decide +kernel)) rfl (fun _ _ _ _ _ => rfl)
            (fun _ _ _ _ E _ _ hq => pe_makeK0 T.mkC GM hq (by rfl) T.gC kb (passes_call (takes_of rfl rfl rfl rfl) (fun _ _ _ _ h => h)) (pk_cons (pv 0) pk_nil))) pa_nil)))
      (pss_cons (ps_for PassesOwn.never rfl (pi_list (pv 3)) (pg_name (i := 4) scIR.nd rfl (.inl rfl))
        (pss_one (ps_if (PW.pt (pw_or (pt_cmpR op_ne (pe_ix ix_tup (pv 4) pe_int (fun _ _ => rfl)) (pe_ifExp (pt_val (pv 2)) pe_str pe_str) (nomark _)) (pw_or1 (PW.pt (pw_and (pt_not (pt_val (pv 2))) (pw_and1 (pt_cmpR op_ne (pe_callB (cr_repr hgd hu) (by rfl) mp (by decide +kernel) (pa_cons (pe_ix ix_tup (pv 4) pe_int (fun _ _ => rfl)) pa_nil)) (pv 1) (nomark _))))))))
          (pss_one (ps_ret pe_bl)) pss_nil)))
      (pss_one (ps_ret (pe_cmpR op_eq (pe_callB (cr_repr hgd hu) (by rfl) mp (by decide +kernel) (pa_cons (pv 0) pa_nil)) (pv 1) (nomark _))))))), ?_⟩
    have hn1 : n ≤ 100000 := by omega
    refine ⟨_, rfl, v, true, p, d, n, m, rfl, od, sm, hn1, hm, _, rfl, v, true, p, d, n, m, rfl, od, sm, hn, fun H1 s1 => ⟨_, _, rfl, ?_⟩⟩
    have x1 : ExtN H H1 := extS s1
    have hT1 := hT.ext s1
    refine use_met (met_val2 (D := D) hT1 (od.ext x1) sm hn fun t1 H2 x2 hT2 tl1 => ?_) (fun E H' Q' _ h => ?_)
    · refine ⟨(show 1 ≤ sizeLine by decide), fun B hB => ?_⟩
      have sB := smU (o := HO.lst [V.ref t1]) hB
      have x3 : ExtN H (upd H2 B (.lst [.ref t1])) := x1.trans (x2.trans (extS sB))
      refine ⟨.ref B, rfl, .inl ⟨rfl, _, .inl (.inl upd_same)⟩, ?_⟩
      refine use_met (met_val2 (D := D) (hT2.ext sB) (od.ext x3) sm hn fun t2 H3 x4 hT3 tl2 => ?_) (fun E H' Q' _ h => ?_)
      · have eB3 := lst_ext x4 (upd_same (H := H2) (a := B) (o := HO.lst [V.ref t1]))
        refine ⟨B, [.ref t1], .ref t2, rfl, rfl, eB3, (show 1 < sizeLine by decide), ?_⟩
        have E14 : ExtN H2 (upd H3 B (.lst [.ref t1, .ref t2])) := ExtN.mut ((extS sB).trans x4) hB
        have x5 : ExtN H (upd H3 B (.lst [.ref t1, .ref t2])) := x1.trans (x2.trans E14)
        have hT4 : Tabs (RTabs TT) (upd H3 B (.lst [.ref t1, .ref t2])) := Tabs.wr (o := HO.lst [V.ref t1, V.ref t2]) eB3 hT3
        have tl1' := tl1.ext E14
        have tl2' : Tl v d t2 (upd H3 B (.lst [.ref t1, .ref t2])) := tl2.wr eB3
        have eB4 : (upd H3 B (.lst [.ref t1, .ref t2])) B = some (.lst [.ref t1, .ref t2]) := upd_same
        show (tSeq _ _) _ _ (upd H3 B (.lst [.ref t1, .ref t2]))
        generalize upd H3 B (.lst [.ref t1, .ref t2]) = H4 at x5 hT4 tl1' tl2' eB4 ⊢
        refine ⟨_, rfl, B, rfl, ⟨_, .inl (.inl eB4)⟩, ?_⟩
        refine for_it (walk_list (K := K) (a := B) (xs := [.ref t1, .ref t2])) (fun i σ H' => ∃ z4, σ = [some v, some (.str d.shown), some (.bl (isPd d)), some (.ref B), z4] ∧ Same H4 H')
          ⟨_, rfl, Same.refl H4⟩ (fun i σ H' _ ⟨_, _, h⟩ => .inl (.inl (h _ _ eB4))) (fun i xi σ H5 H5' hi hP hy => ?_) (fun σ H5 hP => ?_)
        · obtain ⟨z4, rfl, s5⟩ := hP
          obtain ⟨rfl, hxi⟩ := hy
          obtain ⟨tt, rfl, tl⟩ : ∃ tt, xi = .ref tt ∧ Tl v d tt H4 := by
            match i, hxi with
            | 0, h => exact ⟨t1, (Option.some.inj h).symm, tl1'⟩
            | 1, h => exact ⟨t2, (Option.some.inj h).symm, tl2'⟩
          replace tl := tl.ext (extS s5)
          rcases tl with ⟨hB1, x, e⟩ | ⟨hB1, e⟩
          · rw [hB1]
            refine ⟨_, rfl, tt, _, 0, _, rfl, rfl, .inl (.inl e), atI_nat (j := 0) rfl, _, rfl, _, rfl, iteT ⟨rfl, _, rfl, ?_⟩⟩
            refine str_ne ?_
            exact ⟨_, rfl, _, rfl, iteF (iteF ⟨_, rfl, s5⟩)⟩
          · rw [hB1]
            refine ⟨_, rfl, tt, _, 0, _, rfl, rfl, .inl (.inl e), atI_nat (j := 0) rfl, _, rfl, _, rfl, iteF ⟨rfl, _, rfl, ?_⟩⟩
            refine str_ne ?_
            refine ⟨_, rfl, _, rfl, iteT ⟨_, rfl, tt, _, 1, _, rfl, rfl, .inl (.inl e), atI_nat (j := 1) rfl, v, true, p, d, n, m, rfl, od.ext (x5.trans (extS s5)), sm, hn1, hm, _, rfl, rfl, _, rfl, str_ne ?_⟩⟩
            exact ⟨_, rfl, s5⟩
        · obtain ⟨z4, rfl, s5⟩ := hP
          refine ⟨_, rfl, v, true, p, d, n, m, rfl, od.ext (x5.trans (extS s5)), sm, hn1, hm, _, rfl, rfl, ?_⟩
          rw [decide_eq_true rfl]
          exact q H5 (x5.trans (extS s5)) (hT4.ext s5)
      · obtain ⟨⟨g', p', n', m', od', sm', hn'⟩, h1, h2⟩ := h
        exact ⟨_, rfl, rfl, rfl, fun x1 dx1 hx1 hd1 nd1 => ⟨v, x1, dx1, g', p', d, n', m', rfl, upd_same, od'.ext (extS (mk_same hx1 hd1 (fun b o _ h => h))), sm', hn', fun hp H6 k6 => ⟨rfl, h1 hp x1 H6 (mk_same hx1 hd1 k6)⟩, fun hf dd H6 k6 e6 => h2 hf dd H6 (mk_same hx1 hd1 k6) e6⟩⟩
    · obtain ⟨⟨g', p', n', m', od', sm', hn'⟩, h1, h2⟩ := h
      exact ⟨_, rfl, fun x1 dx1 hx1 hd1 nd1 => ⟨v, x1, dx1, g', p', d, n', m', rfl, upd_same, od'.ext (extS (mk_same hx1 hd1 (fun b o _ h => h))), sm', hn', fun hp H6 k6 => ⟨rfl, h1 hp x1 H6 (mk_same hx1 hd1 k6)⟩, fun hf dd H6 k6 e6 => h2 hf dd H6 (mk_same hx1 hd1 k6) e6⟩⟩
end
end Sf6
/-! _law_right. -/
namespace Sf6
open PySem PySem.Spec PyProof.Rows L2 Sf Sf4 LamX
abbrev sRight6 : Stmt := topS 56
theorem asc_cons {c : Nat} {Z : List Nat} (h : c < 128) (g : Asc Z) : Asc (c :: Z) := fun e he => by
  rcases List.mem_cons.mp he with rfl | he
  · exact h
  · exact g e he
theorem asc_nil : Asc [] := fun _ h => nomatch h
def ascB (Z : List Nat) : Bool := Z.all fun c => decide (c < 128)
theorem asc_of {Z : List Nat} (h : ascB Z = true) : Asc Z := fun c hc => of_decide_eq_true (List.all_eq_true.mp h c hc)
theorem asc_num : ∀ a, a < 21 → ascB (num a) = true := by decide +kernel
theorem asc_cnt {a : Nat} {b : Option Nat} (h : a ≤ 20) (h2 : ∀ c, b = some c → a ≤ c ∧ c ≤ 20) : Asc (cntS a b) := by
  have ha := asc_of (asc_num a (by omega))
  unfold cntS
  cases b with
  | none =>
    dsimp only
    split
    · exact asc_of (by decide)
    · split
      · exact asc_of (by decide)
      · exact asc_cons (by decide) (ha.app (asc_of (by decide)))
  | some b =>
    have hb := asc_of (asc_num b (by have := (h2 b rfl).2; omega))
    dsimp only
    split
    · exact asc_of (by decide)
    · split
      · exact asc_cons (by decide) (ha.app (asc_of (by decide)))
      · exact asc_cons (by decide) (ha.app (asc_cons (by decide) (hb.app (asc_of (by decide)))))
theorem asc_grp {o : Bool} {Z : List Nat} (h : Asc Z) : Asc (grp o Z) := by
  unfold grp
  cases o with
  | true => exact asc_cons (by decide) (h.app (asc_of (by decide)))
  | false => exact h
theorem asc_let : ∀ c ∈ LETc, c < 128 := by decide +kernel
mutual
theorem prn_asc : ∀ t : Tr, wf t → Asc (prn t)
  | .place s, h => by
    have hs : Asc s := fun c hc => by
      rw [← h.2] at hc
      exact asc_let c (List.mem_filter.mp hc).1
    unfold prn
    split
    · exact asc_of (by decide)
    · split
      · exact hs
      · exact asc_cons (by decide) (hs.app (asc_of (by decide)))
  | .empty, _ => asc_of (by decide)
  | .capture n t, h => by
    have hn : Asc n := fun c hc => by
      have := h.2.2.1 c hc
      unfold small at this
      omega
    exact asc_cons (by decide) (hn.app (asc_cons (by decide) ((prn_asc t h.2.2.2).app (asc_of (by decide)))))
  | .chain l, h => prnCh_asc l h.2
  | .choice l, h => prnAl_asc l h.2
  | .count a b t, h => (asc_grp (prn_asc t h.2.2)).app (asc_cnt h.1 h.2.1)
theorem prnCh_asc : ∀ l : List Tr, wfL l → Asc (prnCh l)
  | [], _ => asc_nil
  | t :: r, h => (asc_grp (prn_asc t h.1)).app (prnCh_asc r h.2)
theorem prnAl_asc : ∀ l : List Tr, wfL l → Asc (prnAl l)
  | [], _ => asc_nil
  | t :: r, h => (asc_grp (prn_asc t h.1)).app (prnMo_asc r h.2)
theorem prnMo_asc : ∀ l : List Tr, wfL l → Asc (prnMo l)
  | [], _ => asc_nil
  | t :: r, h => asc_cons (by decide) ((asc_grp (prn_asc t h.1)).app (prnMo_asc r h.2))
end
theorem wstr_ok {l r : Bool} {t : Tr} (h : wf t) (h50 : (prn t).length ≤ 50) : (wstr l t r).length ≤ 52 ∧ Asc (wstr l t r) := by
  unfold wstr
  have h1 := prn_asc t h
  refine ⟨?_, ?_⟩
  · rw [List.length_append, List.length_append]
    cases l <;> cases r <;> simp only [if_true, if_false, Bool.false_eq_true, List.length_cons, List.length_nil] <;> omega
  · cases l <;> cases r <;> first | exact (asc_nil.app h1).app asc_nil | exact (asc_nil.app h1).app (asc_of (by decide)) | exact ((asc_of (by decide)).app h1).app asc_nil | exact ((asc_of (by decide)).app h1).app (asc_of (by decide)) | (simp only [if_true, if_false, Bool.false_eq_true]; refine Asc.app ?_ ?_ <;> first | exact asc_of (by decide) | exact h1 | (refine Asc.app ?_ ?_ <;> first | exact asc_of (by decide) | exact h1))
theorem sm_tx {Z : List Nat} {n : Nat} (h : Asc Z) (hl : Z.length ≤ n) : Sm n 0 (.str (tx Z)) := by
  refine ⟨rfl, ?_, ?_, Nat.le_refl 0⟩
  · show ((tx Z).cps.toList.all fun c => decide (c < 16 ^ 8)) = true
    rw [List.all_eq_true]
    intro c hc
    have := h c hc
    exact decide_eq_true (Nat.lt_of_lt_of_le this (by decide))
  · show (tx Z).length ≤ n
    rw [tx_len]
    exact hl
def NR6 : List Str := ["_law_pot_here", "_law_turn", "_law_told", "_law_bent_here", "_law_thing"]
theorem scR6 : FnScope NR6 ["_law_pot_here"] (defScope sRight6) := ⟨rfl, rfl, rfl, by decide +kernel, rfl, by decide +kernel, by decide +kernel⟩
def NM6 : Nm := [[120], [121, 121], [122]]
theorem nm6_ok : okNm NM6 := by
  intro n hn
  simp only [NM6, List.mem_cons, List.not_mem_nil, or_false] at hn
  rcases hn with rfl | rfl | rfl <;> exact ⟨by decide, by decide, by unfold small; decide⟩
def spRt6 (T : Addr) : Sp := fun vs H Q _ => ∃ p : Addr, vs = [.ref p] ∧ Pot H p 0 ∧ Tabs (RTabs T) H ∧ ∀ H', KpN p H H' → Tabs (RTabs T) H' → Q (.bl true) H'
section
variable {P : Program} {w : World} {K : PySem.W.Frag} {mg : Str → Option Value} {base : Heap} {f : Nat → Addr} {fd : Nat → FuncData}
theorem ok_right6 {fr fO fI fB TT : Addr} {dr dO dI dB : FuncData} (L : LawT K mg f fd) (F : Fun K "_law_right" "_law_right" sRight6 fr dr) (FO : Fun K "_law_odd" "_law_odd" sOdd fO dO) (bO : Binds K dO ["_law_pot_here"] []) (gO : mg "_law_odd" = some (.ref fO))
    (FB : Fun K "_law_bent" "_law_bent" sBent fB dB) (bB : Binds K dB ["_law_pot_here", "_law_told"] []) (gB : mg "_law_bent" = some (.ref fB)) (FI : Fun K "_law_is_right" "_law_is_right" sIR fI dI) (bI : Binds K dI ["_law_thing"] []) (gI : mg "_law_is_right" = some (.ref fI))
    (GI : FnG P w K mg base 89 fI dI ["_law_thing"] (spIR TT)) (zall : mg "all" = none) : FnG P w K mg base 90 fr dr ["_law_pot_here"] (spRt6 TT) := by
  refine okG (k := 89) F scR6 (fun vs H Q E h => ?_) (fun cdv A outer s H vs Q E hr hgd h => ?_)
  · obtain ⟨p, rfl, _⟩ := h
    rfl
  · obtain ⟨p, rfl, hp, hT, q⟩ := h
    have GA := law_any (P := P) (w := w) (base := base) L
    have GW := ok_wholeL (P := P) (w := w) (base := base) L
    have GP := ok_patS (P := P) (w := w) (base := base) L
    have GO := ok_odd (k := 2) FO L.any.F L.any.b L.any.g GA L.zrange
    have GB := ok_bent (k := 2) FB L.draw.F L.draw.b L.draw.g ((law_draw (P := P) (w := w) (base := base) L).mono (by decide)) L.any.F L.any.b L.any.g GA L.zlen L.zmax
    refine ⟨_, pss_cons (ps_for PassesOwn.never rfl (pi_range1 rfl L.zrange (pa_cons pe_int pa_nil)) (pg_name (i := 1) scR6.nd rfl (.inl rfl))
        (pss_cons (ps_set (i := 2) scR6.nd rfl (.inl rfl) (pe_call GP (hr.mono (by decide)) (by rfl) L.pats.g L.pats.F.kp L.pats.b .nil pass0 (pa_cons (pe_call GW (hr.mono (by decide)) (by rfl) L.whole.g L.whole.F.kp L.whole.b .nil pass0 (pa_cons (pv 0) (pa_cons (pe_call GA (hr.mono (by decide)) (by rfl) L.any.g L.any.F.kp L.any.b .nil pass0 (pa_cons (pv 0) (pa_cons (pe_lst (pa_cons pe_str (pa_cons pe_str pa_nil))) pa_nil)))
            (pa_cons pe_int (pa_cons (pe_lst (pa_cons pe_str (pa_cons pe_str (pa_cons pe_str pa_nil)))) pa_nil))))) pa_nil)))
        (pss_cons (ps_set (i := 3) scR6.nd rfl (.inl rfl) (pe_call GB (hr.mono (by decide)) (by rfl) gB FB.kp bB .nil pass0 (pa_cons (pv 0) (pa_cons (pv 2) pa_nil))))
        (Evl.pss_cut (ps_if (pt_not (pt_val (pe_callB (cr_all rfl) (by rfl) zall (by decide +kernel) (pa_cons (pe_lc (own := [("_law_thing", 4)]) (g := gName 4) (tt := tYes) rfl scR6.nd (pi_tup (pe_tup (pa_cons (pv 2) (pa_cons (pv 3) (pa_cons (pe_call GB (hr.mono (by decide)) (by rfl) gB FB.kp bB .nil pass0 (pa_cons (pv 0) (pa_cons (pv 3) pa_nil))) (pa_cons (pe_call GO (hr.mono (by decide)) (by rfl) gO FO.kp bO .nil pass0 (pa_cons (pv 0) pa_nil)) pa_nil))))))
            (blkOk_by (N := NR6) (sc := defScope sRight6) (by decide +kernel)) (fun _ _ _ _ _ => pg_name (i := 4) scR6.nd rfl (Or.inl rfl)) (fun _ _ _ _ _ => pts_nil)
            (te := tCall (spIR TT) [] E0 (tCons (tVar 4) tNil))
            (fun _ _ _ _ _ => pe_callG GI hr hgd (by rfl) gI FI.kp bI (pa_cons (pv 4) pa_nil) pass0)) pa_nil)))) (pss_one (ps_ret pe_bl)) pss_nil)
        (pss_one (ps_if (pt_not (pt_val (pe_callG GI hr hgd (by rfl) gI FI.kp bI (pa_cons (pe_call GB (hr.mono (by decide)) (by rfl) gB FB.kp bB .nil pass0 (pa_cons (pv 0) (pa_cons (pe_call GB (hr.mono (by decide)) (by rfl) gB FB.kp bB .nil pass0 (pa_cons (pv 0) (pa_cons (pv 3) pa_nil))) pa_nil))) pa_nil) pass0))) (pss_one (ps_ret pe_bl)) pss_nil))))))
      (pss_one (ps_ret pe_bl)), ?_⟩
    have eNM : nmV NM6 = [V.str (Str.ofString "x"), V.str (Str.ofString "yy"), V.str (Str.ofString "z")] := by decide +kernel
    refine ⟨_, rfl, by decide, by decide, ?_⟩
    refine for_it (walk_range (lo := 0) (n := 50)) (fun i σ H2 => ∃ y1 y2 y3 y4, σ = [some (.ref p), y1, y2, y3, y4] ∧ Pot H2 p (1400 * (i : Int)) ∧ KpN p H H2 ∧ Tabs (RTabs TT) H2)
      ⟨_, _, _, _, rfl, hp.mono (by omega), KpN.of (Kp.refl p H), hT⟩ (fun _ _ _ _ _ => True.intro) (fun i x σ H1o H1 hi hP hy => ?_) (fun σ H2 hP => ?_)
    · obtain ⟨y1, y2, y3, y4, rfl, hp1, k1, T1⟩ := hP
      obtain ⟨rfl, rfl⟩ := hy
      refine ⟨.ref p, rfl, .ref p, rfl, (show 2 ≤ sizeLine by decide), fun l nl => ⟨p, _, .ref l, rfl, hp1.up nl, by omega, .inr ⟨l, _, rfl, fun hK => .inl (.inl (hK l _ (hp1.ne nl) upd_same)), (show 0 < 2 by decide), (show 2 ≤ 1000 by decide), fun vM H2 hvM hp2 k2 => ?_⟩⟩⟩
      obtain ⟨L0, rfl, l0, lK, lc⟩ : ∃ L : List Nat, vM = .str (tx L) ∧ L ≠ [] ∧ L.length ≤ 38 ∧ ∀ c ∈ L, c ∈ LETc := by
        simp only [List.mem_cons, List.not_mem_nil, or_false] at hvM
        rcases hvM with rfl | rfl
        · exact ⟨[97, 98], by decide +kernel, by decide, by decide, by decide⟩
        · exact ⟨[97, 48, 95, 32, 122], by decide +kernel, by decide, by decide, by decide⟩
      have k2' : Kp p H1 H2 := (Kp.same (smU nl)).trans k2
      clear hvM k2
      refine ⟨(show 3 ≤ sizeLine by decide), fun ql nq => ⟨p, ql, _, L0, NM6, rfl, hp2.up nq, by omega, upd_same.trans (by rw [eNM]), nm6_ok, hp2.ne nq |>.symm, l0, lK, lc, fun a v t l r H3 nm' ea ht dt h24 h50 en hp3 k3 => ?_⟩⟩
      have k13 : Kp p H1 H3 := k2'.trans fun b o n hb => k3 b o n (ne_of_none hb nq) (smU nq _ _ hb)
      obtain ⟨w52, wA⟩ := wstr_ok (l := l) (r := r) dt.w h50
      refine ⟨a, v, t, l, r, rfl, ea, ht, dt, fun H4 s4 => ?_⟩
      generalize wstr l t r = Z0 at w52 wA ⊢
      have hp4 := hp3.same s4
      refine ⟨.ref p, rfl, _, rfl, p, _, Z0, rfl, hp4, by omega, by omega, wA, fun Z1 H5 l1 A1 hp5 k5 => ?_⟩
      have k15 := (k13.trans (Kp.same s4)).trans k5
      have vs6 : ∀ {Z : List Nat} {j : Nat}, Asc Z → Z.length ≤ 52 + j → j ≤ 10 → Sm 140 15 (.str (tx Z)) := fun h g e => (sm_tx h g).mono (by omega) (by decide)
      refine ⟨fun σ H9 => ∃ y4', σ = [some (.ref p), some (.int (0 + (i : Int))), some (.str (tx Z0)), some (.str (tx Z1)), y4'] ∧ Pot H9 p (1400 * (i : Int) + 1360) ∧ KpN p H H9 ∧ Tabs (RTabs TT) H9, ?_, fun σ H9 hM => ?_⟩
      · refine ⟨_, rfl, _, rfl, .ref p, rfl, _, rfl, p, _, Z1, rfl, hp5, by omega, by omega, A1, fun Z2 H6 l2 A2 hp6 k6 => ?_⟩
        refine ⟨.ref p, rfl, p, _, rfl, hp6, by omega, fun v d H7 od smd hp7 k7 => ⟨(show 4 ≤ sizeLine by decide), fun T0 n0 => ?_⟩⟩
        have s0 := smU (o := HO.tup [V.str (tx Z0), .str (tx Z1), .str (tx Z2), v]) n0
        have eT := upd_same (H := H7) (a := T0) (o := HO.tup [V.str (tx Z0), .str (tx Z1), .str (tx Z2), v])
        have k17 := k15.trans (k6.trans k7)
        have T7 := Tabs.kp hp1 k17 T1
        have T8 := T7.ext s0
        have hp8 := hp7.same s0
        refine ⟨T0, rfl, ⟨_, .inl (.inl upd_same)⟩, fun D hD => ?_⟩
        generalize upd H7 T0 (HO.tup [V.str (tx Z0), .str (tx Z1), .str (tx Z2), v]) = H8 at s0 eT T8 hp8 hD ⊢
        refine lc_it (walk_tup (K := K) (a := T0) (xs := [V.str (tx Z0), .str (tx Z1), .str (tx Z2), v])) (fun j H' => H' D = some (.lst ((List.replicate j true).map V.bl)) ∧ ExtN H8 H' ∧ Tabs (RTabs TT) H')
          ⟨upd_same, extS (smU hD), T8.ext (smU hD)⟩ (fun j H' _ hP => .inl (.inl (hP.2.1 _ _ eT (fun _ z => by cases z)))) (fun j xi Hxo Hx hj hP hy => ?_) (fun Hx hP => ?_)
        · obtain ⟨eD, xX, TX⟩ := hP
          obtain ⟨rfl, hxi⟩ := hy
          obtain ⟨d', od', sm'⟩ : ∃ d', Od true p Hx xi d' ∧ Sm 140 15 d' := by
            have hm := List.mem_of_getElem? hxi
            simp only [List.mem_cons, List.not_mem_nil, or_false] at hm
            rcases hm with rfl | rfl | rfl | rfl
            · exact ⟨_, .str _, vs6 (j := 0) wA (by omega) (by decide)⟩
            · exact ⟨_, .str _, vs6 (j := 2) A1 (by omega) (by decide)⟩
            · exact ⟨_, .str _, vs6 (j := 4) A2 (by omega) (by decide)⟩
            · exact ⟨d, od.ext ((extS s0).trans xX), smd⟩
          refine ⟨rfl, _, rfl, xi, p, d', 140, 15, rfl, od', sm', by decide, by decide, TX, fun Hy xy Ty => ?_⟩
          have eDy := xy _ _ eD (fun _ z => by cases z)
          refine ⟨_, eDy, ?_, ?_, (xX.trans xy).mut hD, Tabs.wr eDy Ty⟩
          · rw [List.length_map, List.length_replicate]
            exact Nat.lt_of_lt_of_le (show j < 4 from hj) (by decide)
          · rw [upd_same, List.replicate_succ', List.map_append] <;> rfl
        · obtain ⟨eD, xX, TX⟩ := hP
          refine ⟨D, _, rfl, .inl (.inl eD), _, rfl, ?_⟩
          rw [show (List.replicate [V.str (tx Z0), .str (tx Z1), .str (tx Z2), v].length true).all id = true from rfl]
          have x7X : ExtN H7 Hx := (extS s0).trans xX
          exact iteF ⟨_, rfl, (ExtN.pot x7X hp7).mono (by omega), k1.trans ((KpN.of k17).trans (KpN.ext x7X)), TX⟩
      obtain ⟨y4', rfl, hp9, k9, T9⟩ := hM
      refine ⟨.ref p, rfl, .ref p, rfl, _, rfl, p, _, Z1, rfl, hp9, by omega, by omega, A1, fun Z3 H10 l3 A3 hp10 k10 => ?_⟩
      refine ⟨p, _, Z3, rfl, hp10, by omega, by omega, A3, fun Z4 H11 l4 A4 hp11 k11 => ?_⟩
      refine ⟨.str (tx Z4), p, .str (tx Z4), 140, 15, rfl, .str _, vs6 (j := 6) A4 (by omega) (by decide), by decide, by decide, Tabs.kp hp9 (k10.trans k11) T9, fun H12 x12 T12 => ⟨true, rfl, iteF ?_⟩⟩
      exact ⟨_, _, _, _, rfl, (ExtN.pot x12 hp11).mono (by omega), k9.trans ((KpN.of (k10.trans k11)).trans (KpN.ext x12)), T12⟩
    · obtain ⟨y1, y2, y3, y4, rfl, hp1, k1, T1⟩ := hP
      exact q H2 k1 T1
end
end Sf6
/-! law. -/
namespace Sf6
open PySem PySem.Spec PyProof.Rows L2 Sf Sf4 LamX
abbrev sLaw6 : Stmt := topS 57
theorem _root_.L2.SqL.extN {K : PySem.W.Frag} {H H' : Hp} {a : Addr} {xs : List V} (s : ExtN H H') (h : SqL K H a xs) : SqL K H' a xs :=
  h.elim (fun r => .inl (r.elim (fun e => .inl (s _ _ e (fun _ z => by cases z))) (fun ⟨u, e⟩ => .inr ⟨u, s _ _ e (fun _ z => by cases z)⟩))) .inr
def NLw : List Str := ["_law_script", "_law_thing", "_law_k", "_law_pot_here"]
theorem scLaw6 : FnScope NLw ["_law_script"] (defScope sLaw6) := ⟨rfl, rfl, rfl, by decide +kernel, rfl, by decide +kernel, by decide +kernel⟩
section
variable {P : Program} {w : World} {K : PySem.W.Frag} {mg : Str → Option Value} {base : Heap} {f : Nat → Addr} {fd : Nat → FuncData}
def spLaw6 (K : PySem.W.Frag) (TT : Addr) : Sp := fun vs H Q _ => ∃ (a : Addr) (ns : List Int), vs = [.ref a] ∧ SqL K H a (ns.map V.int) ∧ ns.length ≤ 63 ∧ H TT = some (.tbl #[]) ∧ ∀ H', Q (.bl true) H'
theorem turns6 (n : Nat) : ∃ m : Nat, (if (if (n : Int) < 3 then (n : Int) else 3) > 1 then (if (n : Int) < 3 then (n : Int) else 3) else 1) = (m : Int) ∧ m ≤ 3 := by
  by_cases h3 : (n : Int) < 3
  · rw [if_pos h3]
    by_cases h1 : (n : Int) > 1
    · rw [if_pos h1]
      exact ⟨n, rfl, by omega⟩
    · rw [if_neg h1]
      exact ⟨1, rfl, by omega⟩
  · rw [if_neg h3]
    exact ⟨3, rfl, by omega⟩
theorem ok_law6 {fl fr fI fH TT : Addr} {fdl dr dI dH : FuncData} (L : LawT K mg f fd) (F : Fun K "law" "law" sLaw6 fl fdl) (FR : Fun K "_law_right" "_law_right" sRight6 fr dr) (bR : Binds K dr ["_law_pot_here"] []) (gR : mg "_law_right" = some (.ref fr)) (GR : FnG P w K mg base 90 fr dr ["_law_pot_here"] (spRt6 TT))
    (FI : Fun K "_law_is_right" "_law_is_right" sIR fI dI) (bI : Binds K dI ["_law_thing"] []) (gI : mg "_law_is_right" = some (.ref fI)) (GI : FnG P w K mg base 89 fI dI ["_law_thing"] (spIR TT))
    (FH : Fun K "_law_hand" "_law_hand" sHand fH dH) (bH : Binds K dH [] []) (gH : mg "_law_hand" = some (.ref fH)) (zall : mg "all" = none) : FnG P w K mg base 91 fl fdl ["_law_script"] (spLaw6 K TT) := by
  refine okG (k := 90) F scLaw6 (fun vs H Q E h => ?_) (fun cdv A outer s H vs Q E hr hgd h => ?_)
  · obtain ⟨a, ns, rfl, _⟩ := h
    rfl
  · obtain ⟨a, ns, rfl, hS, hlen, hT0, q⟩ := h
    have hT : Tabs (RTabs TT) H := fun r hr => by
      rw [List.mem_singleton.mp hr]
      exact TabS.nil hT0
    have GP := ok_pot (P := P) (w := w) (base := base) (k := 89) L.pot.F L.zint L.zabs L.zlen
    have GH := ok_hand (P := P) (w := w) (mg := mg) (base := base) (k := 0) FH
    refine ⟨_, pss_cons (ps_if (pt_not (pt_val (pe_callB (cr_all rfl) (by rfl) zall (by decide +kernel) (pa_cons (pe_lc (own := [("_law_thing", 1)]) (g := gName 1) (tt := tYes) rfl scLaw6.nd (pi_list (pe_call0 GH (hr.mono (by decide)) (by rfl) gH FH.kp bH .nil pass0))
            (blkOk_by (N := NLw) (sc := defScope sLaw6) (by decide +kernel)) (fun _ _ _ _ _ => pg_name (i := 1) scLaw6.nd rfl (Or.inl rfl)) (fun _ _ _ _ _ => pts_nil)
            (te := tCall (spIR TT) [] E0 (tCons (tVar 1) tNil))
            (fun _ _ _ _ _ => pe_callG GI (hr.mono (by decide)) hgd (by rfl) gI FI.kp bI (pa_cons (pv 1) pa_nil) pass0)) pa_nil)))) (pss_one (ps_ret pe_bl)) pss_nil)
      (pss_cons (ps_for PassesOwn.never rfl (pi_range1 rfl L.zrange (pa_cons (pe_callB (call_max2 rfl) (by rfl) L.zmax (by decide +kernel) (pa_cons pe_int (pa_cons
          (pe_callB (call_min2 rfl) (by rfl) L.zmin (by decide +kernel) (pa_cons pe_int (pa_cons (pe_callB call_len_seq (by rfl) L.zlen PySem.boot_len (pa_cons (pv 0) pa_nil)) pa_nil))) pa_nil))) pa_nil)) (pg_name (i := 2) scLaw6.nd rfl (.inl rfl))
        (pss_cons (ps_set (i := 3) scLaw6.nd rfl (.inl rfl) (pe_call GP hr (by rfl) L.pot.g L.pot.F.kp L.pot.b .nil pass0 (pa_cons (pv 0) (pa_cons (pv 2) pa_nil))))
        (pss_one (ps_if (pt_not (pt_val (pe_callG GR hr hgd (by rfl) gR FR.kp bR (pa_cons (pv 3) pa_nil) pass0))) (pss_one (ps_ret pe_bl)) pss_nil))))
      (pss_one (ps_ret pe_bl))), ?_⟩
    refine ⟨rfl, fun L0 xs H1 s1 eL okx lx => ⟨L0, rfl, ⟨_, .inl (.inl eL)⟩, fun D hD => ?_⟩⟩
    refine lc_it (walk_list (K := K) (a := L0) (xs := xs)) (fun j H' => H' D = some (.lst ((List.replicate j true).map V.bl)) ∧ ExtN H1 H' ∧ Tabs (RTabs TT) H')
      ⟨upd_same, extS (smU hD), (hT.ext s1).ext (smU hD)⟩ (fun j H' _ hP => .inl (.inl (hP.2.1 _ _ eL (fun _ z => by cases z)))) (fun j xi Hxo Hx hj hP hy => ?_) (fun Hx hP => ?_)
    · obtain ⟨eD, xX, TX⟩ := hP
      obtain ⟨rfl, hxi⟩ := hy
      obtain ⟨Z, rfl, lZ, aZ⟩ := okV_of (okx xi (List.mem_of_getElem? hxi))
      refine ⟨rfl, _, rfl, .str (tx Z), TT, .str (tx Z), 30, 0, rfl, .str _, sm_tx aZ lZ, by decide, by decide, TX, fun Hy xy Ty => ?_⟩
      have eDy := xy _ _ eD (fun _ z => by cases z)
      refine ⟨_, eDy, ?_, ?_, (xX.trans xy).mut hD, Tabs.wr eDy Ty⟩
      · rw [List.length_map, List.length_replicate]
        exact Nat.lt_of_lt_of_le (show j < 200 by have : j < xs.length := hj; omega) (by decide)
      · rw [upd_same, List.replicate_succ', List.map_append] <;> rfl
    · obtain ⟨eD, xX, TX⟩ := hP
      refine ⟨D, _, rfl, .inl (.inl eD), _, rfl, ?_⟩
      rw [show (List.replicate xs.length true).all id = true from List.all_eq_true.mpr fun b hb => (List.mem_replicate.mp hb).2]
      have xH : ExtN H Hx := (extS s1).trans xX
      have hS := SqL.extN xH hS
      refine iteF ?_
      refine ⟨.ref a, rfl, a, _, rfl, .inl hS, 3, _, rfl, 1, _, rfl, ?_⟩
      rw [List.length_map]
      obtain ⟨m, em, lm⟩ := turns6 ns.length
      rw [em]
      refine ⟨_, rfl, by omega, by omega, ?_⟩
      refine for_it (walk_range (lo := 0) (n := m)) (fun i σ H2 => ∃ y1 y2 y3, σ = [some (.ref a), y1, y2, y3] ∧ SqL K H2 a (ns.map V.int) ∧ Tabs (RTabs TT) H2) ⟨_, _, _, rfl, hS, TX⟩ (fun _ _ _ _ _ => True.intro) (fun i x σ H2 H2' hi hP hy => ?_) (fun σ H2 hP => ?_)
      · obtain ⟨y1, y2, y3, rfl, hS2, hT2⟩ := hP
        obtain ⟨rfl, rfl⟩ := hy
        refine ⟨.ref a, rfl, _, rfl, a, ns, i, by
          show [V.ref a, V.int ((0 : Int) + (i : Nat))] = _
          rw [Int.zero_add], hS2, by omega, fun p H3 np s3 hp3 => ?_⟩
        refine ⟨.ref p, rfl, p, rfl, hp3, hT2.ext s3, fun H4 k4 T4 => ⟨true, rfl, iteF ?_⟩⟩
        have s4 : ExtN H2' H4 := fun b o hb ho => k4 b o (fun z => by
          rw [z, np] at hb
          cases hb) (s3 b o hb) ho
        exact ⟨_, _, _, rfl, SqL.extN s4 hS2, T4⟩
      · exact q H2
end
end Sf6
set_option maxHeartbeats 2000000
namespace Sf6
open PySem PySem.Spec PyProof.Rows L2 Sf Sf4 LamX
theorem all_mk {l : PySem.W.OpenLaw} {w : World} {K : PySem.W.Frag} {h : Heap} {mg : Str → Option Value} {fa : Addr} (X : K.In h) (G : h.Ns mainGlobals mg) (hfa : mg "law" = some (.ref fa))
    {f0 : Addr} (a0 : PySem.W.nsIn K mainGlobals "read_pattern" = some (some (.ref f0)))
    {od0 an0 : Option Addr} {sl0 : Array (Option Value)} {oc0 kV0 dc0 pm0 cd0 ct0 : Value}
    (l0 : K.lookup f0 = some ⟨oc0, od0, .func (PySem.W.fnOf "read_pattern" "read_pattern" (defArgs sRp) (defBody sRp) (defScope sRp) .none kV0 dc0 pm0 an0 cd0 ct0), sl0⟩) (c0 : PySem.W.codeIn K cd0 "read_pattern" = true) (k0 : PySem.W.keepIn K (.ref f0) = true)
    {f1 : Addr} (a1 : PySem.W.nsIn K mainGlobals "size_of" = some (some (.ref f1)))
    {od1 an1 : Option Addr} {sl1 : Array (Option Value)} {oc1 kV1 dc1 pm1 cd1 ct1 : Value}
    (l1 : K.lookup f1 = some ⟨oc1, od1, .func (PySem.W.fnOf "size_of" "size_of" (defArgs sSize) (defBody sSize) (defScope sSize) .none kV1 dc1 pm1 an1 cd1 ct1), sl1⟩) (c1 : PySem.W.codeIn K cd1 "size_of" = true) (k1 : PySem.W.keepIn K (.ref f1) = true)
    {f2 : Addr} (a2 : PySem.W.nsIn K mainGlobals "written" = some (some (.ref f2)))
    {od2 an2 : Option Addr} {sl2 : Array (Option Value)} {oc2 kV2 dc2 pm2 cd2 ct2 : Value}
    (l2 : K.lookup f2 = some ⟨oc2, od2, .func (PySem.W.fnOf "written" "written" (defArgs sWrt) (defBody sWrt) (defScope sWrt) .none kV2 dc2 pm2 an2 cd2 ct2), sl2⟩) (c2 : PySem.W.codeIn K cd2 "written" = true) (k2 : PySem.W.keepIn K (.ref f2) = true)
    {f3 : Addr} (a3 : PySem.W.nsIn K mainGlobals "_law_pot" = some (some (.ref f3)))
    {od3 an3 : Option Addr} {sl3 : Array (Option Value)} {oc3 kV3 dc3 pm3 cd3 ct3 : Value}
    (l3 : K.lookup f3 = some ⟨oc3, od3, .func (PySem.W.fnOf "_law_pot" "_law_pot" (defArgs sPot) (defBody sPot) (defScope sPot) .none kV3 dc3 pm3 an3 cd3 ct3), sl3⟩) (c3 : PySem.W.codeIn K cd3 "_law_pot" = true) (k3 : PySem.W.keepIn K (.ref f3) = true)
    {f4 : Addr} (a4 : PySem.W.nsIn K mainGlobals "_law_draw" = some (some (.ref f4)))
    {od4 an4 : Option Addr} {sl4 : Array (Option Value)} {oc4 kV4 dc4 pm4 cd4 ct4 : Value}
    (l4 : K.lookup f4 = some ⟨oc4, od4, .func (PySem.W.fnOf "_law_draw" "_law_draw" (defArgs sDraw) (defBody sDraw) (defScope sDraw) .none kV4 dc4 pm4 an4 cd4 ct4), sl4⟩) (c4 : PySem.W.codeIn K cd4 "_law_draw" = true) (k4 : PySem.W.keepIn K (.ref f4) = true)
    {f5 : Addr} (a5 : PySem.W.nsIn K mainGlobals "_law_any" = some (some (.ref f5)))
    {od5 an5 : Option Addr} {sl5 : Array (Option Value)} {oc5 kV5 dc5 pm5 cd5 ct5 : Value}
    (l5 : K.lookup f5 = some ⟨oc5, od5, .func (PySem.W.fnOf "_law_any" "_law_any" (defArgs sAny) (defBody sAny) (defScope sAny) .none kV5 dc5 pm5 an5 cd5 ct5), sl5⟩) (c5 : PySem.W.codeIn K cd5 "_law_any" = true) (k5 : PySem.W.keepIn K (.ref f5) = true)
    {f6 : Addr} (a6 : PySem.W.nsIn K mainGlobals "_law_all_letters" = some (some (.ref f6)))
    {od6 an6 : Option Addr} {sl6 : Array (Option Value)} {oc6 kV6 dc6 pm6 cd6 ct6 : Value}
    (l6 : K.lookup f6 = some ⟨oc6, od6, .func (PySem.W.fnOf "_law_all_letters" "_law_all_letters" (defArgs sLets) (defBody sLets) (defScope sLets) .none kV6 dc6 pm6 an6 cd6 ct6), sl6⟩) (c6 : PySem.W.codeIn K cd6 "_law_all_letters" = true) (k6 : PySem.W.keepIn K (.ref f6) = true)
    {f7 : Addr} (a7 : PySem.W.nsIn K mainGlobals "_law_tree" = some (some (.ref f7)))
    {od7 an7 : Option Addr} {sl7 : Array (Option Value)} {oc7 kV7 dc7 pm7 cd7 ct7 : Value}
    (l7 : K.lookup f7 = some ⟨oc7, od7, .func (PySem.W.fnOf "_law_tree" "_law_tree" (defArgs sTree) (defBody sTree) (defScope sTree) .none kV7 dc7 pm7 an7 cd7 ct7), sl7⟩) (c7 : PySem.W.codeIn K cd7 "_law_tree" = true) (k7 : PySem.W.keepIn K (.ref f7) = true)
    {f8 : Addr} (a8 : PySem.W.nsIn K mainGlobals "_law_many_places" = some (some (.ref f8)))
    {od8 an8 : Option Addr} {sl8 : Array (Option Value)} {oc8 kV8 dc8 pm8 cd8 ct8 : Value}
    (l8 : K.lookup f8 = some ⟨oc8, od8, .func (PySem.W.fnOf "_law_many_places" "_law_many_places" (defArgs sMany) (defBody sMany) (defScope sMany) .none kV8 dc8 pm8 an8 cd8 ct8), sl8⟩) (c8 : PySem.W.codeIn K cd8 "_law_many_places" = true) (k8 : PySem.W.keepIn K (.ref f8) = true)
    {f9 : Addr} (a9 : PySem.W.nsIn K mainGlobals "_law_grouped" = some (some (.ref f9)))
    {od9 an9 : Option Addr} {sl9 : Array (Option Value)} {oc9 kV9 dc9 pm9 cd9 ct9 : Value}
    (l9 : K.lookup f9 = some ⟨oc9, od9, .func (PySem.W.fnOf "_law_grouped" "_law_grouped" (defArgs sGrouped) (defBody sGrouped) (defScope sGrouped) .none kV9 dc9 pm9 an9 cd9 ct9), sl9⟩) (c9 : PySem.W.codeIn K cd9 "_law_grouped" = true) (k9 : PySem.W.keepIn K (.ref f9) = true)
    {f10 : Addr} (a10 : PySem.W.nsIn K mainGlobals "_law_string" = some (some (.ref f10)))
    {od10 an10 : Option Addr} {sl10 : Array (Option Value)} {oc10 kV10 dc10 pm10 cd10 ct10 : Value}
    (l10 : K.lookup f10 = some ⟨oc10, od10, .func (PySem.W.fnOf "_law_string" "_law_string" (defArgs sString) (defBody sString) (defScope sString) .none kV10 dc10 pm10 an10 cd10 ct10), sl10⟩) (c10 : PySem.W.codeIn K cd10 "_law_string" = true) (k10 : PySem.W.keepIn K (.ref f10) = true)
    {f11 : Addr} (a11 : PySem.W.nsIn K mainGlobals "_law_whole" = some (some (.ref f11)))
    {od11 an11 : Option Addr} {sl11 : Array (Option Value)} {oc11 kV11 dc11 pm11 cd11 ct11 : Value}
    (l11 : K.lookup f11 = some ⟨oc11, od11, .func (PySem.W.fnOf "_law_whole" "_law_whole" (defArgs sWholeL) (defBody sWholeL) (defScope sWholeL) .none kV11 dc11 pm11 an11 cd11 ct11), sl11⟩) (c11 : PySem.W.codeIn K cd11 "_law_whole" = true) (k11 : PySem.W.keepIn K (.ref f11) = true)
    {f12 : Addr} (a12 : PySem.W.nsIn K mainGlobals "_law_pattern_string" = some (some (.ref f12)))
    {od12 an12 : Option Addr} {sl12 : Array (Option Value)} {oc12 kV12 dc12 pm12 cd12 ct12 : Value}
    (l12 : K.lookup f12 = some ⟨oc12, od12, .func (PySem.W.fnOf "_law_pattern_string" "_law_pattern_string" (defArgs sPatS) (defBody sPatS) (defScope sPatS) .none kV12 dc12 pm12 an12 cd12 ct12), sl12⟩) (c12 : PySem.W.codeIn K cd12 "_law_pattern_string" = true) (k12 : PySem.W.keepIn K (.ref f12) = true)
    {f13 : Addr} (a13 : PySem.W.nsIn K mainGlobals "_law_number_end" = some (some (.ref f13)))
    {od13 an13 : Option Addr} {sl13 : Array (Option Value)} {oc13 kV13 dc13 pm13 cd13 ct13 : Value}
    (l13 : K.lookup f13 = some ⟨oc13, od13, .func (PySem.W.fnOf "_law_number_end" "_law_number_end" (defArgs sNE) (defBody sNE) (defScope sNE) .none kV13 dc13 pm13 an13 cd13 ct13), sl13⟩) (c13 : PySem.W.codeIn K cd13 "_law_number_end" = true) (k13 : PySem.W.keepIn K (.ref f13) = true)
    {f14 : Addr} (a14 : PySem.W.nsIn K mainGlobals "_law_part" = some (some (.ref f14)))
    {od14 an14 : Option Addr} {sl14 : Array (Option Value)} {oc14 kV14 dc14 pm14 cd14 ct14 : Value}
    (l14 : K.lookup f14 = some ⟨oc14, od14, .func (PySem.W.fnOf "_law_part" "_law_part" (defArgs sLP) (defBody sLP) (defScope sLP) .none kV14 dc14 pm14 an14 cd14 ct14), sl14⟩) (c14 : PySem.W.codeIn K cd14 "_law_part" = true) (k14 : PySem.W.keepIn K (.ref f14) = true)
    {f15 : Addr} (a15 : PySem.W.nsIn K mainGlobals "_law_class_end" = some (some (.ref f15)))
    {od15 an15 : Option Addr} {sl15 : Array (Option Value)} {oc15 kV15 dc15 pm15 cd15 ct15 : Value}
    (l15 : K.lookup f15 = some ⟨oc15, od15, .func (PySem.W.fnOf "_law_class_end" "_law_class_end" (defArgs sCE) (defBody sCE) (defScope sCE) .none kV15 dc15 pm15 an15 cd15 ct15), sl15⟩) (c15 : PySem.W.codeIn K cd15 "_law_class_end" = true) (k15 : PySem.W.keepIn K (.ref f15) = true)
    {f16 : Addr} (a16 : PySem.W.nsIn K mainGlobals "_law_unit" = some (some (.ref f16)))
    {od16 an16 : Option Addr} {sl16 : Array (Option Value)} {oc16 kV16 dc16 pm16 cd16 ct16 : Value}
    (l16 : K.lookup f16 = some ⟨oc16, od16, .func (PySem.W.fnOf "_law_unit" "_law_unit" (defArgs sLU) (defBody sLU) (defScope sLU) .none kV16 dc16 pm16 an16 cd16 ct16), sl16⟩) (c16 : PySem.W.codeIn K cd16 "_law_unit" = true) (k16 : PySem.W.keepIn K (.ref f16) = true)
    {f17 : Addr} (a17 : PySem.W.nsIn K mainGlobals "_law_item" = some (some (.ref f17)))
    {od17 an17 : Option Addr} {sl17 : Array (Option Value)} {oc17 kV17 dc17 pm17 cd17 ct17 : Value}
    (l17 : K.lookup f17 = some ⟨oc17, od17, .func (PySem.W.fnOf "_law_item" "_law_item" (defArgs sLI) (defBody sLI) (defScope sLI) .none kV17 dc17 pm17 an17 cd17 ct17), sl17⟩) (c17 : PySem.W.codeIn K cd17 "_law_item" = true) (k17 : PySem.W.keepIn K (.ref f17) = true)
    {f18 : Addr} (a18 : PySem.W.nsIn K mainGlobals "_law_expression" = some (some (.ref f18)))
    {od18 an18 : Option Addr} {sl18 : Array (Option Value)} {oc18 kV18 dc18 pm18 cd18 ct18 : Value}
    (l18 : K.lookup f18 = some ⟨oc18, od18, .func (PySem.W.fnOf "_law_expression" "_law_expression" (defArgs sLE) (defBody sLE) (defScope sLE) .none kV18 dc18 pm18 an18 cd18 ct18), sl18⟩) (c18 : PySem.W.codeIn K cd18 "_law_expression" = true) (k18 : PySem.W.keepIn K (.ref f18) = true)
    {f19 : Addr} (a19 : PySem.W.nsIn K mainGlobals "_law_is_pattern" = some (some (.ref f19)))
    {od19 an19 : Option Addr} {sl19 : Array (Option Value)} {oc19 kV19 dc19 pm19 cd19 ct19 : Value}
    (l19 : K.lookup f19 = some ⟨oc19, od19, .func (PySem.W.fnOf "_law_is_pattern" "_law_is_pattern" (defArgs sIP) (defBody sIP) (defScope sIP) .none kV19 dc19 pm19 an19 cd19 ct19), sl19⟩) (c19 : PySem.W.codeIn K cd19 "_law_is_pattern" = true) (k19 : PySem.W.keepIn K (.ref f19) = true)
    {f20 : Addr} (a20 : PySem.W.nsIn K mainGlobals "_law_odd" = some (some (.ref f20)))
    {od20 an20 : Option Addr} {sl20 : Array (Option Value)} {oc20 kV20 dc20 pm20 cd20 ct20 : Value}
    (l20 : K.lookup f20 = some ⟨oc20, od20, .func (PySem.W.fnOf "_law_odd" "_law_odd" (defArgs sOdd) (defBody sOdd) (defScope sOdd) .none kV20 dc20 pm20 an20 cd20 ct20), sl20⟩) (c20 : PySem.W.codeIn K cd20 "_law_odd" = true) (k20 : PySem.W.keepIn K (.ref f20) = true)
    {f21 : Addr} (a21 : PySem.W.nsIn K mainGlobals "_law_met" = some (some (.ref f21)))
    {od21 an21 : Option Addr} {sl21 : Array (Option Value)} {oc21 kV21 dc21 pm21 cd21 ct21 : Value}
    (l21 : K.lookup f21 = some ⟨oc21, od21, .func (PySem.W.fnOf "_law_met" "_law_met" (defArgs sMet) (defBody sMet) (defScope sMet) .none kV21 dc21 pm21 an21 cd21 ct21), sl21⟩) (c21 : PySem.W.codeIn K cd21 "_law_met" = true) (k21 : PySem.W.keepIn K (.ref f21) = true)
    {f22 : Addr} (a22 : PySem.W.nsIn K mainGlobals "_law_bent" = some (some (.ref f22)))
    {od22 an22 : Option Addr} {sl22 : Array (Option Value)} {oc22 kV22 dc22 pm22 cd22 ct22 : Value}
    (l22 : K.lookup f22 = some ⟨oc22, od22, .func (PySem.W.fnOf "_law_bent" "_law_bent" (defArgs sBent) (defBody sBent) (defScope sBent) .none kV22 dc22 pm22 an22 cd22 ct22), sl22⟩) (c22 : PySem.W.codeIn K cd22 "_law_bent" = true) (k22 : PySem.W.keepIn K (.ref f22) = true)
    {f23 : Addr} (a23 : PySem.W.nsIn K mainGlobals "_law_hand" = some (some (.ref f23)))
    {od23 an23 : Option Addr} {sl23 : Array (Option Value)} {oc23 kV23 dc23 pm23 cd23 ct23 : Value}
    (l23 : K.lookup f23 = some ⟨oc23, od23, .func (PySem.W.fnOf "_law_hand" "_law_hand" (defArgs sHand) (defBody sHand) (defScope sHand) .none kV23 dc23 pm23 an23 cd23 ct23), sl23⟩) (c23 : PySem.W.codeIn K cd23 "_law_hand" = true) (k23 : PySem.W.keepIn K (.ref f23) = true)
    {f24 : Addr} (a24 : PySem.W.nsIn K mainGlobals "_law_is_right" = some (some (.ref f24)))
    {cR T : Addr} {eR : Value} {ddR : Option Addr} {vsR : Array Value} {slR : Array (Option Value)}
    {od24 an24 : Option Addr} {sl24 : Array (Option Value)} {oc24 kV24 dc24 pm24 ct24 : Value}
    (l24 : K.lookup f24 = some ⟨oc24, od24, .func (PySem.W.fnOf "_law_is_right" "_law_is_right" (defArgs sIR) (defBody sIR) (defScope sIR) .none kV24 dc24 pm24 an24 (.ref cR) ct24), sl24⟩) (c24 : PySem.W.codeIn K (.ref cR) "_law_is_right" = true) (k24 : PySem.W.keepIn K (.ref f24) = true)
    (r1 : K.lookup cR = some ⟨eR, ddR, .fields vsR, slR⟩) (r2 : vsR[11]? = some (.ref T)) (r3 : K.lookup T = none) (r4 : PySem.W.codeHdIn K cR T = true)
    {f25 : Addr} (a25 : PySem.W.nsIn K mainGlobals "_law_right" = some (some (.ref f25)))
    {od25 an25 : Option Addr} {sl25 : Array (Option Value)} {oc25 kV25 dc25 pm25 cd25 ct25 : Value}
    (l25 : K.lookup f25 = some ⟨oc25, od25, .func (PySem.W.fnOf "_law_right" "_law_right" (defArgs sRight6) (defBody sRight6) (defScope sRight6) .none kV25 dc25 pm25 an25 cd25 ct25), sl25⟩) (c25 : PySem.W.codeIn K cd25 "_law_right" = true) (k25 : PySem.W.keepIn K (.ref f25) = true)
    {f26 : Addr} (a26 : PySem.W.nsIn K mainGlobals "law" = some (some (.ref f26)))
    {od26 an26 : Option Addr} {sl26 : Array (Option Value)} {oc26 kV26 dc26 pm26 cd26 ct26 : Value}
    (l26 : K.lookup f26 = some ⟨oc26, od26, .func (PySem.W.fnOf "law" "law" (defArgs sLaw6) (defBody sLaw6) (defScope sLaw6) .none kV26 dc26 pm26 an26 cd26 ct26), sl26⟩) (c26 : PySem.W.codeIn K cd26 "law" = true) (k26 : PySem.W.keepIn K (.ref f26) = true)
    (z0 : PySem.W.nsIn K mainGlobals "int" = some none)
    (z1 : PySem.W.nsIn K mainGlobals "abs" = some none)
    (z2 : PySem.W.nsIn K mainGlobals "len" = some none)
    (z3 : PySem.W.nsIn K mainGlobals "max" = some none)
    (z4 : PySem.W.nsIn K mainGlobals "min" = some none)
    (z5 : PySem.W.nsIn K mainGlobals "range" = some none)
    (z6 : PySem.W.nsIn K mainGlobals "sum" = some none)
    (z7 : PySem.W.nsIn K mainGlobals "tuple" = some none)
    (z8 : PySem.W.nsIn K mainGlobals "str" = some none)
    (z9 : PySem.W.nsIn K mainGlobals "repr" = some none)
    (z10 : PySem.W.nsIn K mainGlobals "isinstance" = some none)
    (z11 : PySem.W.nsIn K mainGlobals "any" = some none)
    (z12 : PySem.W.nsIn K mainGlobals "sorted" = some none)
    (z13 : PySem.W.nsIn K mainGlobals "set" = some none)
    (z14 : PySem.W.nsIn K mainGlobals "all" = some none)
    (z15 : PySem.W.nsIn K mainGlobals "super" = some none)
    (z16 : PySem.W.nsIn K mainGlobals "ValueError" = some none)
    {tk0 : Tok} (v0 : PySem.W.nsIn K mainGlobals "LETTERS" = some (some (.str (Str.ofString " 0123456789_abcdefghijklmnopqrstuvwxyz") tk0)))
    {tk1 : Tok} (v1 : PySem.W.nsIn K mainGlobals "BEGIN" = some (some (.str (Str.ofString "^") tk1)))
    {tk2 : Tok} (v2 : PySem.W.nsIn K mainGlobals "END" = some (some (.str (Str.ofString "$") tk2)))
    {tk3 : Tok} (v3 : PySem.W.nsIn K mainGlobals "DIGITS" = some (some (.str (Str.ofString "0123456789") tk3)))
    {tk4 : Tok} (v4 : PySem.W.nsIn K mainGlobals "SMALL" = some (some (.str (Str.ofString "abcdefghijklmnopqrstuvwxyz") tk4)))
    {tk5 : Tok} (v5 : PySem.W.nsIn K mainGlobals "MOST_SIGNS" = some (some (.int 60 tk5)))
    {tk6 : Tok} (v6 : PySem.W.nsIn K mainGlobals "MOST_OPEN" = some (some (.int 8 tk6)))
    {tk7 : Tok} (v7 : PySem.W.nsIn K mainGlobals "MOST_NAME" = some (some (.int 8 tk7)))
    {tk8 : Tok} (v8 : PySem.W.nsIn K mainGlobals "MOST_COUNT" = some (some (.int 20 tk8)))
    {tk9 : Tok} (v9 : PySem.W.nsIn K mainGlobals "PLACE" = some (some (.str (Str.ofString "place") tk9)))
    {tk10 : Tok} (v10 : PySem.W.nsIn K mainGlobals "CHAIN" = some (some (.str (Str.ofString "chain") tk10)))
    {tk11 : Tok} (v11 : PySem.W.nsIn K mainGlobals "CHOICE" = some (some (.str (Str.ofString "choice") tk11)))
    {tk12 : Tok} (v12 : PySem.W.nsIn K mainGlobals "COUNT" = some (some (.str (Str.ofString "count") tk12)))
    {tk13 : Tok} (v13 : PySem.W.nsIn K mainGlobals "CAPTURE" = some (some (.str (Str.ofString "capture") tk13)))
    {tk14 : Tok} (v14 : PySem.W.nsIn K mainGlobals "EMPTY" = some (some (.str (Str.ofString "empty") tk14)))
    {tk15 : Tok} (v15 : PySem.W.nsIn K mainGlobals "MOST_PLACES" = some (some (.int 24 tk15)))
    {CR : Addr} (aR : PySem.W.nsIn K mainGlobals "PatternReader" = some (some (.ref CR))) (pgR : PySem.W.plainGet K CR Str.empty = true) (hdR : PySem.W.hasDictIn K CR = true) (poR : PySem.W.plainOver K CR = true) (saR : PySem.W.findIn K (.ref CR) "__setattr__" = some (some (.builtin "object.__setattr__"))) (mkR : PySem.W.makesIn K CR = true) (kcR : PySem.W.keepIn K (.ref CR) = true)
    (nR0 : PySem.W.findIn K (.ref CR) "string" = some none)
    (nR1 : PySem.W.findIn K (.ref CR) "spot" = some none)
    (nR2 : PySem.W.findIn K (.ref CR) "names" = some none)
    (nR3 : PySem.W.findIn K (.ref CR) "many_open" = some none)
    {fR0 : Addr} (iR0 : PySem.W.findIn K (.ref CR) "__init__" = some (some (.ref fR0))) (jR0 : PySem.W.isFn K (.ref fR0) = true)
    {odR0 anR0 : Option Addr} {slR0 : Array (Option Value)} {ocR0 kVR0 dcR0 pmR0 cdR0 ctR0 : Value}
    (lR0 : K.lookup fR0 = some ⟨ocR0, odR0, .func (PySem.W.fnOf "__init__" "PatternReader.__init__" (defArgs sRI) (defBody sRI) (defScope sRI) .none kVR0 dcR0 pmR0 anR0 cdR0 ctR0), slR0⟩) (cR0 : PySem.W.codeIn K cdR0 "PatternReader.__init__" = true) (kR0 : PySem.W.keepIn K (.ref fR0) = true)
    {fR1 : Addr} (iR1 : PySem.W.findIn K (.ref CR) "sign" = some (some (.ref fR1))) (jR1 : PySem.W.isFn K (.ref fR1) = true)
    {odR1 anR1 : Option Addr} {slR1 : Array (Option Value)} {ocR1 kVR1 dcR1 pmR1 cdR1 ctR1 : Value}
    (lR1 : K.lookup fR1 = some ⟨ocR1, odR1, .func (PySem.W.fnOf "sign" "PatternReader.sign" (defArgs sSign) (defBody sSign) (defScope sSign) .none kVR1 dcR1 pmR1 anR1 cdR1 ctR1), slR1⟩) (cR1 : PySem.W.codeIn K cdR1 "PatternReader.sign" = true) (kR1 : PySem.W.keepIn K (.ref fR1) = true)
    {fR2 : Addr} (iR2 : PySem.W.findIn K (.ref CR) "skips" = some (some (.ref fR2))) (jR2 : PySem.W.isFn K (.ref fR2) = true)
    {odR2 anR2 : Option Addr} {slR2 : Array (Option Value)} {ocR2 kVR2 dcR2 pmR2 cdR2 ctR2 : Value}
    (lR2 : K.lookup fR2 = some ⟨ocR2, odR2, .func (PySem.W.fnOf "skips" "PatternReader.skips" (defArgs sSkips) (defBody sSkips) (defScope sSkips) .none kVR2 dcR2 pmR2 anR2 cdR2 ctR2), slR2⟩) (cR2 : PySem.W.codeIn K cdR2 "PatternReader.skips" = true) (kR2 : PySem.W.keepIn K (.ref fR2) = true)
    {fR3 : Addr} (iR3 : PySem.W.findIn K (.ref CR) "demand" = some (some (.ref fR3))) (jR3 : PySem.W.isFn K (.ref fR3) = true)
    {odR3 anR3 : Option Addr} {slR3 : Array (Option Value)} {ocR3 kVR3 dcR3 pmR3 cdR3 ctR3 : Value}
    (lR3 : K.lookup fR3 = some ⟨ocR3, odR3, .func (PySem.W.fnOf "demand" "PatternReader.demand" (defArgs sDemand) (defBody sDemand) (defScope sDemand) .none kVR3 dcR3 pmR3 anR3 cdR3 ctR3), slR3⟩) (cR3 : PySem.W.codeIn K cdR3 "PatternReader.demand" = true) (kR3 : PySem.W.keepIn K (.ref fR3) = true)
    {fR4 : Addr} (iR4 : PySem.W.findIn K (.ref CR) "read_whole" = some (some (.ref fR4))) (jR4 : PySem.W.isFn K (.ref fR4) = true)
    {odR4 anR4 : Option Addr} {slR4 : Array (Option Value)} {ocR4 kVR4 dcR4 pmR4 cdR4 ctR4 : Value}
    (lR4 : K.lookup fR4 = some ⟨ocR4, odR4, .func (PySem.W.fnOf "read_whole" "PatternReader.read_whole" (defArgs sWhole) (defBody sWhole) (defScope sWhole) .none kVR4 dcR4 pmR4 anR4 cdR4 ctR4), slR4⟩) (cR4 : PySem.W.codeIn K cdR4 "PatternReader.read_whole" = true) (kR4 : PySem.W.keepIn K (.ref fR4) = true)
    {fR5 : Addr} (iR5 : PySem.W.findIn K (.ref CR) "read_choice" = some (some (.ref fR5))) (jR5 : PySem.W.isFn K (.ref fR5) = true)
    {odR5 anR5 : Option Addr} {slR5 : Array (Option Value)} {ocR5 kVR5 dcR5 pmR5 cdR5 ctR5 : Value}
    (lR5 : K.lookup fR5 = some ⟨ocR5, odR5, .func (PySem.W.fnOf "read_choice" "PatternReader.read_choice" (defArgs sChoice) (defBody sChoice) (defScope sChoice) .none kVR5 dcR5 pmR5 anR5 cdR5 ctR5), slR5⟩) (cR5 : PySem.W.codeIn K cdR5 "PatternReader.read_choice" = true) (kR5 : PySem.W.keepIn K (.ref fR5) = true)
    {fR6 : Addr} (iR6 : PySem.W.findIn K (.ref CR) "read_chain" = some (some (.ref fR6))) (jR6 : PySem.W.isFn K (.ref fR6) = true)
    {odR6 anR6 : Option Addr} {slR6 : Array (Option Value)} {ocR6 kVR6 dcR6 pmR6 cdR6 ctR6 : Value}
    (lR6 : K.lookup fR6 = some ⟨ocR6, odR6, .func (PySem.W.fnOf "read_chain" "PatternReader.read_chain" (defArgs sChain) (defBody sChain) (defScope sChain) .none kVR6 dcR6 pmR6 anR6 cdR6 ctR6), slR6⟩) (cR6 : PySem.W.codeIn K cdR6 "PatternReader.read_chain" = true) (kR6 : PySem.W.keepIn K (.ref fR6) = true)
    {fR7 : Addr} (iR7 : PySem.W.findIn K (.ref CR) "read_item" = some (some (.ref fR7))) (jR7 : PySem.W.isFn K (.ref fR7) = true)
    {odR7 anR7 : Option Addr} {slR7 : Array (Option Value)} {ocR7 kVR7 dcR7 pmR7 cdR7 ctR7 : Value}
    (lR7 : K.lookup fR7 = some ⟨ocR7, odR7, .func (PySem.W.fnOf "read_item" "PatternReader.read_item" (defArgs sItem) (defBody sItem) (defScope sItem) .none kVR7 dcR7 pmR7 anR7 cdR7 ctR7), slR7⟩) (cR7 : PySem.W.codeIn K cdR7 "PatternReader.read_item" = true) (kR7 : PySem.W.keepIn K (.ref fR7) = true)
    {fR8 : Addr} (iR8 : PySem.W.findIn K (.ref CR) "read_number" = some (some (.ref fR8))) (jR8 : PySem.W.isFn K (.ref fR8) = true)
    {odR8 anR8 : Option Addr} {slR8 : Array (Option Value)} {ocR8 kVR8 dcR8 pmR8 cdR8 ctR8 : Value}
    (lR8 : K.lookup fR8 = some ⟨ocR8, odR8, .func (PySem.W.fnOf "read_number" "PatternReader.read_number" (defArgs sNumber) (defBody sNumber) (defScope sNumber) .none kVR8 dcR8 pmR8 anR8 cdR8 ctR8), slR8⟩) (cR8 : PySem.W.codeIn K cdR8 "PatternReader.read_number" = true) (kR8 : PySem.W.keepIn K (.ref fR8) = true)
    {fR9 : Addr} (iR9 : PySem.W.findIn K (.ref CR) "read_unit" = some (some (.ref fR9))) (jR9 : PySem.W.isFn K (.ref fR9) = true)
    {odR9 anR9 : Option Addr} {slR9 : Array (Option Value)} {ocR9 kVR9 dcR9 pmR9 cdR9 ctR9 : Value}
    (lR9 : K.lookup fR9 = some ⟨ocR9, odR9, .func (PySem.W.fnOf "read_unit" "PatternReader.read_unit" (defArgs sUnit) (defBody sUnit) (defScope sUnit) .none kVR9 dcR9 pmR9 anR9 cdR9 ctR9), slR9⟩) (cR9 : PySem.W.codeIn K cdR9 "PatternReader.read_unit" = true) (kR9 : PySem.W.keepIn K (.ref fR9) = true)
    {fR10 : Addr} (iR10 : PySem.W.findIn K (.ref CR) "read_group" = some (some (.ref fR10))) (jR10 : PySem.W.isFn K (.ref fR10) = true)
    {odR10 anR10 : Option Addr} {slR10 : Array (Option Value)} {ocR10 kVR10 dcR10 pmR10 cdR10 ctR10 : Value}
    (lR10 : K.lookup fR10 = some ⟨ocR10, odR10, .func (PySem.W.fnOf "read_group" "PatternReader.read_group" (defArgs sGroup) (defBody sGroup) (defScope sGroup) .none kVR10 dcR10 pmR10 anR10 cdR10 ctR10), slR10⟩) (cR10 : PySem.W.codeIn K cdR10 "PatternReader.read_group" = true) (kR10 : PySem.W.keepIn K (.ref fR10) = true)
    {fR11 : Addr} (iR11 : PySem.W.findIn K (.ref CR) "read_capture" = some (some (.ref fR11))) (jR11 : PySem.W.isFn K (.ref fR11) = true)
    {odR11 anR11 : Option Addr} {slR11 : Array (Option Value)} {ocR11 kVR11 dcR11 pmR11 cdR11 ctR11 : Value}
    (lR11 : K.lookup fR11 = some ⟨ocR11, odR11, .func (PySem.W.fnOf "read_capture" "PatternReader.read_capture" (defArgs sCapture) (defBody sCapture) (defScope sCapture) .none kVR11 dcR11 pmR11 anR11 cdR11 ctR11), slR11⟩) (cR11 : PySem.W.codeIn K cdR11 "PatternReader.read_capture" = true) (kR11 : PySem.W.keepIn K (.ref fR11) = true)
    {fR12 : Addr} (iR12 : PySem.W.findIn K (.ref CR) "read_class" = some (some (.ref fR12))) (jR12 : PySem.W.isFn K (.ref fR12) = true)
    {odR12 anR12 : Option Addr} {slR12 : Array (Option Value)} {ocR12 kVR12 dcR12 pmR12 cdR12 ctR12 : Value}
    (lR12 : K.lookup fR12 = some ⟨ocR12, odR12, .func (PySem.W.fnOf "read_class" "PatternReader.read_class" (defArgs sClass) (defBody sClass) (defScope sClass) .none kVR12 dcR12 pmR12 anR12 cdR12 ctR12), slR12⟩) (cR12 : PySem.W.codeIn K cdR12 "PatternReader.read_class" = true) (kR12 : PySem.W.keepIn K (.ref fR12) = true)
    {fR13 : Addr} (iR13 : PySem.W.findIn K (.ref CR) "read_part" = some (some (.ref fR13))) (jR13 : PySem.W.isFn K (.ref fR13) = true)
    {odR13 anR13 : Option Addr} {slR13 : Array (Option Value)} {ocR13 kVR13 dcR13 pmR13 cdR13 ctR13 : Value}
    (lR13 : K.lookup fR13 = some ⟨ocR13, odR13, .func (PySem.W.fnOf "read_part" "PatternReader.read_part" (defArgs sPart) (defBody sPart) (defScope sPart) .none kVR13 dcR13 pmR13 anR13 cdR13 ctR13), slR13⟩) (cR13 : PySem.W.codeIn K cdR13 "PatternReader.read_part" = true) (kR13 : PySem.W.keepIn K (.ref fR13) = true)
    {CW : Addr} (aW : PySem.W.nsIn K mainGlobals "Written" = some (some (.ref CW))) (pgW : PySem.W.plainGet K CW Str.empty = true) (hdW : PySem.W.hasDictIn K CW = true) (poW : PySem.W.plainOver K CW = true) (saW : PySem.W.findIn K (.ref CW) "__setattr__" = some (some (.builtin "object.__setattr__"))) (mkW : PySem.W.makesIn K CW = true) (kcW : PySem.W.keepIn K (.ref CW) = true)
    (nW0 : PySem.W.findIn K (.ref CW) "letters" = some none)
    (nW1 : PySem.W.findIn K (.ref CW) "followers" = some none)
    {fW0 : Addr} (iW0 : PySem.W.findIn K (.ref CW) "__init__" = some (some (.ref fW0))) (jW0 : PySem.W.isFn K (.ref fW0) = true)
    {odW0 anW0 : Option Addr} {slW0 : Array (Option Value)} {ocW0 kVW0 dcW0 pmW0 cdW0 ctW0 : Value}
    (lW0 : K.lookup fW0 = some ⟨ocW0, odW0, .func (PySem.W.fnOf "__init__" "Written.__init__" (defArgs sWI) (defBody sWI) (defScope sWI) .none kVW0 dcW0 pmW0 anW0 cdW0 ctW0), slW0⟩) (cW0 : PySem.W.codeIn K cdW0 "Written.__init__" = true) (kW0 : PySem.W.keepIn K (.ref fW0) = true)
    {fW1 : Addr} (iW1 : PySem.W.findIn K (.ref CW) "link" = some (some (.ref fW1))) (jW1 : PySem.W.isFn K (.ref fW1) = true)
    {odW1 anW1 : Option Addr} {slW1 : Array (Option Value)} {ocW1 kVW1 dcW1 pmW1 cdW1 ctW1 : Value}
    (lW1 : K.lookup fW1 = some ⟨ocW1, odW1, .func (PySem.W.fnOf "link" "Written.link" (defArgs sLink) (defBody sLink) (defScope sLink) .none kVW1 dcW1 pmW1 anW1 cdW1 ctW1), slW1⟩) (cW1 : PySem.W.codeIn K cdW1 "Written.link" = true) (kW1 : PySem.W.keepIn K (.ref fW1) = true)
    {fW2 : Addr} (iW2 : PySem.W.findIn K (.ref CW) "joined" = some (some (.ref fW2))) (jW2 : PySem.W.isFn K (.ref fW2) = true)
    {odW2 anW2 : Option Addr} {slW2 : Array (Option Value)} {ocW2 kVW2 dcW2 pmW2 cdW2 ctW2 : Value}
    (lW2 : K.lookup fW2 = some ⟨ocW2, odW2, .func (PySem.W.fnOf "joined" "Written.joined" (defArgs sJoined) (defBody sJoined) (defScope sJoined) .none kVW2 dcW2 pmW2 anW2 cdW2 ctW2), slW2⟩) (cW2 : PySem.W.codeIn K cdW2 "Written.joined" = true) (kW2 : PySem.W.keepIn K (.ref fW2) = true)
    {fW3 : Addr} (iW3 : PySem.W.findIn K (.ref CW) "part_of" = some (some (.ref fW3))) (jW3 : PySem.W.isFn K (.ref fW3) = true)
    {odW3 anW3 : Option Addr} {slW3 : Array (Option Value)} {ocW3 kVW3 dcW3 pmW3 cdW3 ctW3 : Value}
    (lW3 : K.lookup fW3 = some ⟨ocW3, odW3, .func (PySem.W.fnOf "part_of" "Written.part_of" (defArgs sPartOf) (defBody sPartOf) (defScope sPartOf) .none kVW3 dcW3 pmW3 anW3 cdW3 ctW3), slW3⟩) (cW3 : PySem.W.codeIn K cdW3 "Written.part_of" = true) (kW3 : PySem.W.keepIn K (.ref fW3) = true)
    {fW4 : Addr} (iW4 : PySem.W.findIn K (.ref CW) "counted" = some (some (.ref fW4))) (jW4 : PySem.W.isFn K (.ref fW4) = true)
    {odW4 anW4 : Option Addr} {slW4 : Array (Option Value)} {ocW4 kVW4 dcW4 pmW4 cdW4 ctW4 : Value}
    (lW4 : K.lookup fW4 = some ⟨ocW4, odW4, .func (PySem.W.fnOf "counted" "Written.counted" (defArgs sCounted) (defBody sCounted) (defScope sCounted) .none kVW4 dcW4 pmW4 anW4 cdW4 ctW4), slW4⟩) (cW4 : PySem.W.codeIn K cdW4 "Written.counted" = true) (kW4 : PySem.W.keepIn K (.ref fW4) = true)
    {CP : Addr} (aP : PySem.W.nsIn K mainGlobals "Pattern" = some (some (.ref CP))) (pgP : PySem.W.plainGet K CP Str.empty = true) (hdP : PySem.W.hasDictIn K CP = true) (poP : PySem.W.plainOver K CP = true) (saP : PySem.W.findIn K (.ref CP) "__setattr__" = some (some (.builtin "object.__setattr__"))) (mkP : PySem.W.makesIn K CP = true) (kcP : PySem.W.keepIn K (.ref CP) = true)
    (nP0 : PySem.W.findIn K (.ref CP) "is_bound_left" = some none)
    (nP1 : PySem.W.findIn K (.ref CP) "tree" = some none)
    (nP2 : PySem.W.findIn K (.ref CP) "is_bound_right" = some none)
    (nP3 : PySem.W.findIn K (.ref CP) "string" = some none)
    (nP4 : PySem.W.findIn K (.ref CP) "names" = some none)
    (nP5 : PySem.W.findIn K (.ref CP) "places" = some none)
    (nP6 : PySem.W.findIn K (.ref CP) "first" = some none)
    (nP7 : PySem.W.findIn K (.ref CP) "last" = some none)
    (nP8 : PySem.W.findIn K (.ref CP) "later_places" = some none)
    {fP0 : Addr} (iP0 : PySem.W.findIn K (.ref CP) "__init__" = some (some (.ref fP0))) (jP0 : PySem.W.isFn K (.ref fP0) = true)
    {odP0 anP0 : Option Addr} {slP0 : Array (Option Value)} {ocP0 kVP0 dcP0 pmP0 cdP0 ctP0 : Value}
    (lP0 : K.lookup fP0 = some ⟨ocP0, odP0, .func (PySem.W.fnOf "__init__" "Pattern.__init__" (defArgs sPI) (defBody sPI) (defScope sPI) .none kVP0 dcP0 pmP0 anP0 cdP0 ctP0), slP0⟩) (cP0 : PySem.W.codeIn K cdP0 "Pattern.__init__" = true) (kP0 : PySem.W.keepIn K (.ref fP0) = true)
    {fP1 : Addr} (iP1 : PySem.W.findIn K (.ref CP) "__eq__" = some (some (.ref fP1))) (jP1 : PySem.W.isFn K (.ref fP1) = true)
    {odP1 anP1 : Option Addr} {slP1 : Array (Option Value)} {ocP1 kVP1 dcP1 pmP1 cdP1 ctP1 : Value}
    (lP1 : K.lookup fP1 = some ⟨ocP1, odP1, .func (PySem.W.fnOf "__eq__" "Pattern.__eq__" (defArgs sPEq) (defBody sPEq) (defScope sPEq) .none kVP1 dcP1 pmP1 anP1 cdP1 ctP1), slP1⟩) (cP1 : PySem.W.codeIn K cdP1 "Pattern.__eq__" = true) (kP1 : PySem.W.keepIn K (.ref fP1) = true)
    (haP : PySem.W.findIn K (.ref CP) "__class__" = some (some (.builtin "object.__class__"))) (hnP : PySem.W.specialIn K (.builtin "object.__class__") "__get__" = some (some (.builtin "getset_descriptor.__get__"))) (htP : PySem.W.takesIn K (.builtin "object.__class__") = some true) (hmP : PySem.W.mroIn K CP (.type "object") = some true)
    (kk1 : PySem.W.kitOne K (.ref CP) (.ref CP) = some true) (kk2 : PySem.W.kitOne K (.type "str") (.ref CP) = some false) (sbP : PySem.W.subIn K (.type "str") (.ref CP) = some false)
    {dC U0 U1 U2 : Addr} {ces : Array DictEntry} {cn nn0 nn1 nn2 : Nat} {dx0 dx1 dx2 : Option Addr} {sx0 sx1 sx2 : Array (Option Value)} {ta tb tc td : Tok}
    (aCs : PySem.W.nsIn K mainGlobals "COUNTS" = some (some (.ref dC))) (lCs : K.lookup dC = some ⟨.type "dict", none, .dict ces cn, #[]⟩) (klCs : PySem.W.KeysLit w.params ces.toList) (loCs : (dC == sysModules) = false)
    (qq0 : PySem.W.nsIn K dC "*" = some (some (.ref U0))) (qq1 : PySem.W.nsIn K dC "+" = some (some (.ref U1))) (qq2 : PySem.W.nsIn K dC "?" = some (some (.ref U2)))
    (qk : ∃ h1 h2 h3 t1 t2 t3 v1 v2 v3, ces.toList = [⟨h1, .str (Str.ofString "*") t1, v1⟩, ⟨h2, .str (Str.ofString "+") t2, v2⟩, ⟨h3, .str (Str.ofString "?") t3, v3⟩])
    (lU0 : K.lookup U0 = some ⟨.type "tuple", dx0, .seq [Value.int 0 ta, Value.none].toArray nn0, sx0⟩) (lU1 : K.lookup U1 = some ⟨.type "tuple", dx1, .seq [Value.int 1 tb, Value.none].toArray nn1, sx1⟩) (lU2 : K.lookup U2 = some ⟨.type "tuple", dx2, .seq [Value.int 0 tc, Value.int 1 td].toArray nn2, sx2⟩)
    {D S N1 N2 fB cc cda : Addr} {nm q : Str} {NN : Addr} {bs : List Value} {sn : List Str} {sub : List Value} {ab : Bool} {col : Option Bool} {dd : Option Addr} {m0 m1 m2 m3 m5 : Option Value}
    {params : Arguments} {scope : Scope} {dVB kVB dcB pmB ctB ocB clB ccl : Value} {anB odB cld cdd : Option Addr} {osl csl ccs : Array (Option Value)} {vs2 : Array Value} {file : Str} {tf : Tok} {ar : Arg} {p1 p2 p3 p4 p5 p6 q1 q2 q3 q4 : Pos} {pl : Sem Bool}
    (aD : PySem.W.nsIn K mainGlobals "BadPattern" = some (some (.ref D))) (aS : PySem.W.nsIn K mainGlobals "SiftError" = some (some (.ref S))) (aN1 : PySem.W.nsIn K mainGlobals "NoName" = some (some (.ref N1))) (aN2 : PySem.W.nsIn K mainGlobals "BadQuestion" = some (some (.ref N2)))
    (xL : K.lookup D = some (excClassObj nm q D NN bs [.ref S, .type "ValueError", .type "Exception", .type "BaseException", .type "object"] true sn sub ab col dd m0 m1 m2 m3 m5 "ValueError.__new__"))
    (sa : PySem.W.findIn K (.ref D) "__setattr__" = some (some (.builtin "object.__setattr__"))) (exC : PySem.W.subIn K (.ref D) (.type "BaseException") = some true) (tyC : PySem.W.typeIn K (.ref D) = some (.type "type")) (kC : PySem.W.keepIn K (.ref D) = true)
    (ga : PySem.W.findIn K (.ref D) "__getattribute__" = some (some (.builtin "BaseException.__getattribute__"))) (gg : PySem.W.findIn K (.ref D) "__getattr__" = some none) (hdC : PySem.W.hasDictIn K D = true) (nv : PySem.W.findIn K (.ref D) "value" = some none)
    (ha : PySem.W.findIn K (.ref D) "__class__" = some (some (.builtin "object.__class__"))) (hn : PySem.W.specialIn K (.builtin "object.__class__") "__get__" = some (some (.builtin "getset_descriptor.__get__"))) (ht : PySem.W.takesIn K (.builtin "object.__class__") = some true) (hm : PySem.W.mroIn K D (.type "object") = some true)
    (su : PySem.W.ks_superIn K D D "__init__" = some (some (.builtin "ValueError.__init__"))) (sb : PySem.W.subIn K (.ref D) (.type "ValueError") = some true) (an : PySem.W.nsIn K cStatics "thirdparty.any" = some none) (ow : PySem.W.mroIn K D (.ref D) = some true)
    (e0 : PySem.W.exmOne K (.ref D) (.ref S) = some true) (e1 : PySem.W.kitOne K (.ref D) (.ref D) = some true) (e2 : PySem.W.kitOne K (.ref D) (.type "ValueError") = some true) (e3 : PySem.W.kitAny K (.ref D) [.ref N1, .ref N2] = some false)
    (iB : PySem.W.findIn K (.ref D) "__init__" = some (some (.ref fB))) (tB : PySem.W.typeIn K (.ref fB) = some (.type "function"))
    (lB : K.lookup fB = some ⟨ocB, odB, .func (PySem.W.ksFn "__init__" "BadPattern.__init__" params [.Expr (.Call (.Attribute (.Call (.Name "super" p1) [] [] p2) "__init__" p3) [.Name "value" p4] [] p5) p6, .Assign [.Attribute (.Name "self" q1) "value" q2] (.Name "value" q3) q4] scope dVB kVB dcB pmB anB (.ref cda) ctB cc), osl⟩)
    (cB : PySem.W.codeIn K (.ref cda) "BadPattern.__init__" = true) (hcell : K.lookup cc = some ⟨clB, cld, .cell (some (.ref D)), csl⟩) (hcode : K.lookup cda = some ⟨ccl, cdd, .fields vs2, ccs⟩) (hvs : vs2[2]? = some (.str file tf)) (hfile : ((l.prog.main.file : Str) == file) = true)
    (sS : SupS scope)
    (T1 : ∀ L, interactive (PySem.W.ksEnv "BadPattern.__init__" scope L fB (.ref cda) cc) = false)
    (T2 : ∀ L, swapsWith (.Call (.Attribute (.Call (.Name "super" p1) [] [] p2) "__init__" p3) [.Name "value" p4] [] p5) none p6.line (PySem.W.ksEnv "BadPattern.__init__" scope L fB (.ref cda) cc) = pure false)
    (T3 : ∀ L, eval (.Call (.Attribute (.Call (.Name "super" p1) [] [] p2) "__init__" p3) [.Name "value" p4] [] p5) (PySem.W.ksEnv "BadPattern.__init__" scope L fB (.ref cda) cc) = (do
      let ov ← attributeBase (.Call (.Name "super" p1) [] [] p2) "__init__" (PySem.W.ksEnv "BadPattern.__init__" scope L fB (.ref cda) cc) (eval (.Call (.Name "super" p1) [] [] p2) (PySem.W.ksEnv "BadPattern.__init__" scope L fB (.ref cda) cc))
      standAt p3.atName
      let (fn, first) ← holding [ov] (getMethod ov "__init__" pl)
      callWith p5 fn first (backTo p5 (starEach [.Name "value" p4] (PySem.W.ksEnv "BadPattern.__init__" scope L fB (.ref cda) cc))) []))
    (T4 : ∀ L, swapsWith (.Name "value" q3) (some (.Attribute (.Name "self" q1) "value" q2)) q4.line (PySem.W.ksEnv "BadPattern.__init__" scope L fB (.ref cda) cc) = pure false)
    (htop : (l.prog.main.scope.names.lookup ("super" : Str)).isSome = false) (hp : (params.posonlyargs ++ params.args).head? = some ar) (har : ar.arg = "self")
    (bB : ∀ us : List Value, us.length = 2 → bindArgs (PySem.W.ksFn "__init__" "BadPattern.__init__" params [.Expr (.Call (.Attribute (.Call (.Name "super" p1) [] [] p2) "__init__" p3) [.Name "value" p4] [] p5) p6, .Assign [.Attribute (.Name "self" q1) "value" q2] (.Name "value" q3) q4] scope dVB kVB dcB pmB anB (.ref cda) ctB cc) ⟨us, []⟩ = pure ((["self", "value"] : List Str).zip us))
    : ∃ (fd fdR : FuncData) (c T fR : Addr) (o : Obj) (e : Value) (dd : Option Addr) (vs : Array Value) (sl : Array (Option Value)), K.lookup T = none ∧ PySem.W.codeHdIn K c T = true ∧ mg "_law_is_right" = some (.ref fR) ∧ K.lookup fR = some o ∧ o.data = .func fdR ∧ fdR.code = .ref c ∧
      K.lookup c = some ⟨e, dd, .fields vs, sl⟩ ∧ vs[11]? = some (.ref T) ∧ (∀ (s : Shared) (v : Value), BindsTo s fd ⟨[v], []⟩ [("_law_script", v)]) ∧ ∀ base : Heap, K.In base → base.Ns mainGlobals mg → LamX.TabB base mg c T → FnG l.prog w K mg base 91 fa fd ["_law_script"] (spLaw6 K T) := by
  have e := hfa.symm.trans (PySem.W.mg_of X G a26)
  cases e
  have F0 := fun_mk (st := sRp) l0 c0 k0
  have b0 := F0.binds (ps := ["value"]) fun _ _ _ _ _ _ us hl => match us, hl with | [_], _ => rfl
  have g0 := PySem.W.mg_of X G a0
  have F1 := fun_mk (st := sSize) l1 c1 k1
  have b1 := F1.binds (ps := ["tree"]) fun _ _ _ _ _ _ us hl => match us, hl with | [_], _ => rfl
  have g1 := PySem.W.mg_of X G a1
  have F2 := fun_mk (st := sWrt) l2 c2 k2
  have b2 := F2.binds (ps := ["tree"]) fun _ _ _ _ _ _ us hl => match us, hl with | [_], _ => rfl
  have g2 := PySem.W.mg_of X G a2
  have F3 := fun_mk (st := sPot) l3 c3 k3
  have b3 := F3.binds (ps := ["_law_script", "_law_k"]) fun _ _ _ _ _ _ us hl => match us, hl with | [_, _], _ => rfl
  have g3 := PySem.W.mg_of X G a3
  have F4 := fun_mk (st := sDraw) l4 c4 k4
  have b4 := F4.binds (ps := ["_law_pot_here", "_law_many"]) fun _ _ _ _ _ _ us hl => match us, hl with | [_, _], _ => rfl
  have g4 := PySem.W.mg_of X G a4
  have F5 := fun_mk (st := sAny) l5 c5 k5
  have b5 := F5.binds (ps := ["_law_pot_here", "_law_items"]) fun _ _ _ _ _ _ us hl => match us, hl with | [_, _], _ => rfl
  have g5 := PySem.W.mg_of X G a5
  have F6 := fun_mk (st := sLets) l6 c6 k6
  have b6 := F6.binds (ps := []) fun _ _ _ _ _ _ us hl => match us, hl with | [], _ => rfl
  have g6 := PySem.W.mg_of X G a6
  have F7 := fun_mk (st := sTree) l7 c7 k7
  have b7 := F7.binds (ps := ["_law_pot_here", "_law_deep", "_law_letters", "_law_names"]) fun _ _ _ _ _ _ us hl => match us, hl with | [_, _, _, _], _ => rfl
  have g7 := PySem.W.mg_of X G a7
  have F8 := fun_mk (st := sMany) l8 c8 k8
  have b8 := F8.binds (ps := ["_law_tree_here"]) fun _ _ _ _ _ _ us hl => match us, hl with | [_], _ => rfl
  have g8 := PySem.W.mg_of X G a8
  have F9 := fun_mk (st := sGrouped) l9 c9 k9
  have b9 := F9.binds (ps := ["_law_tree_here", "_law_words"]) fun _ _ _ _ _ _ us hl => match us, hl with | [_, _], _ => rfl
  have g9 := PySem.W.mg_of X G a9
  have F10 := fun_mk (st := sString) l10 c10 k10
  have b10 := F10.binds (ps := ["_law_tree_here"]) fun _ _ _ _ _ _ us hl => match us, hl with | [_], _ => rfl
  have g10 := PySem.W.mg_of X G a10
  have F11 := fun_mk (st := sWholeL) l11 c11 k11
  have b11 := F11.binds (ps := ["_law_pot_here", "_law_letters", "_law_most", "_law_names"]) fun _ _ _ _ _ _ us hl => match us, hl with | [_, _, _, _], _ => rfl
  have g11 := PySem.W.mg_of X G a11
  have F12 := fun_mk (st := sPatS) l12 c12 k12
  have b12 := F12.binds (ps := ["_law_whole_here"]) fun _ _ _ _ _ _ us hl => match us, hl with | [_], _ => rfl
  have g12 := PySem.W.mg_of X G a12
  have F13 := fun_mk (st := sNE) l13 c13 k13
  have b13 := F13.binds (ps := ["_law_text", "_law_at"]) fun _ _ _ _ _ _ us hl => match us, hl with | [_, _], _ => rfl
  have g13 := PySem.W.mg_of X G a13
  have F14 := fun_mk (st := sLP) l14 c14 k14
  have b14 := F14.binds (ps := ["_law_text", "_law_at"]) fun _ _ _ _ _ _ us hl => match us, hl with | [_, _], _ => rfl
  have g14 := PySem.W.mg_of X G a14
  have F15 := fun_mk (st := sCE) l15 c15 k15
  have b15 := F15.binds (ps := ["_law_text", "_law_at"]) fun _ _ _ _ _ _ us hl => match us, hl with | [_, _], _ => rfl
  have g15 := PySem.W.mg_of X G a15
  have F16 := fun_mk (st := sLU) l16 c16 k16
  have b16 := F16.binds (ps := ["_law_text", "_law_at", "_law_deep", "_law_used"]) fun _ _ _ _ _ _ us hl => match us, hl with | [_, _, _, _], _ => rfl
  have g16 := PySem.W.mg_of X G a16
  have F17 := fun_mk (st := sLI) l17 c17 k17
  have b17 := F17.binds (ps := ["_law_text", "_law_at", "_law_deep", "_law_used"]) fun _ _ _ _ _ _ us hl => match us, hl with | [_, _, _, _], _ => rfl
  have g17 := PySem.W.mg_of X G a17
  have F18 := fun_mk (st := sLE) l18 c18 k18
  have b18 := F18.binds (ps := ["_law_text", "_law_at", "_law_deep", "_law_used"]) fun _ _ _ _ _ _ us hl => match us, hl with | [_, _, _, _], _ => rfl
  have g18 := PySem.W.mg_of X G a18
  have F19 := fun_mk (st := sIP) l19 c19 k19
  have b19 := F19.binds (ps := ["_law_thing"]) fun _ _ _ _ _ _ us hl => match us, hl with | [_], _ => rfl
  have g19 := PySem.W.mg_of X G a19
  have F20 := fun_mk (st := sOdd) l20 c20 k20
  have b20 := F20.binds (ps := ["_law_pot_here"]) fun _ _ _ _ _ _ us hl => match us, hl with | [_], _ => rfl
  have g20 := PySem.W.mg_of X G a20
  have F21 := fun_mk (st := sMet) l21 c21 k21
  have b21 := F21.binds (ps := ["_law_ask"]) fun _ _ _ _ _ _ us hl => match us, hl with | [_], _ => rfl
  have g21 := PySem.W.mg_of X G a21
  have F22 := fun_mk (st := sBent) l22 c22 k22
  have b22 := F22.binds (ps := ["_law_pot_here", "_law_told"]) fun _ _ _ _ _ _ us hl => match us, hl with | [_, _], _ => rfl
  have g22 := PySem.W.mg_of X G a22
  have F23 := fun_mk (st := sHand) l23 c23 k23
  have b23 := F23.binds (ps := []) fun _ _ _ _ _ _ us hl => match us, hl with | [], _ => rfl
  have g23 := PySem.W.mg_of X G a23
  have F24 := fun_mk (st := sIR) l24 c24 k24
  have b24 := F24.binds (ps := ["_law_thing"]) fun _ _ _ _ _ _ us hl => match us, hl with | [_], _ => rfl
  have g24 := PySem.W.mg_of X G a24
  have F25 := fun_mk (st := sRight6) l25 c25 k25
  have b25 := F25.binds (ps := ["_law_pot_here"]) fun _ _ _ _ _ _ us hl => match us, hl with | [_], _ => rfl
  have g25 := PySem.W.mg_of X G a25
  have F26 := fun_mk (st := sLaw6) l26 c26 k26
  have g26 := PySem.W.mg_of X G a26
  have m_int := PySem.W.mg_none_of X G z0
  have m_abs := PySem.W.mg_none_of X G z1
  have m_len := PySem.W.mg_none_of X G z2
  have m_max := PySem.W.mg_none_of X G z3
  have m_min := PySem.W.mg_none_of X G z4
  have m_range := PySem.W.mg_none_of X G z5
  have m_sum := PySem.W.mg_none_of X G z6
  have m_tuple := PySem.W.mg_none_of X G z7
  have m_str := PySem.W.mg_none_of X G z8
  have m_repr := PySem.W.mg_none_of X G z9
  have m_isinstance := PySem.W.mg_none_of X G z10
  have m_any := PySem.W.mg_none_of X G z11
  have m_sorted := PySem.W.mg_none_of X G z12
  have m_set := PySem.W.mg_none_of X G z13
  have m_all := PySem.W.mg_none_of X G z14
  have m_super := PySem.W.mg_none_of X G z15
  have m_ValueError := PySem.W.mg_none_of X G z16
  have y0 := PySem.W.mg_of X G v0
  have y1 := PySem.W.mg_of X G v1
  have y2 := PySem.W.mg_of X G v2
  have y3 := PySem.W.mg_of X G v3
  have y4 := PySem.W.mg_of X G v4
  have y5 := PySem.W.mg_of X G v5
  have y6 := PySem.W.mg_of X G v6
  have y7 := PySem.W.mg_of X G v7
  have y8 := PySem.W.mg_of X G v8
  have y9 := PySem.W.mg_of X G v9
  have y10 := PySem.W.mg_of X G v10
  have y11 := PySem.W.mg_of X G v11
  have y12 := PySem.W.mg_of X G v12
  have y13 := PySem.W.mg_of X G v13
  have y14 := PySem.W.mg_of X G v14
  have y15 := PySem.W.mg_of X G v15
  have gR := PySem.W.mg_of X G aR
  have FR0 := fun_mk (st := sRI) lR0 cR0 kR0
  have bR0 := FR0.binds (ps := ["self", "string"]) fun _ _ _ _ _ _ us hl => match us, hl with | [_, _], _ => rfl
  have FR1 := fun_mk (st := sSign) lR1 cR1 kR1
  have bR1 := FR1.binds (ps := ["self"]) fun _ _ _ _ _ _ us hl => match us, hl with | [_], _ => rfl
  have FR2 := fun_mk (st := sSkips) lR2 cR2 kR2
  have bR2 := FR2.binds (ps := ["self", "sign"]) fun _ _ _ _ _ _ us hl => match us, hl with | [_, _], _ => rfl
  have FR3 := fun_mk (st := sDemand) lR3 cR3 kR3
  have bR3 := FR3.binds (ps := ["self", "is_right"]) fun _ _ _ _ _ _ us hl => match us, hl with | [_, _], _ => rfl
  have FR4 := fun_mk (st := sWhole) lR4 cR4 kR4
  have bR4 := FR4.binds (ps := ["self"]) fun _ _ _ _ _ _ us hl => match us, hl with | [_], _ => rfl
  have FR5 := fun_mk (st := sChoice) lR5 cR5 kR5
  have bR5 := FR5.binds (ps := ["self"]) fun _ _ _ _ _ _ us hl => match us, hl with | [_], _ => rfl
  have FR6 := fun_mk (st := sChain) lR6 cR6 kR6
  have bR6 := FR6.binds (ps := ["self"]) fun _ _ _ _ _ _ us hl => match us, hl with | [_], _ => rfl
  have FR7 := fun_mk (st := sItem) lR7 cR7 kR7
  have bR7 := FR7.binds (ps := ["self"]) fun _ _ _ _ _ _ us hl => match us, hl with | [_], _ => rfl
  have FR8 := fun_mk (st := sNumber) lR8 cR8 kR8
  have bR8 := FR8.binds (ps := ["self"]) fun _ _ _ _ _ _ us hl => match us, hl with | [_], _ => rfl
  have FR9 := fun_mk (st := sUnit) lR9 cR9 kR9
  have bR9 := FR9.binds (ps := ["self"]) fun _ _ _ _ _ _ us hl => match us, hl with | [_], _ => rfl
  have FR10 := fun_mk (st := sGroup) lR10 cR10 kR10
  have bR10 := FR10.binds (ps := ["self"]) fun _ _ _ _ _ _ us hl => match us, hl with | [_], _ => rfl
  have FR11 := fun_mk (st := sCapture) lR11 cR11 kR11
  have bR11 := FR11.binds (ps := ["self"]) fun _ _ _ _ _ _ us hl => match us, hl with | [_], _ => rfl
  have FR12 := fun_mk (st := sClass) lR12 cR12 kR12
  have bR12 := FR12.binds (ps := ["self"]) fun _ _ _ _ _ _ us hl => match us, hl with | [_], _ => rfl
  have FR13 := fun_mk (st := sPart) lR13 cR13 kR13
  have bR13 := FR13.binds (ps := ["self"]) fun _ _ _ _ _ _ us hl => match us, hl with | [_], _ => rfl
  have gW := PySem.W.mg_of X G aW
  have FW0 := fun_mk (st := sWI) lW0 cW0 kW0
  have bW0 := FW0.binds (ps := ["self"]) fun _ _ _ _ _ _ us hl => match us, hl with | [_], _ => rfl
  have FW1 := fun_mk (st := sLink) lW1 cW1 kW1
  have bW1 := FW1.binds (ps := ["self", "ahead", "later"]) fun _ _ _ _ _ _ us hl => match us, hl with | [_, _, _], _ => rfl
  have FW2 := fun_mk (st := sJoined) lW2 cW2 kW2
  have bW2 := FW2.binds (ps := ["self", "one", "other"]) fun _ _ _ _ _ _ us hl => match us, hl with | [_, _, _], _ => rfl
  have FW3 := fun_mk (st := sPartOf) lW3 cW3 kW3
  have bW3 := FW3.binds (ps := ["self", "tree"]) fun _ _ _ _ _ _ us hl => match us, hl with | [_, _], _ => rfl
  have FW4 := fun_mk (st := sCounted) lW4 cW4 kW4
  have bW4 := FW4.binds (ps := ["self", "least", "most", "tree"]) fun _ _ _ _ _ _ us hl => match us, hl with | [_, _, _, _], _ => rfl
  have gP := PySem.W.mg_of X G aP
  have FP0 := fun_mk (st := sPI) lP0 cP0 kP0
  have bP0 := FP0.binds (ps := ["self", "string"]) fun _ _ _ _ _ _ us hl => match us, hl with | [_, _], _ => rfl
  have FP1 := fun_mk (st := sPEq) lP1 cP1 kP1
  have bP1 := FP1.binds (ps := ["self", "other"]) fun _ _ _ _ _ _ us hl => match us, hl with | [_, _], _ => rfl
  have gCs := PySem.W.mg_of X G aCs
  have cz : ∀ z : Str, z ≠ Str.ofString "*" → z ≠ Str.ofString "+" → z ≠ Str.ofString "?" → PySem.W.nsIn K dC z = some none := fun z z1 z2 z3 => by
    obtain ⟨h1, h2, h3, t1, t2, t3, v1, v2, v3, he⟩ := qk
    have p1 : ∀ (y : Str) (t : Tok), z ≠ y → (Value.str y t).isStr z = false := fun y t n => by
      show (y == z) = false
      exact beq_eq_false_iff_ne.mpr (Ne.symm n)
    unfold PySem.W.nsIn
    rw [lCs]
    dsimp only
    rw [he, List.find?_cons, List.find?_cons, List.find?_cons, List.find?_nil]
    dsimp only
    rw [p1 _ _ z1, p1 _ _ z2, p1 _ _ z3] <;> rfl
  let tk : Nat → Tok := fun i => [tk0, tk1, tk2, tk3, tk4, tk5, tk6, tk7, tk8, tk9, tk10, tk11, tk12, tk13, tk14, tk15].getD i tk0
  let fR : Nat → Addr := fun i => [fR0, fR1, fR2, fR3, fR4, fR5, fR6, fR7, fR8, fR9, fR10, fR11, fR12, fR13].getD i fR0
  let dR : Nat → FuncData := fun i => [(PySem.W.fnOf "__init__" "PatternReader.__init__" (defArgs sRI) (defBody sRI) (defScope sRI) .none kVR0 dcR0 pmR0 anR0 cdR0 ctR0), (PySem.W.fnOf "sign" "PatternReader.sign" (defArgs sSign) (defBody sSign) (defScope sSign) .none kVR1 dcR1 pmR1 anR1 cdR1 ctR1), (PySem.W.fnOf "skips" "PatternReader.skips" (defArgs sSkips) (defBody sSkips) (defScope sSkips) .none kVR2 dcR2 pmR2 anR2 cdR2 ctR2), (PySem.W.fnOf "demand" "PatternReader.demand" (defArgs sDemand) (defBody sDemand) (defScope sDemand) .none kVR3 dcR3 pmR3 anR3 cdR3 ctR3), (PySem.W.fnOf "read_whole" "PatternReader.read_whole" (defArgs sWhole) (defBody sWhole) (defScope sWhole) .none kVR4 dcR4 pmR4 anR4 cdR4 ctR4), (PySem.W.fnOf "read_choice" "PatternReader.read_choice" (defArgs sChoice) (defBody sChoice) (defScope sChoice) .none kVR5 dcR5 pmR5 anR5 cdR5 ctR5), (PySem.W.fnOf "read_chain" "PatternReader.read_chain" (defArgs sChain) (defBody sChain) (defScope sChain) .none kVR6 dcR6 pmR6 anR6 cdR6 ctR6), (PySem.W.fnOf "read_item" "PatternReader.read_item" (defArgs sItem) (defBody sItem) (defScope sItem) .none kVR7 dcR7 pmR7 anR7 cdR7 ctR7), (PySem.W.fnOf "read_number" "PatternReader.read_number" (defArgs sNumber) (defBody sNumber) (defScope sNumber) .none kVR8 dcR8 pmR8 anR8 cdR8 ctR8), (PySem.W.fnOf "read_unit" "PatternReader.read_unit" (defArgs sUnit) (defBody sUnit) (defScope sUnit) .none kVR9 dcR9 pmR9 anR9 cdR9 ctR9), (PySem.W.fnOf "read_group" "PatternReader.read_group" (defArgs sGroup) (defBody sGroup) (defScope sGroup) .none kVR10 dcR10 pmR10 anR10 cdR10 ctR10), (PySem.W.fnOf "read_capture" "PatternReader.read_capture" (defArgs sCapture) (defBody sCapture) (defScope sCapture) .none kVR11 dcR11 pmR11 anR11 cdR11 ctR11), (PySem.W.fnOf "read_class" "PatternReader.read_class" (defArgs sClass) (defBody sClass) (defScope sClass) .none kVR12 dcR12 pmR12 anR12 cdR12 ctR12), (PySem.W.fnOf "read_part" "PatternReader.read_part" (defArgs sPart) (defBody sPart) (defScope sPart) .none kVR13 dcR13 pmR13 anR13 cdR13 ctR13)].getD i (PySem.W.fnOf "__init__" "PatternReader.__init__" (defArgs sRI) (defBody sRI) (defScope sRI) .none kVR0 dcR0 pmR0 anR0 cdR0 ctR0)
  let fW : Nat → Addr := fun i => [fW0, fW1, fW2, fW3, fW4].getD i fW0
  let dW : Nat → FuncData := fun i => [(PySem.W.fnOf "__init__" "Written.__init__" (defArgs sWI) (defBody sWI) (defScope sWI) .none kVW0 dcW0 pmW0 anW0 cdW0 ctW0), (PySem.W.fnOf "link" "Written.link" (defArgs sLink) (defBody sLink) (defScope sLink) .none kVW1 dcW1 pmW1 anW1 cdW1 ctW1), (PySem.W.fnOf "joined" "Written.joined" (defArgs sJoined) (defBody sJoined) (defScope sJoined) .none kVW2 dcW2 pmW2 anW2 cdW2 ctW2), (PySem.W.fnOf "part_of" "Written.part_of" (defArgs sPartOf) (defBody sPartOf) (defScope sPartOf) .none kVW3 dcW3 pmW3 anW3 cdW3 ctW3), (PySem.W.fnOf "counted" "Written.counted" (defArgs sCounted) (defBody sCounted) (defScope sCounted) .none kVW4 dcW4 pmW4 anW4 cdW4 ctW4)].getD i (PySem.W.fnOf "__init__" "Written.__init__" (defArgs sWI) (defBody sWI) (defScope sWI) .none kVW0 dcW0 pmW0 anW0 cdW0 ctW0)
  let fP : Nat → Addr := fun i => [fP0, fP1].getD i fP0
  let dP : Nat → FuncData := fun i => [(PySem.W.fnOf "__init__" "Pattern.__init__" (defArgs sPI) (defBody sPI) (defScope sPI) .none kVP0 dcP0 pmP0 anP0 cdP0 ctP0), (PySem.W.fnOf "__eq__" "Pattern.__eq__" (defArgs sPEq) (defBody sPEq) (defScope sPEq) .none kVP1 dcP1 pmP1 anP1 cdP1 ctP1)].getD i (PySem.W.fnOf "__init__" "Pattern.__init__" (defArgs sPI) (defBody sPI) (defScope sPI) .none kVP0 dcP0 pmP0 anP0 cdP0 ctP0)
  let fL : Nat → Addr := fun i => [f3, f4, f5, f6, f7, f8, f9, f10, f11, f12].getD i f3
  let dL : Nat → FuncData := fun i => [(PySem.W.fnOf "_law_pot" "_law_pot" (defArgs sPot) (defBody sPot) (defScope sPot) .none kV3 dc3 pm3 an3 cd3 ct3), (PySem.W.fnOf "_law_draw" "_law_draw" (defArgs sDraw) (defBody sDraw) (defScope sDraw) .none kV4 dc4 pm4 an4 cd4 ct4), (PySem.W.fnOf "_law_any" "_law_any" (defArgs sAny) (defBody sAny) (defScope sAny) .none kV5 dc5 pm5 an5 cd5 ct5), (PySem.W.fnOf "_law_all_letters" "_law_all_letters" (defArgs sLets) (defBody sLets) (defScope sLets) .none kV6 dc6 pm6 an6 cd6 ct6), (PySem.W.fnOf "_law_tree" "_law_tree" (defArgs sTree) (defBody sTree) (defScope sTree) .none kV7 dc7 pm7 an7 cd7 ct7), (PySem.W.fnOf "_law_many_places" "_law_many_places" (defArgs sMany) (defBody sMany) (defScope sMany) .none kV8 dc8 pm8 an8 cd8 ct8), (PySem.W.fnOf "_law_grouped" "_law_grouped" (defArgs sGrouped) (defBody sGrouped) (defScope sGrouped) .none kV9 dc9 pm9 an9 cd9 ct9), (PySem.W.fnOf "_law_string" "_law_string" (defArgs sString) (defBody sString) (defScope sString) .none kV10 dc10 pm10 an10 cd10 ct10), (PySem.W.fnOf "_law_whole" "_law_whole" (defArgs sWholeL) (defBody sWholeL) (defScope sWholeL) .none kV11 dc11 pm11 an11 cd11 ct11), (PySem.W.fnOf "_law_pattern_string" "_law_pattern_string" (defArgs sPatS) (defBody sPatS) (defScope sPatS) .none kV12 dc12 pm12 an12 cd12 ct12)].getD i (PySem.W.fnOf "_law_pot" "_law_pot" (defArgs sPot) (defBody sPot) (defScope sPot) .none kV3 dc3 pm3 an3 cd3 ct3)
  let cT : Nat → Addr := fun i => [U0, U1, U2].getD i U0
  have TR : RT K w mg CR fR dR tk dC ces cn cT := { cl := ⟨pgR, hdR, poR, saR⟩, nStr := nR0, nSp := nR1, nNm := nR2, nMo := nR3, mI := ⟨FR0, bR0, ⟨iR0, jR0, kR0⟩⟩, mSign := ⟨FR1, bR1, ⟨iR1, jR1, kR1⟩⟩, mSkips := ⟨FR2, bR2, ⟨iR2, jR2, kR2⟩⟩, mDemand := ⟨FR3, bR3, ⟨iR3, jR3, kR3⟩⟩, mWhole := ⟨FR4, bR4, ⟨iR4, jR4, kR4⟩⟩, mChoice := ⟨FR5, bR5, ⟨iR5, jR5, kR5⟩⟩, mChain := ⟨FR6, bR6, ⟨iR6, jR6, kR6⟩⟩, mItem := ⟨FR7, bR7, ⟨iR7, jR7, kR7⟩⟩, mNumber := ⟨FR8, bR8, ⟨iR8, jR8, kR8⟩⟩, mUnit := ⟨FR9, bR9, ⟨iR9, jR9, kR9⟩⟩, mGroup := ⟨FR10, bR10, ⟨iR10, jR10, kR10⟩⟩, mCapture := ⟨FR11, bR11, ⟨iR11, jR11, kR11⟩⟩, mClass := ⟨FR12, bR12, ⟨iR12, jR12, kR12⟩⟩, mPart := ⟨FR13, bR13, ⟨iR13, jR13, kR13⟩⟩, gLet := y0, gBeg := y1, gEnd := y2, gDig := y3, gSma := y4, gMS := y5, gMO := y6, gMN := y7, gMC := y8, gPl := y9, gCh := y10, gAl := y11, gCo := y12, gCa := y13, gEm := y14, gCs := gCs, kd := ⟨lCs, klCs, loCs⟩, c1 := qq0, c2 := qq1, c3 := qq2, c0 := cz, t1 := fun H => .inr ⟨_, _, _, lU0, rfl, rfl, (show 2 ≤ sizeLine by decide), .cons ⟨_, rfl⟩ (.cons rfl .nil)⟩, t2 := fun H => .inr ⟨_, _, _, lU1, rfl, rfl, (show 2 ≤ sizeLine by decide), .cons ⟨_, rfl⟩ (.cons rfl .nil)⟩, t3 := fun H => .inr ⟨_, _, _, lU2, rfl, rfl, (show 2 ≤ sizeLine by decide), .cons ⟨_, rfl⟩ (.cons ⟨_, rfl⟩ .nil)⟩, mkC := ⟨mkR, iR0, jR0, kcR⟩, gC := gR, zisi := m_isinstance, zlen := m_len, zint := m_int, zstr := m_str, ztup := m_tuple }
  have TW : WT K mg CW fW dW tk := { cl := ⟨pgW, hdW, poW, saW⟩, nLe := nW0, nFo := nW1, mI := ⟨FW0, bW0, ⟨iW0, jW0, kW0⟩⟩, mLink := ⟨FW1, bW1, ⟨iW1, jW1, kW1⟩⟩, mJoin := ⟨FW2, bW2, ⟨iW2, jW2, kW2⟩⟩, mPart := ⟨FW3, bW3, ⟨iW3, jW3, kW3⟩⟩, mCount := ⟨FW4, bW4, ⟨iW4, jW4, kW4⟩⟩, mkC := ⟨mkW, iW0, jW0, kcW⟩, gC := gW, gPl := y9, gCh := y10, gAl := y11, gCo := y12, gCa := y13, zlen := m_len, zany := m_any, zmax := m_max, zrange := m_range, ztup := m_tuple, zsorted := m_sorted, zset := m_set }
  have TS : ST K mg tk f1 _ := { F := F1, b := b1, gg := g1, gPl := y9, gCh := y10, gAl := y11, gCo := y12, gCa := y13, zsum := m_sum, zmax := m_max }
  have TP : PatT K mg CP fP dP tk f0 f2 _ _ := { cl := ⟨pgP, hdP, poP, saP⟩, n1 := nP0, n2 := nP1, n3 := nP2, n4 := nP3, n5 := nP4, n6 := nP5, n7 := nP6, n8 := nP7, n9 := nP8, mI := ⟨FP0, bP0, ⟨iP0, jP0, kP0⟩⟩, mE := ⟨FP1, bP1, ⟨iP1, jP1, kP1⟩⟩, mkC := ⟨mkP, iP0, jP0, kcP⟩, gC := gP, FR := F0, bR := b0, gR_ := g0, FW := F2, bW := b2, gW_ := g2, gMP := y15, ztup := m_tuple, zisi := m_isinstance, ha := haP, hn := hnP, ht := htP, hm := hmP, k1 := kk1, k2 := kk2, sb := sbP }
  have TL : LawT K mg fL dL := { pot := ⟨F3, b3, g3⟩, draw := ⟨F4, b4, g4⟩, any := ⟨F5, b5, g5⟩, lets := ⟨F6, b6, g6⟩, tree := ⟨F7, b7, g7⟩, many := ⟨F8, b8, g8⟩, grouped := ⟨F9, b9, g9⟩, string := ⟨F10, b10, g10⟩, whole := ⟨F11, b11, g11⟩, pats := ⟨F12, b12, g12⟩, zint := m_int, zabs := m_abs, zlen := m_len, zmax := m_max, zmin := m_min, zrange := m_range, zsum := m_sum, ztup := m_tuple, zstr := m_str, zrepr := m_repr }
  have gD := PySem.W.mg_of X G aD
  have OC : OexC K D := ⟨⟨nm, q, NN, bs, _, sn, sub, ab, col, dd, m0, m1, m2, m3, m5, xL, by rfl⟩, sa, exC, tyC, kC⟩
  have SC : SupC K mg D := ⟨OC, su, sb, an, ow, m_super, nv⟩
  have MC : MetC K mg D S N1 N2 := ⟨⟨ga, gg, exC, hdC, ha, hn, ht, hm⟩, ⟨ga, gg, exC, hdC⟩, nv, PySem.W.mg_of X G aS, gD, PySem.W.mg_of X G aN1, PySem.W.mg_of X G aN2, e0, e1, e2, e3, m_isinstance, m_ValueError⟩
  let fQ : Nat → Addr := fun i => [f13, f14, f15, f16, f17, f18, f19, f6].getD i f13
  let dQ : Nat → FuncData := fun i => [(PySem.W.fnOf "_law_number_end" "_law_number_end" (defArgs sNE) (defBody sNE) (defScope sNE) .none kV13 dc13 pm13 an13 cd13 ct13), (PySem.W.fnOf "_law_part" "_law_part" (defArgs sLP) (defBody sLP) (defScope sLP) .none kV14 dc14 pm14 an14 cd14 ct14), (PySem.W.fnOf "_law_class_end" "_law_class_end" (defArgs sCE) (defBody sCE) (defScope sCE) .none kV15 dc15 pm15 an15 cd15 ct15), (PySem.W.fnOf "_law_unit" "_law_unit" (defArgs sLU) (defBody sLU) (defScope sLU) .none kV16 dc16 pm16 an16 cd16 ct16), (PySem.W.fnOf "_law_item" "_law_item" (defArgs sLI) (defBody sLI) (defScope sLI) .none kV17 dc17 pm17 an17 cd17 ct17), (PySem.W.fnOf "_law_expression" "_law_expression" (defArgs sLE) (defBody sLE) (defScope sLE) .none kV18 dc18 pm18 an18 cd18 ct18), (PySem.W.fnOf "_law_is_pattern" "_law_is_pattern" (defArgs sIP) (defBody sIP) (defScope sIP) .none kV19 dc19 pm19 an19 cd19 ct19), (PySem.W.fnOf "_law_all_letters" "_law_all_letters" (defArgs sLets) (defBody sLets) (defScope sLets) .none kV6 dc6 pm6 an6 cd6 ct6)].getD i (PySem.W.fnOf "_law_number_end" "_law_number_end" (defArgs sNE) (defBody sNE) (defScope sNE) .none kV13 dc13 pm13 an13 cd13 ct13)
  have LR : LawR K mg fQ dQ := { ne := ⟨F13, b13, g13⟩, lp := ⟨F14, b14, g14⟩, ce := ⟨F15, b15, g15⟩, lu := ⟨F16, b16, g16⟩, li := ⟨F17, b17, g17⟩, le := ⟨F18, b18, g18⟩, ip := ⟨F19, b19, g19⟩, lets := ⟨F6, b6, g6⟩, zint := m_int, zlen := m_len, zmax := m_max, zall := m_all, zany := m_any, zstr := m_str, zisi := m_isinstance }
  refine ⟨PySem.W.fnOf "law" "law" (defArgs sLaw6) (defBody sLaw6) (defScope sLaw6) .none kV26 dc26 pm26 an26 cd26 ct26, _, cR, T, _, _, eR, ddR, vsR, slR, r3, r4, g24, l24, rfl, rfl, r1, r2, fun s v => .of_eq rfl, fun base _ _ TB => ?_⟩
  have GB := ok_sup (P := l.prog) (w := w) (base := base) (k := 0) sS SC lB cB hcell hcode hvs hfile pl T1 T2 T3 T4 htop hp har
  have BD : Bad l.prog w K mg base 1 D fB _ := ⟨OC, iB, tB, GB, .all bB, gD⟩
  have GIR := ok_isRight (P := l.prog) (w := w) (base := base) LR TP TR TW TS BD F24 F21 b21 g21 MC TB rfl m_repr
  have GRt := ok_right6 (P := l.prog) (w := w) (base := base) TL F25 F20 b20 g20 F22 b22 g22 F24 b24 g24 GIR m_all
  exact ok_law6 TL F26 F25 b25 g25 GRt F24 b24 g24 GIR F23 b23 g23 m_all
end Sf6
open PySem PySem.W PyProof.Rows
set_option maxHeartbeats 0 in
theorem PySem.Challenge.cw_siftstore_k06_strings_of_any_form_holds : PySem.Challenge.rw_siftstore_k06_strings_of_any_form.Holds := by
  w_on; o_law; k_head; (case hw => w_witness2)
  k_fill
  refine Sf.walk_GT (l := PySem.Challenge.rw_siftstore_k06_strings_of_any_form) (n := 63) (k := 91) (x := "_law_script") (nR := "_law_is_right") (sp := fun w T => Sf6.spLaw6 _ T) rfl (by decide) rfl ⟨rfl, by decide, by decide⟩ (by first | rfl | decide +kernel) (fun w h Y => PySem.W.km_in_of Y) ?F (fun _ _ _ a ns hl hT hS => ⟨a, ns, rfl, hS, hl, hT, fun _ => rfl⟩)
  case F =>
    intro w mg fa h KX G hmg
    refine' Sf6.all_mk KX G hmg ?a0 ?l0 ?c0 ?k0 ?a1 ?l1 ?c1 ?k1 ?a2 ?l2 ?c2 ?k2 ?a3 ?l3 ?c3 ?k3 ?a4 ?l4 ?c4 ?k4 ?a5 ?l5 ?c5 ?k5 ?a6 ?l6 ?c6 ?k6 ?a7 ?l7 ?c7 ?k7 ?a8 ?l8 ?c8 ?k8 ?a9 ?l9 ?c9 ?k9 ?a10 ?l10 ?c10 ?k10 ?a11 ?l11 ?c11 ?k11 ?a12 ?l12 ?c12 ?k12 ?a13 ?l13 ?c13 ?k13 ?a14 ?l14 ?c14 ?k14 ?a15 ?l15 ?c15 ?k15 ?a16 ?l16 ?c16 ?k16 ?a17 ?l17 ?c17 ?k17 ?a18 ?l18 ?c18 ?k18 ?a19 ?l19 ?c19 ?k19 ?a20 ?l20 ?c20 ?k20 ?a21 ?l21 ?c21 ?k21 ?a22 ?l22 ?c22 ?k22 ?a23 ?l23 ?c23 ?k23 ?a24 ?l24 ?c24 ?k24 ?r1 ?r2 ?r3 ?r4 ?a25 ?l25 ?c25 ?k25 ?a26 ?l26 ?c26 ?k26 ?z0 ?z1 ?z2 ?z3 ?z4 ?z5 ?z6 ?z7 ?z8 ?z9 ?z10 ?z11 ?z12 ?z13 ?z14 ?z15 ?z16 ?v0 ?v1 ?v2 ?v3 ?v4 ?v5 ?v6 ?v7 ?v8 ?v9 ?v10 ?v11 ?v12 ?v13 ?v14 ?v15 ?aR ?pgR ?hdR ?poR ?saR ?mkR ?kcR ?nR0 ?nR1 ?nR2 ?nR3 ?iR0 ?jR0 ?lR0 ?cR0 ?kR0 ?iR1 ?jR1 ?lR1 ?cR1 ?kR1 ?iR2 ?jR2 ?lR2 ?cR2 ?kR2 ?iR3 ?jR3 ?lR3 ?cR3 ?kR3 ?iR4 ?jR4 ?lR4 ?cR4 ?kR4 ?iR5 ?jR5 ?lR5 ?cR5 ?kR5 ?iR6 ?jR6 ?lR6 ?cR6 ?kR6 ?iR7 ?jR7 ?lR7 ?cR7 ?kR7 ?iR8 ?jR8 ?lR8 ?cR8 ?kR8 ?iR9 ?jR9 ?lR9 ?cR9 ?kR9 ?iR10 ?jR10 ?lR10 ?cR10 ?kR10 ?iR11 ?jR11 ?lR11 ?cR11 ?kR11 ?iR12 ?jR12 ?lR12 ?cR12 ?kR12 ?iR13 ?jR13 ?lR13 ?cR13 ?kR13 ?aW ?pgW ?hdW ?poW ?saW ?mkW ?kcW ?nW0 ?nW1 ?iW0 ?jW0 ?lW0 ?cW0 ?kW0 ?iW1 ?jW1 ?lW1 ?cW1 ?kW1 ?iW2 ?jW2 ?lW2 ?cW2 ?kW2 ?iW3 ?jW3 ?lW3 ?cW3 ?kW3 ?iW4 ?jW4 ?lW4 ?cW4 ?kW4 ?aP ?pgP ?hdP ?poP ?saP ?mkP ?kcP ?nP0 ?nP1 ?nP2 ?nP3 ?nP4 ?nP5 ?nP6 ?nP7 ?nP8 ?iP0 ?jP0 ?lP0 ?cP0 ?kP0 ?iP1 ?jP1 ?lP1 ?cP1 ?kP1 ?haP ?hnP ?htP ?hmP ?kk1 ?kk2 ?sbP ?aCs ?lCs ?klCs ?loCs ?qq0 ?qq1 ?qq2 ?qk ?lU0 ?lU1 ?lU2 ?aD ?aS ?aN1 ?aN2 ?xL ?sa ?exC ?tyC ?kC ?ga ?gg ?hdC ?nv ?ha ?hn ?ht ?hm ?su ?sb ?an ?ow ?e0 ?e1 ?e2 ?e3 ?iB ?tB ?lB ?cB ?hcell ?hcode ?hvs ?hfile ?sS ?T1 ?T2 ?T3 ?T4 ?htop ?hp ?har ?bB
    (case a0 => k_is)
    (case l0 => k_is)
    (case c0 => k_is)
    (case k0 => k_is)
    (case a1 => k_is)
    (case l1 => k_is)
    (case c1 => k_is)
    (case k1 => k_is)
    (case a2 => k_is)
    (case l2 => k_is)
    (case c2 => k_is)
    (case k2 => k_is)
    (case a3 => k_is)
    (case l3 => k_is)
    (case c3 => k_is)
    (case k3 => k_is)
    (case a4 => k_is)
    (case l4 => k_is)
    (case c4 => k_is)
    (case k4 => k_is)
    (case a5 => k_is)
    (case l5 => k_is)
    (case c5 => k_is)
    (case k5 => k_is)
    (case a6 => k_is)
    (case l6 => k_is)
    (case c6 => k_is)
    (case k6 => k_is)
    (case a7 => k_is)
    (case l7 => k_is)
    (case c7 => k_is)
    (case k7 => k_is)
    (case a8 => k_is)
    (case l8 => k_is)
    (case c8 => k_is)
    (case k8 => k_is)
    (case a9 => k_is)
    (case l9 => k_is)
    (case c9 => k_is)
    (case k9 => k_is)
    (case a10 => k_is)
    (case l10 => k_is)
    (case c10 => k_is)
    (case k10 => k_is)
    (case a11 => k_is)
    (case l11 => k_is)
    (case c11 => k_is)
    (case k11 => k_is)
    (case a12 => k_is)
    (case l12 => k_is)
    (case c12 => k_is)
    (case k12 => k_is)
    (case a13 => k_is)
    (case l13 => k_is)
    (case c13 => k_is)
    (case k13 => k_is)
    (case a14 => k_is)
    (case l14 => k_is)
    (case c14 => k_is)
    (case k14 => k_is)
    (case a15 => k_is)
    (case l15 => k_is)
    (case c15 => k_is)
    (case k15 => k_is)
    (case a16 => k_is)
    (case l16 => k_is)
    (case c16 => k_is)
    (case k16 => k_is)
    (case a17 => k_is)
    (case l17 => k_is)
    (case c17 => k_is)
    (case k17 => k_is)
    (case a18 => k_is)
    (case l18 => k_is)
    (case c18 => k_is)
    (case k18 => k_is)
    (case a19 => k_is)
    (case l19 => k_is)
    (case c19 => k_is)
    (case k19 => k_is)
    (case a20 => k_is)
    (case l20 => k_is)
    (case c20 => k_is)
    (case k20 => k_is)
    (case a21 => k_is)
    (case l21 => k_is)
    (case c21 => k_is)
    (case k21 => k_is)
    (case a22 => k_is)
    (case l22 => k_is)
    (case c22 => k_is)
    (case k22 => k_is)
    (case a23 => k_is)
    (case l23 => k_is)
    (case c23 => k_is)
    (case k23 => k_is)
    (case a24 => k_is)
    (case l24 => k_is)
    (case c24 => k_is)
    (case k24 => k_is)
    (case r1 => k_is)
    (case r2 => first | exact rfl | k_is)
    (case r3 => first | exact rfl | decide +kernel | k_is)
    (case r4 => first | exact rfl | decide +kernel | k_is)
    (case a25 => k_is)
    (case l25 => k_is)
    (case c25 => k_is)
    (case k25 => k_is)
    (case a26 => k_is)
    (case l26 => k_is)
    (case c26 => k_is)
    (case k26 => k_is)
    (case z0 => k_is)
    (case z1 => k_is)
    (case z2 => k_is)
    (case z3 => k_is)
    (case z4 => k_is)
    (case z5 => k_is)
    (case z6 => k_is)
    (case z7 => k_is)
    (case z8 => k_is)
    (case z9 => k_is)
    (case z10 => k_is)
    (case z11 => k_is)
    (case z12 => k_is)
    (case z13 => k_is)
    (case z14 => k_is)
    (case z15 => k_is)
    (case z16 => k_is)
    (case v0 => k_is)
    (case v1 => k_is)
    (case v2 => k_is)
    (case v3 => k_is)
    (case v4 => k_is)
    (case v5 => k_is)
    (case v6 => k_is)
    (case v7 => k_is)
    (case v8 => k_is)
    (case v9 => k_is)
    (case v10 => k_is)
    (case v11 => k_is)
    (case v12 => k_is)
    (case v13 => k_is)
    (case v14 => k_is)
    (case v15 => k_is)
    (case aR => k_is)
    (case pgR => k_is)
    (case hdR => k_is)
    (case poR => k_is)
    (case saR => k_is)
    (case mkR => k_is)
    (case kcR => k_is)
    (case nR0 => k_is)
    (case nR1 => k_is)
    (case nR2 => k_is)
    (case nR3 => k_is)
    (case iR0 => k_is)
    (case jR0 => k_is)
    (case lR0 => k_is)
    (case cR0 => k_is)
    (case kR0 => k_is)
    (case iR1 => k_is)
    (case jR1 => k_is)
    (case lR1 => k_is)
    (case cR1 => k_is)
    (case kR1 => k_is)
    (case iR2 => k_is)
    (case jR2 => k_is)
    (case lR2 => k_is)
    (case cR2 => k_is)
    (case kR2 => k_is)
    (case iR3 => k_is)
    (case jR3 => k_is)
    (case lR3 => k_is)
    (case cR3 => k_is)
    (case kR3 => k_is)
    (case iR4 => k_is)
    (case jR4 => k_is)
    (case lR4 => k_is)
    (case cR4 => k_is)
    (case kR4 => k_is)
    (case iR5 => k_is)
    (case jR5 => k_is)
    (case lR5 => k_is)
    (case cR5 => k_is)
    (case kR5 => k_is)
    (case iR6 => k_is)
    (case jR6 => k_is)
    (case lR6 => k_is)
    (case cR6 => k_is)
    (case kR6 => k_is)
    (case iR7 => k_is)
    (case jR7 => k_is)
    (case lR7 => k_is)
    (case cR7 => k_is)
    (case kR7 => k_is)
    (case iR8 => k_is)
    (case jR8 => k_is)
    (case lR8 => k_is)
    (case cR8 => k_is)
    (case kR8 => k_is)
    (case iR9 => k_is)
    (case jR9 => k_is)
    (case lR9 => k_is)
    (case cR9 => k_is)
    (case kR9 => k_is)
    (case iR10 => k_is)
    (case jR10 => k_is)
    (case lR10 => k_is)
    (case cR10 => k_is)
    (case kR10 => k_is)
    (case iR11 => k_is)
    (case jR11 => k_is)
    (case lR11 => k_is)
    (case cR11 => k_is)
    (case kR11 => k_is)
    (case iR12 => k_is)
    (case jR12 => k_is)
    (case lR12 => k_is)
    (case cR12 => k_is)
    (case kR12 => k_is)
    (case iR13 => k_is)
    (case jR13 => k_is)
    (case lR13 => k_is)
    (case cR13 => k_is)
    (case kR13 => k_is)
    (case aW => k_is)
    (case pgW => k_is)
    (case hdW => k_is)
    (case poW => k_is)
    (case saW => k_is)
    (case mkW => k_is)
    (case kcW => k_is)
    (case nW0 => k_is)
    (case nW1 => k_is)
    (case iW0 => k_is)
    (case jW0 => k_is)
    (case lW0 => k_is)
    (case cW0 => k_is)
    (case kW0 => k_is)
    (case iW1 => k_is)
    (case jW1 => k_is)
    (case lW1 => k_is)
    (case cW1 => k_is)
    (case kW1 => k_is)
    (case iW2 => k_is)
    (case jW2 => k_is)
    (case lW2 => k_is)
    (case cW2 => k_is)
    (case kW2 => k_is)
    (case iW3 => k_is)
    (case jW3 => k_is)
    (case lW3 => k_is)
    (case cW3 => k_is)
    (case kW3 => k_is)
    (case iW4 => k_is)
    (case jW4 => k_is)
    (case lW4 => k_is)
    (case cW4 => k_is)
    (case kW4 => k_is)
    (case aP => k_is)
    (case pgP => k_is)
    (case hdP => k_is)
    (case poP => k_is)
    (case saP => k_is)
    (case mkP => k_is)
    (case kcP => k_is)
    (case nP0 => k_is)
    (case nP1 => k_is)
    (case nP2 => k_is)
    (case nP3 => k_is)
    (case nP4 => k_is)
    (case nP5 => k_is)
    (case nP6 => k_is)
    (case nP7 => k_is)
    (case nP8 => k_is)
    (case iP0 => k_is)
    (case jP0 => k_is)
    (case lP0 => k_is)
    (case cP0 => k_is)
    (case kP0 => k_is)
    (case iP1 => k_is)
    (case jP1 => k_is)
    (case lP1 => k_is)
    (case cP1 => k_is)
    (case kP1 => k_is)
    (case haP => k_is)
    (case hnP => k_is)
    (case htP => k_is)
    (case hmP => k_is)
    (case kk1 => first | k_is | exact rfl | decide +kernel)
    (case kk2 => first | k_is | exact rfl | decide +kernel)
    (case sbP => first | k_is | exact rfl | decide +kernel)
    (case aCs => k_is)
    (case lCs => k_is)
    (case klCs => exact ⟨⟨_, _, rfl, rfl⟩, ⟨_, _, rfl, rfl⟩, ⟨_, _, rfl, rfl⟩, trivial⟩)
    (case loCs => first | exact rfl | decide +kernel | k_is)
    (case qq0 => k_is)
    (case qq1 => k_is)
    (case qq2 => k_is)
    (case qk => exact ⟨_, _, _, _, _, _, _, _, _, rfl⟩)
    (case lU0 => k_is)
    (case lU1 => k_is)
    (case lU2 => k_is)
    (case aD => k_is)
    (case aS => k_is)
    (case aN1 => k_is)
    (case aN2 => k_is)
    (case xL => k_is)
    (case sa => k_is)
    (case exC => k_is)
    (case tyC => k_is)
    (case kC => k_is)
    (case ga => k_is)
    (case gg => k_is)
    (case hdC => k_is)
    (case nv => k_is)
    (case ha => k_is)
    (case hn => k_is)
    (case ht => k_is)
    (case hm => k_is)
    (case su => first | k_is | exact rfl | decide +kernel)
    (case sb => first | k_is | exact rfl | decide +kernel)
    (case an => first | k_is | exact rfl | decide +kernel)
    (case ow => first | k_is | exact rfl | decide +kernel)
    (case e0 => first | k_is | exact rfl | decide +kernel)
    (case e1 => first | k_is | exact rfl | decide +kernel)
    (case e2 => first | k_is | exact rfl | decide +kernel)
    (case e3 => first | k_is | exact rfl | decide +kernel)
    (case iB => first | k_is | exact rfl | decide +kernel)
    (case tB => first | k_is | exact rfl | decide +kernel)
    (case lB => k_is)
    (case cB => k_is)
    (case hcell => k_is)
    (case hcode => k_is)
    (case hvs => exact rfl)
    (case hfile => first | exact rfl | decide +kernel | k_is)
    (case sS => exact ⟨rfl, rfl, rfl, rfl, rfl, rfl, rfl, by decide +kernel⟩)
    (case T1 => exact fun _ => rfl)
    (case T2 => exact fun _ => rfl)
    (case T3 => exact fun _ => rfl)
    (case T4 => exact fun _ => rfl)
    (case htop => first | exact rfl | decide +kernel | k_is)
    (case hp => exact rfl)
    (case har => exact rfl)
    (case bB => exact fun us hl => match us, hl with | [_, _], _ => rfl)
