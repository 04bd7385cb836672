import PyProof.Rows.All
import Wide.All
import OpenK.AllK
import Wide.FinOn
import PySem.Challenge.RW_siftstore_k16_longest_words_of_choices
import HandS.ForMost
import HandS.Set
import HandS.SetFor
import HandS.SetTxt0
import PyProof.Rows.SortShellAny
import KE.GoesEnum
import HandS.Walk
import HandS.Ends
import HandS.IsInst
import HandS.Dict
import PyProof.ReprLen
import HandS.Wide
import HandS.Steps
import KE.KIntText
import HandS.Evl
import HandS.Flow
import HandS.Conv
import HandS.Star
import HandS.Strs
import HandS.OwnEq
import PyProof.StrBlock2
import HandS.MakeKwOnly
import HandS.Style
import HandS.DictComp
import HandS.SortInts
import HandS.Iter
import HandS.Property
import HandS.GenList
import HandS.Comp
import HandS.Deep
import HandS.More
import KE.OsRun
set_option Elab.async false
set_option linter.all false
set_option maxRecDepth 100000
/-! Trees of pattern strings, and the reading of a string from the left as a relation (success alone). -/
namespace Sf4
/-- a tree, letters as codes -/
inductive Tr where
  | place (s : List Nat)
  | chain (l : List Tr)
  | choice (l : List Tr)
  | count (a : Nat) (b : Option Nat) (t : Tr)
  | capture (n : List Nat) (t : Tr)
  | empty
abbrev Nm := List (List Nat)
/-- from a place, with names, a tree is read; then the place behind it, and the names -/
abbrev Rel (α : Type) := Nat → Nm → α → Nat → Nm → Prop
def LETc : List Nat := [32, 48, 49, 50, 51, 52, 53, 54, 55, 56, 57, 95] ++ (List.range 26).map (· + 97)
def digit (c : Nat) : Prop := 48 ≤ c ∧ c ≤ 57
def small (c : Nat) : Prop := 97 ≤ c ∧ c ≤ 122
/-- the signs that one goes on in a chain with -/
def starts (Z : List Nat) (p : Nat) : Prop := ∃ c, Z[p]? = some c ∧ (c ∈ LETc ∨ c = 46 ∨ c = 91 ∨ c = 40 ∨ c = 60)
/-- a number written with one or two digits, at most 20 -/
inductive RNum (Z : List Nat) : Nat → Nat → Nat → Prop where
  | one {p c : Nat} : Z[p]? = some c → digit c → (∀ e, Z[p + 1]? = some e → ¬ digit e) → RNum Z p (c - 48) (p + 1)
  | two {p c d : Nat} : Z[p]? = some c → digit c → c ≠ 48 → Z[p + 1]? = some d → digit d → (∀ e, Z[p + 2]? = some e → ¬ digit e) → 10 * (c - 48) + (d - 48) ≤ 20 → RNum Z p (10 * (c - 48) + (d - 48)) (p + 2)
/-- what stands between brackets: letters alone (ranges and ^ are not told) -/
inductive RSome (Z : List Nat) : Nat → List Nat → Nat → Prop where
  | last {p c : Nat} : Z[p]? = some c → c ∈ LETc → Z[p + 1]? = some 93 → RSome Z p [c] (p + 2)
  | next {p c q : Nat} {s : List Nat} : Z[p]? = some c → c ∈ LETc → Z[p + 1]? ≠ some 45 → Z[p + 1]? ≠ some 93 → RSome Z (p + 1) s q → RSome Z p (c :: s) q
/-- a name: small letters up to the colon -/
inductive RName (Z : List Nat) : Nat → List Nat → Nat → Prop where
  | nil {p : Nat} : Z[p]? = some 58 → RName Z p [] p
  | cons {p c q : Nat} {s : List Nat} : Z[p]? = some c → small c → RName Z (p + 1) s q → RName Z p (c :: s) q
/-- a unit; C reads what stands within parentheses, if one may still open any -/
inductive RUnit (Z : List Nat) (can : Prop) (C : Rel Tr) : Rel Tr where
  | letter {p c : Nat} {nm : Nm} : Z[p]? = some c → c ∈ LETc → RUnit Z can C p nm (.place [c]) (p + 1) nm
  | dot {p : Nat} {nm : Nm} : Z[p]? = some 46 → RUnit Z can C p nm (.place LETc) (p + 1) nm
  | cls {p q : Nat} {s : List Nat} {nm : Nm} : Z[p]? = some 91 → Z[p + 1]? ≠ some 94 → RSome Z (p + 1) s q → RUnit Z can C p nm (.place (LETc.filter fun c => decide (c ∈ s))) q nm
  | nothing {p : Nat} {nm : Nm} : can → Z[p]? = some 40 → Z[p + 1]? = some 41 → RUnit Z can C p nm .empty (p + 2) nm
  | group {p q : Nat} {t : Tr} {nm nm' : Nm} : can → Z[p]? = some 40 → Z[p + 1]? ≠ some 41 → C (p + 1) nm t q nm' → Z[q]? = some 41 → RUnit Z can C p nm t (q + 1) nm'
  | capture {p q r : Nat} {n : List Nat} {t : Tr} {nm nm' : Nm} : can → Z[p]? = some 60 → RName Z (p + 1) n q → 1 ≤ n.length → n.length ≤ 8 → n ∉ nm → C (q + 1) (nm ++ [n]) t r nm' → Z[r]? = some 62 → RUnit Z can C p nm (.capture n t) (r + 1) nm'
def cnt : Nat → Option (Nat × Option Nat)
  | 42 => some (0, none)
  | 43 => some (1, none)
  | 63 => some (0, some 1)
  | _ => none
inductive RItem (Z : List Nat) (U : Rel Tr) : Rel Tr where
  | plain {p q : Nat} {t : Tr} {nm nm' : Nm} : U p nm t q nm' → (∀ c, Z[q]? = some c → cnt c = none ∧ c ≠ 123) → RItem Z U p nm t q nm'
  | sign {p q c a : Nat} {b : Option Nat} {t : Tr} {nm nm' : Nm} : U p nm t q nm' → Z[q]? = some c → cnt c = some (a, b) → RItem Z U p nm (.count a b t) (q + 1) nm'
  | just {p q a r : Nat} {t : Tr} {nm nm' : Nm} : U p nm t q nm' → Z[q]? = some 123 → RNum Z (q + 1) a r → Z[r]? = some 125 → RItem Z U p nm (.count a (some a) t) (r + 1) nm'
  | least {p q a r : Nat} {t : Tr} {nm nm' : Nm} : U p nm t q nm' → Z[q]? = some 123 → RNum Z (q + 1) a r → Z[r]? = some 44 → Z[r + 1]? = some 125 → RItem Z U p nm (.count a none t) (r + 2) nm'
  | both {p q a b r s : Nat} {t : Tr} {nm nm' : Nm} : U p nm t q nm' → Z[q]? = some 123 → RNum Z (q + 1) a r → Z[r]? = some 44 → RNum Z (r + 1) b s → a ≤ b → Z[s]? = some 125 → RItem Z U p nm (.count a (some b) t) (s + 1) nm'
/-- one and more of R, as long as it goes on; g: the place where the next one begins -/
inductive RMany (R : Rel Tr) (go : Nat → Prop) (g : Nat → Nat) : Rel (List Tr) where
  | last {p q : Nat} {t : Tr} {nm nm' : Nm} : R p nm t q nm' → ¬ go q → RMany R go g p nm [t] q nm'
  | next {p q r : Nat} {t : Tr} {ts : List Tr} {nm nm' nm2 : Nm} : R p nm t q nm' → go q → RMany R go g (g q) nm' ts r nm2 → RMany R go g p nm (t :: ts) r nm2
def RChain (Z : List Nat) (I : Rel Tr) : Rel Tr := fun p nm t q nm' => ∃ ts, RMany I (starts Z) id p nm ts q nm' ∧ ((∃ x, ts = [x] ∧ t = x) ∨ (2 ≤ ts.length ∧ t = .chain ts))
def RChoice (Z : List Nat) (H : Rel Tr) : Rel Tr := fun p nm t q nm' => ∃ ts, RMany H (fun q => Z[q]? = some 124) (· + 1) p nm ts q nm' ∧ ((∃ x, ts = [x] ∧ t = x) ∨ (2 ≤ ts.length ∧ t = .choice ts))
/-- an expression in which so many parentheses may still be opened within one another -/
def RC (Z : List Nat) : Nat → Rel Tr
  | 0 => RChoice Z (RChain Z (RItem Z (RUnit Z False fun _ _ _ _ _ => False)))
  | d + 1 => RChoice Z (RChain Z (RItem Z (RUnit Z True (RC Z d))))
/-- a whole string -/
def RWhole (Z : List Nat) (l : Bool) (t : Tr) (r : Bool) (nm : Nm) : Prop := ∃ q, Z[0]? = (if l then some 94 else Z[0]?) ∧ (l = false → Z[0]? ≠ some 94) ∧ RC Z 8 (if l then 1 else 0) [] t q nm ∧ (if r then Z[q]? = some 36 ∧ q + 1 = Z.length else q = Z.length)
end Sf4
/-! The string of a tree, and how many parentheses it opens within one another. -/
namespace Sf4
def isCh : Tr → Bool
  | .chain _ => true
  | _ => false
def isAl : Tr → Bool
  | .choice _ => true
  | _ => false
def isCo : Tr → Bool
  | .count _ _ _ => true
  | _ => false
def grp (b : Bool) (x : List Nat) : List Nat := if b then 40 :: (x ++ [41]) else x
def num (n : Nat) : List Nat := if n < 10 then [48 + n] else [48 + n / 10, 48 + n % 10]
def cntS (a : Nat) : Option Nat → List Nat
  | none => if a = 0 then [42] else if a = 1 then [43] else 123 :: (num a ++ [44, 125])
  | some b => if a = 0 ∧ b = 1 then [63] else if a = b then 123 :: (num a ++ [125]) else 123 :: (num a ++ 44 :: (num b ++ [125]))
mutual
def prn : Tr → List Nat
  | .place s => if s = LETc then [46] else if s.length = 1 then s else 91 :: (s ++ [93])
  | .empty => [40, 41]
  | .capture n t => 60 :: (n ++ 58 :: (prn t ++ [62]))
  | .chain l => prnCh l
  | .choice l => prnAl l
  | .count a b t => grp (isCh t || isAl t || isCo t) (prn t) ++ cntS a b
def prnCh : List Tr → List Nat
  | [] => []
  | t :: r => grp (isCh t || isAl t) (prn t) ++ prnCh r
def prnAl : List Tr → List Nat
  | [] => []
  | t :: r => grp (isAl t) (prn t) ++ prnMo r
def prnMo : List Tr → List Nat
  | [] => []
  | t :: r => 124 :: (grp (isAl t) (prn t) ++ prnMo r)
end
mutual
/-- how many parentheses stand open at once in the string -/
def opn : Tr → Nat
  | .place _ => 0
  | .empty => 1
  | .capture _ t => opn t + 1
  | .chain l => opnCh l
  | .choice l => opnAl l
  | .count _ _ t => opn t + (if isCh t || isAl t || isCo t then 1 else 0)
def opnCh : List Tr → Nat
  | [] => 0
  | t :: r => max (opn t + (if isCh t || isAl t then 1 else 0)) (opnCh r)
def opnAl : List Tr → Nat
  | [] => 0
  | t :: r => max (opn t + (if isAl t then 1 else 0)) (opnAl r)
end
mutual
/-- the names of the captures from the left -/
def nms : Tr → Nm
  | .place _ => []
  | .empty => []
  | .capture n t => n :: nms t
  | .chain l => nmsL l
  | .choice l => nmsL l
  | .count _ _ t => nms t
def nmsL : List Tr → Nm
  | [] => []
  | t :: r => nms t ++ nmsL r
end
mutual
/-- a tree as the law draws it -/
def wf : Tr → Prop
  | .place s => s ≠ [] ∧ (LETc.filter fun c => decide (c ∈ s)) = s
  | .empty => True
  | .capture n t => 1 ≤ n.length ∧ n.length ≤ 8 ∧ (∀ c ∈ n, small c) ∧ wf t
  | .chain l => 2 ≤ l.length ∧ wfL l
  | .choice l => 2 ≤ l.length ∧ wfL l
  | .count a b t => a ≤ 20 ∧ (∀ c, b = some c → a ≤ c ∧ c ≤ 20) ∧ wf t
def wfL : List Tr → Prop
  | [] => True
  | t :: r => wf t ∧ wfL r
end
end Sf4
/-! The string of a tree is read back. -/
namespace Sf4
def st (c : Nat) : Prop := c ∈ LETc ∨ c = 46 ∨ c = 91 ∨ c = 40 ∨ c = 60
theorem let_not : ∀ c ∈ LETc, cnt c = none ∧ c ≠ 123 ∧ c ≠ 41 ∧ c ≠ 124 ∧ c ≠ 62 ∧ c ≠ 36 ∧ c ≠ 93 ∧ c ≠ 94 ∧ c ≠ 45 ∧ c ≠ 46 ∧ c ≠ 91 := by decide
theorem st_not {c : Nat} (h : st c) : cnt c = none ∧ c ≠ 123 ∧ c ≠ 41 ∧ c ≠ 124 ∧ c ≠ 62 ∧ c ≠ 36 := by
  rcases h with h | rfl | rfl | rfl | rfl
  · obtain ⟨a, b, c, d, e, f, _⟩ := let_not c h
    exact ⟨a, b, c, d, e, f⟩
  all_goals decide
variable {Z r : List Nat} {p : Nat}
theorem atN {x : List Nat} (h : Z.drop p = x ++ r) : Z.drop (p + x.length) = r := by
  rw [← List.drop_drop, h, List.drop_left]
theorem atH (h : Z.drop p = r) : Z[p]? = r.head? := by rw [← h, List.head?_drop]
theorem atC {c : Nat} (h : Z.drop p = c :: r) : Z[p]? = some c ∧ Z.drop (p + 1) = r := ⟨atH h, atN (x := [c]) h⟩
theorem place_sub {s : List Nat} (h : (LETc.filter fun c => decide (c ∈ s)) = s) : ∀ c ∈ s, c ∈ LETc := fun c hc => by
  rw [← h] at hc
  exact (List.mem_filter.mp hc).1
mutual
theorem prn_head : ∀ {t : Tr}, wf t → ∃ c r, prn t = c :: r ∧ st c
  | .place s, h => by
    unfold wf at h
    unfold prn
    by_cases h1 : s = LETc
    · rw [if_pos h1]
      exact ⟨46, [], rfl, .inr (.inl rfl)⟩
    · rw [if_neg h1]
      by_cases h2 : s.length = 1
      · rw [if_pos h2]
        match s, h2 with
        | [c], _ => exact ⟨c, [], rfl, .inl (place_sub h.2 c List.mem_cons_self)⟩
      · rw [if_neg h2]
        exact ⟨91, _, rfl, .inr (.inr (.inl rfl))⟩
  | .empty, _ => ⟨40, [41], by unfold prn <;> rfl, .inr (.inr (.inr (.inl rfl)))⟩
  | .capture n t, _ => ⟨60, _, by unfold prn <;> rfl, .inr (.inr (.inr (.inr rfl)))⟩
  | .chain [], h => by
    unfold wf at h
    exact absurd h.1 (by decide)
  | .chain (t :: l), h => by
    unfold wf wfL at h
    obtain ⟨c, r, e, s⟩ := grp_head (isCh t || isAl t) (prn_head h.2.1)
    exact ⟨c, r ++ prnCh l, by rw [prn, prnCh, e] <;> rfl, s⟩
  | .choice [], h => by
    unfold wf at h
    exact absurd h.1 (by decide)
  | .choice (t :: l), h => by
    unfold wf wfL at h
    obtain ⟨c, r, e, s⟩ := grp_head (isAl t) (prn_head h.2.1)
    exact ⟨c, r ++ prnMo l, by rw [prn, prnAl, e] <;> rfl, s⟩
  | .count a b t, h => by
    unfold wf at h
    obtain ⟨c, r, e, s⟩ := grp_head (isCh t || isAl t || isCo t) (prn_head h.2.2)
    exact ⟨c, r ++ cntS a b, by unfold prn; rw [e] <;> rfl, s⟩
theorem grp_head {x : List Nat} (b : Bool) (h : ∃ c r, x = c :: r ∧ st c) : ∃ c r, grp b x = c :: r ∧ st c := by
  cases b with
  | true => exact ⟨40, _, rfl, .inr (.inr (.inr (.inl rfl)))⟩
  | false => exact h
end
theorem rd_num {a : Nat} (ha : a ≤ 20) (h : Z.drop p = num a ++ r) (hr : ∀ e, r.head? = some e → ¬ digit e) : RNum Z p a (p + (num a).length) := by
  unfold num at *
  by_cases h1 : a < 10
  · rw [if_pos h1] at h ⊢
    have z := atC (c := 48 + a) (r := r) h
    have q := RNum.one (p := p) z.1 ⟨by omega, by omega⟩ (fun e he => hr e (by rw [← he, atH z.2]))
    rw [show 48 + a - 48 = a by omega] at q
    exact q
  · rw [if_neg h1] at h ⊢
    have z := atC (c := 48 + a / 10) (r := (48 + a % 10) :: r) h
    have z2 := atC z.2
    have q := RNum.two (p := p) z.1 ⟨by omega, by omega⟩ (by omega) z2.1 ⟨by omega, by omega⟩ (fun e he => hr e (by rw [← he, atH z2.2])) (by omega)
    rw [show 10 * (48 + a / 10 - 48) + (48 + a % 10 - 48) = a by omega] at q
    exact q
end Sf4
namespace Sf4
variable {Z r : List Nat} {p : Nat}
def RU (Z : List Nat) : Nat → Rel Tr
  | 0 => RUnit Z False fun _ _ _ _ _ => False
  | d + 1 => RUnit Z True (RC Z d)
theorem RC_eq (Z : List Nat) (d : Nat) : RC Z d = RChoice Z (RChain Z (RItem Z (RU Z d))) := by
  cases d <;> rfl
theorem rd_some : ∀ {s : List Nat} {p : Nat}, s ≠ [] → (∀ c ∈ s, c ∈ LETc) → Z.drop p = s ++ 93 :: r → RSome Z p s (p + s.length + 1)
  | [], _, h, _, _ => absurd rfl h
  | [c], p, _, hs, h => by
    have z := atC (c := c) (r := 93 :: r) h
    exact .last z.1 (hs c List.mem_cons_self) (atC z.2).1
  | c :: d :: s, p, _, hs, h => by
    have z := atC (c := c) (r := d :: (s ++ 93 :: r)) h
    have z2 := atC z.2
    have hd := let_not d (hs d (List.mem_cons_of_mem _ List.mem_cons_self))
    have q := rd_some (s := d :: s) (p := p + 1) (fun z => by cases z) (fun e he => hs e (List.mem_cons_of_mem _ he)) z.2
    rw [show p + 1 + (d :: s).length + 1 = p + (c :: d :: s).length + 1 by simp only [List.length_cons]; omega] at q
    refine .next z.1 (hs c List.mem_cons_self) (fun e => ?_) (fun e => ?_) q
    · rw [z2.1] at e
      exact hd.2.2.2.2.2.2.2.2.1 (Option.some.inj e)
    · rw [z2.1] at e
      exact hd.2.2.2.2.2.2.1 (Option.some.inj e)
theorem rd_name : ∀ {n : List Nat} {p : Nat}, (∀ c ∈ n, small c) → Z.drop p = n ++ 58 :: r → RName Z p n (p + n.length)
  | [], p, _, h => .nil (atC h).1
  | c :: n, p, hn, h => by
    have z := atC (c := c) (r := n ++ 58 :: r) h
    have q := rd_name (n := n) (p := p + 1) (fun e he => hn e (List.mem_cons_of_mem _ he)) z.2
    rw [show p + 1 + n.length = p + (c :: n).length by simp only [List.length_cons]; omega] at q
    exact .cons z.1 (hn c List.mem_cons_self) q
theorem nodig {e c : Nat} {r : List Nat} (h : (c :: r).head? = some e) (hc : ¬ digit c) : ¬ digit e := by
  obtain rfl : c = e := Option.some.inj h
  exact hc
theorem rd_cnt {U : Rel Tr} {q a : Nat} {b : Option Nat} {t : Tr} {nm nm' : Nm} (u : U p nm t q nm') (h : Z.drop q = cntS a b ++ r) (ha : a ≤ 20) (hb : ∀ c, b = some c → a ≤ c ∧ c ≤ 20) : RItem Z U p nm (.count a b t) (q + (cntS a b).length) nm' := by
  cases b with
  | none =>
    unfold cntS at *
    dsimp only at h ⊢
    by_cases h0 : a = 0
    · rw [if_pos h0] at h ⊢
      subst h0
      exact .sign u (atC (c := 42) h).1 rfl
    · rw [if_neg h0] at h ⊢
      by_cases h1 : a = 1
      · rw [if_pos h1] at h ⊢
        subst h1
        exact .sign u (atC (c := 43) h).1 rfl
      · rw [if_neg h1] at h ⊢
        have z := atC (c := 123) (r := num a ++ 44 :: 125 :: r) (by rw [h]; simp)
        have z2 := atN z.2
        have z3 := atC z2
        have q1 := RItem.least u z.1 (rd_num ha z.2 fun e he => nodig he (by unfold digit; omega)) z3.1 (atC z3.2).1
        rw [show q + 1 + (num a).length + 2 = q + (123 :: (num a ++ [44, 125])).length by simp only [List.length_cons, List.length_append, List.length_nil]; omega] at q1
        exact q1
  | some b =>
    obtain ⟨h1, h2⟩ := hb b rfl
    unfold cntS at *
    dsimp only at h ⊢
    by_cases h0 : a = 0 ∧ b = 1
    · rw [if_pos h0] at h ⊢
      obtain ⟨rfl, rfl⟩ := h0
      exact .sign u (atC (c := 63) h).1 rfl
    · rw [if_neg h0] at h ⊢
      by_cases h3 : a = b
      · rw [if_pos h3] at h ⊢
        subst h3
        have z := atC (c := 123) (r := num a ++ 125 :: r) (by rw [h]; simp)
        have q1 := RItem.just u z.1 (rd_num ha z.2 fun e he => nodig he (by unfold digit; omega)) (atC (atN z.2)).1
        rw [show q + 1 + (num a).length + 1 = q + (123 :: (num a ++ [125])).length by simp only [List.length_cons, List.length_append, List.length_nil]; omega] at q1
        exact q1
      · rw [if_neg h3] at h ⊢
        have z := atC (c := 123) (r := num a ++ 44 :: (num b ++ 125 :: r)) (by rw [h]; simp)
        have z2 := atC (atN z.2)
        have z3 := atC (atN z2.2)
        have q1 := RItem.both u z.1 (rd_num ha z.2 fun e he => nodig he (by unfold digit; omega)) z2.1 (rd_num h2 z2.2 fun e he => nodig he (by unfold digit; omega)) h1 z3.1
        rw [show q + 1 + (num a).length + 1 + (num b).length + 1 = q + (123 :: (num a ++ 44 :: (num b ++ [125]))).length by simp only [List.length_cons, List.length_append, List.length_nil]; omega] at q1
        exact q1
end Sf4
namespace Sf4
def stopC (r : List Nat) : Prop := ∀ c, r.head? = some c → c = 41 ∨ c = 62 ∨ c = 36
def stopH (r : List Nat) : Prop := ∀ c, r.head? = some c → ¬ st c ∧ cnt c = none ∧ c ≠ 123
def stopI (r : List Nat) : Prop := ∀ c, r.head? = some c → cnt c = none ∧ c ≠ 123
theorem stopC.h {r : List Nat} (h : stopC r) : stopH r := fun c hc => by
  rcases h c hc with rfl | rfl | rfl
  all_goals exact ⟨fun z => by rcases z with z | z | z | z | z <;> revert z <;> decide, by decide, by decide⟩
theorem stopH.i {r : List Nat} (h : stopH r) : stopI r := fun c hc => (h c hc).2
theorem stopBar (r : List Nat) : stopH (124 :: r) := fun c hc => by
  obtain rfl : 124 = c := Option.some.inj hc
  exact ⟨fun z => by rcases z with z | z | z | z | z <;> revert z <;> decide, by decide, by decide⟩
theorem stClose (r : List Nat) (c : Nat) (h : c = 41 ∨ c = 62 ∨ c = 36) : stopC (c :: r) := fun e he => by
  obtain rfl : c = e := Option.some.inj he
  exact h
variable {Z r : List Nat} {p d : Nat} {nm nm' : Nm} {t : Tr}
/-- a tree in parentheses is a unit -/
theorem rd_grp (hw : wf t) (h : Z.drop p = grp true (prn t) ++ r) (hc : RC Z d (p + 1) nm t (p + 1 + (prn t).length) nm') : RU Z (d + 1) p nm t (p + (grp true (prn t)).length) nm' := by
  have z := atC (c := 40) (r := prn t ++ 41 :: r) (by rw [h]; simp [grp])
  obtain ⟨c, x, e, s⟩ := prn_head hw
  have z1 : Z[p + 1]? = some c := (atC (c := c) (r := x ++ 41 :: r) (by rw [z.2, e] <;> rfl)).1
  have z2 := (atC (c := 41) (atN z.2)).1
  have q := RUnit.group (can := True) True.intro z.1 (by rw [z1]; exact fun y => (st_not s).2.2.1 (Option.some.inj y)) hc z2
  rw [show p + 1 + (prn t).length + 1 = p + (grp true (prn t)).length by simp only [grp, if_true, List.length_cons, List.length_append, List.length_nil]; omega] at q
  exact q
theorem rd_place {s : List Nat} (hw : wf (.place s)) (h : Z.drop p = prn (.place s) ++ r) : RU Z d p nm (.place s) (p + (prn (.place s)).length) nm := by
  have key : ∀ (can : Prop) (C : Rel Tr), RUnit Z can C p nm (.place s) (p + (prn (.place s)).length) nm := fun can C => by
    unfold wf at hw
    unfold prn at *
    by_cases h1 : s = LETc
    · rw [if_pos h1] at h ⊢
      rw [h1]
      exact .dot (atC (c := 46) h).1
    · rw [if_neg h1] at h ⊢
      by_cases h2 : s.length = 1
      · rw [if_pos h2] at h ⊢
        match s, h2 with
        | [c], _ => exact .letter (atC (c := c) h).1 (place_sub hw.2 c List.mem_cons_self)
      · rw [if_neg h2] at h ⊢
        have z := atC (c := 91) (r := s ++ 93 :: r) (by rw [h]; simp)
        have q := rd_some hw.1 (place_sub hw.2) z.2
        obtain ⟨c, x, e⟩ : ∃ c x, s = c :: x := by
          cases s with
          | nil => exact absurd rfl hw.1
          | cons c x => exact ⟨c, x, rfl⟩
        have z1 : Z[p + 1]? = some c := (atC (c := c) (r := x ++ 93 :: r) (by rw [z.2, e] <;> rfl)).1
        have hl := let_not c (place_sub hw.2 c (by rw [e]; exact List.mem_cons_self))
        have u := RUnit.cls (can := can) (C := C) (nm := nm) z.1 (by rw [z1]; exact fun y => hl.2.2.2.2.2.2.2.1 (Option.some.inj y)) q
        rw [hw.2, show p + 1 + s.length + 1 = p + (91 :: (s ++ [93])).length by simp only [List.length_cons, List.length_append, List.length_nil]; omega] at u
        exact u
  cases d with
  | zero => exact key _ _
  | succ d => exact key _ _
end Sf4
namespace Sf4
/-- the string of t is read back -/
def Rd (t : Tr) : Prop := ∀ (Z r : List Nat) (p d : Nat) (nm : Nm), wf t → opn t ≤ d → (nm ++ nms t).Nodup → Z.drop p = prn t ++ r → stopC r → RC Z d p nm t (p + (prn t).length) (nm ++ nms t)
variable {Z r : List Nat} {p d : Nat} {nm : Nm} {t : Tr}
theorem unit_of (n1 : isCh t = false) (n2 : isAl t = false) (n3 : isCo t = false) (ih : ∀ t', sizeOf t' < sizeOf t → Rd t') (hw : wf t) (ho : opn t ≤ d) (hn : (nm ++ nms t).Nodup) (h : Z.drop p = prn t ++ r) : RU Z d p nm t (p + (prn t).length) (nm ++ nms t) := by
  cases t with
  | chain l => cases n1
  | choice l => cases n2
  | count a b t => cases n3
  | place s =>
    have q := rd_place (d := d) (nm := nm) hw h
    rw [show nms (.place s) = [] by unfold nms <;> rfl, List.append_nil]
    exact q
  | empty =>
    unfold opn at ho
    rw [show nms .empty = [] by unfold nms <;> rfl, List.append_nil]
    rw [show prn .empty = [40, 41] by unfold prn <;> rfl] at h ⊢
    cases d with
    | zero => omega
    | succ d =>
      have z := atC (c := 40) (r := 41 :: r) h
      exact .nothing True.intro z.1 (atC z.2).1
  | capture n t =>
    have e1 : prn (.capture n t) = 60 :: (n ++ 58 :: (prn t ++ [62])) := by rw [prn]
    have e2 : nms (.capture n t) = n :: nms t := by rw [nms]
    have e3 : opn (.capture n t) = opn t + 1 := by rw [opn]
    rw [e3] at ho
    rw [e2] at hn ⊢
    rw [e1] at h ⊢
    unfold wf at hw
    cases d with
    | zero => omega
    | succ d =>
      have z := atC (c := 60) (r := n ++ 58 :: (prn t ++ 62 :: r)) (by rw [h]; simp)
      have z2 := atC (atN z.2)
      have e4 : nm ++ n :: nms t = (nm ++ [n]) ++ nms t := by simp
      rw [e4] at hn ⊢
      have q := ih t (by simp; omega) Z (62 :: r) (p + 1 + n.length + 1) d (nm ++ [n]) hw.2.2.2 (by omega) hn z2.2 (stClose _ _ (.inr (.inl rfl)))
      have z3 := (atC (atN z2.2)).1
      have nin : n ∉ nm := fun hm => by
        have := (List.nodup_append.mp (List.nodup_append.mp hn).1).2.2 n hm n List.mem_cons_self
        exact this rfl
      have u := RUnit.capture (can := True) True.intro z.1 (rd_name hw.2.2.1 z.2) hw.1 hw.2.1 nin q z3
      rw [show p + 1 + n.length + 1 + (prn t).length + 1 = p + (60 :: (n ++ 58 :: (prn t ++ [62]))).length by simp only [List.length_cons, List.length_append, List.length_nil]; omega] at u
      exact u
theorem item_of (n1 : isCh t = false) (n2 : isAl t = false) (ih : ∀ t', sizeOf t' < sizeOf t → Rd t') (hw : wf t) (ho : opn t ≤ d) (hn : (nm ++ nms t).Nodup) (h : Z.drop p = prn t ++ r) (hr : stopI r) : RItem Z (RU Z d) p nm t (p + (prn t).length) (nm ++ nms t) := by
  cases hc : isCo t with
  | false => exact .plain (unit_of n1 n2 hc ih hw ho hn h) fun c hc => hr c (by rw [← atH (atN h)]; exact hc)
  | true =>
    cases t with
    | count a b t =>
      have e1 : prn (.count a b t) = grp (isCh t || isAl t || isCo t) (prn t) ++ cntS a b := by rw [prn]
      have e2 : nms (.count a b t) = nms t := by rw [nms]
      have e3 : opn (.count a b t) = opn t + (if (isCh t || isAl t || isCo t) = true then 1 else 0) := by rw [opn]
      rw [e3] at ho
      rw [e2] at hn ⊢
      rw [e1] at h ⊢
      unfold wf at hw
      have lt : sizeOf t < sizeOf (Tr.count a b t) := by simp; omega
      have u : RU Z d p nm t (p + (grp (isCh t || isAl t || isCo t) (prn t)).length) (nm ++ nms t) := by
        cases hb : (isCh t || isAl t || isCo t) with
        | true =>
          rw [hb] at ho h
          cases d with
          | zero => simp at ho
          | succ d =>
            have z := atC (c := 40) (r := prn t ++ 41 :: (cntS a b ++ r)) (by rw [h]; simp [grp])
            exact rd_grp hw.2.2 (r := cntS a b ++ r) (by rw [h, List.append_assoc]) (ih t lt Z (41 :: (cntS a b ++ r)) (p + 1) d nm hw.2.2 (by simp at ho; omega) hn z.2 (stClose _ _ (.inl rfl)))
        | false =>
          rw [hb] at ho h
          simp only [Bool.or_eq_false_iff] at hb
          exact unit_of (r := cntS a b ++ r) hb.1.1 hb.1.2 hb.2 (fun t' l => ih t' (Nat.lt_trans l lt)) hw.2.2 (by simpa using ho) hn (by rw [h, List.append_assoc] <;> rfl)
      have q := rd_cnt (r := r) u (atN (by rw [h, List.append_assoc])) hw.1 hw.2.1
      rw [Nat.add_assoc, ← List.length_append] at q
      exact q
    | _ => cases hc
end Sf4
namespace Sf4
variable {Z r : List Nat} {p d : Nat} {nm : Nm} {t : Tr}
theorem grpR_of (ht : Rd t) (hw : wf t) (ho : opn t + 1 ≤ d) (hn : (nm ++ nms t).Nodup) (h : Z.drop p = grp true (prn t) ++ r) : RU Z d p nm t (p + (grp true (prn t)).length) (nm ++ nms t) := by
  cases d with
  | zero => omega
  | succ d =>
    have z := atC (c := 40) (r := prn t ++ 41 :: r) (by rw [h]; simp [grp])
    exact rd_grp hw h (ht Z (41 :: r) (p + 1) d nm hw (by omega) hn z.2 (stClose _ _ (.inl rfl)))
theorem itemG_of (ht : Rd t) (ih : ∀ t', sizeOf t' < sizeOf t → Rd t') (hw : wf t) (ho : opn t + (if (isCh t || isAl t) = true then 1 else 0) ≤ d) (hn : (nm ++ nms t).Nodup) (h : Z.drop p = grp (isCh t || isAl t) (prn t) ++ r) (hr : stopI r) :
    RItem Z (RU Z d) p nm t (p + (grp (isCh t || isAl t) (prn t)).length) (nm ++ nms t) := by
  cases hb : (isCh t || isAl t) with
  | true =>
    rw [hb] at ho h
    exact .plain (grpR_of ht hw (by simpa using ho) hn h) fun c hc => hr c (by rw [← atH (atN h)]; exact hc)
  | false =>
    rw [hb] at ho h
    simp only [Bool.or_eq_false_iff] at hb
    exact item_of hb.1 hb.2 ih hw (by simpa using ho) hn h hr
theorem many_ch : ∀ (l : List Tr) {p : Nat} {nm : Nm}, l ≠ [] → (∀ t ∈ l, Rd t ∧ ∀ t', sizeOf t' < sizeOf t → Rd t') → wfL l → opnCh l ≤ d → (nm ++ nmsL l).Nodup → Z.drop p = prnCh l ++ r → stopH r →
    RMany (RItem Z (RU Z d)) (starts Z) id p nm l (p + (prnCh l).length) (nm ++ nmsL l)
  | [], _, _, h, _, _, _, _, _, _ => absurd rfl h
  | [t], p, nm, _, ih, hw, ho, hn, h, hr => by
    unfold wfL at hw
    rw [opnCh, opnCh] at ho
    rw [nmsL, nmsL, List.append_nil] at hn ⊢
    rw [prnCh, prnCh, List.append_nil] at h ⊢
    obtain ⟨i1, i2⟩ := ih t List.mem_cons_self
    refine .last (itemG_of i1 i2 hw.1 (by omega) hn h hr.i) fun ⟨c, hc, hs⟩ => ?_
    rw [atH (atN h)] at hc
    exact (hr c hc).1 hs
  | t :: u :: l, p, nm, _, ih, hw, ho, hn, h, hr => by
    rw [wfL] at hw
    rw [opnCh] at ho
    rw [nmsL] at hn ⊢
    rw [prnCh] at h ⊢
    obtain ⟨i1, i2⟩ := ih t List.mem_cons_self
    have hd : ∃ c x, prnCh (u :: l) ++ r = c :: x ∧ st c := by
      have hu := hw.2
      rw [wfL] at hu
      obtain ⟨c, x, e, s⟩ := grp_head (isCh u || isAl u) (prn_head hu.1)
      exact ⟨c, x ++ prnCh l ++ r, by rw [prnCh, e] <;> rfl, s⟩
    obtain ⟨c, x, e, s⟩ := hd
    rw [List.append_assoc] at h
    have hq := atN h
    have a1 : (nm ++ nms t).Nodup := by
      rw [← List.append_assoc] at hn
      exact (List.nodup_append.mp hn).1
    have m := many_ch (u :: l) (p := p + (grp (isCh t || isAl t) (prn t)).length) (nm := nm ++ nms t) (fun z => by cases z) (fun t' ht' => ih t' (List.mem_cons_of_mem _ ht')) hw.2 (by omega) (by rw [List.append_assoc]; exact hn) hq hr
    rw [List.append_assoc, Nat.add_assoc, ← List.length_append] at m
    refine .next (itemG_of i1 i2 hw.1 (by omega) a1 h fun c' hc' => ?_) ⟨c, by rw [atH hq, e] <;> rfl, s⟩ m
    rw [e] at hc'
    obtain rfl : c = c' := Option.some.inj hc'
    exact ⟨(st_not s).1, (st_not s).2.1⟩
end Sf4
namespace Sf4
variable {Z r : List Nat} {p d : Nat} {nm : Nm} {t : Tr}
theorem noStart {q : Nat} (h : Z.drop q = r) (hr : stopH r) : ¬ starts Z q := fun ⟨c, hc, hs⟩ => by
  rw [atH h] at hc
  exact (hr c hc).1 hs
theorem noBar {q : Nat} (h : Z.drop q = r) (hr : stopC r) : ¬ Z[q]? = some 124 := fun hc => by
  rw [atH h] at hc
  rcases hr _ hc with z | z | z <;> cases z
theorem chain_of (n2 : isAl t = false) (ih : ∀ t', sizeOf t' < sizeOf t → Rd t') (hw : wf t) (ho : opn t ≤ d) (hn : (nm ++ nms t).Nodup) (h : Z.drop p = prn t ++ r) (hr : stopH r) : RChain Z (RItem Z (RU Z d)) p nm t (p + (prn t).length) (nm ++ nms t) := by
  cases hc : isCh t with
  | false => exact ⟨[t], .last (item_of hc n2 ih hw ho hn h hr.i) (noStart (atN h) hr), .inl ⟨t, rfl, rfl⟩⟩
  | true =>
    cases t with
    | chain l =>
      rw [opn] at ho
      rw [nms] at hn ⊢
      rw [prn] at h ⊢
      unfold wf at hw
      have lt : ∀ t ∈ l, sizeOf t < sizeOf (Tr.chain l) := fun t ht => by
        have z := List.sizeOf_lt_of_mem ht
        simp
        omega
      refine ⟨l, many_ch l (fun z => by rw [z] at hw; exact absurd hw.1 (by decide)) (fun t ht => ⟨ih t (lt t ht), fun t' l' => ih t' (Nat.lt_trans l' (lt t ht))⟩) hw.2 ho hn h hr, .inr ⟨hw.1, rfl⟩⟩
    | _ => cases hc
theorem chainG_of (ht : Rd t) (ih : ∀ t', sizeOf t' < sizeOf t → Rd t') (hw : wf t) (ho : opn t + (if isAl t = true then 1 else 0) ≤ d) (hn : (nm ++ nms t).Nodup) (h : Z.drop p = grp (isAl t) (prn t) ++ r) (hr : stopH r) :
    RChain Z (RItem Z (RU Z d)) p nm t (p + (grp (isAl t) (prn t)).length) (nm ++ nms t) := by
  cases hb : isAl t with
  | true =>
    rw [hb] at ho h
    exact ⟨[t], .last (.plain (grpR_of ht hw (by simpa using ho) hn h) fun c hc => hr.i c (by rw [← atH (atN h)]; exact hc)) (noStart (atN h) hr), .inl ⟨t, rfl, rfl⟩⟩
  | false =>
    rw [hb] at ho h
    exact chain_of hb ih hw (by simpa using ho) hn h hr
theorem many_al : ∀ (l : List Tr) (t : Tr) {p : Nat} {nm : Nm}, (∀ x ∈ t :: l, Rd x ∧ ∀ t', sizeOf t' < sizeOf x → Rd t') → wfL (t :: l) → opnAl (t :: l) ≤ d → (nm ++ nmsL (t :: l)).Nodup → Z.drop p = (grp (isAl t) (prn t) ++ prnMo l) ++ r → stopC r →
    RMany (RChain Z (RItem Z (RU Z d))) (fun q => Z[q]? = some 124) (· + 1) p nm (t :: l) (p + (grp (isAl t) (prn t) ++ prnMo l).length) (nm ++ nmsL (t :: l))
  | [], t, p, nm, ih, hw, ho, hn, h, hr => by
    rw [wfL] at hw
    rw [opnAl, opnAl] at ho
    rw [nmsL, nmsL, List.append_nil] at hn ⊢
    rw [prnMo, List.append_nil] at h ⊢
    obtain ⟨i1, i2⟩ := ih t List.mem_cons_self
    exact .last (chainG_of i1 i2 hw.1 (by omega) hn h hr.h) (noBar (atN h) hr)
  | u :: l, t, p, nm, ih, hw, ho, hn, h, hr => by
    rw [wfL] at hw
    rw [opnAl] at ho
    rw [nmsL] at hn ⊢
    rw [prnMo] at h ⊢
    obtain ⟨i1, i2⟩ := ih t List.mem_cons_self
    rw [List.append_assoc] at h
    have hq := atN h
    have z := atC (c := 124) (r := (grp (isAl u) (prn u) ++ prnMo l) ++ r) hq
    have a1 : (nm ++ nms t).Nodup := by
      rw [← List.append_assoc] at hn
      exact (List.nodup_append.mp hn).1
    have m := many_al l u (p := p + (grp (isAl t) (prn t)).length + 1) (nm := nm ++ nms t) (fun x hx => ih x (List.mem_cons_of_mem _ hx)) hw.2 (by omega) (by rw [List.append_assoc]; exact hn) z.2 hr
    rw [List.append_assoc, show p + (grp (isAl t) (prn t)).length + 1 + (grp (isAl u) (prn u) ++ prnMo l).length = p + (grp (isAl t) (prn t) ++ 124 :: (grp (isAl u) (prn u) ++ prnMo l)).length by simp only [List.length_cons, List.length_append]; omega] at m
    exact .next (chainG_of i1 i2 hw.1 (by omega) a1 h (stopBar _)) z.1 m
theorem rd_step (t : Tr) (ih : ∀ t', sizeOf t' < sizeOf t → Rd t') : Rd t := fun Z r p d nm hw ho hn h hr => by
  rw [RC_eq]
  cases hb : isAl t with
  | false => exact ⟨[t], .last (chain_of hb ih hw ho hn h hr.h) (noBar (atN h) hr), .inl ⟨t, rfl, rfl⟩⟩
  | true =>
    cases t with
    | choice l =>
      rw [opn] at ho
      rw [nms] at hn ⊢
      rw [prn] at h ⊢
      unfold wf at hw
      have lt : ∀ t ∈ l, sizeOf t < sizeOf (Tr.choice l) := fun t ht => by
        have z := List.sizeOf_lt_of_mem ht
        simp
        omega
      cases l with
      | nil => exact absurd hw.1 (by decide)
      | cons x l =>
        rw [prnAl] at h ⊢
        exact ⟨x :: l, many_al l x (fun t ht => ⟨ih t (lt t ht), fun t' l' => ih t' (Nat.lt_trans l' (lt t ht))⟩) hw.2 ho hn h hr, .inr ⟨hw.1, rfl⟩⟩
    | _ => cases hb
/-- each string of a tree is read back -/
theorem rd_all (t : Tr) : Rd t := rd_step t fun t' _ => rd_all t'
termination_by sizeOf t
end Sf4
namespace Sf4
theorem st_94 {c : Nat} (h : st c) : c ≠ 94 := by
  rcases h with h | rfl | rfl | rfl | rfl
  · exact (let_not c h).2.2.2.2.2.2.2.1
  all_goals decide
def wstr (l : Bool) (t : Tr) (r : Bool) : List Nat := (if l then [94] else []) ++ (prn t ++ (if r then [36] else []))
theorem rd_whole (l r : Bool) {t : Tr} (hw : wf t) (ho : opn t ≤ 8) (hn : (nms t).Nodup) : RWhole (wstr l t r) l t r (nms t) := by
  have hs : stopC (if r then [36] else []) := fun c hc => by
    cases r with
    | true =>
      obtain rfl : 36 = c := Option.some.inj hc
      exact .inr (.inr rfl)
    | false => cases hc
  have hd : (wstr l t r).drop (if l then 1 else 0) = prn t ++ (if r then [36] else []) := by
    cases l <;> rfl
  have q := rd_all t (wstr l t r) (if r then [36] else []) (if l then 1 else 0) 8 [] hw ho (by rw [List.nil_append]; exact hn) hd hs
  rw [List.nil_append] at q
  refine ⟨_, ?_, fun e => ?_, q, ?_⟩
  · cases l <;> rfl
  · subst e
    obtain ⟨c, x, e, s⟩ := prn_head hw
    rw [wstr, e]
    exact fun z => st_94 s (Option.some.inj z)
  · cases r with
    | true =>
      refine ⟨by rw [atH (atN hd)] <;> rfl, ?_⟩
      cases l <;> simp [wstr] <;> omega
    | false =>
      show _ = _
      cases l <;> simp [wstr] <;> omega
end Sf4
/-! Sets of texts: set(list or tuple of texts), sorted of such a set, at any size below the scan's. -/
namespace Sf
open PySem PySem.Spec PyProof.Rows L2 PySem.Froz
/-- the members behind one more text -/
def insT (l : List Str) (x : Str) : List Str := if x ∈ l then l else x :: l
theorem insT_nodup {l : List Str} {x : Str} (h : l.Nodup) : (insT l x).Nodup := by
  unfold insT
  split
  · exact h
  · rename_i hx
    exact List.nodup_cons.mpr ⟨hx, h⟩
theorem insT_mem {l : List Str} {x y : Str} : y ∈ insT l x ↔ y ∈ l ∨ y = x := by
  unfold insT
  split
  · rename_i hx
    exact ⟨.inl, fun z => z.elim id fun e => e ▸ hx⟩
  · rw [List.mem_cons]
    exact Or.comm
theorem insT_len {l : List Str} {x : Str} : (insT l x).length ≤ l.length + 1 := by
  unfold insT
  split
  · omega
  · exact Nat.le_refl _
def toSet (xs : List Str) : List Str := xs.foldl insT []
theorem fold_mem (y : Str) : ∀ (xs l : List Str), y ∈ xs.foldl insT l ↔ y ∈ l ∨ y ∈ xs
  | [], l => by simp
  | x :: r, l => by
    rw [List.foldl_cons, fold_mem y r, insT_mem, List.mem_cons]
    constructor
    · rintro ((h | h) | h)
      · exact .inl h
      · exact .inr (.inl h)
      · exact .inr (.inr h)
    · rintro (h | h | h)
      · exact .inl (.inl h)
      · exact .inl (.inr h)
      · exact .inr h
theorem toSet_mem {y : Str} {xs : List Str} : y ∈ toSet xs ↔ y ∈ xs := by
  unfold toSet
  rw [fold_mem]
  simp
theorem toSet_snoc (xs : List Str) (x : Str) : toSet (xs ++ [x]) = insT (toSet xs) x := by
  unfold toSet
  rw [List.foldl_append] <;> rfl
section
variable {P : Program} {w : World} {A : Around} {E : Value → Shared → Prop} {s : Shared}
theorem addTx_ris {h : Int} {v : Value} {D : SD} (r : Ris D.2.2.place.toList) : Ris (addTx h v D).2.2.place.toList ∧ (addTx h v D).2.2.led = D.2.2.led := by
  have r1 := layNew_ris D.2.2 D.1 h v r
  have l1 := layNew_led D.2.2 D.1 h v
  unfold addTx tailTx
  generalize layNew D.2.2 D.1 h v = L at r1 l1
  have hp : (if L.2.1.plain = true then { L.2.1 with plain := false } else L.2.1).place = L.2.1.place := by split <;> rfl
  have hl : (if L.2.1.plain = true then { L.2.1 with plain := false } else L.2.1).led = L.2.1.led := by split <;> rfl
  generalize (if L.2.1.plain = true then { L.2.1 with plain := false } else L.2.1) = t2 at hp hl
  split
  · exact ⟨relayAll_ris _ _ _, (relayAll_led _ _ _).trans (hl.trans l1)⟩
  · exact ⟨by show Ris t2.place.toList; rw [hp]; exact r1, hl.trans l1⟩
/-- at a stands a set of just the texts l, each once, which can be walked -/
def TxSet (P : Program) (w : World) (h : Heap) (a : Addr) (l : List Str) : Prop :=
  ∃ D : SD, h.get? a = some (sObj "set" D) ∧ TxOk P w D l ∧ l.Nodup ∧ Ris D.2.2.place.toList ∧ (w.params.followText "set-order" = true ∨ D.2.2.led = true)
theorem TxSet.at {h h' : Heap} {a : Addr} {l : List Str} (R : TxSet P w h a l) (k : ∀ o, h.get? a = some o → h'.get? a = some o) : TxSet P w h' a l := by
  obtain ⟨D, e, r⟩ := R
  exact ⟨D, k _ e, r⟩
theorem TxSet.new {h : Heap} {a : Addr} (e : h.get? a = some { cls := .type "set", dict := none, data := .set #[] 0 (.fresh 0 0 (!w.params.followText "set-order")) }) : TxSet P w h a [] := by
  refine ⟨(#[], 0, .fresh 0 0 (!w.params.followText "set-order")), e, TxOk.nil (by rfl), List.nodup_nil, List.Pairwise.nil, ?_⟩
  show _ ∨ (!w.params.followText "set-order") = true
  cases w.params.followText "set-order"
  · exact .inr rfl
  · exact .inl rfl
/-- a text that is in is not laid again -/
theorem add_held {a : Addr} {D : SD} {l : List Str} {k : Str} {u : Tok} {Q : Bool → Shared → Prop} (ho : s.heap.get? a = some (sObj "set" D)) (F : TxOk P w D l) (hk : k ∈ l) (hb : l.length < scanBound)
    (h : ∀ b, Q b s) : wpAny (model P w) A (setAddHashed a (.str k u) (hashStr w k)) Q E s := by
  obtain ⟨es, ep, t⟩ := D
  have sz : es.size < scanBound := by
    have e : es.size = l.length := F.sz
    omega
  obtain ⟨e, he, hi⟩ := (F.mem k).mp hk
  cases hf : List.findIdx? (fun e => (strKind P w).is k e.2) es.toList with
  | none =>
    have c := List.findIdx?_eq_none_iff.mp hf e he
    rw [hi] at c
    cases c
  | some j =>
    unfold setAddHashed setAddHashedIn
    refine wpAny_holding (wpAny_bind (wpAny_setState_of ho rfl F.fit ?_))
    dsimp only
    rw [byScan_of rfl sz F.el]
    simp only [↓reduceIte]
    unfold setAddByScan
    refine wpAny_bind (wpAny_bind (wpAny_rule (wpAny_bind (wpAny_setScan_of (knd := strKind P w) (k := k) (is_str k u) ho rfl F.fit F.el ?_))))
    rw [hf]
    exact wpAny_pure (wpAny_pure (h _))
/-- the set's add of any text -/
theorem add_any {a : Addr} {l : List Str} {k : Str} {u : Tok} {Q : Bool → Shared → Prop} (R : TxSet P w s.heap a l) (hb : l.length + 1 < scanBound)
    (h : ∀ b h', (∀ c o, c ≠ a → s.heap.get? c = some o → h'.get? c = some o) → TxSet P w h' a (insT l k) → Q b { s with heap := h', toks := s.toks + 1 }) :
    wpAny (model P w) A (setAdd a (.str k u)) Q E s := by
  obtain ⟨D, ho, F, nd, r, led⟩ := R
  unfold setAdd
  refine wpAny_holding (wpAny_bind ((strKind P w).pyHash (is_str k u) ?_))
  by_cases hk : k ∈ l
  · refine add_held (s := { s with toks := s.toks + 1 }) ho F hk (by omega) fun b => h b s.heap (fun _ _ _ e => e) ?_
    unfold insT
    rw [if_pos hk]
    exact ⟨D, ho, F, nd, r, led⟩
  · refine add_x (s := { s with toks := s.toks + 1 }) ho F hk hb (h true _ (fun c o ne e => (Heap.get?_update_other _ _ ne.symm).trans e) ?_)
    obtain ⟨r2, l2⟩ := addTx_ris (h := hashStr w k) (v := Value.str k u) r
    unfold insT
    rw [if_neg hk]
    exact ⟨_, get_upd _ ho rfl, add_ok u F, List.nodup_cons.mpr ⟨hk, nd⟩, r2, led.imp id fun z => l2.trans z⟩
/-- set.update's turns over a walk of texts -/
theorem upd_texts {I : Addr} {fp wr : List Addr} {xs : List Str} {Pv : Nat → Value → Prop} {St : Nat → Heap → Prop} {R : Result → Shared → Prop} (W : Walks P w A.in1 I fp wr xs.length Pv St) (a : Addr) (na : a ∉ fp)
    (hv : ∀ i v, Pv i v → ∃ x t, xs[i]? = some x ∧ v = .str x t) (hx : xs.length + 1 < scanBound) :
    ∀ (m i : Nat) (s : Shared), i + m = xs.length → St i s.heap → TxSet P w s.heap a (toSet (xs.take i)) →
      (∀ h' tk, (∀ b o, b ≠ a → b ∉ wr → s.heap.get? b = some o → h'.get? b = some o) → TxSet P w h' a (toSet xs) → R (.ok (.ret .none)) { s with heap := h', toks := tk }) →
      codeAny (model P w) A (.builtin "set.update.loop" ⟨[.ref a, .ref I], []⟩) R s := by
  have nw : a ∉ wr := fun z => na (W.sub _ z)
  intro m
  induction m with
  | zero =>
    intro i s e st T k
    have ei : i = xs.length := by omega
    subst ei
    rw [List.take_length] at T
    refine codeAny_builtin F.entry_set_update_loop ?_
    rw [Around.under_plainId F.plain_set_update_loop _]
    refine wpAny_bind (W.done s _ _ st fun h' tk kk => ?_)
    exact wpAny_pure (k h' tk (fun b o _ hb e => kk b o hb e) (T.at fun o e => kk a o nw e))
  | succ m ih =>
    intro i s e st T k
    have hi : i < xs.length := by omega
    refine codeAny_builtin F.entry_set_update_loop ?_
    rw [Around.under_plainId F.plain_set_update_loop _]
    refine wpAny_bind (W.item i s _ _ hi st fun v h1 tk1 hp st1 k1 => ?_)
    obtain ⟨x, t, hxi, rfl⟩ := hv i v hp
    have hlen : ∀ l : List Str, (toSet l).length ≤ l.length := fun l => by
      have q : ∀ (l acc : List Str), (l.foldl insT acc).length ≤ acc.length + l.length := by
        intro l
        induction l with
        | nil => intro acc; exact Nat.le_refl _
        | cons y r ih2 =>
          intro acc
          have b1 := ih2 (insT acc y)
          have b2 := insT_len (l := acc) (x := y)
          rw [List.foldl_cons, List.length_cons]
          omega
      have q2 := q l []
      rw [List.length_nil] at q2
      unfold toSet
      omega
    refine wpAny_bind (m := holding [Value.str x t] (setAdd a (.str x t))) (wpAny_holding (add_any (s := { s with heap := h1, toks := tk1 }) (T.at fun o e => k1 a o nw e) (by
      have b1 := hlen (xs.take i)
      rw [List.length_take] at b1
      omega) fun b h2 k2 T2 => ?_))
    refine wpAny_pure ⟨plainId_quiet F.plain_set_update_loop _, ih (i + 1) _ (by omega) (W.frame _ _ _ st1 fun b hb o e => k2 b o (fun z => na (z ▸ hb)) e) ?_ fun h3 tk3 k3 T3 => k h3 tk3 (fun b o nb hb e => k3 b o nb hb (k2 b o nb (k1 b o hb e))) T3⟩
    rw [List.take_add_one, hxi]
    show TxSet P w h2 a (toSet (xs.take i ++ [x]))
    rw [toSet_snoc]
    exact T2
/-- what is walked: a list or a tuple of texts -/
def SeqAt2 (s : Shared) (l : Addr) (xs : List Str) : Prop := ∃ items : Array Value, StrsAre items.toList xs ∧ (s.heap.IsList l items ∨ s.heap.IsTuple l items)
theorem strs_get : ∀ {us : List Value} {xs : List Str} {i : Nat} {v : Value}, StrsAre us xs → us[i]? = some v → ∃ x t, xs[i]? = some x ∧ v = .str x t
  | _, _, _, _, .nil, h => by simp at h
  | _, _, 0, _, .cons n t _, h => by
    rw [List.getElem?_cons_zero] at h
    exact ⟨n, t, rfl, (Option.some.inj h).symm⟩
  | _, _, i + 1, _, .cons n t r, h => by
    rw [List.getElem?_cons_succ] at h
    exact strs_get (i := i) r h
set_option maxHeartbeats 4000000 in
theorem call_setT {l : Addr} {xs : List Str} {Q : Value → Shared → Prop} (hh : A.handled = none) (hl : SeqAt2 s l xs) (hx : xs.length + 1 < scanBound)
    (h : ∀ (h' : Heap) (tk : Nat), (∀ b o, s.heap.get? b = some o → h'.get? b = some o) → TxSet P w h' s.heap.objs.size (toSet xs) → Q (.ref s.heap.objs.size) { s with heap := h', toks := tk }) :
    wpAny (model P w) A (call (.type "set") [.ref l]) Q E s := by
  obtain ⟨c, tl, hmro⟩ := PySem.F.called_set.mro
  have q1 := PySem.F.called_set.made
  have q2 := PySem.F.called_set.sub
  have q3 := PySem.F.called_set.notType
  have q4 := PySem.F.called_set.canCreate
  have q5 := PySem.F.typeCall_set_1 (.ref l)
  refine wpAny_call (codeAny_of_tree (wpAny_pure ⟨Code.quiet_builtin _ (by decide +kernel), codeAny_builtin PySem.F.entry_type_call ?_⟩))
  rw [Around.under_plain (weight_type_call_type "set" [.ref l] []) rfl]
  repeat (any_goals (first | assumption | wp_step))
  generalize hO : ({ cls := .type "set", dict := none, data := .set #[] 0 (.fresh 0 0 (!w.params.followText "set-order")) } : Obj) = O
  have hS : (s.heap.push O).get? s.heap.objs.size = some O := Heap.get?_push_size _ (by rw [← hO]; rfl)
  have hT : Shared.TypeIs { s with heap := s.heap.push O } (.ref s.heap.objs.size) "set" := ⟨_, hS, by rw [← hO]⟩
  refine codeAny_mono (code_set_led1 (.ref l) (E := E) (Q₁ := fun obj s₁ => obj = .ref s.heap.objs.size ∧ s₁ = { s with heap := s.heap.push O }) ⟨rfl, by rw [hO]⟩) fun r s₁ hr => ?_
  cases r with
  | error e => exact hr
  | ok fl =>
    cases fl with
    | ret obj =>
      obtain ⟨rfl, rfl⟩ := hr
      have q6 := PySem.F.called_set.init.lookup
      have q7 := PySem.F.called_set.init.bind (.ref s.heap.objs.size)
      repeat (any_goals (first | assumption | wp_step))
      refine codeAny_mono (codeAny_call_builtin (R := wants (fun r s₂ => r = .none ∧ ∃ h' tk, s₂ = { s with heap := h', toks := tk } ∧ (∀ b o, s.heap.get? b = some o → h'.get? b = some o) ∧ TxSet P w h' s.heap.objs.size (toSet xs)) E)
        PySem.F.called_set.init.plain PySem.F.entry_set_init (check_set_init_1 hT ?_)) fun r₂ s₂ hr₂ => ?_
      · have hneI : ∀ {b : Addr} {o : Obj}, s.heap.get? b = some o → b ≠ (s.heap.push O).objs.size := fun e => by
          rw [Heap.size_push]
          exact Nat.ne_of_lt (Nat.lt_succ_of_lt (Heap.lt_size e))
        have hh3 : A.in1.in1.in1.handled = none := by simp [hh]
        have fin : ∀ (h' : Heap) (tk : Nat), (∀ b o, b ≠ s.heap.objs.size → b ∉ [(s.heap.push O).objs.size] → ((s.heap.push O)).get? b = some o → h'.get? b = some o) → ∀ b o, s.heap.get? b = some o → h'.get? b = some o := fun h' tk k b o e =>
          k b o (Nat.ne_of_lt (Heap.lt_size e)) (fun z => hneI e (List.mem_singleton.mp z)) (Heap.get?_push_of_some _ e)
        obtain ⟨items, hi, hli⟩ := hl
        have hsz : items.size = xs.length := by rw [← StrsAre.length hi, Array.length_toList]
        have hv : ∀ (i : Nat) (v : Value), items[i]? = some v → ∃ x t, xs[i]? = some x ∧ v = .str x t := fun i v e => strs_get hi (by rw [Array.getElem?_toList]; exact e)
        rcases hli with hli | hli
        · obtain ⟨ol, hol, hcl, nl, hdl⟩ := id hli
          obtain ⟨ocls, odict, odata, oslots⟩ := ol
          simp only at hcl hdl
          subst hcl; subst hdl
          have hol' : (s.heap.push O).get? l = some { cls := .type "list", dict := odict, data := .seq items nl, slots := oslots } := Heap.get?_push_of_some _ hol
          have q8 := PySem.F.sub_list_set
          have q9 := PySem.F.sub_list_frozenset
          have q10 : (Value.type "list" == Value.type "dict") = false := by decide
          have hl1 : (s.heap.push O).IsList l items := ⟨_, hol', rfl, nl, rfl⟩
          have nf : s.heap.objs.size ∉ [(s.heap.push O).objs.size, l] := by
            rw [Heap.size_push, List.mem_cons, List.mem_singleton, not_or]
            exact ⟨Nat.ne_of_lt (Nat.lt_succ_self _), Nat.ne_of_gt (Heap.lt_size hol)⟩
          have W := Walks.list (prog := P) (w := w) hh3 (s.heap.push O).objs.size l (hneI hol) items
          rw [hsz] at W
          subst hO
          unfold Builtin.«set.__init__» noKeywords Builtin.Frozenset.updateFrom
          generalize hPI : pyIter = PI
          wp_walk
          subst hPI
          refine wpAny_pyIter_list hl1 ?_
          refine wpAny_bind (wpAny_runValue ?_)
          refine upd_texts W s.heap.objs.size nf hv hx xs.length 0 _ (Nat.zero_add _) ⟨⟨_, Heap.get?_push_size _ rfl, rfl, rfl⟩, hl1.push _⟩ (TxSet.new (Heap.get?_push_of_some _ hS)) fun h' tk k T => ?_
          exact wpAny_pure (wpAny_pure ⟨rfl, h', tk, rfl, fin h' tk fun b o n1 n2 e => k b o n1 n2 (Heap.get?_push_of_some _ e), T⟩)
        · obtain ⟨ol, hol, hcl, nl, hdl⟩ := id hli
          obtain ⟨ocls, odict, odata, oslots⟩ := ol
          simp only at hcl hdl
          subst hcl; subst hdl
          have hol' : (s.heap.push O).get? l = some { cls := .type "tuple", dict := odict, data := .seq items nl, slots := oslots } := Heap.get?_push_of_some _ hol
          have q8 := PySem.F.sub_tuple_set
          have q9 := PySem.F.sub_tuple_frozenset
          have q10 : (Value.type "tuple" == Value.type "dict") = false := by decide
          have hl1 : (s.heap.push O).IsTuple l items := ⟨_, hol', rfl, nl, rfl⟩
          have nf : s.heap.objs.size ∉ [(s.heap.push O).objs.size, l] := by
            rw [Heap.size_push, List.mem_cons, List.mem_singleton, not_or]
            exact ⟨Nat.ne_of_lt (Nat.lt_succ_self _), Nat.ne_of_gt (Heap.lt_size hol)⟩
          have W := Walks.tuple (prog := P) (w := w) hh3 (s.heap.push O).objs.size l (hneI hol) items
          rw [hsz] at W
          subst hO
          unfold Builtin.«set.__init__» noKeywords Builtin.Frozenset.updateFrom
          generalize hPI : pyIter = PI
          wp_walk
          subst hPI
          refine wpAny_pyIter_tuple hl1 ?_
          refine wpAny_bind (wpAny_runValue ?_)
          refine upd_texts W s.heap.objs.size nf hv hx xs.length 0 _ (Nat.zero_add _) ⟨⟨_, Heap.get?_push_size _ rfl, rfl, rfl⟩, hl1.push _⟩ (TxSet.new (Heap.get?_push_of_some _ hS)) fun h' tk k T => ?_
          exact wpAny_pure (wpAny_pure ⟨rfl, h', tk, rfl, fin h' tk fun b o n1 n2 e => k b o n1 n2 (Heap.get?_push_of_some _ e), T⟩)
      · cases r₂ with
        | error e => exact hr₂
        | ok fl₂ =>
          cases fl₂ with
          | ret r =>
            obtain ⟨rfl, h', tk, rfl, k, T⟩ := hr₂
            repeat (any_goals (first | assumption | wp_step))
            exact h _ _ k T
          | _ => exact hr₂.elim
    | _ => exact hr.elim
end
end Sf
namespace Sf
open PySem PySem.Spec PyProof.Rows L2 PySem.Froz
section
variable {P : Program} {w : World} {A : Around} {E : Value → Shared → Prop} {s : Shared}
/-- the texts of the entries -/
theorem rows_strs : ∀ (l : List (Int × Value)), (∀ e ∈ l, ∃ x t, e.2 = Value.str x t) → ∃ xs, StrsAre (l.map (·.2)) xs
  | [], _ => ⟨[], .nil⟩
  | e :: l, h => by
    obtain ⟨x, t, ex⟩ := h e List.mem_cons_self
    obtain ⟨xs, r⟩ := rows_strs l fun u hu => h u (List.mem_cons_of_mem _ hu)
    refine ⟨x :: xs, ?_⟩
    rw [List.map_cons, ex]
    exact .cons x t r
theorem strs_mem : ∀ {us : List Value} {xs : List Str}, StrsAre us xs → ∀ k : Str, k ∈ xs ↔ ∃ v ∈ us, (Value.isStrOf k v) = true
  | _, _, .nil, k => by simp
  | _, _, .cons n t r, k => by
    rw [List.mem_cons, strs_mem r k]
    constructor
    · rintro (h | ⟨v, hv, e⟩)
      · exact ⟨.str n t, List.mem_cons_self, by rw [h]; simp [Value.isStrOf]⟩
      · exact ⟨v, List.mem_cons_of_mem _ hv, e⟩
    · rintro ⟨v, hv, e⟩
      rcases List.mem_cons.mp hv with rfl | hv
      · left
        obtain ⟨t', e'⟩ := Value.isStrOf_shape e
        injection e' with e1 _
        exact e1.symm
      · exact .inr ⟨v, hv, e⟩
theorem strs_perm {us vs : List Value} (p : us.Perm vs) : ∀ {xs : List Str}, StrsAre vs xs → ∃ ys, StrsAre us ys ∧ ys.Perm xs := by
  induction p with
  | nil => intro xs h; exact ⟨xs, h, .refl _⟩
  | cons v p ih =>
    intro xs h
    cases h with
    | cons n t r =>
      obtain ⟨ys, h1, h2⟩ := ih r
      exact ⟨n :: ys, .cons n t h1, h2.cons n⟩
  | swap u v l =>
    intro xs h
    cases h with
    | cons n t r =>
      cases r with
      | cons m t2 r2 => exact ⟨m :: n :: _, .cons m t2 (.cons n t r2), .swap _ _ _⟩
  | trans p q ih1 ih2 =>
    intro xs h
    obtain ⟨ys, h1, h2⟩ := ih2 h
    obtain ⟨zs, h3, h4⟩ := ih1 h1
    exact ⟨zs, h3, h4.trans h2⟩
theorem perm_of_sub : ∀ (l m : List Str), l.Nodup → (∀ x ∈ l, x ∈ m) → m.length ≤ l.length → l.Perm m
  | [], m, _, _, h => by
    have e : m = [] := List.eq_nil_of_length_eq_zero (Nat.le_zero.mp h)
    rw [e]
  | x :: l, m, nd, sub, h => by
    obtain ⟨m1, m2, rfl⟩ := List.append_of_mem (sub x List.mem_cons_self)
    obtain ⟨n1, n2⟩ := List.nodup_cons.mp nd
    have p : l.Perm (m1 ++ m2) := perm_of_sub l (m1 ++ m2) n2 (fun y hy => by
      have q := sub y (List.mem_cons_of_mem _ hy)
      rw [List.mem_append, List.mem_cons] at q
      rw [List.mem_append]
      rcases q with q | q | q
      · exact .inl q
      · exact absurd (q ▸ hy) n1
      · exact .inr q) (by
      rw [List.length_append, List.length_cons, List.length_cons] at h
      rw [List.length_append]
      omega)
    exact (p.cons x).trans List.perm_middle.symm
set_option maxHeartbeats 2000000 in
theorem sorted_txset {a : Addr} {l : List Str} {Q : Value → Shared → Prop} (R : TxSet P w s.heap a l) (hh : A.handled = none) (hb : l.length < scanBound)
    (h : ∀ s' p (out : Array Value) (c : Nat) (ys : List Str), (∀ b o, s.heap.get? b = some o → s'.heap.get? b = some o) → s'.gens = s.gens → s'.os = s.os → s.heap.objs.size ≤ p →
      s'.heap.get? p = some (seqObj "list" out c) → StrsAre out.toList ys → sortedS ys = true → ys.Perm l → Q (.ref p) s') :
    wpAny (model P w) A (call (.builtin "sorted") [.ref a]) Q E s := by
  obtain ⟨⟨es, ep, t⟩, ho, F, nd, r, led⟩ := R
  have hsz : es.size = l.length := F.sz
  have hes : es.size < scanBound := by omega
  refine Calls.call_function_entry kind_sorted plain_sorted entry_sorted (args_sorted1 _) ?_
  unfold Builtin.«sorted»
  refine wpAny_bind (m := checkCount "sorted" 1 1 _) (wpAny_pure (wpAny_bind (collect_set (A := A.in1) hh ⟨_, ho, rfl, rfl⟩ F.fit hes r led fun s1 vs k1 hz g1 o1 pm0 => ?_)))
  have pm : vs.Perm (es.toList.map (·.2)) := pm0
  have hel : ∀ e ∈ es.toList, ∃ x t, e.2 = Value.str x t := fun e he => by
    obtain ⟨⟨k, hk, _⟩, _⟩ := F.el e he
    obtain ⟨t', e'⟩ := Value.isStrOf_shape (x := k) (v := e.2) hk
    exact ⟨k, t', e'⟩
  obtain ⟨xs0, hx0⟩ := rows_strs es.toList hel
  obtain ⟨xs, hxs, pxs⟩ := strs_perm pm hx0
  have len0 : xs0.length = l.length := by rw [← StrsAre.length hx0, List.length_map, Array.length_toList, hsz]
  have pl : xs0.Perm l := by
    have mem : ∀ k, k ∈ xs0 ↔ k ∈ l := fun k => by
      rw [strs_mem hx0 k]
      refine Iff.trans ?_ (F.mem k).symm
      constructor
      · rintro ⟨v, hv, e⟩
        obtain ⟨en, he, rfl⟩ := List.mem_map.mp hv
        exact ⟨en, he, e⟩
      · rintro ⟨en, he, e⟩
        exact ⟨en.2, List.mem_map.mpr ⟨en, he, rfl⟩, e⟩
    exact (perm_of_sub l xs0 nd (fun k hk => (mem k).mpr hk) (Nat.le_of_eq len0)).symm
  have vlen : vs.length ≤ sizeLine := by
    have q := pm.length_eq
    rw [List.length_map, Array.length_toList] at q
    exact Nat.le_trans (Nat.le_of_eq q) (fits_of_scanBound hes)
  refine wpAny_bind (wpAny_newList ?_ vlen)
  have hoL : (s1.heap.push (seqObj "list" vs.toArray 0)).get? s1.heap.objs.size = some (seqObj "list" vs.toArray 0) := Heap.get?_push_size _ rfl
  refine wpAny_bind (wpAny_holding (wpAny_call_entry slot_list_sort ⟨_, hoL, rfl⟩ entry_list_sort (list_sort_treeKAny strKind_oneLt hoL hxs.keysOf (fun v₁ v₂ rest e => keyKind_strs (by rw [← e]; exact hxs)) vlen fun st' a1 a2 => ⟨_, rfl, ?_⟩) (args_list_sort _)))
  obtain ⟨ys, y1, y2, y3⟩ := sorted_out_str hxs a1 a2
  obtain ⟨c, hc⟩ := sortedHeap_at (vs := vs) (out := (arrOf st').map (·.2)) hoL
  refine wpAny_pure ⟨_, rfl, h _ s1.heap.objs.size _ c ys (fun b u e => ?_) g1 o1 hz hc y1 y3 (y2.trans (pxs.trans pl))⟩
  have q := k1 b u e
  have hlt := Heap.lt_size q
  refine Eq.trans (sortedHeap_old (Nat.ne_of_lt hlt) ?_) (Heap.get?_push_of_some _ q)
  rw [size_push']
  exact Nat.lt_succ_of_lt hlt
end
section
variable {X : Cx}
/-- a set of the texts l at a -/
def SetTx (P : Program) (w : World) (a : Addr) (l : List Str) : HO := .ext fun h => TxSet P w h a l
theorem setTx_ok {P : Program} {w : World} {H : Hp} {h : Heap} {a : Addr} {l : List Str} (R : TxSet P w h a l) : ObjOk P w H h a (SetTx P w a l) := by
  have ⟨D, e, _⟩ := R
  exact ⟨R, ⟨_, e⟩, fun h1 h2 p k => TxSet.at p k⟩
/-- set(texts) -/
def rSetTx (K : PySem.W.Frag) (P : Program) (w : World) : List V → Hp → VK → Prop := fun vs H Q => ∃ (a : Addr) (xs : List Str), vs = [.ref a] ∧ (SqL K H a (xs.map V.str) ∨ SqT K H a (xs.map V.str)) ∧ xs.length + 1 < scanBound ∧
  ∀ p, H p = none → Q (.ref p) (upd H p (SetTx P w p (toSet xs)))
theorem cr_setTx (hc : X.calm = true) : CallR X (.type "set") (rSetTx X.K X.prog X.w) := by
  intro pins s σ H vs us Q I r h
  obtain ⟨a, xs, rfl, hs, hx, q⟩ := h
  rw [Vals.ref1 r]
  have hl : SeqAt2 s a xs := by
    rcases hs with hs | hs
    · obtain ⟨its, rv, pl, _⟩ := I.list hs
      exact ⟨its.toArray, rv.strs, .inl pl.isList⟩
    · obtain ⟨its, rv, pl, _⟩ := I.tuple hs
      obtain ⟨o, e1, e2, e3⟩ := pl
      exact ⟨its.toArray, rv.strs, .inr ⟨o, e1, e2, e3⟩⟩
  refine call_setT (I.ok.hd hc) hl hx fun h' tk k T => ?_
  exact ⟨.ref _, upd H s.heap.objs.size (SetTx X.prog X.w s.heap.objs.size (toSet xs)), I.laid (t' := tk) k (Nat.le_refl _) (setTx_ok T), rfl, q _ (I.hok.fresh (Nat.le_refl _))⟩
/-- sorted(set of texts) -/
def rSortedTx (P : Program) (w : World) : List V → Hp → VK → Prop := fun vs H Q => ∃ (a : Addr) (l : List Str), vs = [.ref a] ∧ H a = some (SetTx P w a l) ∧ l.length < scanBound ∧
  ∀ (ys : List Str) p, sortedS ys = true → ys.Perm l → H p = none → Q (.ref p) (upd H p (.lst (ys.map V.str)))
theorem cr_sortedTx (hc : X.calm = true) : CallR X (.builtin "sorted") (rSortedTx X.prog X.w) := by
  intro pins s σ H vs us Q I r h
  obtain ⟨a, l, rfl, ha, hb, q⟩ := h
  rw [Vals.ref1 r]
  refine sorted_txset (I.hok a _ ha).1 (I.ok.hd hc) hb fun s' p out c ys k g o hp hg hi h1 h2 => ?_
  have hn : H p = none := I.hok.fresh hp
  have hlen : (ys.map V.str).length ≤ sizeLine := by
    rw [List.length_map, h2.length_eq]
    exact fits_of_scanBound hb
  have e : s' = { s with heap := s'.heap, gens := s'.gens, drawn := s'.drawn, toks := s'.toks } := by
    cases s'
    cases s
    cases o
    rfl
  rw [e]
  exact ⟨.ref p, upd H p (.lst (ys.map V.str)), I.call (ch := []) (Un.laid k hp hn) (I.hok.laid k hp ⟨hlen, out.toList, c, vals_of_strs hi, hg⟩) (by rw [g]; exact I.bare) (fun _ z => nomatch z), rfl, q ys p h1 h2 hn⟩
/-- sorted(list of texts), any length -/
def rSortedTL (K : PySem.W.Frag) : List V → Hp → VK → Prop := fun vs H Q => ∃ (a : Addr) (xs : List Str), vs = [.ref a] ∧ SqL K H a (xs.map V.str) ∧
  ∀ (ys : List Str) p, sortedS ys = true → ys.Perm xs → H p = none → Q (.ref p) (upd H p (.lst (ys.map V.str)))
theorem cr_sortedTL : CallR X (.builtin "sorted") (rSortedTL X.K) := by
  intro pins s σ H vs us Q I r h
  obtain ⟨a, xs, rfl, hs, q⟩ := h
  obtain ⟨its, rv, hl, hz⟩ := I.list hs
  rw [Vals.ref1 r]
  refine sorted_strsAny hl.isList rv.strs (by rw [← rv.length]; exact hz) fun out ys h1 h2 h3 => ?_
  obtain ⟨ep, he⟩ := sortedAll_at s.heap its out
  have hlen : (ys.map V.str).length ≤ sizeLine := by
    rw [List.length_map, h2.length_eq]
    rw [List.length_map] at hz
    exact hz
  exact ⟨.ref _, upd H (s.heap.objs.size + 1) (.lst (ys.map V.str)), I.laid (t' := s.toks) (fun _ _ => sortedAll_old) (Nat.le_succ _) ⟨hlen, out.toList, ep, vals_of_strs h1, he⟩, rfl, q ys _ h3 h2 (I.hok.fresh (Nat.le_succ _))⟩
end
end Sf
namespace Sf
open PySem PySem.Spec PyProof.Rows L2
/-- two texts walked side by side, the signs in new pairs -/
def Itz2 (x y : Str) : It :=
  ⟨fun i _ => i < x.cps.size ∧ i < y.cps.size,
    fun i H v H' => ∃ T c d, v = .ref T ∧ H T = none ∧ H' = upd H T (.tup [.str ⟨#[c]⟩, .str ⟨#[d]⟩]) ∧ x.cps[i]? = some c ∧ y.cps[i]? = some d,
    fun i _ => i = min x.cps.size y.cps.size⟩
def StZ (x y : Str) (t u : Tok) (z TI TO i1 i2 : Addr) (i : Nat) (h : Heap) : Prop :=
  IsZip h z TI TO .none ∧ IsTupOf2 h TI (.ref i1) (.ref i2) ∧ (∃ a1 a2, IsTupOf2 h TO a1 a2) ∧ h.IsStrIter i1 (strIterType x) x t i ∧ h.IsStrIter i2 (strIterType y) y u i
theorem turn_zip2 {P : Program} {w : World} {K : PySem.W.Frag} {elts : List Expr} {kk : Nat} {tpos : Pos} {z TI TO i1 i2 : Addr} {x y : Str} {t u : Tok} (S : ZipSep2 z TI TO i1 i2 [i1] [i2]) :
    Turn P w K (.Tuple elts kk tpos) (Itz2 x y) [z, TI, TO, i1, i2] z (StZ x y t u z TI TO i1 i2) where
  mem := by simp
  obj := fun i h st c hc => by
    obtain ⟨hz, hTI, ⟨a1, a2, hTO⟩, ⟨o1, e1, _, d1⟩, ⟨o2, e2, _, d2⟩⟩ := st
    have e' : c = z ∨ c = TI ∨ c = TO ∨ c = i1 ∨ c = i2 := by simpa using hc
    rcases e' with q | q | q | q | q
    · rw [q]
      exact ⟨_, hz, fun v r => nomatch r⟩
    · rw [q]
      exact ⟨_, hTI, fun v r => nomatch r⟩
    · rw [q]
      exact ⟨_, hTO, fun v r => nomatch r⟩
    · exact ⟨o1, by rw [q]; exact e1, fun v r => nomatch d1.symm.trans r⟩
    · exact ⟨o2, by rw [q]; exact e2, fun v r => nomatch d2.symm.trans r⟩
  keep := fun i h h' st k => by
    obtain ⟨hz, hTI, ⟨a1, a2, hTO⟩, ⟨o1, e1, r1⟩, ⟨o2, e2, r2⟩⟩ := st
    exact ⟨k z (by simp) _ hz, k TI (by simp) _ hTI, ⟨a1, a2, k TO (by simp) _ hTO⟩, ⟨o1, k i1 (by simp) _ e1, r1⟩, ⟨o2, k i2 (by simp) _ e2, r2⟩⟩
  item := by
    intro X hP hw hK hc i pins s σ H E I hf st hg
    subst hP hw hK
    have W := WalksT.zipD2 (prog := X.prog) (w := X.w) (A := X.A) S (Draws.text (A := X.A.in1) (I.ok.hd hc) i1 x t) (Draws.text (A := X.A.in1) (I.ok.hd hc) i2 y u)
    refine W.item i s _ _ (by have a1 := hg.1; have a2 := hg.2; omega) st fun T vals h1 tk1 hp hT hI hm k1 => ?_
    obtain ⟨v1, v2, ⟨c, t1, hc1, rfl⟩, ⟨d, t2, hd1, rfl⟩, rfl⟩ := hp
    refine ⟨_, rfl, W.go elts kk tpos i T { s with heap := h1, toks := tk1 } _ _ hm fun h2 st2 k2 => ?_⟩
    have hlt : ∀ b ∈ [z, TI, TO, i1, i2], b < s.heap.objs.size := by
      obtain ⟨hz, hTI, ⟨a1, a2, hTO⟩, ⟨o1, e1, _⟩, ⟨o2, e2, _⟩⟩ := st
      intro b hb
      have e' : b = z ∨ b = TI ∨ b = TO ∨ b = i1 ∨ b = i2 := by simpa using hb
      rcases e' with q | q | q | q | q
      · exact q ▸ Heap.lt_size hz
      · exact q ▸ Heap.lt_size hTI
      · exact q ▸ Heap.lt_size hTO
      · exact q ▸ Heap.lt_size e1
      · exact q ▸ Heap.lt_size e2
    have sub : ∀ b, b ∉ [z, TI, TO, i1, i2] → b ∉ [z, TO, i1, i2] := fun b hb => by
      simp only [List.mem_cons, List.not_mem_nil, or_false, not_or] at hb ⊢
      exact ⟨hb.1, hb.2.2⟩
    obtain ⟨oT, eT, cT, nT, dT⟩ := hI
    have hT2 : h2.get? T = some oT := k2 T oT (W.apart i T h1 hm) eT
    have new : ObjOk X.prog X.w (upd H T (.tup [.str ⟨#[c]⟩, .str ⟨#[d]⟩])) h2 T (.tup [.str ⟨#[c]⟩, .str ⟨#[d]⟩]) :=
      ⟨by show 2 ≤ sizeLine; decide, [.str ⟨#[c]⟩ t1, .str ⟨#[d]⟩ t2], .cons ⟨t1, rfl⟩ (.cons ⟨t2, rfl⟩ .nil), ⟨oT, hT2, cT, nT, dT⟩⟩
    refine ⟨.ref T, _, I.turnedNew (t' := tk1) (ch := [z, TI, TO, i1, i2]) (fun b o hb e => k2 b o (sub b hb) (k1 b o (sub b hb) e)) hf hT new, rfl, ⟨T, c, d, rfl, I.hok.fresh hT, rfl, hc1, hd1⟩, st2, fun b hb => ?_⟩
    rw [upd_ne (Nat.ne_of_lt (Nat.lt_of_lt_of_le (hlt b hb) hT))]
    exact (hf b hb).1
  done := by
    intro X hP hw hK hc i pins s σ H E I hf st hg
    subst hP hw hK
    have e : i = min x.cps.size y.cps.size := hg
    rw [e] at st
    have W := WalksT.zipD2 (prog := X.prog) (w := X.w) (A := X.A) S (Draws.text (A := X.A.in1) (I.ok.hd hc) i1 x t) (Draws.text (A := X.A.in1) (I.ok.hd hc) i2 y u)
    refine W.done s _ _ st fun h' tk k => ⟨rfl, I.turnedL (t' := tk) (ch := [z, TI, TO, i1, i2]) (fun b o hb q => k b o (fun m => hb ?_) q) hf⟩
    simp only [List.mem_cons, List.not_mem_nil, or_false] at m ⊢
    rcases m with m | m | m | m
    · exact .inl m
    · exact .inr (.inr (.inl m))
    · exact .inr (.inr (.inr (.inl m)))
    · exact .inr (.inr (.inr (.inr m)))
  self := fun A i s Q E st h => wpAny_pyIter_zip st.1 h
/-- for a, b in zip(text, text) -/
def iZip2 (ta : TA) : TI := fun σ H R => ta σ H fun vs H1 => ∃ x y, vs = [.str x, .str y] ∧ R (Itz2 x y) H1
theorem pi_zip2 {X : Cx} {e e2 : Expr} {ta : TA} {p pos tpos : Pos} {elts : List Expr} {kk : Nat} (hg : Gl X "zip") (hm : X.mg "zip" = none) (ha : PA X [e, e2] ta)
    (hs : starEach [e, e2] X.env = (false, eval e X.env) :: starEach [e2] X.env := by rfl) (hp : (backTo pos (starEach [e2] X.env)).any (·.1) = false := by rfl) :
    PI X (.Tuple elts kk tpos) (.Call (.Name "zip" p) [e, e2] [] pos) (iZip2 ta) := by
  refine ⟨fun pins s σ H R I h => Call_ (ld_blt I hg hm PyProof.Rows.boot_zip (PyProof.Rows.callWith_type1 (thn (ha.run pos pins s σ H _ I h) fun us s1 ⟨vs, H1, I1, r1, q1⟩ => ?_) hs hp))⟩
  obtain ⟨x, y, rfl, q⟩ := q1
  cases r1 with
  | cons r rr =>
    cases rr with
    | cons r' rr =>
      cases rr
      obtain ⟨t, rfl⟩ := r
      obtain ⟨u, rfl⟩ := r'
      refine zip_begins2 (begins_text x t) (begins_text y u) trivial trivial fun h' hz hTI hTO g1 g2 hsz k => wpAny_pyIter_zip hz ?_
      refine ⟨s1.heap.objs.size + 4, [s1.heap.objs.size + 4, s1.heap.objs.size + 2, s1.heap.objs.size + 3, s1.heap.objs.size, s1.heap.objs.size + 1], _, _, H1, rfl, I1.kept (t' := s1.toks) k,
        turn_zip2 (x := x) (y := y) (t := t) (u := u) (zip_sep2 (fp1 := []) (fp2 := []) (fun _ h => nomatch h) (fun _ h => nomatch h)), ⟨hz, hTI, ⟨_, _, hTO⟩, ⟨_, g1, rfl, rfl⟩, ⟨_, g2, rfl, rfl⟩⟩, fun c hc => ?_, q⟩
      have le : s1.heap.objs.size ≤ c := by
        have e' : c = s1.heap.objs.size + 4 ∨ c = s1.heap.objs.size + 2 ∨ c = s1.heap.objs.size + 3 ∨ c = s1.heap.objs.size ∨ c = s1.heap.objs.size + 1 := by simpa using hc
        have l0 : ∀ j, s1.heap.objs.size ≤ s1.heap.objs.size + j := fun j => Nat.le_add_right _ j
        rcases e' with z | z | z | z | z
        · rw [z]; exact l0 4
        · rw [z]; exact l0 2
        · rw [z]; exact l0 3
        · rw [z]; exact l0 0
        · rw [z]; exact l0 1
      exact I1.fpOk le (I1.hok.fresh le)
theorem walk_zip2 {x y : Str} {n : Nat} (hn : n = min x.cps.size y.cps.size) : Walk (Itz2 x y) n (fun _ => True)
    (fun i H v H' => ∃ T c d, v = .ref T ∧ H T = none ∧ H' = upd H T (.tup [.str ⟨#[c]⟩, .str ⟨#[d]⟩]) ∧ x.cps[i]? = some c ∧ y.cps[i]? = some d) :=
  ⟨fun i _ hi _ => ⟨by omega, by omega⟩, fun _ _ => hn, fun _ _ _ _ _ _ y => y⟩
end Sf
namespace Sf
open PySem PySem.Spec PyProof.Rows L2
theorem ltc_tot : ∀ a b : List Nat, ltCps a b = false → ltCps b a = false → a = b
  | [], [], _, _ => rfl
  | [], _ :: _, h, _ => by simp [ltCps] at h
  | _ :: _, [], _, h => by simp [ltCps] at h
  | x :: a, y :: b, h1, h2 => by
    simp only [ltCps, Bool.or_eq_false_iff, Bool.and_eq_false_iff, decide_eq_false_iff_not, beq_eq_false_iff_ne] at h1 h2
    have e : x = y := by omega
    subst e
    have h3 : ltCps a b = false := h1.2.resolve_left (fun z => z rfl)
    have h4 : ltCps b a = false := h2.2.resolve_left (fun z => z rfl)
    rw [ltc_tot a b h3 h4]
theorem ltc_trans : ∀ a b c : List Nat, ltCps b a = false → ltCps c b = false → ltCps c a = false
  | [], _, [], _, _ => rfl
  | [], [], _ :: _, _, h => by simp [ltCps]
  | [], _ :: _, _ :: _, h, _ => by simp [ltCps]
  | _ :: _, [], _, h, _ => by simp [ltCps] at h
  | _ :: _, _ :: _, [], _, h => by simp [ltCps] at h
  | x :: a, y :: b, z :: c, h1, h2 => by
    simp only [ltCps, Bool.or_eq_false_iff, Bool.and_eq_false_iff, decide_eq_false_iff_not, beq_eq_false_iff_ne] at h1 h2 ⊢
    refine ⟨by omega, ?_⟩
    by_cases e : z = x
    · right
      have e1 : y = x := by omega
      exact ltc_trans a b c (h1.2.resolve_left (fun q => q e1)) (h2.2.resolve_left (fun q => q (e.trans e1.symm)))
    · exact .inl e
def leS (a b : Str) : Prop := ltCps b.cps.toList a.cps.toList = false
theorem risingS_pw : ∀ (p : Str) (l : List Str), risingS p l = true → (∀ x ∈ l, leS p x) ∧ l.Pairwise leS
  | p, [], _ => ⟨(fun _ h => nomatch h), .nil⟩
  | p, x :: r, h => by
    simp only [risingS, Bool.and_eq_true, Bool.not_eq_true'] at h
    obtain ⟨h1, h2⟩ := risingS_pw x r h.2
    refine ⟨fun y hy => ?_, .cons h1 h2⟩
    rcases List.mem_cons.mp hy with rfl | hy
    · exact h.1
    · exact ltc_trans _ _ _ h.1 (h1 y hy)
theorem sortedS_pw : ∀ {l : List Str}, sortedS l = true → l.Pairwise leS
  | [], _ => .nil
  | x :: r, h => .cons (risingS_pw x r h).1 (risingS_pw x r h).2
theorem leS_anti {a b : Str} (h1 : leS a b) (h2 : leS b a) : a = b := Str.ext' (Array.toList_inj.mp (ltc_tot _ _ h2 h1))
theorem pw_uniq {l m : List Str} (h1 : l.Pairwise leS) (h2 : m.Pairwise leS) (p : l.Perm m) : l = m := p.eq_of_pairwise (fun _ _ _ _ => leS_anti) h1 h2
theorem sortedS_uniq {l m : List Str} (h1 : sortedS l = true) (h2 : sortedS m = true) (p : l.Perm m) : l = m := pw_uniq (sortedS_pw h1) (sortedS_pw h2) p
theorem insT_fold_nodup : ∀ (xs l : List Str), l.Nodup → (xs.foldl insT l).Nodup
  | [], l, h => h
  | x :: r, l, h => insT_fold_nodup r _ (insT_nodup h)
theorem toSet_nodup (xs : List Str) : (toSet xs).Nodup := insT_fold_nodup xs [] List.nodup_nil
theorem toSet_perm {xs ys : List Str} (h : ∀ k, k ∈ xs ↔ k ∈ ys) : (toSet xs).Perm (toSet ys) := by
  refine (List.perm_ext_iff_of_nodup (toSet_nodup xs) (toSet_nodup ys)).mpr fun k => ?_
  rw [toSet_mem, toSet_mem, h]
/-- ys is what sorted(set(xs)) gives -/
def SrtOf (xs ys : List Str) : Prop := sortedS ys = true ∧ ys.Perm (toSet xs)
theorem SrtOf.uniq {xs xs' ys ys' : List Str} (a : SrtOf xs ys) (b : SrtOf xs' ys') (h : ∀ k, k ∈ xs ↔ k ∈ xs') : ys = ys' :=
  sortedS_uniq a.1 b.1 (a.2.trans ((toSet_perm h).trans b.2.symm))
theorem SrtOf.mem {xs ys : List Str} (a : SrtOf xs ys) {k : Str} : k ∈ ys ↔ k ∈ xs := by rw [a.2.mem_iff, toSet_mem]
/-! ### pairs -/
def two (a b : Nat) : Str := ⟨#[a, b]⟩
def one (a : Nat) : Str := ⟨#[a]⟩
def tx (l : List Nat) : Str := ⟨l.toArray⟩
def prs : List Nat → List Str
  | a :: b :: r => two a b :: prs (b :: r)
  | _ => []
theorem prs_snoc : ∀ (z : List Nat) (a b : Nat), prs (z ++ [a, b]) = prs (z ++ [a]) ++ [two a b]
  | [], a, b => rfl
  | [x], a, b => rfl
  | x :: y :: z, a, b => by
    exact congrArg (two x y :: ·) (prs_snoc (y :: z) a b)
def pin (t : List Nat) : List Str := prs (94 :: (t ++ [36]))
theorem prs_len : ∀ l : List Nat, (prs l).length = l.length - 1
  | [] => rfl
  | [_] => rfl
  | a :: b :: r => by
    show (prs (b :: r)).length + 1 = _
    rw [prs_len (b :: r)]
    simp
theorem prs_get : ∀ (l : List Nat) (i a b : Nat), l[i]? = some a → l[i + 1]? = some b → (prs l)[i]? = some (two a b)
  | [], i, a, b, h, _ => by simp at h
  | [_], 0, a, b, _, h => by simp at h
  | [_], i + 1, a, b, h, _ => by simp at h
  | x :: y :: r, 0, a, b, h1, h2 => by
    simp at h1 h2
    subst h1; subst h2
    rfl
  | x :: y :: r, i + 1, a, b, h1, h2 => prs_get (y :: r) i a b h1 h2
/-! ### texts over some letters -/
def lst (t : List Nat) : Nat := (94 :: t).getLast (List.cons_ne_nil _ _)
theorem lst_nil : lst [] = 94 := rfl
theorem lst_snoc (t : List Nat) (c : Nat) : lst (t ++ [c]) = c := by
  unfold lst
  show ((94 :: t) ++ [c]).getLast _ = c
  exact List.getLast_concat
theorem prs_more (t : List Nat) (c : Nat) : prs (94 :: (t ++ [c])) = prs (94 :: t) ++ [two (lst t) c] := by
  have e : 94 :: t = (94 :: t).dropLast ++ [lst t] := (List.dropLast_concat_getLast (List.cons_ne_nil 94 t)).symm
  have q := prs_snoc (94 :: t).dropLast (lst t) c
  rw [← e] at q
  rw [← q]
  refine congrArg prs ?_
  rw [show (94 :: t).dropLast ++ [lst t, c] = ((94 :: t).dropLast ++ [lst t]) ++ [c] by rw [List.append_assoc] <;> rfl, ← e] <;> rfl
theorem pin_eq (t : List Nat) : pin t = prs (94 :: t) ++ [two (lst t) 36] := prs_more t 36
def chn (m : Str → Bool) (t : List Nat) : Bool := (prs (94 :: t)).all m
theorem chn_snoc (m : Str → Bool) (t : List Nat) (c : Nat) : chn m (t ++ [c]) = (chn m t && m (two (lst t) c)) := by
  unfold chn
  rw [prs_more, List.all_append]
  simp
def alw (m : Str → Bool) (t : List Nat) : Bool := (pin t).all m
theorem alw_eq (m : Str → Bool) (t : List Nat) : alw m t = (chn m t && m (two (lst t) 36)) := by
  unfold alw chn
  rw [pin_eq, List.all_append]
  simp
def more1 (L : List Nat) (t : List Nat) : List (List Nat) := L.map fun c => t ++ [c]
def lev (L : List Nat) : Nat → List (List Nat)
  | 0 => [[]]
  | n + 1 => (lev L n).flatMap (more1 L)
def allT (L : List Nat) : Nat → List (List Nat)
  | 0 => [[]]
  | n + 1 => allT L n ++ lev L (n + 1)
def rws (m : Str → Bool) (L : List Nat) (n : Nat) : List (List Nat) := (lev L n).filter (chn m)
def mor (m : Str → Bool) (L : List Nat) (t : List Nat) : List (List Nat) := (L.filter fun c => m (two (lst t) c)).map fun c => t ++ [c]
theorem mor_eq (m : Str → Bool) (L : List Nat) (t : List Nat) : (more1 L t).filter (chn m) = if chn m t = true then mor m L t else [] := by
  unfold more1 mor
  induction L with
  | nil => simp
  | cons c L ih =>
    rw [List.map_cons, List.filter_cons, ih, chn_snoc, List.filter_cons]
    cases h1 : chn m t <;> cases h2 : m (two (lst t) c) <;> simp
theorem rws_succ (m : Str → Bool) (L : List Nat) (n : Nat) : rws m L (n + 1) = (rws m L n).flatMap (mor m L) := by
  unfold rws
  show ((lev L n).flatMap (more1 L)).filter (chn m) = _
  induction lev L n with
  | nil => rfl
  | cons t r ih =>
    rw [List.flatMap_cons, List.filter_append, ih, mor_eq, List.filter_cons]
    split
    · rw [List.flatMap_cons]
    · rfl
def endOk (m : Str → Bool) (t : List Nat) : Bool := m (two (lst t) 36)
/-- what the walk has found behind n turns -/
def fnd (m : Str → Bool) (L : List Nat) : Nat → List (List Nat)
  | 0 => []
  | n + 1 => fnd m L n ++ (rws m L n).filter (endOk m)
theorem fnd_eq (m : Str → Bool) (L : List Nat) : ∀ n, fnd m L (n + 1) = (allT L n).filter (alw m)
  | 0 => by
    show [] ++ ([[]].filter (chn m)).filter (endOk m) = [[]].filter (alw m)
    rw [List.nil_append, List.filter_filter]
    refine List.filter_congr fun t _ => ?_
    rw [alw_eq, Bool.and_comm] <;> rfl
  | n + 1 => by
    show fnd m L (n + 1) ++ ((lev L (n + 1)).filter (chn m)).filter (endOk m) = (allT L n ++ lev L (n + 1)).filter (alw m)
    rw [fnd_eq m L n, List.filter_append, List.filter_filter]
    refine congrArg _ (List.filter_congr fun t _ => ?_)
    rw [alw_eq, Bool.and_comm] <;> rfl
theorem lev_len (L : List Nat) (k : Nat) (h : L.length ≤ k) : ∀ n, (lev L n).length ≤ k ^ n
  | 0 => Nat.le_refl _
  | n + 1 => by
    have b : ∀ l : List (List Nat), (l.flatMap (more1 L)).length = l.length * L.length := by
      intro l
      induction l with
      | nil => simp
      | cons t r ih =>
        rw [List.flatMap_cons, List.length_append, ih]
        unfold more1
        rw [List.length_map, List.length_cons, Nat.add_mul]
        omega
    show ((lev L n).flatMap (more1 L)).length ≤ _
    rw [b, Nat.pow_succ]
    exact Nat.mul_le_mul (lev_len L k h n) h
theorem lev_mem {L : List Nat} : ∀ {n : Nat} {t : List Nat}, t ∈ lev L n → t.length = n ∧ ∀ c ∈ t, c ∈ L
  | 0, t, h => by
    have e : t = [] := List.mem_singleton.mp h
    subst e
    exact ⟨rfl, fun _ h => nomatch h⟩
  | n + 1, t, h => by
    obtain ⟨u, hu, ht⟩ := List.mem_flatMap.mp h
    obtain ⟨c, hc, rfl⟩ := List.mem_map.mp ht
    obtain ⟨h1, h2⟩ := lev_mem hu
    refine ⟨by rw [List.length_append, h1] <;> rfl, fun d hd => ?_⟩
    rcases List.mem_append.mp hd with q | q
    · exact h2 d q
    · exact List.mem_singleton.mp q ▸ hc
theorem allT_mem {L : List Nat} : ∀ {n : Nat} {t : List Nat}, t ∈ allT L n → t.length ≤ n ∧ ∀ c ∈ t, c ∈ L
  | 0, t, h => by
    have q := lev_mem (L := L) (n := 0) h
    exact ⟨Nat.le_of_eq q.1, q.2⟩
  | n + 1, t, h => by
    rcases List.mem_append.mp h with q | q
    · have r := allT_mem q
      exact ⟨Nat.le_succ_of_le r.1, r.2⟩
    · have r := lev_mem q
      exact ⟨Nat.le_of_eq r.1, r.2⟩
end Sf
/-! Defs that must know that no repr is under way around them: the same promises as a def's, with this known of the surroundings. -/
namespace Sf
open PySem PySem.Spec PyProof.Rows L2
/-- a def's promise where no repr is under way -/
structure FnG (P : Program) (w : World) (K : PySem.W.Frag) (mg : Str → Option Value) (base : Heap) (k : Nat) (f : Addr) (fd : FuncData) (ps : List Str) (sp : Sp) : Prop where
  cnt : ∀ xs Hh W Ex, sp xs Hh W Ex → xs.length = ps.length
  go : ∀ (A : Around) (out : List Env) (st : Shared) (Hh : Hp) (ar : Args) (ys : List Value) (xs : List V) (W : VK) (Ex : XK), Room k A → A.guards = some [] → Env0 P w K mg base A out st Hh → BindsTo st fd ar (ps.zip ys) → Vals xs ys → sp xs Hh W Ex →
    codeAny (model P w) A (.call (.ref f) ar) (CR CX0 out P w Hh st W Ex) st
section
variable {P : Program} {w : World} {K : PySem.W.Frag} {mg : Str → Option Value} {base : Heap}
theorem okG {x qual : Str} {st : Stmt} {f : Addr} {fd : FuncData} {N ps : List Str} {k : Nat} {sp : Sp} (F : Fun K x qual st f fd) (S : FnScope N ps (defScope st)) (cnt : ∀ xs Hh W Ex, sp xs Hh W Ex → xs.length = ps.length)
    (body : ∀ (cdv : Value) (A : Around) (out : List Env) (sh : Shared) (Hh : Hp) (xs : List V) (W : VK) (Ex : XK), Room k (A.deeper (envOfC qual (defScope st) sh.heap.objs.size f cdv)) → A.guards = some [] → sp xs Hh W Ex →
      ∃ t, PSs (cxOf CX0 P w K mg base N qual (defScope st) f cdv A out sh Hh Ex).nox (defBody st) t ∧ t { nx := fun _ H' => W .non H', rt := W } (start N xs) Hh) : FnG P w K mg base (k + 1) f fd ps sp := by
  obtain ⟨oc, od, kV, doc, pm, an, cdv, ct, osl, rfl, look, code⟩ := F.ex
  refine ⟨cnt, fun A out sh Hh ar ys xs W Ex room gd e0 bind rel prom => ?_⟩
  have count := cnt _ _ _ _ prom
  have here : K.In sh.heap := e0.mod.kin.keeps fun p ob e => (e0.bs p ob e).1
  have calm : sh.heap.NoLimit := e0.mod.nolimit.keeps fun p ob e => (e0.bs p ob e).1
  have kinds : ∀ z ∈ ps.zip ys, (defScope st).names.lookup z.1 = some .local ∨ ((defScope st).names.lookup z.1 = some .cell ∧ ((cellsFrom (sh.heap.objs.size + 1) (defScope st).names []).lookup z.1).isSome = true) := fun ⟨nm, vl⟩ hz =>
    (S.par nm (List.of_mem_zip hz).1).elim .inl fun c => .inr ⟨c, PySem.W.cellsFrom_some _ _ _ (.inl c)⟩
  refine codeAny_call_function room.depth (here _ _ look) rfl S.co S.gen rfl (PySem.W.codeRec_of here code) (bind _ _ _ _ (wpAny_newFunctionEnv_cells S.kind kinds fun env ee sh1 ent => ?_))
  subst ee
  refine ⟨calm.keeps ent.toInCall.keep, codeAny_func ?_⟩
  obtain ⟨t, walk, start1⟩ := body cdv A out sh Hh xs W Ex (room.deeper _) gd prom
  have I := inv_start (CX := CX0) (E := Ex) S room.hd e0 count rel ent
  refine wpAny_mono (walk.nox.run [] sh1 (start N xs) Hh _ I start1) (fun how sh2 done => ?_) fun ex sh2 done => done
  match how, done with
  | .ret u, ⟨v, σ2, H2, J, rv, qv⟩ => exact ⟨v, H2, J.os, J.bare, J.base, J.hok, rv, qv⟩
  | .next, ⟨σ2, H2, J, qv⟩ => exact ⟨V.non, H2, J.os, J.bare, J.base, J.hok, rfl, qv⟩
  | .brk, ⟨_, _, _, no⟩ => exact no.elim
  | .cont, ⟨_, _, _, no⟩ => exact no.elim
/-- such a def called from another one -/
theorem pe_callG {X : Cx} {k : Nat} {f : Addr} {fd : FuncData} {ps : List Str} {sp : Sp} {x : Str} {p pos : Pos} {e : Expr} {es : List Expr} {t : TA} (F : FnG X.prog X.w X.K X.mg X.base k f fd ps sp) (room : Room k X.A) (gd : X.A.guards = some []) (hg : Gl X x) (hm : X.mg x = some (.ref f))
    (kp : PySem.W.keepIn X.K (.ref f) = true) (hb : Binds X.K fd ps []) (ha : PA X (e :: es) t) (hx : Passes CX0 X E0) (hdb : (x == ("__debug__" : Str)) = false := by decide)
    (he : starEach (e :: es) X.env = (false, eval e X.env) :: starEach es X.env := by rfl) (hpl : (backTo pos (starEach es X.env)).any (·.1) = false := by rfl) : PE X (.Call (.Name x p) (e :: es) [] pos) (tCall sp [] E0 t) :=
  ⟨fun pins sh σ Hh W I prom => wpAny_Call_Name_kw (ld_glob I hg hm
    (PySem.W.callWith_K (h₀ := X.base) I.ok.mod.kin kp (thn (ha.run pos pins sh σ Hh _ I prom) fun ys s1 ⟨xs, H1, I1, rel, q⟩ => ⟨I1.kIn, by
      have q : sp (xs ++ []) H1 W E0 := q
      rw [List.append_nil] at q
      have len1 : (ys ++ ([] : List Value)).length = ps.length := by
        rw [List.append_nil, ← rel.length]
        exact F.cnt _ _ _ _ q
      have bd := hb s1 ys I1.kIn len1
      rw [List.append_nil] at bd
      refine wpAny_call (codeAny_mono (F.go X.A X.stack s1 H1 ⟨ys, []⟩ ys xs W E0 room gd I1.env0 bd rel q) fun r s2 ends => ?_)
      match r, ends with
      | .error ex, z => exact hx pins σ H1 s1 ex s2 I1 z
      | .ok (.ret u), z => exact I1.after z
      | .ok .next, z => exact z.elim
      | .ok .brk, z => exact z.elim
      | .ok .cont, z => exact z.elim⟩) he hpl) hdb)⟩
/-- the law's own call, where its def is such a one -/
theorem law_callG {mb : Str → Option Value} {k : Nat} {fa a : Addr} {fd : FuncData} {x : Str} {sp : Sp} {sh : Shared} {us : List Value} {ns : List Int} (KX : K.In sh.heap) (hm : sh.heap.Ns mainGlobals mg) (hb : sh.heap.Ns builtinsNs mb) (hbb : ∀ y : Str, y ≠ "__name__" → mb y = bootBuiltins y)
    (lim : sh.heap.NoLimit) (gens : sh.gens = #[]) (at_ : sh.heap.get? a = some { cls := .type "list", data := .seq us.toArray }) (hints : IntsAre us ns) (fits : ns.length ≤ sizeLine) (room : Room k callerA)
    (F : ∀ b : Heap, K.In b → b.Ns mainGlobals mg → FnG P w K mg b k fa fd [x] sp) (bind : ∀ (s : Shared) (u : Value), BindsTo s fd ⟨[u], []⟩ [(x, u)]) (prom : ∀ Hh : Hp, SqL K Hh a (ns.map V.int) → sp [.ref a] Hh (fun v _ => v = .bl true) E0) :
    codeAny (model P w) callerA (.call (.ref fa) ⟨[.ref a], []⟩) (fun r s' => r = .ok (.ret (.bool true)) ∧ OldK sh.heap s'.heap ∧ s'.os = sh.os ∧ AllBare s'.gens) sh := by
  have rel := vals_ints hints
  have lens : us.length ≤ sizeLine := by
    rw [hints.length]
    exact fits
  -- what is tracked: the script's list alone, unless the module has it
  obtain ⟨Hh, only, hS⟩ : ∃ Hh : Hp, (∀ b u, Hh b = some u → b = a ∧ K.lookup a = none ∧ u = .frz { cls := .type "list", data := .seq us.toArray } (.lst (ns.map V.int))) ∧ SqL K Hh a (ns.map V.int) := by
    cases hk : K.lookup a with
    | some ob =>
      obtain rfl : ob = _ := Option.some.inj ((KX a ob hk).symm.trans at_)
      exact ⟨fun _ => none, (fun _ _ z => nomatch z), .inr ⟨_, us.toArray, _, hk, rfl, rfl, rfl, by rw [List.size_toArray]; exact lens, by simpa using rel⟩⟩
    | none =>
      refine ⟨fun b => if b = a then some (.frz { cls := .type "list", data := .seq us.toArray } (.lst (ns.map V.int))) else none, fun b u z => ?_, .inl (.inr ⟨_, if_pos rfl⟩)⟩
      dsimp only at z
      by_cases e : b = a
      · rw [if_pos e] at z
        exact ⟨e, rfl, (Option.some.inj z).symm⟩
      · rw [if_neg e] at z
        cases z
  have notK : ∀ b o, K.lookup b = some o → Hh b = none := fun b o e => by
    cases q : Hh b with
    | none => rfl
    | some u =>
      obtain ⟨e1, e2, _⟩ := only b u q
      rw [e1, e2] at e
      cases e
  have notD : ∀ (b : Addr) (o : Obj) (es : Array DictEntry) (ep : Nat), sh.heap.get? b = some o → o.data = .dict es ep → Hh b = none := fun b o es ep e d => by
    cases q : Hh b with
    | none => rfl
    | some u =>
      obtain ⟨e1, _, _⟩ := only b u q
      rw [e1, at_] at e
      cases e
      cases d
  have space : ∀ {b : Addr} {m : Str → Option Value}, sh.heap.Ns b m → (hidT sh.heap Hh).Ns b m := fun {b m} ⟨o, es, ep, e, d, r⟩ => ⟨o, es, ep, hidT_get e (notD b o es ep e d), d, r⟩
  have inB : K.In (hidT sh.heap Hh) := fun b o e => hidT_get (KX b o e) (notK b o e)
  have md : Mod K mg (hidT sh.heap Hh) := ⟨inB, space hm, ⟨mb, space hb, hbb⟩, lim.elim fun mc z => ⟨mc, space z.1, z.2⟩⟩
  have held : HOk P w Hh sh.heap := fun b u z => by
    obtain ⟨e1, _, e3⟩ := only b u z
    subst e1
    subst e3
    exact ⟨at_, by rw [List.length_map]; exact fits, us, _, rel, at_⟩
  have e0 : Env0 P w K mg (hidT sh.heap Hh) callerA [] sh Hh := ⟨rfl, md, fun b o e => of_hidT e, Nat.le_of_eq (hidT_size _ _), trivial, (fun b z => nomatch z), held, .of_eq gens⟩
  refine codeAny_mono ((F _ inB (space hm)).go callerA [] sh Hh ⟨[.ref a], []⟩ [.ref a] [.ref a] _ _ room rfl e0 (bind sh (.ref a)) (.cons rfl .nil) (prom Hh hS)) fun r s2 done => ?_
  match r, done with
  | .error ex, z => exact absurd z (by
      intro z
      exact z)
  | .ok .next, z => exact z.elim
  | .ok .brk, z => exact z.elim
  | .ok .cont, z => exact z.elim
  | .ok (.ret u), ⟨v, H2, os, bare, un, held2, rv, qv⟩ =>
    obtain rfl : v = .bl true := qv
    obtain rfl : u = Value.bool true := rv
    refine ⟨rfl, OldK.of_keep fun b o e => ?_, os, bare⟩
    cases q : Hh b with
    | none => exact un.keep b o e q (fun z => nomatch z) (fun z => nomatch z)
    | some t =>
      obtain ⟨e1, _, e3⟩ := only b t q
      rw [e3] at q
      obtain ⟨g1, _⟩ := held b _ q
      obtain ⟨g2, _⟩ := held2 b _ (un.frzs b _ _ q)
      rw [e] at g1
      cases g1
      exact g2
/-- the end of a claim whose law is such a def -/
theorem walk_G {l : PySem.W.OpenLaw} {n k : Nat} {q : Program} {loose : List Str} {XP : (Str → Option Value) → Heap → Prop} {YP : World → Heap → Prop} {d : DefRec} {KK : Params → PySem.W.Frag} {sp : World → Sp} {x : Str} (most : l.most = some n) (few : n ≤ sizeLine) (nodef : d.params.defaults = []) (room : Room k callerA)
    (hY : ∀ (w : World) (h : Heap), YP w h → (KK w.params).In h)
    (F : ∀ (w : World) (mg : Str → Option Value) (fa : Addr) (h : Heap), (KK w.params).In h → h.Ns mainGlobals mg → mg d.name = some (.ref fa) →
      ∃ fd : FuncData, (∀ (s : Shared) (u : Value), BindsTo s fd ⟨[u], []⟩ [(x, u)]) ∧ ∀ b : Heap, (KK w.params).In b → b.Ns mainGlobals mg → FnG l.prog w (KK w.params) mg b k fa fd [x] (sp w))
    (prom : ∀ (w : World) (Hh : Hp) (a : Addr) (ns : List Int), ns.length ≤ n → SqL (KK w.params) Hh a (ns.map V.int) → sp w [.ref a] Hh (fun v _ => v = .bl true) E0) :
    PySem.W.WalkO q loose XP YP l.row.toRowW d [] (fun f vs => PySem.call f vs) :=
  Att.attach_call most nodef fun w s0 s1 mg mb fa o pm cd doc a vs ns G Y _ _ _ hmg hobj hints hlen hg => by
    have KX := hY w _ Y
    obtain ⟨fd, bind, hF⟩ := F w mg fa _ KX G.T.g hmg
    exact law_callG KX G.T.g G.T.b G.T.builtins G.T.nolimit hg hobj hints (Nat.le_trans hlen few) room hF bind fun Hh hS => prom w Hh a ns hlen hS
end
end Sf
/-! Values of any kind, as trees of data on the tracked heap: None, bools, ints, texts, lists, tuples, dicts with one text as key; their repr, their isinstance. -/
namespace Sf
open PySem PySem.Spec PyProof.Rows L2
mutual
/-- v is the data d; no object of it stands at p; with g none of its lists at the modules' own place -/
inductive Od (g : Bool) (p : Addr) (H : Hp) : V → PyData → Prop
  | non : Od g p H .non .none
  | bl (b : Bool) : Od g p H (.bl b) (.bool b)
  | int (i : Int) : Od g p H (.int i) (.int i)
  | str (x : Str) : Od g p H (.str x) (.str x)
  | lst {a : Addr} {xs : List V} {ds : List PyData} : a ≠ p → (g = true → a ≠ sysModules) → H a = some (.lst xs) → OdAll g p H xs ds → Od g p H (.ref a) (.list ds)
  | tup {a : Addr} {xs : List V} {ds : List PyData} : a ≠ p → H a = some (.tup xs) → OdAll g p H xs ds → Od g p H (.ref a) (.tuple ds)
  | dic0 {a : Addr} : g = true → a ≠ p → H a = some (.dK []) → Od g p H (.ref a) (.dict [])
  | dic1 {a : Addr} {x : Str} {v : V} {d : PyData} : g = true → a ≠ p → H a = some (.dK [(.inr x, v)]) → Od g p H v d → Od g p H (.ref a) (.dict [(.str x, d)])
inductive OdAll (g : Bool) (p : Addr) (H : Hp) : List V → List PyData → Prop
  | nil : OdAll g p H [] []
  | cons {v : V} {vs : List V} {d : PyData} {ds : List PyData} : Od g p H v d → OdAll g p H vs ds → OdAll g p H (v :: vs) (d :: ds)
end
section
variable {g : Bool} {p : Addr} {H H' : Hp}
mutual
theorem Od.mono (k : ∀ b o, b ≠ p → H b = some o → H' b = some o) : ∀ {d : PyData} {v : V}, Od g p H v d → Od g p H' v d
  | .none, _, h => by
    cases h
    exact .non
  | .bool b, _, h => by
    cases h
    exact .bl b
  | .int i, _, h => by
    cases h
    exact .int i
  | .str x, _, h => by
    cases h
    exact .str x
  | .list ds, _, h => by
    cases h with
    | lst n1 n2 e t => exact .lst n1 n2 (k _ _ n1 e) (OdAll.mono k t)
  | .tuple ds, _, h => by
    cases h with
    | tup n1 e t => exact .tup n1 (k _ _ n1 e) (OdAll.mono k t)
  | .dict [], _, h => by
    cases h with
    | dic0 g1 n1 e => exact .dic0 g1 n1 (k _ _ n1 e)
  | .dict [(.str x, d)], _, h => by
    cases h with
    | dic1 g1 n1 e t => exact .dic1 g1 n1 (k _ _ n1 e) (Od.mono k t)
  | .dict ((.none, _) :: _), _, h => by cases h
  | .dict ((.bool _, _) :: _), _, h => by cases h
  | .dict ((.int _, _) :: _), _, h => by cases h
  | .dict ((.list _, _) :: _), _, h => by cases h
  | .dict ((.tuple _, _) :: _), _, h => by cases h
  | .dict ((.dict _, _) :: _), _, h => by cases h
  | .dict ((.str _, _) :: _ :: _), _, h => by cases h
theorem OdAll.mono (k : ∀ b o, b ≠ p → H b = some o → H' b = some o) : ∀ {ds : List PyData} {vs : List V}, OdAll g p H vs ds → OdAll g p H' vs ds
  | [], _, h => by
    cases h
    exact .nil
  | d :: ds, _, h => by
    cases h with
    | cons h1 h2 => exact .cons (Od.mono k h1) (OdAll.mono k h2)
end
theorem OdAll.len : ∀ {ds : List PyData} {vs : List V}, OdAll g p H vs ds → vs.length = ds.length
  | [], _, h => by
    cases h
    rfl
  | d :: ds, _, h => by
    cases h with
    | cons h1 h2 =>
      rw [List.length_cons, List.length_cons, h2.len]
theorem OdAll.get : ∀ {ds : List PyData} {vs : List V} {i : Nat} {v : V}, OdAll g p H vs ds → vs[i]? = some v → ∃ d, ds[i]? = some d ∧ Od g p H v d
  | [], _, _, _, h, e => by
    cases h
    cases e
  | d :: ds, _, 0, _, h, e => by
    cases h with
    | cons h1 h2 =>
      obtain rfl := Option.some.inj e
      exact ⟨d, rfl, h1⟩
  | d :: ds, _, i + 1, _, h, e => by
    cases h with
    | cons h1 h2 => exact h2.get (i := i) e
theorem OdAll.strs : ∀ (xs : List Str), OdAll g p H (xs.map V.str) (xs.map PyData.str)
  | [] => .nil
  | x :: xs => .cons (.str x) (OdAll.strs xs)
theorem OdAll.app : ∀ {ds es : List PyData} {vs us : List V}, OdAll g p H vs ds → OdAll g p H us es → OdAll g p H (vs ++ us) (ds ++ es)
  | [], es, _, us, h, k => by
    cases h
    exact k
  | d :: ds, es, _, us, h, k => by
    cases h with
    | cons h1 h2 => exact .cons h1 (h2.app k)
/-- texts alone, as a list of texts -/
theorem OdAll.isStrs : ∀ {ds : List PyData} {vs : List V}, OdAll g p H vs ds → (∀ d ∈ ds, ∃ x, d = .str x) → ∃ ts : List Str, vs = ts.map V.str ∧ ds = ts.map PyData.str
  | [], _, h, _ => by
    cases h
    exact ⟨[], rfl, rfl⟩
  | d :: ds, _, h, a => by
    cases h with
    | cons h1 h2 =>
      obtain ⟨x, rfl⟩ := a d List.mem_cons_self
      cases h1
      obtain ⟨ts, e1, e2⟩ := h2.isStrs fun z hz => a z (List.mem_cons_of_mem _ hz)
      exact ⟨x :: ts, by rw [e1] <;> rfl, by rw [e2] <;> rfl⟩
mutual
theorem Od.weak : ∀ {d : PyData} {v : V}, Od false p H v d → d.hasDict = false
  | .none, _, _ => rfl
  | .bool b, _, _ => rfl
  | .int i, _, _ => rfl
  | .str x, _, _ => rfl
  | .list ds, _, h => by
    cases h with
    | lst _ _ _ t =>
      simp only [PyData.hasDict]
      exact OdAll.weak t
  | .tuple ds, _, h => by
    cases h with
    | tup _ _ t =>
      simp only [PyData.hasDict]
      exact OdAll.weak t
  | .dict _, _, h => by
    cases h with
    | dic0 g1 => cases g1
    | dic1 g1 => cases g1
theorem OdAll.weak : ∀ {ds : List PyData} {vs : List V}, OdAll false p H vs ds → PyData.hasDictAll ds = false
  | [], _, _ => rfl
  | d :: ds, _, h => by
    cases h with
    | cons h1 h2 =>
      simp only [PyData.hasDictAll]
      rw [Od.weak h1, OdAll.weak h2] <;> rfl
end
end
section
variable {X : Cx} {pins : List (Addr × Obj)} {σ : L2.St} {g : Bool} {p : Addr} {H : Hp} {s : Shared}
theorem one_pair {knd : KeyKind X.prog X.w Key} {es : List DictEntry} {kv : Key × Value} (h : Pairs knd es [kv]) : ∃ e, es = [e] ∧ knd.is kv.1 e.key = true ∧ e.val = kv.2 := by
  cases h with
  | cons h1 h2 h3 =>
    cases h3
    exact ⟨_, rfl, h1, h2⟩
theorem no_pair {knd : KeyKind X.prog X.w Key} {es : List DictEntry} (h : Pairs knd es []) : es = [] := by
  cases h
  rfl
mutual
theorem Od.reads (I : Inv X pins σ H s) : ∀ (d : PyData) (v : V) (u : Value), Od g p H v d → RelV v u → ∃ as, Reads s.heap u d as ∧ (g = true → sysModules ∉ as)
  | .none, _, _, h, r => by
    cases h
    cases r
    exact ⟨_, .none, fun _ => List.not_mem_nil⟩
  | .bool b, _, _, h, r => by
    cases h
    cases r
    exact ⟨_, .bool b, fun _ => List.not_mem_nil⟩
  | .int i, _, _, h, r => by
    cases h
    obtain ⟨t, rfl⟩ := r
    exact ⟨_, .int i t, fun _ => List.not_mem_nil⟩
  | .str x, _, _, h, r => by
    cases h
    obtain ⟨t, rfl⟩ := r
    exact ⟨_, .str x t, fun _ => List.not_mem_nil⟩
  | .list ds, _, _, h, r => by
    cases h with
    | lst n1 n2 e t =>
      cases r
      obtain ⟨_, its, n, rv, h1⟩ := (show ObjOk X.prog X.w H s.heap _ (.lst _) from I.hok _ _ e)
      obtain ⟨as, hr, hn⟩ := OdAll.reads I ds _ its t rv
      refine ⟨_, .list h1 rfl rfl hr, fun q z => ?_⟩
      rcases List.mem_cons.mp z with z | z
      · exact n2 q z.symm
      · exact hn q z
  | .tuple ds, _, _, h, r => by
    cases h with
    | tup n1 e t =>
      cases r
      obtain ⟨_, its, rv, o, h1, h2, n, h3⟩ := (show ObjOk X.prog X.w H s.heap _ (.tup _) from I.hok _ _ e)
      obtain ⟨as, hr, hn⟩ := OdAll.reads I ds _ its t rv
      exact ⟨_, .tuple h1 h2 h3 hr, hn⟩
  | .dict [], _, _, h, r => by
    cases h with
    | dic0 g1 n1 e =>
      cases r
      obtain ⟨_, n2, vs, kv, o, es, ep, h1, h2, h3, _, h4, _⟩ := (show ObjOk X.prog X.w H s.heap _ (.dK _) from I.hok _ _ e)
      cases kv
      have e0 := no_pair h4
      refine ⟨_, .dict (as := []) (bs := []) h1 h2.1 h3 (by rw [e0]; exact .nil) (by rw [e0]; exact .nil), fun _ z => ?_⟩
      rcases List.mem_cons.mp z with z | z
      · exact (beq_eq_false_iff_ne.mp n2) z.symm
      · exact List.not_mem_nil z
  | .dict [(.str x, d)], _, _, h, r => by
    cases h with
    | dic1 g1 n1 e t =>
      cases r
      obtain ⟨_, n2, vs, kv, o, es, ep, h1, h2, h3, _, h4, _⟩ := (show ObjOk X.prog X.w H s.heap _ (.dK _) from I.hok _ _ e)
      cases kv with
      | @cons _ kw _ _ q1 q2 =>
        cases q2
        obtain ⟨k1, w1⟩ := kw
        obtain ⟨q3, q4⟩ := q1
        obtain ⟨e1, ee, e2, e3⟩ := one_pair h4
        obtain rfl : Sum.inr x = k1 := q3
        obtain ⟨as, hr, hn⟩ := Od.reads I d _ w1 t q4
        obtain ⟨y, tk, ey, ek⟩ : ∃ y tk, (Sum.inr x : Key) = Sum.inr y ∧ e1.key = Value.str y tk := by
          rcases keyIs_shape (k := Sum.inr x) (v := e1.key) e2 with ⟨i, tk, z, _⟩ | ⟨y, tk, z, z2⟩
          · cases z
          · exact ⟨y, tk, z, z2⟩
        cases ey
        refine ⟨_, .dict (as := []) (bs := as ++ []) h1 h2.1 h3 ?_ ?_, fun q z => ?_⟩
        · rw [ee]
          show ReadsAll s.heap [e1.key] [PyData.str x] []
          rw [ek]
          exact .cons (as := []) (.str x tk) .nil
        · rw [ee]
          show ReadsAll s.heap [e1.val] [d] (as ++ [])
          rw [e3]
          exact .cons hr .nil
        · rcases List.mem_cons.mp z with z | z
          · exact (beq_eq_false_iff_ne.mp n2) z.symm
          · have z : sysModules ∈ as ++ [] := z
            rw [List.append_nil] at z
            exact hn q z
  | .dict ((.none, _) :: _), _, _, h, _ => by cases h
  | .dict ((.bool _, _) :: _), _, _, h, _ => by cases h
  | .dict ((.int _, _) :: _), _, _, h, _ => by cases h
  | .dict ((.list _, _) :: _), _, _, h, _ => by cases h
  | .dict ((.tuple _, _) :: _), _, _, h, _ => by cases h
  | .dict ((.dict _, _) :: _), _, _, h, _ => by cases h
  | .dict ((.str _, _) :: _ :: _), _, _, h, _ => by cases h
theorem OdAll.reads (I : Inv X pins σ H s) : ∀ (ds : List PyData) (vs : List V) (us : List Value), OdAll g p H vs ds → Vals vs us → ∃ as, ReadsAll s.heap us ds as ∧ (g = true → sysModules ∉ as)
  | [], _, _, h, r => by
    cases h
    cases r
    exact ⟨_, .nil, fun _ => List.not_mem_nil⟩
  | d :: ds, _, _, h, r => by
    cases h with
    | cons h1 h2 =>
      cases r with
      | cons r1 r2 =>
        obtain ⟨as, q1, n1⟩ := Od.reads I d _ _ h1 r1
        obtain ⟨bs, q2, n2⟩ := OdAll.reads I ds _ _ h2 r2
        refine ⟨_, .cons q1 q2, fun q z => ?_⟩
        rcases List.mem_append.mp z with z | z
        · exact n1 q z
        · exact n2 q z
end
/-- data that is small enough to be shown -/
structure Sm (n m : Nat) (d : PyData) : Prop where
  sh : d.showable = true
  lv : d.leavesShort 40 = true
  wt : d.weight ≤ n
  dp : d.depth ≤ m
theorem Sm.fits {n m : Nat} {d : PyData} (h : Sm n m d) (hn : n ≤ 100000) : d.shown.length ≤ sizeLine := by
  have h1 := PyData.shown_le 40 (by decide) d h.lv
  have h2 : (40 + 2) * d.weight ≤ 42 * 100000 := Nat.mul_le_mul (by decide) (Nat.le_trans h.wt hn)
  exact Nat.le_trans (show _ ≤ 4200040 by omega) (by decide)
/-- repr of any such value -/
def rRepr : List V → Hp → VK → Prop := fun vs H Q => ∃ (v : V) (g : Bool) (p : Addr) (d : PyData) (n m : Nat), vs = [v] ∧ Od g p H v d ∧ Sm n m d ∧ n ≤ 100000 ∧ m ≤ 60 ∧ Q (.str d.shown) H
theorem cr_repr (hg : X.A.guards = some []) (hu : X.A.units + 64 < cLine) : CallR X (.builtin "repr") rRepr := by
  intro pins s σ H vs us Q I r h
  obtain ⟨v, g, p, d, n, m, rfl, ho, sm, hn, hm, q⟩ := h
  obtain ⟨u, rfl, r1⟩ := vals1 r
  obtain ⟨as, rd, nm⟩ := Od.reads I d v u ho r1
  have fit := sm.fits hn
  have dep : d.depth ≤ 60 := Nat.le_trans sm.dp hm
  have big : d.hasDict = true → sysModules ∉ as := fun z => by
    cases g with
    | true => exact nm rfl
    | false =>
      rw [ho.weak] at z
      cases z
  cases rd with
  | none => exact PySem.P.repr_of_none ⟨.str _, H, I.tok _, ⟨_, rfl⟩, q⟩
  | bool b => exact PySem.P.repr_of_bool ⟨.str _, H, I.tok _, ⟨_, rfl⟩, q⟩
  | int i t => exact PySem.P.repr_of_int (by simpa [PyData.showable] using sm.sh) ⟨.str _, H, I.tok _, ⟨_, rfl⟩, q⟩
  | str x t => exact PySem.P.repr_of_str ⟨.str _, H, I.tok _, ⟨_, rfl⟩, q⟩ fit
  | list h1 h2 h3 h4 => exact repr_of_reads' (.list h1 h2 h3 h4) sm.sh big hg (by omega) (fun _ _ e => e) (fun h' u tk k => ⟨.str _, H, I.kept k, ⟨_, rfl⟩, q⟩) fit
  | tuple h1 h2 h3 h4 => exact repr_of_reads' (.tuple h1 h2 h3 h4) sm.sh big hg (by omega) (fun _ _ e => e) (fun h' u tk k => ⟨.str _, H, I.kept k, ⟨_, rfl⟩, q⟩) fit
  | dict h1 h2 h3 h4 h5 => exact repr_of_reads' (.dict h1 h2 h3 h4 h5) sm.sh big hg (by omega) (fun _ _ e => e) (fun h' u tk k => ⟨.str _, H, I.kept k, ⟨_, rfl⟩, q⟩) fit
/-- a list that is written out, with where it does not stand -/
def tLstN (t : TA) : TE := fun σ H Q => t σ H fun xs H1 => xs.length ≤ sizeLine ∧ ∀ l, H1 l = none → l ≠ sysModules → Q (.ref l) (upd H1 l (.lst xs))
theorem pe_lstN {es : List Expr} {t : TA} {pos : Pos} (h : PA X es t) : PE X (.List es pos) (tLstN t) :=
  ⟨fun pins s σ H Q I hq => wpAny_List_spliced (thn (h.run pos pins s σ H _ I hq) fun us s1 ⟨xs, H1, I1, r, z, q⟩ => ⟨by
    rw [← r.length]
    exact z, .ref s1.heap.objs.size, upd H1 s1.heap.objs.size (.lst xs), I1.laid (t' := s1.toks) (fun b u e => Heap.get?_push_of_some _ e) (Nat.le_refl _) ⟨z, us, 0, r, Heap.get?_push_size _ rfl⟩, rfl,
      q _ (I1.hok.fresh (Nat.le_refl _)) (Ne.symm (Nat.ne_of_lt I1.big))⟩)⟩
/-! ### isinstance -/
def tyN : PyData → String
  | .none => "NoneType"
  | .bool _ => "bool"
  | .int _ => "int"
  | .str _ => "str"
  | .list _ => "list"
  | .tuple _ => "tuple"
  | .dict _ => "dict"
theorem Od.ty {K : PySem.W.Frag} : ∀ {d : PyData} {v : V}, Od g p H v d → TyX K H v (.type (tyN d))
  | _, _, .non => .base .non
  | _, _, .bl b => .base (.bl b)
  | _, _, .int i => .base (.int i)
  | _, _, .str x => .base (.str x)
  | _, _, .lst _ _ e _ => .base (.lst e)
  | _, _, .tup _ e _ => .base (.tup e)
  | _, _, .dic0 _ _ e => .base (.dK e)
  | _, _, .dic1 _ _ e _ => .base (.dK e)
def isS : PyData → Bool
  | .str _ => true
  | _ => false
def isT : PyData → Bool
  | .tuple _ => true
  | _ => false
theorem kit_str (d : PyData) : kitB (tyN d) "str" = some (isS d) := by
  cases d <;> (simp only [tyN, isS, isT]; decide +kernel)
theorem kit_tup (d : PyData) : kitB (tyN d) "tuple" = some (isT d) := by
  cases d <;> (simp only [tyN, isS, isT]; decide +kernel)
/-- isinstance(v, str) -/
theorem isi_str {K : PySem.W.Frag} {d : PyData} {v : V} {Q : VK} (h : Od g p H v d) (q : Q (.bl (isS d)) H) : rIsi K [v, .ty "str"] H Q := ⟨v, .ty "str", _, _, _, rfl, .ty "str", h.ty, kit_ty (kit_str d), q⟩
/-- isinstance(v, tuple) -/
theorem isi_tup {K : PySem.W.Frag} {d : PyData} {v : V} {Q : VK} (h : Od g p H v d) (q : Q (.bl (isT d)) H) : rIsi K [v, .ty "tuple"] H Q := ⟨v, .ty "tuple", _, _, _, rfl, .ty "tuple", h.ty, kit_ty (kit_tup d), q⟩
end
end Sf
/-! The program's text, by places; the reader's object; trees on the heap. -/
namespace Sf4
open PySem PySem.Spec PyProof.Rows L2 Sf
def topS (i : Nat) : Stmt := PySem.Challenge.pw_siftstore_k16_longest_words_of_choices.main.body.getD i (.Pass ⟨0, 0, 0, 0⟩)
abbrev cRd : Stmt := topS 43
abbrev sRp : Stmt := topS 44
abbrev sSize : Stmt := topS 46
abbrev cWr : Stmt := topS 47
abbrev sWrt : Stmt := topS 48
abbrev sIsI : Stmt := topS 51
abbrev cPat : Stmt := topS 52
abbrev sRI : Stmt := inClass cRd 0
abbrev sSign : Stmt := inClass cRd 1
abbrev sSkips : Stmt := inClass cRd 2
abbrev sDemand : Stmt := inClass cRd 3
abbrev sWhole : Stmt := inClass cRd 4
abbrev sChoice : Stmt := inClass cRd 5
abbrev sChain : Stmt := inClass cRd 6
abbrev sItem : Stmt := inClass cRd 7
abbrev sNumber : Stmt := inClass cRd 8
abbrev sUnit : Stmt := inClass cRd 9
abbrev sGroup : Stmt := inClass cRd 10
abbrev sCapture : Stmt := inClass cRd 11
abbrev sClass : Stmt := inClass cRd 12
abbrev sPart : Stmt := inClass cRd 13
/-- a method, where it stands -/
structure Mt (K : PySem.W.Frag) (C : Addr) (x qual : Str) (st : Stmt) (ps : List Str) (f : Addr) (fd : FuncData) : Prop where
  F : Fun K x qual st f fd
  b : Binds K fd ps []
  m : Meth K C x f
def LSs : Str := Str.ofString " 0123456789_abcdefghijklmnopqrstuvwxyz"
/-- what the reader's methods find -/
structure RT (K : PySem.W.Frag) (w : World) (mg : Str → Option Value) (C : Addr) (f : Nat → Addr) (fd : Nat → FuncData) (tk : Nat → Tok) (cd : Addr) (ces : Array DictEntry) (cn : Nat) (ct : Nat → Addr) : Prop where
  cl : Cls K C
  nStr : NoAttr K C "string"
  nSp : NoAttr K C "spot"
  nNm : NoAttr K C "names"
  nMo : NoAttr K C "many_open"
  mI : Mt K C "__init__" "PatternReader.__init__" sRI ["self", "string"] (f 0) (fd 0)
  mSign : Mt K C "sign" "PatternReader.sign" sSign ["self"] (f 1) (fd 1)
  mSkips : Mt K C "skips" "PatternReader.skips" sSkips ["self", "sign"] (f 2) (fd 2)
  mDemand : Mt K C "demand" "PatternReader.demand" sDemand ["self", "is_right"] (f 3) (fd 3)
  mWhole : Mt K C "read_whole" "PatternReader.read_whole" sWhole ["self"] (f 4) (fd 4)
  mChoice : Mt K C "read_choice" "PatternReader.read_choice" sChoice ["self"] (f 5) (fd 5)
  mChain : Mt K C "read_chain" "PatternReader.read_chain" sChain ["self"] (f 6) (fd 6)
  mItem : Mt K C "read_item" "PatternReader.read_item" sItem ["self"] (f 7) (fd 7)
  mNumber : Mt K C "read_number" "PatternReader.read_number" sNumber ["self"] (f 8) (fd 8)
  mUnit : Mt K C "read_unit" "PatternReader.read_unit" sUnit ["self"] (f 9) (fd 9)
  mGroup : Mt K C "read_group" "PatternReader.read_group" sGroup ["self"] (f 10) (fd 10)
  mCapture : Mt K C "read_capture" "PatternReader.read_capture" sCapture ["self"] (f 11) (fd 11)
  mClass : Mt K C "read_class" "PatternReader.read_class" sClass ["self"] (f 12) (fd 12)
  mPart : Mt K C "read_part" "PatternReader.read_part" sPart ["self"] (f 13) (fd 13)
  gLet : mg "LETTERS" = some (.str LSs (tk 0))
  gBeg : mg "BEGIN" = some (.str (Str.ofString "^") (tk 1))
  gEnd : mg "END" = some (.str (Str.ofString "$") (tk 2))
  gDig : mg "DIGITS" = some (.str (Str.ofString "0123456789") (tk 3))
  gSma : mg "SMALL" = some (.str (Str.ofString "abcdefghijklmnopqrstuvwxyz") (tk 4))
  gMS : mg "MOST_SIGNS" = some (.int 60 (tk 5))
  gMO : mg "MOST_OPEN" = some (.int 8 (tk 6))
  gMN : mg "MOST_NAME" = some (.int 8 (tk 7))
  gMC : mg "MOST_COUNT" = some (.int 20 (tk 8))
  gPl : mg "PLACE_parsing" = some (.str (Str.ofString "place") (tk 9))
  gCh : mg "CHAIN_parsing" = some (.str (Str.ofString "chain") (tk 10))
  gAl : mg "CHOICE_parsing" = some (.str (Str.ofString "choice") (tk 11))
  gCo : mg "COUNT" = some (.str (Str.ofString "count") (tk 12))
  gCa : mg "CAPTURE_parsing" = some (.str (Str.ofString "capture") (tk 13))
  gEm : mg "EMPTY_parsing" = some (.str (Str.ofString "empty") (tk 14))
  gCs : mg "COUNTS" = some (.ref cd)
  kd : KDict K w cd ces cn
  c1 : PySem.W.nsIn K cd (Str.ofString "*") = some (some (.ref (ct 0)))
  c2 : PySem.W.nsIn K cd (Str.ofString "+") = some (some (.ref (ct 1)))
  c3 : PySem.W.nsIn K cd (Str.ofString "?") = some (some (.ref (ct 2)))
  c0 : ∀ z : Str, z ≠ Str.ofString "*" → z ≠ Str.ofString "+" → z ≠ Str.ofString "?" → PySem.W.nsIn K cd z = some none
  t1 : ∀ H : Hp, SqT K H (ct 0) [.int 0, .non]
  t2 : ∀ H : Hp, SqT K H (ct 1) [.int 1, .non]
  t3 : ∀ H : Hp, SqT K H (ct 2) [.int 0, .int 1]
  mkC : Mk K C (f 0)
  gC : mg "PatternReader" = some (.ref C)
  zisi : mg "isinstance" = none
  zlen : mg "len" = none
  zint : mg "int" = none
  zstr : mg "str" = none
  ztup : mg "tuple" = none
theorem smU {H : Hp} {p : Addr} {o : HO} (h : H p = none) : Same H (upd H p o) := fun b u e => by
  rw [upd_ne (ne_of_none e h)]
  exact e
/-! ### the object -/
def rf (Z : List Nat) (s : Nat) (l : Addr) (m : Int) : List (Str × V) := [("string", .str (tx Z)), ("spot", .int s), ("names", .ref l), ("many_open", .int m)]
theorem lk_eq {k : Str} {v : V} {r : List (Str × V)} : List.lookup k ((k, v) :: r) = some v := by
  have hb : (k == k) = true := beq_iff_eq.mpr rfl
  simp only [List.lookup, hb]
theorem lk_ne {k g : Str} {v : V} {r : List (Str × V)} (h : ¬ k = g) : List.lookup k ((g, v) :: r) = List.lookup k r := by
  have hb : (k == g) = false := beq_eq_false_iff_ne.mpr h
  simp only [List.lookup, hb]
theorem pt_eq {k : Str} {v x : V} {r : List (Str × V)} : putF k v ((k, x) :: r) = (k, v) :: r := if_pos rfl
theorem pt_ne {k g : Str} {v x : V} {r : List (Str × V)} (h : ¬ g = k) : putF k v ((g, x) :: r) = (g, x) :: putF k v r := if_neg h
section
variable {Z : List Nat} {s : Nat} {l : Addr} {m : Int}
theorem rf_string : (rf Z s l m).lookup ("string" : Str) = some (.str (tx Z)) := lk_eq
theorem rf_spot : (rf Z s l m).lookup ("spot" : Str) = some (.int s) := (lk_ne (by decide +kernel)).trans lk_eq
theorem rf_names : (rf Z s l m).lookup ("names" : Str) = some (.ref l) := (lk_ne (by decide +kernel)).trans ((lk_ne (by decide +kernel)).trans lk_eq)
theorem rf_open : (rf Z s l m).lookup ("many_open" : Str) = some (.int m) := (lk_ne (by decide +kernel)).trans ((lk_ne (by decide +kernel)).trans ((lk_ne (by decide +kernel)).trans lk_eq))
theorem rf_no {k : Str} (h1 : ¬ k = "string") (h2 : ¬ k = "spot") (h3 : ¬ k = "names") (h4 : ¬ k = "many_open") : (rf Z s l m).lookup k = none := (lk_ne h1).trans ((lk_ne h2).trans ((lk_ne h3).trans ((lk_ne h4).trans rfl)))
theorem rf_pspot (s' : Nat) : putF "spot" (.int s') (rf Z s l m) = rf Z s' l m := (pt_ne (by decide +kernel)).trans (by rw [pt_eq] <;> rfl)
theorem rf_popen (m' : Int) : putF "many_open" (.int m') (rf Z s l m) = rf Z s l m' := (pt_ne (by decide +kernel)).trans (by rw [pt_ne (by decide +kernel), pt_ne (by decide +kernel), pt_eq] <;> rfl)
end
def nmV (nm : Nm) : List V := nm.map fun n => V.str (tx n)
/-- the reader at p with its names' list at l -/
structure RdA (C : Addr) (Z : List Nat) (p dx l : Addr) (H : Hp) (s : Nat) (nm : Nm) (m : Int) : Prop where
  e : H p = some (.ins C dx (rf Z s l m))
  n : H l = some (.lst (nmV nm))
  k : nm.length ≤ s
  z : Z.length ≤ 60
/-- all else stands as it stood -/
def K2 (p l : Addr) (H H' : Hp) : Prop := ∀ b o, b ≠ p → b ≠ l → H b = some o → H' b = some o
theorem K2.refl (p l : Addr) (H : Hp) : K2 p l H H := fun _ _ _ _ h => h
theorem K2.trans {p l : Addr} {H H1 H2 : Hp} (a : K2 p l H H1) (b : K2 p l H1 H2) : K2 p l H H2 := fun c o n1 n2 h => b c o n1 n2 (a c o n1 n2 h)
theorem K2.same {p l : Addr} {H H1 : Hp} (a : Same H H1) : K2 p l H H1 := fun c o _ _ h => a c o h
theorem K2.p {p l : Addr} {H : Hp} {o : HO} : K2 p l H (upd H p o) := fun c u n _ h => by
  rw [upd_ne n]
  exact h
theorem K2.l {p l : Addr} {H : Hp} {o : HO} : K2 p l H (upd H l o) := fun c u _ n h => by
  rw [upd_ne n]
  exact h
section
variable {C p dx l : Addr} {Z : List Nat} {H H' : Hp} {s : Nat} {nm : Nm} {m : Int}
theorem RdA.ne (R : RdA C Z p dx l H s nm m) : p ≠ l := ne_of R.e R.n (by intro z; cases z)
theorem RdA.spot (R : RdA C Z p dx l H s nm m) (s' : Nat) (h : s ≤ s') : RdA C Z p dx l (upd H p (.ins C dx (putF "spot" (.int s') (rf Z s l m)))) s' nm m := ⟨by rw [upd_same, rf_pspot], by rw [upd_ne R.ne.symm]; exact R.n, Nat.le_trans R.k h, R.z⟩
theorem RdA.opn (R : RdA C Z p dx l H s nm m) (m' : Int) : RdA C Z p dx l (upd H p (.ins C dx (putF "many_open" (.int m') (rf Z s l m)))) s nm m' := ⟨by rw [upd_same, rf_popen], by rw [upd_ne R.ne.symm]; exact R.n, R.k, R.z⟩
theorem RdA.nam (R : RdA C Z p dx l H s nm m) (n : List Nat) (h : nm.length < s) : RdA C Z p dx l (upd H l (.lst (nmV nm ++ [.str (tx n)]))) s (nm ++ [n]) m := ⟨by rw [upd_ne R.ne]; exact R.e, by rw [upd_same]; unfold nmV; rw [List.map_append] <;> rfl, by rw [List.length_append, List.length_singleton]; omega, R.z⟩
theorem RdA.up (R : RdA C Z p dx l H s nm m) (a : Same H H') : RdA C Z p dx l H' s nm m := ⟨a _ _ R.e, a _ _ R.n, R.k, R.z⟩
theorem RdA.p0 (R : RdA C Z p dx l H s nm m) {b : Addr} (h : H b = none) : b ≠ p := fun z => by
  have := R.e
  rw [← z, h] at this
  cases this
theorem RdA.l0 (R : RdA C Z p dx l H s nm m) {b : Addr} (h : H b = none) : b ≠ l := fun z => by
  have := R.n
  rw [← z, h] at this
  cases this
/-- a list of one's own that is new changes nothing of what stood ahead of it -/
theorem K2.put {H3 H4 : Hp} {D : Addr} {o : HO} (k3 : K2 p l H H3) (k4 : K2 p l H H4) (n : H3 D = none) : K2 p l H (upd H4 D o) := fun c u n1 n2 h => by
  rw [upd_ne (ne_of_none (k3 c u n1 n2 h) n)]
  exact k4 c u n1 n2 h
theorem RdA.wr (R : RdA C Z p dx l H s nm m) {D : Addr} {o : HO} (n1 : D ≠ p) (n2 : D ≠ l) : RdA C Z p dx l (upd H D o) s nm m := ⟨by rw [upd_ne n1.symm]; exact R.e, by rw [upd_ne n2.symm]; exact R.n, R.k, R.z⟩
theorem RdA.tp (R : RdA C Z p dx l H s nm m) {b : Addr} {xs : List V} (h : H b = some (.tup xs)) : b ≠ p ∧ b ≠ l := by
  refine ⟨fun z => ?_, fun z => ?_⟩
  · have := R.e
    rw [← z, h] at this
    cases this
  · have := R.n
    rw [← z, h] at this
    cases this
end
/-! ### trees -/
def plW : Str := Str.ofString "place"
def chW : Str := Str.ofString "chain"
def alW : Str := Str.ofString "choice"
def coW : Str := Str.ofString "count"
def caW : Str := Str.ofString "capture"
def emW : Str := Str.ofString "empty"
def mst : Option Nat → V
  | none => .non
  | some b => .int b
mutual
/-- v is the tree -/
inductive TrO (H : Hp) : V → Tr → Prop
  | place {a : Addr} {s : List Nat} : H a = some (.tup [.str plW, .str (tx s)]) → TrO H (.ref a) (.place s)
  | chain {a b : Addr} {vs : List V} {l : List Tr} : H a = some (.tup [.str chW, .ref b]) → H b = some (.tup vs) → TrOs H vs l → TrO H (.ref a) (.chain l)
  | choice {a b : Addr} {vs : List V} {l : List Tr} : H a = some (.tup [.str alW, .ref b]) → H b = some (.tup vs) → TrOs H vs l → TrO H (.ref a) (.choice l)
  | count {a : Addr} {c : Nat} {d : Option Nat} {v : V} {t : Tr} : H a = some (.tup [.str coW, .int c, mst d, v]) → TrO H v t → TrO H (.ref a) (.count c d t)
  | capture {a : Addr} {n : List Nat} {v : V} {t : Tr} : H a = some (.tup [.str caW, .str (tx n), v]) → TrO H v t → TrO H (.ref a) (.capture n t)
  | empty {a : Addr} : H a = some (.tup [.str emW]) → TrO H (.ref a) .empty
inductive TrOs (H : Hp) : List V → List Tr → Prop
  | nil : TrOs H [] []
  | cons {v : V} {vs : List V} {t : Tr} {ts : List Tr} : TrO H v t → TrOs H vs ts → TrOs H (v :: vs) (t :: ts)
end
/-- tuples stay -/
def KT (H H' : Hp) : Prop := ∀ b xs, H b = some (.tup xs) → H' b = some (.tup xs)
theorem KT.trans {H H1 H2 : Hp} (a : KT H H1) (b : KT H1 H2) : KT H H2 := fun c xs h => b c xs (a c xs h)
theorem KT.same {H H1 : Hp} (a : Same H H1) : KT H H1 := fun c xs h => a c _ h
theorem RdA.kt {C p dx l : Addr} {Z : List Nat} {H H' : Hp} {s : Nat} {nm : Nm} {m : Int} (R : RdA C Z p dx l H s nm m) (k : K2 p l H H') : KT H H' := fun b xs h => k b _ (R.tp h).1 (R.tp h).2 h
mutual
theorem TrO.mono {H H' : Hp} (k : KT H H') : ∀ {t : Tr} {v : V}, TrO H v t → TrO H' v t
  | .place s, _, h => by
    cases h with
    | place e => exact .place (k _ _ e)
  | .chain l, _, h => by
    cases h with
    | chain e e2 r => exact .chain (k _ _ e) (k _ _ e2) (TrOs.mono k r)
  | .choice l, _, h => by
    cases h with
    | choice e e2 r => exact .choice (k _ _ e) (k _ _ e2) (TrOs.mono k r)
  | .count c d t, _, h => by
    cases h with
    | count e r => exact .count (k _ _ e) (TrO.mono k r)
  | .capture n t, _, h => by
    cases h with
    | capture e r => exact .capture (k _ _ e) (TrO.mono k r)
  | .empty, _, h => by
    cases h with
    | empty e => exact .empty (k _ _ e)
theorem TrOs.mono {H H' : Hp} (k : KT H H') : ∀ {ts : List Tr} {vs : List V}, TrOs H vs ts → TrOs H' vs ts
  | [], _, h => by
    cases h
    exact .nil
  | t :: ts, _, h => by
    cases h with
    | cons e r => exact .cons (TrO.mono k e) (TrOs.mono k r)
end
theorem TrOs.len {H : Hp} : ∀ {ts : List Tr} {vs : List V}, TrOs H vs ts → vs.length = ts.length
  | [], _, h => by
    cases h
    rfl
  | t :: ts, _, h => by
    cases h with
    | cons e r => rw [List.length_cons, List.length_cons, r.len]
theorem TrOs.snoc {H : Hp} : ∀ {ts : List Tr} {vs : List V} {v : V} {t : Tr}, TrOs H vs ts → TrO H v t → TrOs H (vs ++ [v]) (ts ++ [t])
  | [], _, _, _, h, k => by
    cases h
    exact .cons k .nil
  | t :: ts, _, _, _, h, k => by
    cases h with
    | cons e r => exact .cons e (r.snoc k)
/-! ### signs -/
def sg (Z : List Nat) (s : Nat) : List Nat := (Z.drop s).take 1
theorem sg_some {Z : List Nat} {s c : Nat} (h : Z[s]? = some c) : sg Z s = [c] := by
  unfold sg
  obtain ⟨hl, e⟩ := List.getElem?_eq_some_iff.mp h
  rw [List.drop_eq_getElem_cons hl, e] <;> rfl
theorem sg_none {Z : List Nat} {s : Nat} (h : Z[s]? = none) : sg Z s = [] := by
  unfold sg
  rw [List.drop_eq_nil_of_le (List.getElem?_eq_none_iff.mp h)] <;> rfl
theorem tx_inj {a b : List Nat} (h : tx a = tx b) : a = b := by
  have h := congrArg (fun z : Str => z.cps.toList) h
  exact h
theorem sg_ne {Z : List Nat} {s c : Nat} (h : Z[s]? ≠ some c) : tx (sg Z s) ≠ tx [c] := fun z => by
  have z := tx_inj z
  cases e : Z[s]? with
  | none =>
    rw [sg_none e] at z
    cases z
  | some d =>
    rw [sg_some e] at z
    cases z
    exact h e
theorem tx_len (Z : List Nat) : (tx Z).length = Z.length := by
  show Z.toArray.size = Z.length
  rw [List.size_toArray]
theorem cut_sub (Z : List Nat) (a b : Nat) : cutS (tx Z) (some (a : Int)) (some (b : Int)) = tx ((Z.drop a).take (b - a)) := by
  unfold cutS HT.sIx
  have hl : (tx Z).length = Z.length := tx_len Z
  have n1 : ¬ ((a : Int) < 0) := by omega
  have n2 : ¬ ((b : Int) < 0) := by omega
  dsimp only
  rw [hl, if_neg n1, if_neg n2, Int.toNat_natCast, Int.toNat_natCast]
  show tx ((Z.drop (min a Z.length)).take (min b Z.length - min a Z.length)) = _
  congr 1
  apply List.ext_getElem?
  intro i
  rw [List.getElem?_take, List.getElem?_take, List.getElem?_drop, List.getElem?_drop]
  by_cases h : a + i < Z.length
  · have e1 : min a Z.length = a := by omega
    rw [e1]
    by_cases h2 : i < b - a
    · rw [if_pos h2, if_pos (by omega)]
    · rw [if_neg h2, if_neg (by omega)]
  · have e1 : Z[a + i]? = none := List.getElem?_eq_none_iff.mpr (by omega)
    rw [e1]
    by_cases h2 : i < min b Z.length - min a Z.length
    · have e2 : Z[min a Z.length + i]? = none := List.getElem?_eq_none_iff.mpr (by omega)
      rw [e2]
      split <;> split <;> rfl
    · rw [if_neg h2]
      split <;> rfl
theorem sg_cut (Z : List Nat) (s : Nat) : cutS (tx Z) (some (s : Int)) (some ((s : Int) + 1)) = tx (sg Z s) := by
  have h := cut_sub Z s (s + 1)
  rw [show s + 1 - s = 1 by omega] at h
  exact h
theorem tx_len60 {Z : List Nat} (h : Z.length ≤ 60) : (tx Z).length ≤ sizeLine := by
  rw [tx_len]
  exact Nat.le_trans h (by decide)
end Sf4
namespace Sf4
open PySem PySem.Spec PyProof.Rows L2 Sf
theorem scSign : FnScope ["self"] ["self"] (defScope sSign) := ⟨rfl, rfl, rfl, by decide +kernel, rfl, by decide +kernel, by decide +kernel⟩
theorem scSkips : FnScope ["self", "sign"] ["self", "sign"] (defScope sSkips) := ⟨rfl, rfl, rfl, by decide +kernel, rfl, by decide +kernel, by decide +kernel⟩
theorem scDemand : FnScope ["self", "is_right"] ["self", "is_right"] (defScope sDemand) := ⟨rfl, rfl, rfl, by decide +kernel, rfl, by decide +kernel, by decide +kernel⟩
def spSign (C : Addr) : Sp := fun vs H Q _ => ∃ (Z : List Nat) (p dx l : Addr) (s : Nat) (nm : Nm) (m : Int), vs = [.ref p] ∧ RdA C Z p dx l H s nm m ∧ Q (.str (tx (sg Z s))) H
def spSkips (C : Addr) : Sp := fun vs H Q _ => ∃ (Z : List Nat) (p dx l : Addr) (s : Nat) (nm : Nm) (m : Int) (c : Nat), vs = [.ref p, .str (tx [c])] ∧ RdA C Z p dx l H s nm m ∧
  (Z[s]? = some c → ∀ H', RdA C Z p dx l H' (s + 1) nm m → K2 p l H H' → Q (.bl true) H') ∧ (Z[s]? ≠ some c → Q (.bl false) H)
def spDemand (C : Addr) : Sp := fun vs H Q _ => ∃ (p : Addr), vs = [.ref p, .bl true] ∧ Q .non H
section
variable {P : Program} {w : World} {K : PySem.W.Frag} {mg : Str → Option Value} {base : Heap} {C : Addr} {f : Nat → Addr} {fd : Nat → FuncData} {tk : Nat → Tok} {cd : Addr} {ces : Array DictEntry} {cn : Nat} {ct : Nat → Addr}
theorem ok_sign (T : RT K w mg C f fd tk cd ces cn ct) : FnOk P w K mg base CX0 1 (f 1) (fd 1) ["self"] (spSign C) := by
  refine T.mSign.F.ok scSign (fun vs H Q E h => ?_) (fun cdv A outer s H vs Q E hr h => ?_)
  · obtain ⟨Z, p, dx, l, s, nm, m, rfl, _⟩ := h
    rfl
  · obtain ⟨Z, p, dx, l, s, nm, m, rfl, R, q⟩ := h
    refine ⟨_, pss_one (ps_ret (pe_slice sl_str (pe_fld (pv 0) rfl) (po_some (pe_fld (pv 0) rfl)) (po_some (pe_op op_add (pe_fld (pv 0) rfl) pe_int)))), ?_⟩
    refine ⟨.ref p, rfl, p, C, dx, _, _, rfl, R.e, T.cl, T.nStr, rf_string, .ref p, rfl, p, C, dx, _, _, rfl, R.e, T.cl, T.nSp, rf_spot, _, rfl, .ref p, rfl, p, C, dx, _, _, rfl, R.e, T.cl, T.nSp, rf_spot, _, _, rfl, rfl, _, rfl, _, rfl, tx_len60 R.z, ?_⟩
    rw [sg_cut]
    exact q
theorem ok_skips (T : RT K w mg C f fd tk cd ces cn ct) : FnOk P w K mg base CX0 2 (f 2) (fd 2) ["self", "sign"] (spSkips C) := by
  refine T.mSkips.F.ok scSkips (fun vs H Q E h => ?_) (fun cdv A outer s H vs Q E hr h => ?_)
  · obtain ⟨Z, p, dx, l, s, nm, m, c, rfl, _⟩ := h
    rfl
  · obtain ⟨Z, p, dx, l, s, nm, m, c, rfl, R, q1, q2⟩ := h
    refine ⟨_, pss_cons (ps_if (pt_cmpR op_ne (pe_meth0 (pv 0) T.cl T.mSign.m (ok_sign T) hr T.mSign.b .nil pass0) (pv 1) (nomark _)) (pss_one (ps_ret pe_bl)) pss_nil)
      (pss_cons (ps_fldaug (pv 0) pe_int in_add) (pss_one (ps_ret pe_bl))), ?_⟩
    have nS : (rf Z s l m).lookup ("sign" : Str) = none := rf_no (by decide +kernel) (by decide +kernel) (by decide +kernel) (by decide +kernel)
    refine ⟨.ref p, rfl, p, dx, _, rfl, R.e, nS, Z, p, dx, l, s, nm, m, rfl, R, .str (tx [c]), rfl, rfl, _, rfl, ?_⟩
    by_cases h : Z[s]? = some c
    · rw [sg_some h]
      refine iteNS rfl ?_
      refine ⟨.ref p, rfl, p, C, dx, _, _, rfl, R.e, T.cl, T.nSp, rf_spot, _, _, rfl, rfl, dx, _, R.e, (show 4 < 1000 by decide), ?_⟩
      exact q1 h _ (R.spot (s + 1) (Nat.le_succ s)) K2.p
    · have n : ¬ (V.str (tx (sg Z s)) = V.str (tx [c])) := fun z => sg_ne h (V.str.inj z)
      rw [decide_eq_false n]
      exact iteT (q2 h)
theorem ok_demand (T : RT K w mg C f fd tk cd ces cn ct) : FnOk P w K mg base CX0 1 (f 3) (fd 3) ["self", "is_right"] (spDemand C) := by
  refine T.mDemand.F.ok scDemand (fun vs H Q E h => ?_) (fun cdv A outer s H vs Q E hr h => ?_)
  · obtain ⟨p, rfl, _⟩ := h
    rfl
  · obtain ⟨p, rfl, q⟩ := h
    refine ⟨_, pss_one (ps_if (pt_not (pt_val (pv 1))) pss_never pss_nil), ?_⟩
    exact ⟨.bl true, rfl, true, rfl, iteF q⟩
end
end Sf4
namespace Sf4
open PySem PySem.Spec PyProof.Rows L2 Sf
theorem scNumber : FnScope ["self", "begin", "word"] ["self"] (defScope sNumber) := ⟨rfl, rfl, rfl, by decide +kernel, rfl, by decide +kernel, by decide +kernel⟩
theorem scPart : FnScope ["self", "first", "last"] ["self"] (defScope sPart) := ⟨rfl, rfl, rfl, by decide +kernel, rfl, by decide +kernel, by decide +kernel⟩
/-- int(text) -/
theorem call_intT {X : Cx} : CallR X (.type "int") (fun xs H Q => ∃ (x : Str) (n : Int), xs = [.str x] ∧ PySem.intText? x = some n ∧ x.length ≤ 640 ∧ Q (.int n) H) := by
  intro pins s σ H xs us Q I r h
  obtain ⟨x, n, rfl, hn, hl, q⟩ := h
  obtain ⟨u, rfl, r1⟩ := vals1 r
  obtain ⟨t1, rfl⟩ := r1
  exact PySem.W.KIN.call_text hn hl ⟨.int n, H, I.tok _, ⟨_, rfl⟩, q⟩
def spNumber (C : Addr) : Sp := fun vs H Q _ => ∃ (Z : List Nat) (p dx l : Addr) (s : Nat) (nm : Nm) (m : Int) (v q : Nat), vs = [.ref p] ∧ RdA C Z p dx l H s nm m ∧ RNum Z s v q ∧
  ∀ H', RdA C Z p dx l H' q nm m → K2 p l H H' → Q (.int v) H'
def spPart (C : Addr) : Sp := fun vs H Q _ => ∃ (Z : List Nat) (p dx l : Addr) (s : Nat) (nm : Nm) (m : Int) (c : Nat), vs = [.ref p] ∧ RdA C Z p dx l H s nm m ∧ Z[s]? = some c ∧ c ∈ LETc ∧ Z[s + 1]? ≠ some 45 ∧
  ∀ H', RdA C Z p dx l H' (s + 1) nm m → K2 p l H H' → Q (.str (tx [c])) H'
theorem one_num : ∀ c, c < 58 → 48 ≤ c → PySem.intText? (tx [c]) = some (((c - 48 : Nat) : Int)) := by decide +kernel
theorem two_num : ∀ c, c < 58 → ∀ d, d < 58 → 48 ≤ c → 48 ≤ d → PySem.intText? (tx [c, d]) = some (((10 * (c - 48) + (d - 48) : Nat) : Int)) := by decide +kernel
theorem digS (c : Nat) : c ∈ (Str.ofString "0123456789").cps.toList ↔ digit c := by
  rw [show (Str.ofString "0123456789").cps.toList = [48, 49, 50, 51, 52, 53, 54, 55, 56, 57] by decide +kernel]
  by_cases h : c < 128
  · exact (show ∀ c, c < 128 → (c ∈ [48, 49, 50, 51, 52, 53, 54, 55, 56, 57] ↔ 48 ≤ c ∧ c ≤ 57) by decide +kernel) c h
  · exact ⟨fun z => absurd ((show ∀ d ∈ [48, 49, 50, 51, 52, 53, 54, 55, 56, 57], d < 128 by decide +kernel) c z) h, fun z => absurd (Nat.lt_of_le_of_lt z.2 (by decide)) h⟩
theorem take_one {Z : List Nat} {s c : Nat} (h : Z[s]? = some c) : (Z.drop s).take 1 = [c] := sg_some h
theorem take_two {Z : List Nat} {s c d : Nat} (h : Z[s]? = some c) (h2 : Z[s + 1]? = some d) : (Z.drop s).take 2 = [c, d] := by
  obtain ⟨hl, e⟩ := List.getElem?_eq_some_iff.mp h
  obtain ⟨hl2, e2⟩ := List.getElem?_eq_some_iff.mp h2
  rw [List.drop_eq_getElem_cons hl, e, List.drop_eq_getElem_cons hl2, e2] <;> rfl
/-- what the word of a number is like -/
theorem num_word {Z : List Nat} {s v q : Nat} (h : RNum Z s v q) : ∃ (c : Nat) (r : List Nat), (Z.drop s).take (q - s) = c :: r ∧ r.length ≤ 1 ∧ (c :: r = [48] ∨ c ≠ 48) ∧ PySem.intText? (tx (c :: r)) = some ((v : Nat) : Int) ∧ v ≤ 20 ∧ s < q ∧
    (∀ i, s ≤ i → i < q → ∃ c, Z[i]? = some c ∧ digit c) ∧ ∀ e, Z[q]? = some e → ¬ digit e := by
  cases h with
  | one h1 h2 h3 =>
    rename_i c
    refine ⟨c, [], ?_, Nat.zero_le _, ?_, ?_, ?_, Nat.lt_succ_self _, fun i h4 h5 => ?_, h3⟩
    · rw [show s + 1 - s = 1 by omega]
      exact take_one h1
    · by_cases z : c = 48
      · exact .inl (by rw [z])
      · exact .inr z
    · exact one_num c (by have := h2.2; omega) h2.1
    · have := h2.2
      omega
    · obtain rfl : i = s := by omega
      exact ⟨c, h1, h2⟩
  | two h1 h2 h3 h4 h5 h6 h7 =>
    rename_i c d
    refine ⟨c, [d], ?_, Nat.le_refl _, .inr h3, ?_, h7, by omega, fun i h8 h9 => ?_, h6⟩
    · rw [show s + 2 - s = 2 by omega]
      exact take_two h1 h4
    · exact two_num c (by have := h2.2; omega) d (by have := h5.2; omega) h2.1 h5.1
    · by_cases z : i = s
      · exact z ▸ ⟨c, h1, h2⟩
      · obtain rfl : i = s + 1 := by omega
        exact ⟨d, h4, h5⟩
theorem em_ne {c : Nat} {r : List Nat} : ¬ (V.str (tx (c :: r)) = V.str (Str.ofString "")) := fun z => by
  have z := congrArg (fun z : Str => z.cps.toList) (V.str.inj z)
  have z : c :: r = (Str.ofString "").cps.toList := z
  rw [show (Str.ofString "").cps.toList = [] by decide +kernel] at z
  cases z
theorem em_eq : V.str (tx []) = V.str (Str.ofString "") := by decide +kernel
theorem LS_cps : LSs.cps.toList = LETc := by decide +kernel
theorem inLS {c : Nat} : c ∈ LSs.cps.toList ↔ c ∈ LETc := by rw [LS_cps]
section
variable {P : Program} {w : World} {K : PySem.W.Frag} {mg : Str → Option Value} {base : Heap} {C : Addr} {f : Nat → Addr} {fd : Nat → FuncData} {tk : Nat → Tok} {cd : Addr} {ces : Array DictEntry} {cn : Nat} {ct : Nat → Addr}
theorem ok_number (T : RT K w mg C f fd tk cd ces cn ct) : FnOk P w K mg base CX0 2 (f 8) (fd 8) ["self"] (spNumber C) := by
  refine T.mNumber.F.ok scNumber (fun vs H Q E h => ?_) (fun cdv A outer s H vs Q E hr h => ?_)
  · obtain ⟨Z, p, dx, l, s, nm, m, v, q, rfl, _⟩ := h
    rfl
  · obtain ⟨Z, p, dx, l, s, nm, m, v, e, rfl, R, hn, q⟩ := h
    obtain ⟨c, r, hw, hr1, h48, hi, hv, hse, hd, hend⟩ := num_word hn
    have G := ok_sign (P := P) (base := base) T
    refine ⟨_, pss_cons (ps_set (i := 1) scNumber.nd rfl (.inl rfl) (pe_fld (pv 0) rfl))
      (Evl.pss_cut (ps_while PassesOwn.never (PW.pt (pw_and (pt_cmpR op_ne (pe_meth0 (pv 0) T.cl T.mSign.m G hr T.mSign.b .nil pass0) pe_str (nomark _))
          (pw_and1 (pt_cmpR op_in_sign (pe_meth0 (pv 0) T.cl T.mSign.m G hr T.mSign.b .nil pass0) (pe_glob (v := .str (Str.ofString "0123456789")) rfl T.gDig ⟨_, rfl⟩) rfl))))
        (pss_one (ps_fldaug (pv 0) pe_int in_add)))
      (pss_cons (ps_set (i := 2) scNumber.nd rfl (.inl rfl) (pe_slice sl_str (pe_fld (pv 0) rfl) (po_some (pv 1)) (po_some (pe_fld (pv 0) rfl))))
      (Evl.pss_cut (ps_expr (pe_meth (pv 0) T.cl T.mDemand.m (ok_demand T) (hr.mono (by decide)) T.mDemand.b .nil pass0 (pa_cons
          (pe_and (pe_chain op_le op_le pe_int (pe_callB call_len_str (by rfl) T.zlen PySem.boot_len (pa_cons (pv 2) pa_nil))
              (pe_callB call_len_str (by rfl) T.zlen PySem.boot_len (pa_cons (pe_callTy call_str_int (by rfl) T.zstr (by decide +kernel) (pa_cons (pe_glob (v := .int 20) rfl T.gMC ⟨_, rfl⟩) pa_nil)) pa_nil)))
            (pe_one (pe_or (pe_cmpR op_eq (pv 2) pe_str (nomark _)) (pe_one (pe_cmpR op_ne (pe_ix ix_str (pv 2) pe_int (fun _ _ => rfl)) pe_str (nomark _)))))) pa_nil)))
      (pss_cons (ps_expr (pe_meth (pv 0) T.cl T.mDemand.m (ok_demand T) hr T.mDemand.b .nil pass0 (pa_cons
          (pe_cmpR op_le (pe_callTy call_intT (by rfl) T.zint PySem.Pv.boot_int (pa_cons (pv 2) pa_nil)) (pe_glob (v := .int 20) rfl T.gMC ⟨_, rfl⟩) (nomark _)) pa_nil)))
      (pss_one (ps_ret (pe_callTy call_intT (by rfl) T.zint PySem.Pv.boot_int (pa_cons (pv 2) pa_nil)))))))), ?_⟩
    have nS : ∀ s', (rf Z s' l m).lookup ("sign" : Str) = none := fun _ => rf_no (by decide +kernel) (by decide +kernel) (by decide +kernel) (by decide +kernel)
    have nD : ∀ s', (rf Z s' l m).lookup ("demand" : Str) = none := fun _ => rf_no (by decide +kernel) (by decide +kernel) (by decide +kernel) (by decide +kernel)
    refine ⟨.ref p, rfl, p, C, dx, _, _, rfl, R.e, T.cl, T.nSp, rf_spot, ?_⟩
    refine ⟨fun σ H1 => σ = [some (.ref p), some (.int s), none] ∧ RdA C Z p dx l H1 e nm m ∧ K2 p l H H1, ?_, fun σ H1 hM => ?_⟩
    · refine ⟨fun n σ H1 => ∃ s1, n = e - s1 ∧ s ≤ s1 ∧ s1 ≤ e ∧ σ = [some (.ref p), some (.int s), none] ∧ RdA C Z p dx l H1 s1 nm m ∧ K2 p l H H1, ⟨_, s, rfl, Nat.le_refl _, Nat.le_of_lt hse, rfl, R, K2.refl _ _ _⟩, ?_⟩
      rintro n σ H1 ⟨s1, rfl, ha, hb, rfl, R1, k1⟩
      refine ⟨.ref p, rfl, p, dx, _, rfl, R1.e, nS _, Z, p, dx, l, s1, nm, m, rfl, R1, rfl, _, rfl, ?_⟩
      by_cases hlt : s1 < e
      · obtain ⟨d, hz, hdd⟩ := hd s1 ha hlt
        rw [sg_some hz, decide_eq_false em_ne]
        refine iteT ⟨.ref p, rfl, p, dx, _, rfl, R1.e, nS _, Z, p, dx, l, s1, nm, m, rfl, R1, d, _, by rw [sg_some hz] <;> rfl, rfl, _, rfl, ?_⟩
        rw [decide_eq_true ((digS d).mpr hdd)]
        refine iteT ⟨fun σ' H' => ∃ s2, s2 = s1 + 1 ∧ σ' = [some (.ref p), some (.int s), none] ∧ RdA C Z p dx l H' s2 nm m ∧ K2 p l H H', fun σ' H' ⟨s2, h1, h2, h3, h4⟩ => ⟨e - s2, by omega, s2, rfl, by omega, by omega, h2, h3, h4⟩, ?_⟩
        refine ⟨.ref p, rfl, p, C, dx, _, _, rfl, R1.e, T.cl, T.nSp, rf_spot, _, _, rfl, rfl, dx, _, R1.e, (show 4 < 1000 by decide), ?_⟩
        exact ⟨s1 + 1, rfl, rfl, R1.spot (s1 + 1) (Nat.le_succ s1), k1.trans K2.p⟩
      · obtain rfl : s1 = e := by omega
        cases hz : Z[s1]? with
        | none =>
          rw [sg_none hz, decide_eq_true em_eq]
          exact iteF (iteF ⟨rfl, R1, k1⟩)
        | some d =>
          rw [sg_some hz, decide_eq_false em_ne]
          refine iteT ⟨.ref p, rfl, p, dx, _, rfl, R1.e, nS _, Z, p, dx, l, s1, nm, m, rfl, R1, d, _, by rw [sg_some hz] <;> rfl, rfl, _, rfl, ?_⟩
          rw [decide_eq_false fun z => hend d hz ((digS d).mp z)]
          exact iteF ⟨rfl, R1, k1⟩
    obtain ⟨rfl, R1, k1⟩ := hM
    refine ⟨.ref p, rfl, p, C, dx, _, _, rfl, R1.e, T.cl, T.nStr, rf_string, .int s, rfl, s, rfl, .ref p, rfl, p, C, dx, _, _, rfl, R1.e, T.cl, T.nSp, rf_spot, e, rfl, tx Z, rfl, tx_len60 R.z, ?_⟩
    rw [cut_sub, hw]
    have hl : (tx (c :: r)).length = r.length + 1 := tx_len _
    have hL : (tx (c :: r)).length ≤ sizeLine := by
      rw [hl]
      exact Nat.le_trans (show r.length + 1 ≤ 2 by omega) (by decide)
    have hL2 : (tx (c :: r)).length ≤ 640 := by
      rw [hl]
      omega
    have l2 : (toString (20 : Int) : Str).length = 2 := by decide +kernel
    refine ⟨fun σ H1 => σ = [some (.ref p), some (.int s), some (.str (tx (c :: r)))] ∧ RdA C Z p dx l H1 e nm m ∧ K2 p l H H1, ?_, fun σ H1 hM => ?_⟩
    refine ⟨.ref p, rfl, p, dx, _, rfl, R1.e, nD _, .str (tx (c :: r)), rfl, tx (c :: r), rfl, hL, _, _, rfl, rfl, _, rfl, ?_⟩
    rw [decide_eq_true (show (1 : Int) ≤ ((tx (c :: r)).length : Int) by rw [hl]; omega)]
    refine iteT ⟨20, rfl, by decide, _, rfl, by rw [l2]; decide, _, _, rfl, rfl, _, rfl, ?_⟩
    rw [decide_eq_true (show ((tx (c :: r)).length : Int) ≤ ((toString (20 : Int) : Str).length : Int) by rw [hl, l2]; omega)]
    refine iteT ⟨.str (tx (c :: r)), rfl, rfl, _, rfl, ?_⟩
    by_cases h0 : V.str (tx (c :: r)) = V.str (Str.ofString "0")
    · rw [decide_eq_true h0]
      exact iteT ⟨p, rfl, rfl, R1, k1⟩
    · rw [decide_eq_false h0]
      refine iteF ⟨.str (tx (c :: r)), rfl, tx (c :: r), 0, c, rfl, rfl, hL, atI_nat (j := 0) rfl, rfl, ?_⟩
      have nc : ¬ (V.str (⟨#[c]⟩ : Str) = V.str (Str.ofString "0")) := fun z => by
        have z := congrArg (fun z : Str => z.cps.toList) (V.str.inj z)
        have z : [c] = (Str.ofString "0").cps.toList := z
        rw [show (Str.ofString "0").cps.toList = [48] by decide +kernel] at z
        cases z
        rcases h48 with h48 | h48
        · exact h0 (by rw [h48]; decide +kernel)
        · exact h48 rfl
      rw [decide_eq_false nc]
      exact ⟨p, rfl, rfl, R1, k1⟩
    obtain ⟨rfl, R1, k1⟩ := hM
    refine ⟨.ref p, rfl, p, dx, _, rfl, R1.e, nD _, .str (tx (c :: r)), rfl, tx (c :: r), _, rfl, hi, hL2, _, _, rfl, rfl, ?_⟩
    refine ⟨p, ?_, .str (tx (c :: r)), rfl, tx (c :: r), _, rfl, hi, hL2, q _ R1 k1⟩
    show [V.ref p, V.bl (decide ((v : Int) ≤ 20))] = _
    rw [decide_eq_true (show ((v : Nat) : Int) ≤ 20 by omega)]
theorem ok_part (T : RT K w mg C f fd tk cd ces cn ct) : FnOk P w K mg base CX0 3 (f 13) (fd 13) ["self"] (spPart C) := by
  refine T.mPart.F.ok scPart (fun vs H Q E h => ?_) (fun cdv A outer s H vs Q E hr h => ?_)
  · obtain ⟨Z, p, dx, l, s, nm, m, c, rfl, _⟩ := h
    rfl
  · obtain ⟨Z, p, dx, l, s, nm, m, c, rfl, R, hz, hc, hn, q⟩ := h
    refine ⟨_, pss_cons (ps_set (i := 1) scPart.nd rfl (.inl rfl) (pe_meth0 (pv 0) T.cl T.mSign.m (ok_sign T) (hr.mono (by decide)) T.mSign.b .nil pass0))
      (pss_cons (ps_expr (pe_meth (pv 0) T.cl T.mDemand.m (ok_demand T) (hr.mono (by decide)) T.mDemand.b .nil pass0 (pa_cons
          (pe_and (pe_cmpR op_ne (pv 1) pe_str (nomark _)) (pe_one (pe_cmpR op_in_sign (pv 1) (pe_glob (v := .str LSs) rfl T.gLet ⟨_, rfl⟩) rfl))) pa_nil)))
      (pss_cons (ps_fldaug (pv 0) pe_int in_add)
      (pss_cons (ps_if (pt_not (pt_val (pe_meth (pv 0) T.cl T.mSkips.m (ok_skips T) hr T.mSkips.b .nil pass0 (pa_cons pe_str pa_nil)))) (pss_one (ps_ret (pv 1))) pss_nil) pss_never))), ?_⟩
    have nS : ∀ s', (rf Z s' l m).lookup ("sign" : Str) = none := fun _ => rf_no (by decide +kernel) (by decide +kernel) (by decide +kernel) (by decide +kernel)
    have nD : ∀ s', (rf Z s' l m).lookup ("demand" : Str) = none := fun _ => rf_no (by decide +kernel) (by decide +kernel) (by decide +kernel) (by decide +kernel)
    have nK : ∀ s', (rf Z s' l m).lookup ("skips" : Str) = none := fun _ => rf_no (by decide +kernel) (by decide +kernel) (by decide +kernel) (by decide +kernel)
    refine ⟨.ref p, rfl, p, dx, _, rfl, R.e, nS _, Z, p, dx, l, s, nm, m, rfl, R, ?_⟩
    rw [sg_some hz]
    refine ⟨.ref p, rfl, p, dx, _, rfl, R.e, nD _, _, rfl, rfl, _, rfl, ?_⟩
    rw [decide_eq_false em_ne]
    refine iteT ⟨_, rfl, c, _, rfl, rfl, p, ?_, ?_⟩
    · show [V.ref p, V.bl (decide (c ∈ LSs.cps.toList))] = _
      rw [decide_eq_true (inLS.mpr hc)]
    refine ⟨.ref p, rfl, p, C, dx, _, _, rfl, R.e, T.cl, T.nSp, rf_spot, _, _, rfl, rfl, dx, _, R.e, (show 4 < 1000 by decide), ?_⟩
    have R1 := R.spot (s + 1) (Nat.le_succ s)
    refine ⟨.ref p, rfl, p, dx, _, rfl, R1.e, nK _, Z, p, dx, l, s + 1, nm, m, 45, rfl, R1, fun z => absurd z hn, fun _ => ⟨false, rfl, iteT ?_⟩⟩
    exact ⟨_, rfl, q _ R1 K2.p⟩
end
end Sf4
namespace Sf4
open PySem PySem.Spec PyProof.Rows L2 Sf
def NCls : List Str := ["self", "is_other", "found", "letters", "letter"]
theorem scClass : FnScope NCls ["self"] (defScope sClass) := ⟨rfl, rfl, rfl, by decide +kernel, rfl, by decide +kernel, by decide +kernel⟩
def inC (ss : List Nat) : List Nat := LETc.filter fun c => decide (c ∈ ss)
def spClass (C : Addr) : Sp := fun vs H Q _ => ∃ (Z : List Nat) (p dx l : Addr) (s : Nat) (nm : Nm) (m : Int) (ss : List Nat) (q : Nat), vs = [.ref p] ∧ RdA C Z p dx l H s nm m ∧ Z[s]? ≠ some 94 ∧ RSome Z s ss q ∧
  ∀ H', RdA C Z p dx l H' q nm m → K2 p l H H' → Q (.str (tx (inC ss))) H'
/-- the first letter of a class, and what stands behind it -/
theorem some_first {Z : List Nat} {s q : Nat} {ss : List Nat} (h : RSome Z s ss q) : ∃ (c : Nat) (r : List Nat), ss = c :: r ∧ Z[s]? = some c ∧ c ∈ LETc ∧ Z[s + 1]? ≠ some 45 ∧ ((r = [] ∧ Z[s + 1]? = some 93 ∧ q = s + 2) ∨ (Z[s + 1]? ≠ some 93 ∧ RSome Z (s + 1) r q)) := by
  cases h with
  | last h1 h2 h3 => exact ⟨_, [], rfl, h1, h2, (fun z => by rw [h3] at z; cases z), .inl ⟨rfl, h3, rfl⟩⟩
  | next h1 h2 h3 h4 h5 => exact ⟨_, _, rfl, h1, h2, h3, .inr ⟨h4, h5⟩⟩
theorem some_letters {Z : List Nat} : ∀ {ss : List Nat} {s q : Nat}, RSome Z s ss q → ss.length ≤ Z.length - s ∧ ∀ c ∈ ss, c ∈ LETc
  | [], _, _, h => by cases h
  | c :: r, s, q, h => by
    have hlt : ∀ {c : Nat}, Z[s]? = some c → s < Z.length := fun e => (List.getElem?_eq_some_iff.mp e).1
    cases h with
    | last h1 h2 h3 =>
      have := hlt h1
      refine ⟨by show 1 ≤ _; omega, fun d hd => ?_⟩
      obtain rfl := List.mem_singleton.mp hd
      exact h2
    | next h1 h2 h3 h4 h5 =>
      have := hlt h1
      obtain ⟨i1, i2⟩ := some_letters h5
      refine ⟨by rw [List.length_cons]; omega, fun d hd => ?_⟩
      rcases List.mem_cons.mp hd with rfl | hd
      · exact h2
      · exact i2 d hd
theorem tx_app (a b : List Nat) : tx a ++ tx b = tx (a ++ b) := by
  refine TL.ext_tl ?_
  exact TL.tl_append (tx a) (tx b)
theorem inC_ne {Z : List Nat} {ss : List Nat} {s q : Nat} (h : RSome Z s ss q) : ∃ c r, inC ss = c :: r := by
  obtain ⟨c, r, rfl, _, hc, _⟩ := some_first h
  have : c ∈ inC (c :: r) := List.mem_filter.mpr ⟨hc, decide_eq_true List.mem_cons_self⟩
  cases e : inC (c :: r) with
  | nil =>
    rw [e] at this
    cases this
  | cons d t => exact ⟨d, t, rfl⟩
theorem joinL_ones : ∀ cs : List Nat, TL.joinL [] (cs.map fun c => [c]) = cs
  | [] => rfl
  | [c] => rfl
  | c :: d :: r => by
    show [c] ++ ([] ++ TL.joinL [] ((d :: r).map fun c => [c])) = _
    rw [joinL_ones (d :: r)] <;> rfl
theorem join_ones (cs : List Nat) : Txt.join (Str.ofString "") (cs.map fun c => (⟨#[c]⟩ : Str)) = tx cs := by
  rw [TL.join_eq]
  refine TL.ext_tl ?_
  rw [TL.tl_join, TL.tl, show (Str.ofString "").cps.toList = [] by decide +kernel, List.map_map]
  exact joinL_ones cs
theorem sum_ones (cs : List Nat) : ((cs.map fun c => (⟨#[c]⟩ : Str)).map (·.length)).sum = cs.length := by
  induction cs with
  | nil => rfl
  | cons c r ih =>
    rw [List.map_cons, List.map_cons, List.sum_cons, ih, List.length_cons]
    show 1 + r.length = r.length + 1
    omega
section
variable {P : Program} {w : World} {K : PySem.W.Frag} {mg : Str → Option Value} {base : Heap} {C : Addr} {f : Nat → Addr} {fd : Nat → FuncData} {tk : Nat → Tok} {cd : Addr} {ces : Array DictEntry} {cn : Nat} {ct : Nat → Addr}
theorem ok_class (T : RT K w mg C f fd tk cd ces cn ct) : FnOk P w K mg base CX0 4 (f 12) (fd 12) ["self"] (spClass C) := by
  refine T.mClass.F.ok scClass (fun vs H Q E h => ?_) (fun cdv A outer s H vs Q E hr h => ?_)
  · obtain ⟨Z, p, dx, l, s, nm, m, ss, q, rfl, _⟩ := h
    rfl
  · obtain ⟨Z, p, dx, l, s, nm, m, ss, e, rfl, R, hn, hS, q⟩ := h
    have GK := ok_skips (P := P) (base := base) T
    have GP := ok_part (P := P) (base := base) T
    refine ⟨_, pss_cons (ps_asg (pe_tup (pa_cons (pe_meth (pv 0) T.cl T.mSkips.m GK (hr.mono (by decide)) T.mSkips.b .nil pass0 (pa_cons pe_str pa_nil)) (pa_cons (pe_meth0 (pv 0) T.cl T.mPart.m GP hr T.mPart.b .nil pass0) pa_nil)))
        (pg_tup rfl (pgs_cons (pg_name (i := 1) scClass.nd rfl (.inr rfl)) (pgs_cons (pg_name (i := 2) scClass.nd rfl (.inr rfl)) pgs_nil))))
      (Evl.pss_cut (ps_while PassesOwn.never (pt_not (pt_val (pe_meth (pv 0) T.cl T.mSkips.m GK (hr.mono (by decide)) T.mSkips.b .nil pass0 (pa_cons pe_str pa_nil))))
        (pss_one (ps_set (i := 2) scClass.nd rfl (.inr rfl) (pe_op op_add_str (pv 2) (pe_meth0 (pv 0) T.cl T.mPart.m GP hr T.mPart.b .nil pass0)))))
      (pss_cons (ps_set (i := 3) scClass.nd rfl (.inl rfl) (pe_join pe_str (pe_lc (own := [("letter", 4)]) (g := gName 4) (tt := tTest (tOp rNe (tOp rInS (tVar 4) (tVar 2)) (tVar 1))) (te := tVar 4) rfl scClass.nd
          (pi_str (pe_glob (v := .str LSs) rfl T.gLet ⟨_, rfl⟩)) (blkOk_by (N := NCls) (sc := defScope sClass) (by decide +kernel)) (fun _ _ _ _ _ => pg_name (i := 4) scClass.nd rfl (Or.inl rfl))
          (fun _ _ _ _ _ => pts_one (pt_cmpR op_ne (pe_cmpR op_inS (pv 4) (pv 2) rfl) (pv 1) (nomark _))) (fun _ _ _ _ _ => pv 4))))
      (pss_cons (ps_expr (pe_meth (pv 0) T.cl T.mDemand.m (ok_demand T) (hr.mono (by decide)) T.mDemand.b .nil pass0 (pa_cons (pe_cmpR op_ne (pv 3) pe_str (nomark _)) pa_nil)))
      (pss_one (ps_ret (pv 3)))))), ?_⟩
    have nP : ∀ s', (rf Z s' l m).lookup ("read_part" : Str) = none := fun _ => rf_no (by decide +kernel) (by decide +kernel) (by decide +kernel) (by decide +kernel)
    have nD : ∀ s', (rf Z s' l m).lookup ("demand" : Str) = none := fun _ => rf_no (by decide +kernel) (by decide +kernel) (by decide +kernel) (by decide +kernel)
    have nK : ∀ s', (rf Z s' l m).lookup ("skips" : Str) = none := fun _ => rf_no (by decide +kernel) (by decide +kernel) (by decide +kernel) (by decide +kernel)
    obtain ⟨c, r, e1, hc1, hc2, hc3, hc4⟩ := some_first hS
    obtain ⟨sl1, sl2⟩ := some_letters hS
    have hZ := R.z
    refine ⟨.ref p, rfl, p, dx, _, rfl, R.e, nK _, Z, p, dx, l, s, nm, m, 94, rfl, R, fun z => absurd z hn, fun _ => ?_⟩
    refine ⟨.ref p, rfl, p, dx, _, rfl, R.e, nP _, Z, p, dx, l, s, nm, m, c, rfl, R, hc1, hc2, hc3, fun H1 R1 k1 => ?_⟩
    refine ⟨(show 2 ≤ sizeLine by decide), fun T0 n0 => ⟨T0, _, rfl, .inl (.inl upd_same), rfl, _, _, rfl, _, _, rfl, rfl, ?_⟩⟩
    have R2 := R1.up (smU (o := HO.tup [.bl false, .str (tx [c])]) n0)
    have k2 := k1.trans (K2.same (p := p) (l := l) (smU (o := HO.tup [.bl false, .str (tx [c])]) n0))
    refine ⟨fun σ H3 => σ = [some (.ref p), some (.bl false), some (.str (tx ss)), none, none] ∧ RdA C Z p dx l H3 e nm m ∧ K2 p l H H3, ?_, fun σ H3 hM => ?_⟩
    · refine ⟨fun n σ H3 => ∃ (s1 : Nat) (dn rt : List Nat), n = rt.length ∧ ss = dn ++ rt ∧ σ = [some (.ref p), some (.bl false), some (.str (tx dn)), none, none] ∧ RdA C Z p dx l H3 s1 nm m ∧ K2 p l H H3 ∧ ((rt = [] ∧ Z[s1]? = some 93 ∧ e = s1 + 1) ∨ (Z[s1]? ≠ some 93 ∧ RSome Z s1 rt e)), ⟨_, s + 1, [c], r, rfl, e1, rfl, R2, k2, hc4⟩, ?_⟩
      rintro n σ H3 ⟨s1, dn, rt, rfl, es, rfl, R3, k3, hw⟩
      refine ⟨.ref p, rfl, p, dx, _, rfl, R3.e, nK _, Z, p, dx, l, s1, nm, m, 93, rfl, R3, fun z H4 R4 k4 => ?_, fun z => ?_⟩
      · refine ⟨true, rfl, iteF ?_⟩
        rcases hw with ⟨rfl, _, rfl⟩ | ⟨w1, _⟩
        · rw [List.append_nil] at es
          subst es
          exact ⟨rfl, R4, k3.trans k4⟩
        · exact absurd z w1
      · refine ⟨false, rfl, iteT ?_⟩
        rcases hw with ⟨_, w1, _⟩ | ⟨_, w2⟩
        · exact absurd w1 z
        · obtain ⟨d, rt', e2, hd1, hd2, hd3, hd4⟩ := some_first w2
          subst e2
          refine ⟨fun σ' H' => ∃ (s2 : Nat), s2 = s1 + 1 ∧ σ' = [some (.ref p), some (.bl false), some (.str (tx (dn ++ [d]))), none, none] ∧ RdA C Z p dx l H' s2 nm m ∧ K2 p l H H', fun σ' H' ⟨s2, h1, h2, h3, h4⟩ => ⟨rt'.length, by rw [List.length_cons]; omega, s2, dn ++ [d], rt', rfl, by rw [es, List.append_assoc] <;> rfl, h2, h3, h4, by rw [h1]; exact hd4⟩, ?_⟩
          refine ⟨.str (tx dn), rfl, .ref p, rfl, p, dx, _, rfl, R3.e, nP _, Z, p, dx, l, s1, nm, m, d, rfl, R3, hd1, hd2, hd3, fun H4 R4 k4 => ?_⟩
          have hl : (tx dn).length = dn.length := tx_len dn
          have hle := congrArg List.length es
          rw [List.length_append] at hle
          refine ⟨_, _, rfl, rfl, ?_, s1 + 1, rfl, ?_, R4, k3.trans k4⟩
          · rw [tx_len, tx_len]
            refine Nat.le_trans (show dn.length + 1 ≤ 100 by omega) (by decide)
          · rw [tx_app] <;> rfl
    obtain ⟨rfl, R3, k3⟩ := hM
    refine ⟨⟨_, rfl⟩, LSs, rfl, fun D hD => ?_⟩
    have nDp := R3.p0 hD
    have nDl := R3.l0 hD
    refine lc_it (walk_str (z := LSs)) (fun i H4 => H4 D = some (.lst (((LETc.take i).filter fun c => decide (c ∈ ss)).map fun c => V.str ⟨#[c]⟩)) ∧ RdA C Z p dx l H4 e nm m ∧ K2 p l H H4)
      ⟨upd_same, R3.up (smU hD), k3.trans (K2.same (smU hD))⟩ (fun _ _ _ _ => True.intro) (fun i x H4 H4' hi hP hy => ?_) (fun H4 hP => ?_)
    · obtain ⟨e4, R4, k4⟩ := hP
      obtain ⟨rfl, d, hd, rfl⟩ := hy
      have hd : LETc[i]? = some d := by
        rw [← LS_cps, Array.getElem?_toList]
        exact hd
      have ht : LETc.take (i + 1) = LETc.take i ++ [d] := by
        obtain ⟨h1, h2⟩ := List.getElem?_eq_some_iff.mp hd
        rw [List.take_succ_eq_append_getElem h1, h2]
      refine ⟨rfl, .str ⟨#[d]⟩, rfl, .str (tx ss), rfl, d, _, rfl, rfl, .bl false, rfl, rfl, _, rfl, ?_⟩
      show if (!decide (V.bl (decide (d ∈ ss)) = V.bl false)) = true then _ else _
      by_cases hdd : d ∈ ss
      · rw [decide_eq_true hdd, decide_eq_false (show ¬ (V.bl true = V.bl false) from fun z => by cases z)]
        have ll : (((LETc.take i).filter fun c => decide (c ∈ ss)).map fun c => V.str ⟨#[c]⟩).length ≤ 38 := by
          rw [List.length_map]
          refine Nat.le_trans (List.length_filter_le _ _) (Nat.le_trans (List.length_take_le' _ _) (by decide +kernel))
        refine iteT ⟨.str ⟨#[d]⟩, rfl, _, e4, Nat.lt_of_le_of_lt ll (by decide), ?_, R4.wr nDp nDl, K2.put k3 k4 hD⟩
        rw [upd_same, ht, List.filter_append, List.filter_cons, decide_eq_true hdd, if_pos rfl, List.filter_nil, List.map_append] <;> rfl
      · rw [decide_eq_false hdd, decide_eq_true rfl]
        refine iteF ⟨?_, R4, k4⟩
        rw [ht, List.filter_append, List.filter_cons, decide_eq_false hdd, if_neg Bool.false_ne_true, List.filter_nil, List.append_nil]
        exact e4
    · obtain ⟨e4, R4, k4⟩ := hP
      have e5 : H4 D = some (.lst (((inC ss).map fun c => (⟨#[c]⟩ : Str)).map V.str)) := by
        rw [e4, List.map_map]
        refine congrArg (fun z => some (HO.lst (List.map _ (List.filter _ z)))) ?_
        exact List.take_of_length_le (by decide +kernel)
      have ll : (inC ss).length ≤ 38 := Nat.le_trans (List.length_filter_le _ _) (by decide +kernel)
      refine ⟨Str.ofString "", D, _, rfl, rfl, .inl (.inl (.inl e5)), ?_, ?_⟩
      · rw [sum_ones, show (Str.ofString "").length = 0 by decide +kernel]
        omega
      rw [join_ones]
      obtain ⟨d, t, e6⟩ := inC_ne hS
      refine ⟨.ref p, rfl, p, dx, _, rfl, R4.e, nD _, _, rfl, rfl, ?_⟩
      refine ⟨p, ?_, _, rfl, q _ R4 k4⟩
      show [V.ref p, V.bl (!decide (V.str (tx (inC ss)) = V.str (Str.ofString "")))] = _
      rw [e6, decide_eq_false em_ne] <;> rfl
end
end Sf4
namespace Sf4
open PySem PySem.Spec PyProof.Rows L2 Sf
/-! ### reading goes on -/
theorem lt_of {Z : List Nat} {p c : Nat} (h : Z[p]? = some c) : p < Z.length := (List.getElem?_eq_some_iff.mp h).1
structure Pgr (Z : List Nat) (R : Rel Tr) : Prop where
  go : ∀ {p : Nat} {nm : Nm} {t : Tr} {q : Nat} {nm' : Nm}, R p nm t q nm' → p < q ∧ q ≤ Z.length
theorem some_pgr {Z : List Nat} : ∀ {ss : List Nat} {p q : Nat}, RSome Z p ss q → p < q ∧ q ≤ Z.length
  | [], _, _, h => by cases h
  | c :: r, p, q, h => by
    cases h with
    | last h1 h2 h3 => exact ⟨by omega, by have := lt_of h3; omega⟩
    | next h1 h2 h3 h4 h5 =>
      have := some_pgr h5
      omega
theorem name_pgr {Z : List Nat} : ∀ {n : List Nat} {p q : Nat}, RName Z p n q → p ≤ q ∧ Z[q]? = some 58 ∧ q = p + n.length ∧ (Z.drop p).take (q - p) = n ∧ ∀ i, p ≤ i → i < q → ∃ c, Z[i]? = some c ∧ small c
  | [], p, q, h => by
    cases h with
    | nil h1 => exact ⟨Nat.le_refl _, h1, rfl, by rw [Nat.sub_self] <;> rfl, fun i h2 h3 => absurd h2 (by omega)⟩
  | c :: n, p, q, h => by
    cases h with
    | cons h1 h2 h3 =>
      obtain ⟨i1, i2, i3, i4, i5⟩ := name_pgr h3
      refine ⟨by omega, i2, by rw [List.length_cons]; omega, ?_, fun i h4 h5 => ?_⟩
      · obtain ⟨hl, e⟩ := List.getElem?_eq_some_iff.mp h1
        rw [List.drop_eq_getElem_cons hl, e, show q - p = (q - (p + 1)) + 1 by omega, List.take_succ_cons, i4]
      · by_cases z : i = p
        · exact z ▸ ⟨c, h1, h2⟩
        · exact i5 i (by omega) h5
theorem num_pgr {Z : List Nat} {p v q : Nat} (h : RNum Z p v q) : p < q := by
  obtain ⟨_, _, _, _, _, _, _, h, _⟩ := num_word h
  exact h
theorem unit_pgr {Z : List Nat} {can : Prop} {C : Rel Tr} (hC : Pgr Z C) : Pgr Z (RUnit Z can C) := by
  refine ⟨fun {p nm t q nm'} h => ?_⟩
  cases h with
  | letter h1 h2 => have := lt_of h1; omega
  | dot h1 => have := lt_of h1; omega
  | cls h1 h2 h3 => have := some_pgr h3; omega
  | nothing h1 h2 h3 => have := lt_of h3; omega
  | group h1 h2 h3 h4 h5 => have := hC.go h4; have := lt_of h5; omega
  | capture h1 h2 h3 h4 h5 h6 h7 h8 => have := hC.go h7; have := (name_pgr h3).1; have := lt_of h8; omega
theorem item_pgr {Z : List Nat} {U : Rel Tr} (hU : Pgr Z U) : Pgr Z (RItem Z U) := by
  refine ⟨fun {p nm t q nm'} h => ?_⟩
  cases h with
  | plain h1 h2 => exact hU.go h1
  | sign h1 h2 h3 => have := hU.go h1; have := lt_of h2; omega
  | just h1 h2 h3 h4 => have := hU.go h1; have := num_pgr h3; have := lt_of h4; omega
  | least h1 h2 h3 h4 h5 => have := hU.go h1; have := num_pgr h3; have := lt_of h5; omega
  | both h1 h2 h3 h4 h5 h6 h7 => have := hU.go h1; have := num_pgr h3; have := num_pgr h5; have := lt_of h7; omega
theorem many_pgr {Z : List Nat} {R : Rel Tr} {go : Nat → Prop} {g : Nat → Nat} (hR : Pgr Z R) (hg : ∀ q, q ≤ g q) : ∀ {ts : List Tr} {p q : Nat} {nm nm' : Nm}, RMany R go g p nm ts q nm' → p + ts.length ≤ q ∧ q ≤ Z.length ∧ 0 < ts.length
  | [], _, _, _, _, h => by cases h
  | t :: ts, p, q, nm, nm', h => by
    cases h with
    | last h1 h2 =>
      have := hR.go h1
      exact ⟨by show p + 1 ≤ q; omega, this.2, Nat.zero_lt_succ _⟩
    | next h1 h2 h3 =>
      have a := hR.go h1
      have b := many_pgr hR hg h3
      have c := hg (by assumption)
      refine ⟨by rw [List.length_cons]; omega, b.2.1, Nat.zero_lt_succ _⟩
theorem chain_pgr {Z : List Nat} {I : Rel Tr} (hI : Pgr Z I) : Pgr Z (RChain Z I) := by
  refine ⟨fun {p nm t q nm'} ⟨ts, h1, _⟩ => ?_⟩
  have := many_pgr hI (fun q => Nat.le_refl q) h1
  omega
theorem choice_pgr {Z : List Nat} {I : Rel Tr} (hI : Pgr Z I) : Pgr Z (RChoice Z I) := by
  refine ⟨fun {p nm t q nm'} ⟨ts, h1, _⟩ => ?_⟩
  have := many_pgr hI (fun q => Nat.le_succ q) h1
  omega
theorem no_pgr {Z : List Nat} : Pgr Z (fun _ _ _ _ _ => False) := ⟨fun h => h.elim⟩
theorem rc_pgr (Z : List Nat) : ∀ d, Pgr Z (RC Z d)
  | 0 => choice_pgr (chain_pgr (item_pgr (unit_pgr no_pgr)))
  | d + 1 => choice_pgr (chain_pgr (item_pgr (unit_pgr (rc_pgr Z d))))
theorem ru_pgr (Z : List Nat) : ∀ d, Pgr Z (RU Z d)
  | 0 => unit_pgr no_pgr
  | d + 1 => unit_pgr (rc_pgr Z d)
/-- what is left of many behind one -/
def RMore (R : Rel Tr) (go : Nat → Prop) (g : Nat → Nat) (q : Nat) (nm : Nm) (ts : List Tr) (r : Nat) (nm2 : Nm) : Prop := (ts = [] ∧ ¬ go q ∧ r = q ∧ nm2 = nm) ∨ (go q ∧ RMany R go g (g q) nm ts r nm2)
theorem many_first {R : Rel Tr} {go : Nat → Prop} {g : Nat → Nat} {p q : Nat} {nm nm2 : Nm} {ts : List Tr} (h : RMany R go g p nm ts q nm2) : ∃ t r q1 nm1, ts = t :: r ∧ R p nm t q1 nm1 ∧ RMore R go g q1 nm1 r q nm2 := by
  cases h with
  | last h1 h2 => exact ⟨_, _, _, _, rfl, h1, .inl ⟨rfl, h2, rfl, rfl⟩⟩
  | next h1 h2 h3 => exact ⟨_, _, _, _, rfl, h1, .inr ⟨h2, h3⟩⟩
theorem KT.lst {H : Hp} {a : Addr} {xs ys : List V} (h : H a = some (.lst xs)) : KT H (upd H a (.lst ys)) := fun b zs e => by
  rw [upd_ne (ne_of e h (by intro z; cases z))]
  exact e
/-! ### promises -/
/-- a method of the reader that reads by a relation -/
def spR (C : Addr) (d : Nat) (Rl : List Nat → Rel Tr) : Sp := fun vs H Q _ => ∃ (Z : List Nat) (p dx l : Addr) (s : Nat) (nm : Nm) (t : Tr) (q : Nat) (nm' : Nm), vs = [.ref p] ∧ d ≤ 8 ∧ RdA C Z p dx l H s nm (8 - (d : Int)) ∧ Rl Z s nm t q nm' ∧
  ∀ v H', TrO H' v t → RdA C Z p dx l H' q nm' (8 - (d : Int)) → K2 p l H H' → Q v H'
def RGrp (Z : List Nat) (d : Nat) : Rel Tr := fun p nm t q nm' => (Z[p]? = some 41 ∧ t = .empty ∧ q = p + 1 ∧ nm' = nm) ∨ (Z[p]? ≠ some 41 ∧ ∃ r, RC Z d p nm t r nm' ∧ Z[r]? = some 41 ∧ q = r + 1)
def RCap (Z : List Nat) (d : Nat) : Rel Tr := fun p nm t q nm' => ∃ n u r r', RName Z p n r ∧ 1 ≤ n.length ∧ n.length ≤ 8 ∧ n ∉ nm ∧ RC Z d (r + 1) (nm ++ [n]) u r' nm' ∧ Z[r']? = some 62 ∧ q = r' + 1 ∧ t = .capture n u
def rel0 (R : List Nat → Nat → Rel Tr) : Nat → List Nat → Rel Tr
  | 0 => fun _ _ _ _ _ _ => False
  | d + 1 => fun Z => R Z d
section
variable {P : Program} {w : World} {K : PySem.W.Frag} {mg : Str → Option Value} {base : Heap} {C : Addr} {f : Nat → Addr} {fd : Nat → FuncData} {tk : Nat → Tok} {cd : Addr} {ces : Array DictEntry} {cn : Nat} {ct : Nat → Addr}
theorem scGroup : FnScope ["self", "tree"] ["self"] (defScope sGroup) := ⟨rfl, rfl, rfl, by decide +kernel, rfl, by decide +kernel, by decide +kernel⟩
theorem scCapture : FnScope ["self", "begin", "name", "tree"] ["self"] (defScope sCapture) := ⟨rfl, rfl, rfl, by decide +kernel, rfl, by decide +kernel, by decide +kernel⟩
theorem smaS (c : Nat) : c ∈ (Str.ofString "abcdefghijklmnopqrstuvwxyz").cps.toList ↔ small c := by
  rw [show (Str.ofString "abcdefghijklmnopqrstuvwxyz").cps.toList = [97, 98, 99, 100, 101, 102, 103, 104, 105, 106, 107, 108, 109, 110, 111, 112, 113, 114, 115, 116, 117, 118, 119, 120, 121, 122] by decide +kernel]
  by_cases h : c < 128
  · exact (show ∀ c, c < 128 → (c ∈ [97, 98, 99, 100, 101, 102, 103, 104, 105, 106, 107, 108, 109, 110, 111, 112, 113, 114, 115, 116, 117, 118, 119, 120, 121, 122] ↔ 97 ≤ c ∧ c ≤ 122) by decide +kernel) c h
  · exact ⟨fun z => absurd ((show ∀ d ∈ [97, 98, 99, 100, 101, 102, 103, 104, 105, 106, 107, 108, 109, 110, 111, 112, 113, 114, 115, 116, 117, 118, 119, 120, 121, 122], d < 128 by decide +kernel) c z) h, fun z => absurd (Nat.lt_of_le_of_lt z.2 (by decide)) h⟩
theorem inV_nm {n : List Nat} : ∀ {nm : Nm}, n ∉ nm → inV (.str (tx n)) (nmV nm) = false := by
  intro nm h
  cases e : inV (.str (tx n)) (nmV nm) with
  | false => rfl
  | true =>
    exfalso
    obtain ⟨y, hy, ey⟩ := List.any_eq_true.mp e
    obtain ⟨m, hm, rfl⟩ := List.mem_map.mp hy
    exact h (tx_inj (of_decide_eq_true (by rw [← Bool.beq_eq_decide_eq]; exact ey) : tx m = tx n) ▸ hm)
/-- read_group, where an inner expression may be read -/
theorem ok_group (T : RT K w mg C f fd tk cd ces cn ct) {k d : Nat} (hk : 2 ≤ k) (G : FnOk P w K mg base CX0 k (f 5) (fd 5) ["self"] (spR C d fun Z => RC Z d)) : FnOk P w K mg base CX0 (k + 1) (f 10) (fd 10) ["self"] (spR C d fun Z => RGrp Z d) := by
  refine T.mGroup.F.ok scGroup (fun vs H Q E h => ?_) (fun cdv A outer s H vs Q E hr h => ?_)
  · obtain ⟨Z, p, dx, l, s, nm, t, q, nm', rfl, _⟩ := h
    rfl
  · obtain ⟨Z, p, dx, l, s, nm, t, e, nm', rfl, hd, R, hg, q⟩ := h
    have GK := ok_skips (P := P) (base := base) T
    refine ⟨_, pss_cons (ps_if (pt_val (pe_meth (pv 0) T.cl T.mSkips.m GK (hr.mono hk) T.mSkips.b .nil pass0 (pa_cons pe_str pa_nil))) (pss_one (ps_ret (pe_tup (pa_cons (pe_glob (v := .str emW) rfl T.gEm ⟨_, rfl⟩) pa_nil)))) pss_nil)
      (pss_cons (ps_set (i := 1) scGroup.nd rfl (.inl rfl) (pe_meth0 (pv 0) T.cl T.mChoice.m G hr T.mChoice.b .nil pass0))
      (pss_cons (ps_expr (pe_meth (pv 0) T.cl T.mDemand.m (ok_demand T) (hr.mono (Nat.le_trans (by decide) hk)) T.mDemand.b .nil pass0 (pa_cons (pe_meth (pv 0) T.cl T.mSkips.m GK (hr.mono hk) T.mSkips.b .nil pass0 (pa_cons pe_str pa_nil)) pa_nil)))
      (pss_one (ps_ret (pv 1))))), ?_⟩
    have nC : ∀ s' m', (rf Z s' l m').lookup ("read_choice" : Str) = none := fun _ _ => rf_no (by decide +kernel) (by decide +kernel) (by decide +kernel) (by decide +kernel)
    have nD : ∀ s' m', (rf Z s' l m').lookup ("demand" : Str) = none := fun _ _ => rf_no (by decide +kernel) (by decide +kernel) (by decide +kernel) (by decide +kernel)
    have nK : ∀ s' m', (rf Z s' l m').lookup ("skips" : Str) = none := fun _ _ => rf_no (by decide +kernel) (by decide +kernel) (by decide +kernel) (by decide +kernel)
    refine ⟨.ref p, rfl, p, dx, _, rfl, R.e, nK _ _, Z, p, dx, l, s, nm, _, 41, rfl, R, fun z H1 R1 k1 => ⟨true, rfl, iteT ?_⟩, fun z => ⟨false, rfl, iteF ?_⟩⟩
    · rcases hg with ⟨_, rfl, rfl, rfl⟩ | ⟨w1, _⟩
      · exact ⟨(show 1 ≤ sizeLine by decide), fun b hb => q _ _ (.empty upd_same) (R1.up (smU hb)) (k1.trans (K2.same (smU hb)))⟩
      · exact absurd z w1
    · rcases hg with ⟨w1, _⟩ | ⟨_, r, w2, w3, rfl⟩
      · exact absurd w1 z
      · refine ⟨.ref p, rfl, p, dx, _, rfl, R.e, nC _ _, Z, p, dx, l, s, nm, t, r, nm', rfl, hd, R, w2, fun v H1 o1 R1 k1 => ?_⟩
        refine ⟨.ref p, rfl, p, dx, _, rfl, R1.e, nD _ _, .ref p, rfl, p, dx, _, rfl, R1.e, nK _ _, Z, p, dx, l, r, nm', _, 41, rfl, R1, fun _ H2 R2 k2 => ?_, fun z => absurd w3 z⟩
        exact ⟨p, rfl, v, rfl, q v H2 (o1.mono (R1.kt k2)) R2 (k1.trans k2)⟩
theorem ok_capture (T : RT K w mg C f fd tk cd ces cn ct) {k d : Nat} (hk : 2 ≤ k) (G : FnOk P w K mg base CX0 k (f 5) (fd 5) ["self"] (spR C d fun Z => RC Z d)) : FnOk P w K mg base CX0 (k + 1) (f 11) (fd 11) ["self"] (spR C d fun Z => RCap Z d) := by
  refine T.mCapture.F.ok scCapture (fun vs H Q E h => ?_) (fun cdv A outer s H vs Q E hr h => ?_)
  · obtain ⟨Z, p, dx, l, s, nm, t, q, nm', rfl, _⟩ := h
    rfl
  · obtain ⟨Z, p, dx, l, s, nm, t, e, nm', rfl, hd, R, ⟨n, u, r, r', w1, w2, w3, w4, w5, w6, rfl, rfl⟩, q⟩ := h
    obtain ⟨g1, g2, g3, g4, g5⟩ := name_pgr w1
    have GS := ok_sign (P := P) (base := base) T
    have GK := ok_skips (P := P) (base := base) T
    have GD := ok_demand (P := P) (base := base) T
    have h1 : 1 ≤ k := Nat.le_trans (by decide) hk
    have hZ := R.z
    refine ⟨_, pss_cons (ps_set (i := 1) scCapture.nd rfl (.inl rfl) (pe_fld (pv 0) rfl))
      (Evl.pss_cut (ps_while PassesOwn.never (PW.pt (pw_and (pt_cmpR op_ne (pe_meth0 (pv 0) T.cl T.mSign.m GS (hr.mono h1) T.mSign.b .nil pass0) pe_str (nomark _))
          (pw_and1 (pt_cmpR op_in_sign (pe_meth0 (pv 0) T.cl T.mSign.m GS (hr.mono h1) T.mSign.b .nil pass0) (pe_glob (v := .str (Str.ofString "abcdefghijklmnopqrstuvwxyz")) rfl T.gSma ⟨_, rfl⟩) rfl))))
        (pss_one (ps_fldaug (pv 0) pe_int in_add)))
      (pss_cons (ps_set (i := 2) scCapture.nd rfl (.inl rfl) (pe_slice sl_str (pe_fld (pv 0) rfl) (po_some (pv 1)) (po_some (pe_fld (pv 0) rfl))))
      (pss_cons (ps_expr (pe_meth (pv 0) T.cl T.mDemand.m GD (hr.mono h1) T.mDemand.b .nil pass0 (pa_cons
          (pe_and (pe_chain op_le op_le pe_int (pe_callB call_len_str (by rfl) T.zlen PySem.boot_len (pa_cons (pv 2) pa_nil)) (pe_glob (v := .int 8) rfl T.gMN ⟨_, rfl⟩))
            (pe_and (pe_cmpR op_notIn_seq (pv 2) (pe_fld (pv 0) rfl) rfl) (pe_one (pe_meth (pv 0) T.cl T.mSkips.m GK (hr.mono hk) T.mSkips.b .nil pass0 (pa_cons pe_str pa_nil))))) pa_nil)))
      (pss_cons (ps_expr (pe_bm PySem.F.plainAttrs_list PySem.F.slot_list_append PySem.F.type_list_append mt_append (pe_fld (pv 0) rfl) (pa_cons (pv 2) pa_nil)))
      (pss_cons (ps_set (i := 3) scCapture.nd rfl (.inl rfl) (pe_meth0 (pv 0) T.cl T.mChoice.m G hr T.mChoice.b .nil pass0))
      (pss_cons (ps_expr (pe_meth (pv 0) T.cl T.mDemand.m GD (hr.mono h1) T.mDemand.b .nil pass0 (pa_cons (pe_meth (pv 0) T.cl T.mSkips.m GK (hr.mono hk) T.mSkips.b .nil pass0 (pa_cons pe_str pa_nil)) pa_nil)))
      (pss_one (ps_ret (pe_tup (pa_cons (pe_glob (v := .str caW) rfl T.gCa ⟨_, rfl⟩) (pa_cons (pv 2) (pa_cons (pv 3) pa_nil)))))))))))), ?_⟩
    have nC : ∀ s' m', (rf Z s' l m').lookup ("read_choice" : Str) = none := fun _ _ => rf_no (by decide +kernel) (by decide +kernel) (by decide +kernel) (by decide +kernel)
    have nS : ∀ s' m', (rf Z s' l m').lookup ("sign" : Str) = none := fun _ _ => rf_no (by decide +kernel) (by decide +kernel) (by decide +kernel) (by decide +kernel)
    have nD : ∀ s' m', (rf Z s' l m').lookup ("demand" : Str) = none := fun _ _ => rf_no (by decide +kernel) (by decide +kernel) (by decide +kernel) (by decide +kernel)
    have nK : ∀ s' m', (rf Z s' l m').lookup ("skips" : Str) = none := fun _ _ => rf_no (by decide +kernel) (by decide +kernel) (by decide +kernel) (by decide +kernel)
    refine ⟨.ref p, rfl, p, C, dx, _, _, rfl, R.e, T.cl, T.nSp, rf_spot, ?_⟩
    refine ⟨fun σ H1 => σ = [some (.ref p), some (.int s), none, none] ∧ RdA C Z p dx l H1 r nm (8 - (d : Int)) ∧ K2 p l H H1, ?_, fun σ H1 hM => ?_⟩
    · refine ⟨fun n σ H1 => ∃ s1, n = r - s1 ∧ s ≤ s1 ∧ s1 ≤ r ∧ σ = [some (.ref p), some (.int s), none, none] ∧ RdA C Z p dx l H1 s1 nm (8 - (d : Int)) ∧ K2 p l H H1, ⟨_, s, rfl, Nat.le_refl _, g1, rfl, R, K2.refl _ _ _⟩, ?_⟩
      rintro n σ H1 ⟨s1, rfl, ha, hb, rfl, R1, k1⟩
      refine ⟨.ref p, rfl, p, dx, _, rfl, R1.e, nS _ _, Z, p, dx, l, s1, nm, _, rfl, R1, rfl, _, rfl, ?_⟩
      by_cases hlt : s1 < r
      · obtain ⟨d, hz, hdd⟩ := g5 s1 ha hlt
        rw [sg_some hz, decide_eq_false em_ne]
        refine iteT ⟨.ref p, rfl, p, dx, _, rfl, R1.e, nS _ _, Z, p, dx, l, s1, nm, _, rfl, R1, d, _, by rw [sg_some hz] <;> rfl, rfl, _, rfl, ?_⟩
        rw [decide_eq_true ((smaS d).mpr hdd)]
        refine iteT ⟨fun σ' H' => ∃ s2, s2 = s1 + 1 ∧ σ' = [some (.ref p), some (.int s), none, none] ∧ RdA C Z p dx l H' s2 nm _ ∧ K2 p l H H', fun σ' H' ⟨s2, h1, h2, h3, h4⟩ => ⟨r - s2, by omega, s2, rfl, by omega, by omega, h2, h3, h4⟩, ?_⟩
        refine ⟨.ref p, rfl, p, C, dx, _, _, rfl, R1.e, T.cl, T.nSp, rf_spot, _, _, rfl, rfl, dx, _, R1.e, (show 4 < 1000 by decide), ?_⟩
        exact ⟨s1 + 1, rfl, rfl, R1.spot (s1 + 1) (Nat.le_succ s1), k1.trans K2.p⟩
      · obtain rfl : s1 = r := by omega
        rw [sg_some g2, decide_eq_false em_ne]
        refine iteT ⟨.ref p, rfl, p, dx, _, rfl, R1.e, nS _ _, Z, p, dx, l, s1, nm, _, rfl, R1, 58, _, by rw [sg_some g2] <;> rfl, rfl, _, rfl, ?_⟩
        rw [decide_eq_false fun z => absurd ((smaS 58).mp z).1 (by decide)]
        exact iteF ⟨rfl, R1, k1⟩
    obtain ⟨rfl, R1, k1⟩ := hM
    refine ⟨.ref p, rfl, p, C, dx, _, _, rfl, R1.e, T.cl, T.nStr, rf_string, .int s, rfl, s, rfl, .ref p, rfl, p, C, dx, _, _, rfl, R1.e, T.cl, T.nSp, rf_spot, r, rfl, tx Z, rfl, tx_len60 R.z, ?_⟩
    rw [cut_sub, g4]
    have hl : (tx n).length = n.length := tx_len n
    have hL : (tx n).length ≤ sizeLine := by
      rw [hl]
      exact Nat.le_trans w3 (by decide)
    refine ⟨.ref p, rfl, p, dx, _, rfl, R1.e, nD _ _, .str (tx n), rfl, tx n, rfl, hL, _, _, rfl, rfl, _, rfl, ?_⟩
    rw [decide_eq_true (show (1 : Int) ≤ ((tx n).length : Int) by rw [hl]; omega)]
    refine iteT ⟨_, _, rfl, rfl, ?_⟩
    show ∃ c, V.bl (decide (((tx n).length : Int) ≤ 8)) = .bl c ∧ _
    rw [decide_eq_true (show ((tx n).length : Int) ≤ 8 by rw [hl]; omega)]
    refine ⟨true, rfl, iteT ⟨.str (tx n), rfl, .ref p, rfl, p, C, dx, _, _, rfl, R1.e, T.cl, T.nNm, rf_names, l, nmV nm, rfl, .inl (.inl (.inl R1.n)), rfl, ?_, ?_⟩⟩
    · exact List.all_eq_true.mpr fun y hy => by
        obtain ⟨m, _, rfl⟩ := List.mem_map.mp hy
        rfl
    rw [inV_nm w4]
    refine ⟨true, rfl, iteT ⟨.ref p, rfl, p, dx, _, rfl, R1.e, nK _ _, Z, p, dx, l, r, nm, _, 58, rfl, R1, fun _ H2 R2 k2 => ?_, fun z => absurd g2 z⟩⟩
    refine ⟨p, rfl, ?_⟩
    have hnm : nm.length < r + 1 := Nat.lt_succ_of_le R1.k
    have hrZ := lt_of g2
    refine ⟨.ref p, rfl, p, C, dx, _, _, rfl, R2.e, T.cl, T.nNm, rf_names, .inl ⟨rfl, _, .inl (.inl R2.n)⟩, .str (tx n), rfl, l, _, _, rfl, rfl, R2.n, Nat.lt_of_le_of_lt (show (nmV nm).length ≤ 60 by unfold nmV; rw [List.length_map]; omega) (by decide), ?_⟩
    have R3 := R2.nam n hnm
    refine ⟨.ref p, rfl, p, dx, _, rfl, R3.e, nC _ _, Z, p, dx, l, r + 1, nm ++ [n], u, r', nm', rfl, hd, R3, w5, fun v H4 o4 R4 k4 => ?_⟩
    refine ⟨.ref p, rfl, p, dx, _, rfl, R4.e, nD _ _, .ref p, rfl, p, dx, _, rfl, R4.e, nK _ _, Z, p, dx, l, r', nm', _, 62, rfl, R4, fun _ H5 R5 k5 => ?_, fun z => absurd w6 z⟩
    refine ⟨p, rfl, .str (tx n), rfl, v, rfl, (show 3 ≤ sizeLine by decide), fun b hb => ?_⟩
    exact q _ _ (.capture upd_same ((o4.mono (R4.kt k5)).mono (KT.same (smU hb)))) (R5.up (smU hb)) ((k1.trans (k2.trans (K2.l.trans (k4.trans k5)))).trans (K2.same (smU hb)))
end
end Sf4
namespace Sf4
open PySem PySem.Spec PyProof.Rows L2 Sf
theorem scUnit : FnScope ["self", "sign", "tree"] ["self"] (defScope sUnit) := ⟨rfl, rfl, rfl, by decide +kernel, rfl, by decide +kernel, by decide +kernel⟩
theorem scItem : FnScope ["self", "part", "least", "most"] ["self"] (defScope sItem) := ⟨rfl, rfl, rfl, by decide +kernel, rfl, by decide +kernel, by decide +kernel⟩
theorem scChain : FnScope ["self", "parts"] ["self"] (defScope sChain) := ⟨rfl, rfl, rfl, by decide +kernel, rfl, by decide +kernel, by decide +kernel⟩
theorem scChoice : FnScope ["self", "parts"] ["self"] (defScope sChoice) := ⟨rfl, rfl, rfl, by decide +kernel, rfl, by decide +kernel, by decide +kernel⟩
theorem st_cps : (LSs ++ Str.ofString ".[(<").cps.toList = LETc ++ [46, 91, 40, 60] := by decide +kernel
theorem st_in {c : Nat} : c ∈ (LSs ++ Str.ofString ".[(<").cps.toList ↔ (c ∈ LETc ∨ c = 46 ∨ c = 91 ∨ c = 40 ∨ c = 60) := by
  rw [st_cps, List.mem_append]
  simp only [List.mem_cons, List.not_mem_nil, or_false]
theorem op_cps {c : Nat} : c ∈ (Str.ofString "(<").cps.toList ↔ (c = 40 ∨ c = 60) := by
  rw [show (Str.ofString "(<").cps.toList = [40, 60] by decide +kernel]
  simp only [List.mem_cons, List.not_mem_nil, or_false]
theorem unit_can {Z : List Nat} {can : Prop} {Ci : Rel Tr} {p q : Nat} {nm nm' : Nm} {t : Tr} (h : RUnit Z can Ci p nm t q nm') :
    (∃ c, Z[p]? = some c ∧ c ∈ LETc ∧ t = .place [c] ∧ q = p + 1 ∧ nm' = nm) ∨ (Z[p]? = some 46 ∧ t = .place LETc ∧ q = p + 1 ∧ nm' = nm) ∨ (Z[p]? = some 91 ∧ Z[p + 1]? ≠ some 94 ∧ ∃ ss, RSome Z (p + 1) ss q ∧ t = .place (inC ss) ∧ nm' = nm) ∨
    (can ∧ ((Z[p]? = some 40 ∧ ((Z[p + 1]? = some 41 ∧ t = .empty ∧ q = p + 1 + 1 ∧ nm' = nm) ∨ (Z[p + 1]? ≠ some 41 ∧ ∃ r, Ci (p + 1) nm t r nm' ∧ Z[r]? = some 41 ∧ q = r + 1))) ∨
      (Z[p]? = some 60 ∧ ∃ n u r r', RName Z (p + 1) n r ∧ 1 ≤ n.length ∧ n.length ≤ 8 ∧ n ∉ nm ∧ Ci (r + 1) (nm ++ [n]) u r' nm' ∧ Z[r']? = some 62 ∧ q = r' + 1 ∧ t = .capture n u))) := by
  cases h with
  | letter h1 h2 => exact .inl ⟨_, h1, h2, rfl, rfl, rfl⟩
  | dot h1 => exact .inr (.inl ⟨h1, rfl, rfl, rfl⟩)
  | cls h1 h2 h3 => exact .inr (.inr (.inl ⟨h1, h2, _, h3, rfl, rfl⟩))
  | nothing h1 h2 h3 => exact .inr (.inr (.inr ⟨h1, .inl ⟨h2, .inl ⟨h3, rfl, rfl, rfl⟩⟩⟩))
  | group h1 h2 h3 h4 h5 => exact .inr (.inr (.inr ⟨h1, .inl ⟨h2, .inr ⟨h3, _, h4, h5, rfl⟩⟩⟩))
  | capture h1 h2 h3 h4 h5 h6 h7 h8 => exact .inr (.inr (.inr ⟨h1, .inr ⟨h2, _, _, _, _, h3, h4, h5, h6, h7, h8, rfl, rfl⟩⟩))
theorem unit_cases {Z : List Nat} {d p q : Nat} {nm nm' : Nm} {t : Tr} (h : RU Z d p nm t q nm') :
    (∃ c, Z[p]? = some c ∧ c ∈ LETc ∧ t = .place [c] ∧ q = p + 1 ∧ nm' = nm) ∨ (Z[p]? = some 46 ∧ t = .place LETc ∧ q = p + 1 ∧ nm' = nm) ∨ (Z[p]? = some 91 ∧ Z[p + 1]? ≠ some 94 ∧ ∃ ss, RSome Z (p + 1) ss q ∧ t = .place (inC ss) ∧ nm' = nm) ∨
    (∃ e, d = e + 1 ∧ ((Z[p]? = some 40 ∧ RGrp Z e (p + 1) nm t q nm') ∨ (Z[p]? = some 60 ∧ RCap Z e (p + 1) nm t q nm'))) := by
  cases d with
  | zero =>
    rcases unit_can (h : RUnit Z False _ p nm t q nm') with h | h | h | h
    · exact .inl h
    · exact .inr (.inl h)
    · exact .inr (.inr (.inl h))
    · exact h.1.elim
  | succ e =>
    rcases unit_can (h : RUnit Z True (RC Z e) p nm t q nm') with h | h | h | h
    · exact .inl h
    · exact .inr (.inl h)
    · exact .inr (.inr (.inl h))
    · exact .inr (.inr (.inr ⟨e, rfl, h.2⟩))
section
variable {P : Program} {w : World} {K : PySem.W.Frag} {mg : Str → Option Value} {base : Heap} {C : Addr} {f : Nat → Addr} {fd : Nat → FuncData} {tk : Nat → Tok} {cd : Addr} {ces : Array DictEntry} {cn : Nat} {ct : Nat → Addr}
def spNo : Sp := fun _ _ _ _ => False
theorem ok_no {k : Nat} {g : Addr} {gd : FuncData} {ps : List Str} : FnOk P w K mg base CX0 k g gd ps spNo := ⟨fun _ _ _ _ h => h.elim, fun _ _ _ _ _ _ _ _ _ _ _ _ _ h => h.elim⟩
def spIn (C : Addr) (R : List Nat → Nat → Rel Tr) : Nat → Sp
  | 0 => spNo
  | d + 1 => spR C d fun Z => R Z d
theorem ok_unit (T : RT K w mg C f fd tk cd ces cn ct) {k d : Nat} (hk : 4 ≤ k) (GG : FnOk P w K mg base CX0 k (f 10) (fd 10) ["self"] (spIn C RGrp d)) (GC : FnOk P w K mg base CX0 k (f 11) (fd 11) ["self"] (spIn C RCap d)) :
    FnOk P w K mg base CX0 (k + 1) (f 9) (fd 9) ["self"] (spR C d fun Z => RU Z d) := by
  refine T.mUnit.F.ok scUnit (fun vs H Q E h => ?_) (fun cdv A outer s H vs Q E hr h => ?_)
  · obtain ⟨Z, p, dx, l, s, nm, t, q, nm', rfl, _⟩ := h
    rfl
  · obtain ⟨Z, p, dx, l, s, nm, t, e, nm', rfl, hd, R, hu, q⟩ := h
    have GS := ok_sign (P := P) (base := base) T
    have GD := ok_demand (P := P) (base := base) T
    have GL := ok_class (P := P) (base := base) T
    have h1 : 1 ≤ k := Nat.le_trans (by decide) hk
    refine ⟨_, pss_cons (ps_set (i := 1) scUnit.nd rfl (.inl rfl) (pe_meth0 (pv 0) T.cl T.mSign.m GS (hr.mono h1) T.mSign.b .nil pass0))
      (pss_cons (ps_expr (pe_meth (pv 0) T.cl T.mDemand.m GD (hr.mono h1) T.mDemand.b .nil pass0 (pa_cons (pe_cmpR op_ne (pv 1) pe_str (nomark _)) pa_nil)))
      (pss_cons (ps_fldaug (pv 0) pe_int in_add)
      (pss_cons (ps_if (pt_cmpR op_inS (pv 1) (pe_glob (v := .str LSs) rfl T.gLet ⟨_, rfl⟩) rfl) (pss_one (ps_ret (pe_tup (pa_cons (pe_glob (v := .str plW) rfl T.gPl ⟨_, rfl⟩) (pa_cons (pv 1) pa_nil))))) pss_nil)
      (pss_cons (ps_if (pt_cmpR op_eq (pv 1) pe_str (nomark _)) (pss_one (ps_ret (pe_tup (pa_cons (pe_glob (v := .str plW) rfl T.gPl ⟨_, rfl⟩) (pa_cons (pe_glob (v := .str LSs) rfl T.gLet ⟨_, rfl⟩) pa_nil))))) pss_nil)
      (pss_cons (ps_if (pt_cmpR op_eq (pv 1) pe_str (nomark _)) (pss_one (ps_ret (pe_tup (pa_cons (pe_glob (v := .str plW) rfl T.gPl ⟨_, rfl⟩) (pa_cons (pe_meth0 (pv 0) T.cl T.mClass.m GL (hr.mono hk) T.mClass.b .nil pass0) pa_nil))))) pss_nil)
      (pss_cons (ps_expr (pe_meth (pv 0) T.cl T.mDemand.m GD (hr.mono h1) T.mDemand.b .nil pass0 (pa_cons
          (pe_and (pe_cmpR op_inS (pv 1) pe_str rfl) (pe_one (pe_cmpR op_lt (pe_fld (pv 0) rfl) (pe_glob (v := .int 8) rfl T.gMO ⟨_, rfl⟩) (nomark _)))) pa_nil)))
      (pss_cons (ps_fldaug (pv 0) pe_int in_add)
      (pss_cons (ps_set (i := 2) scUnit.nd rfl (.inl rfl) (pe_ifExp (pt_cmpR op_eq (pv 1) pe_str (nomark _)) (pe_meth0 (pv 0) T.cl T.mGroup.m GG hr T.mGroup.b .nil pass0) (pe_meth0 (pv 0) T.cl T.mCapture.m GC hr T.mCapture.b .nil pass0)))
      (pss_cons (ps_fldaug (pv 0) pe_int in_sub)
      (pss_one (ps_ret (pv 2)))))))))))), ?_⟩
    have nS : ∀ s' m', (rf Z s' l m').lookup ("sign" : Str) = none := fun _ _ => rf_no (by decide +kernel) (by decide +kernel) (by decide +kernel) (by decide +kernel)
    have nD : ∀ s' m', (rf Z s' l m').lookup ("demand" : Str) = none := fun _ _ => rf_no (by decide +kernel) (by decide +kernel) (by decide +kernel) (by decide +kernel)
    have nG : ∀ s' m', (rf Z s' l m').lookup ("read_group" : Str) = none := fun _ _ => rf_no (by decide +kernel) (by decide +kernel) (by decide +kernel) (by decide +kernel)
    have nC : ∀ s' m', (rf Z s' l m').lookup ("read_capture" : Str) = none := fun _ _ => rf_no (by decide +kernel) (by decide +kernel) (by decide +kernel) (by decide +kernel)
    have nL : ∀ s' m', (rf Z s' l m').lookup ("read_class" : Str) = none := fun _ _ => rf_no (by decide +kernel) (by decide +kernel) (by decide +kernel) (by decide +kernel)
    have fin : ∀ {c : Nat}, Z[s]? = some c → Z[s]? = some c := fun h => h
    obtain ⟨c, hz⟩ : ∃ c, Z[s]? = some c := by
      have := (ru_pgr Z d).go hu
      exact ⟨_, List.getElem?_eq_getElem (by omega)⟩
    refine ⟨.ref p, rfl, p, dx, _, rfl, R.e, nS _ _, Z, p, dx, l, s, nm, _, rfl, R, ?_⟩
    rw [sg_some hz]
    refine ⟨.ref p, rfl, p, dx, _, rfl, R.e, nD _ _, .str (tx [c]), rfl, rfl, p, ?_, ?_⟩
    · show [V.ref p, V.bl (!decide (V.str (tx [c]) = V.str (Str.ofString "")))] = _
      rw [decide_eq_false em_ne] <;> rfl
    refine ⟨.ref p, rfl, p, C, dx, _, _, rfl, R.e, T.cl, T.nSp, rf_spot, _, _, rfl, rfl, dx, _, R.e, (show 4 < 1000 by decide), ?_⟩
    have R1 := R.spot (s + 1) (Nat.le_succ s)
    have k1 : K2 p l H (upd H p (.ins C dx (putF "spot" (.int ((s + 1 : Nat) : Int)) (rf Z s l (8 - (d : Int)))))) := K2.p
    have e1 : (upd H p (.ins C dx (putF "spot" (.int ((s : Int) + 1)) (rf Z s l (8 - (d : Int)))))) = (upd H p (.ins C dx (putF "spot" (.int ((s + 1 : Nat) : Int)) (rf Z s l (8 - (d : Int)))))) := rfl
    rw [e1]
    generalize upd H p (.ins C dx (putF "spot" (.int ((s + 1 : Nat) : Int)) (rf Z s l (8 - (d : Int))))) = H1 at R1 k1 ⊢
    refine ⟨.str (tx [c]), rfl, c, _, rfl, rfl, _, rfl, ?_⟩
    have neq : ∀ {c d : Nat}, c ≠ d → ¬ (V.str (tx [c]) = V.str (tx [d])) := fun h z => h (List.cons.inj (tx_inj (V.str.inj z))).1
    have s46 : V.str (Str.ofString ".") = V.str (tx [46]) := by decide +kernel
    have s91 : V.str (Str.ofString "[") = V.str (tx [91]) := by decide +kernel
    have s40 : V.str (Str.ofString "(") = V.str (tx [40]) := by decide +kernel
    have n46 : ¬ (46 ∈ LETc) := by decide
    have n91 : ¬ (91 ∈ LETc) := by decide
    have n40 : ¬ (40 ∈ LETc) := by decide
    have n60 : ¬ (60 ∈ LETc) := by decide
    rcases unit_cases hu with ⟨c', u1, u2, rfl, rfl, rfl⟩ | ⟨u1, rfl, rfl, rfl⟩ | ⟨u1, u2, ss, u3, rfl, rfl⟩ | ⟨d', rfl, u⟩
    · obtain rfl : c = c' := Option.some.inj (hz.symm.trans u1)
      rw [decide_eq_true (inLS.mpr u2)]
      exact iteT ⟨.str (tx [c]), rfl, (show 2 ≤ sizeLine by decide), fun b hb => q _ _ (.place upd_same) (R1.up (smU hb)) (k1.trans (K2.same (smU hb)))⟩
    · obtain rfl : c = 46 := Option.some.inj (hz.symm.trans u1)
      rw [decide_eq_false fun z => n46 (inLS.mp z)]
      refine iteF ⟨_, rfl, rfl, _, rfl, ?_⟩
      rw [s46, decide_eq_true rfl]
      refine iteT ⟨(show 2 ≤ sizeLine by decide), fun b hb => q _ _ (.place ?_) (R1.up (smU hb)) (k1.trans (K2.same (smU hb)))⟩
      rw [upd_same, show LSs = tx LETc by decide +kernel]
    · obtain rfl : c = 91 := Option.some.inj (hz.symm.trans u1)
      rw [decide_eq_false fun z => n91 (inLS.mp z)]
      refine iteF ⟨_, rfl, rfl, _, rfl, ?_⟩
      rw [s46, decide_eq_false (neq (by decide))]
      refine iteF ⟨_, rfl, rfl, _, rfl, ?_⟩
      rw [s91, decide_eq_true rfl]
      refine iteT ⟨.ref p, rfl, p, dx, _, rfl, R1.e, nL _ _, Z, p, dx, l, s + 1, _, _, ss, e, rfl, R1, u2, u3, fun H2 R2 k2 => ?_⟩
      exact ⟨(show 2 ≤ sizeLine by decide), fun b hb => q _ _ (.place upd_same) (R2.up (smU hb)) ((k1.trans k2).trans (K2.same (smU hb)))⟩
    have cc : c = 40 ∨ c = 60 := by
      rcases u with ⟨u, _⟩ | ⟨u, _⟩
      · exact .inl (Option.some.inj (hz.symm.trans u))
      · exact .inr (Option.some.inj (hz.symm.trans u))
    have nc : ¬ (c ∈ LETc) ∧ c ≠ 46 ∧ c ≠ 91 := by
      rcases cc with rfl | rfl
      · exact ⟨n40, by decide, by decide⟩
      · exact ⟨n60, by decide, by decide⟩
    rw [decide_eq_false fun z => nc.1 (inLS.mp z)]
    refine iteF ⟨_, rfl, rfl, _, rfl, ?_⟩
    rw [s46, decide_eq_false (neq nc.2.1)]
    refine iteF ⟨_, rfl, rfl, _, rfl, ?_⟩
    rw [s91, decide_eq_false (neq nc.2.2)]
    refine iteF ⟨.ref p, rfl, p, dx, _, rfl, R1.e, nD _ _, .str (tx [c]), rfl, c, _, rfl, rfl, ?_⟩
    rw [decide_eq_true (op_cps.mpr cc)]
    refine ⟨true, rfl, iteT ⟨.ref p, rfl, p, C, dx, _, _, rfl, R1.e, T.cl, T.nMo, rf_open, _, _, rfl, rfl, p, ?_, ?_⟩⟩
    · show [V.ref p, V.bl (decide (8 - ((d' + 1 : Nat) : Int) < 8))] = _
      rw [decide_eq_true (by omega)]
    refine ⟨.ref p, rfl, p, C, dx, _, _, rfl, R1.e, T.cl, T.nMo, rf_open, _, _, rfl, rfl, dx, _, R1.e, (show 4 < 1000 by decide), ?_⟩
    have em : (8 - ((d' + 1 : Nat) : Int)) + 1 = 8 - (d' : Int) := by omega
    rw [em]
    have R2 := R1.opn (8 - (d' : Int))
    have k2 : K2 p l H _ := k1.trans (K2.p (o := .ins C dx (putF "many_open" (.int (8 - (d' : Int))) (rf Z (s + 1) l (8 - ((d' + 1 : Nat) : Int))))))
    generalize upd H1 p (.ins C dx (putF "many_open" (.int (8 - (d' : Int))) (rf Z (s + 1) l (8 - ((d' + 1 : Nat) : Int))))) = H2 at R2 k2 ⊢
    have em2 : (8 - (d' : Int)) - 1 = 8 - ((d' + 1 : Nat) : Int) := by omega
    rcases u with ⟨u1, u2⟩ | ⟨u1, u2⟩
    · obtain rfl : c = 40 := Option.some.inj (hz.symm.trans u1)
      refine ⟨_, rfl, rfl, _, rfl, ?_⟩
      rw [s40, decide_eq_true rfl]
      refine iteT ⟨.ref p, rfl, p, dx, _, rfl, R2.e, nG _ _, Z, p, dx, l, s + 1, nm, t, e, nm', rfl, by omega, R2, u2, fun v H3 o3 R3 k3 => ?_⟩
      refine ⟨.ref p, rfl, p, C, dx, _, _, rfl, R3.e, T.cl, T.nMo, rf_open, _, _, rfl, rfl, dx, _, R3.e, (show 4 < 1000 by decide), v, rfl, ?_⟩
      rw [em2]
      exact q v _ (o3.mono (R3.kt K2.p)) (R3.opn _) ((k2.trans k3).trans K2.p)
    · obtain rfl : c = 60 := Option.some.inj (hz.symm.trans u1)
      refine ⟨_, rfl, rfl, _, rfl, ?_⟩
      rw [s40, decide_eq_false (neq (by decide))]
      refine iteF ⟨.ref p, rfl, p, dx, _, rfl, R2.e, nC _ _, Z, p, dx, l, s + 1, nm, t, e, nm', rfl, by omega, R2, u2, fun v H3 o3 R3 k3 => ?_⟩
      refine ⟨.ref p, rfl, p, C, dx, _, _, rfl, R3.e, T.cl, T.nMo, rf_open, _, _, rfl, rfl, dx, _, R3.e, (show 4 < 1000 by decide), v, rfl, ?_⟩
      rw [em2]
      exact q v _ (o3.mono (R3.kt K2.p)) (R3.opn _) ((k2.trans k3).trans K2.p)
end
end Sf4
namespace Sf4
open PySem PySem.Spec PyProof.Rows L2 Sf
section
variable {P : Program} {w : World} {K : PySem.W.Frag} {mg : Str → Option Value} {base : Heap} {C : Addr} {f : Nat → Addr} {fd : Nat → FuncData} {tk : Nat → Tok} {cd : Addr} {ces : Array DictEntry} {cn : Nat} {ct : Nat → Addr}
/-- what COUNTS tells of a sign -/
theorem cnt_of (T : RT K w mg C f fd tk cd ces cn ct) {c a : Nat} {b : Option Nat} (h : cnt c = some (a, b)) : ∃ t : Addr, PySem.W.nsIn K cd (tx [c]) = some (some (.ref t)) ∧ ∀ H : Hp, SqT K H t [.int a, mst b] := by
  have h42 : Str.ofString "*" = tx [42] := by decide +kernel
  have h43 : Str.ofString "+" = tx [43] := by decide +kernel
  have h63 : Str.ofString "?" = tx [63] := by decide +kernel
  by_cases e1 : c = 42
  · subst e1
    cases h
    exact ⟨ct 0, h42 ▸ T.c1, T.t1⟩
  by_cases e2 : c = 43
  · subst e2
    cases h
    exact ⟨ct 1, h43 ▸ T.c2, T.t2⟩
  by_cases e3 : c = 63
  · subst e3
    cases h
    exact ⟨ct 2, h63 ▸ T.c3, T.t3⟩
  exfalso
  unfold cnt at h
  split at h
  · exact e1 rfl
  · exact e2 rfl
  · exact e3 rfl
  · cases h
theorem cnt_no (T : RT K w mg C f fd tk cd ces cn ct) {Z : List Nat} {q : Nat} (h : ∀ c, Z[q]? = some c → cnt c = none) : PySem.W.nsIn K cd (tx (sg Z q)) = some none := by
  have h42 : Str.ofString "*" = tx [42] := by decide +kernel
  have h43 : Str.ofString "+" = tx [43] := by decide +kernel
  have h63 : Str.ofString "?" = tx [63] := by decide +kernel
  have k : ∀ d, cnt d ≠ none → tx (sg Z q) ≠ tx [d] := fun d hd z => by
    have z := tx_inj z
    cases e : Z[q]? with
    | none =>
      rw [sg_none e] at z
      cases z
    | some c =>
      rw [sg_some e] at z
      cases z
      exact hd (h _ e)
  exact T.c0 _ (h42 ▸ k 42 (by decide)) (h43 ▸ k 43 (by decide)) (h63 ▸ k 63 (by decide))
theorem ok_item (T : RT K w mg C f fd tk cd ces cn ct) {k d : Nat} (hk : 4 ≤ k) (G : FnOk P w K mg base CX0 k (f 9) (fd 9) ["self"] (spR C d fun Z => RU Z d)) : FnOk P w K mg base CX0 (k + 1) (f 7) (fd 7) ["self"] (spR C d fun Z => RItem Z (RU Z d)) := by
  refine T.mItem.F.ok scItem (fun vs H Q E h => ?_) (fun cdv A outer s H vs Q E hr h => ?_)
  · obtain ⟨Z, p, dx, l, s, nm, t, q, nm', rfl, _⟩ := h
    rfl
  · obtain ⟨Z, p, dx, l, s, nm, t, e, nm', rfl, hd, R, hi, q⟩ := h
    have GS := ok_sign (P := P) (base := base) T
    have GD := ok_demand (P := P) (base := base) T
    have GK := ok_skips (P := P) (base := base) T
    have GN := ok_number (P := P) (base := base) T
    have h1 : 1 ≤ k := Nat.le_trans (by decide) hk
    have h2 : 2 ≤ k := Nat.le_trans (by decide) hk
    refine ⟨_, pss_cons (ps_set (i := 1) scItem.nd rfl (.inl rfl) (pe_meth0 (pv 0) T.cl T.mUnit.m G hr T.mUnit.b .nil pass0))
      (pss_cons (ps_if (pt_cmpR (op_in_kd T.kd) (pe_meth0 (pv 0) T.cl T.mSign.m GS (hr.mono h1) T.mSign.b .nil pass0) (pe_glob (v := .ref cd) rfl T.gCs rfl) rfl)
          (pss_cons (ps_asg (pe_ix ix_kdict (pe_glob (v := .ref cd) rfl T.gCs rfl) (pe_meth0 (pv 0) T.cl T.mSign.m GS (hr.mono h1) T.mSign.b .nil pass0) (fun _ _ => rfl))
            (pg_tup rfl (pgs_cons (pg_name (i := 2) scItem.nd rfl (.inl rfl)) (pgs_cons (pg_name (i := 3) scItem.nd rfl (.inl rfl)) pgs_nil))))
          (pss_cons (ps_fldaug (pv 0) pe_int in_add)
          (pss_one (ps_ret (pe_tup (pa_cons (pe_glob (v := .str coW) rfl T.gCo ⟨_, rfl⟩) (pa_cons (pv 2) (pa_cons (pv 3) (pa_cons (pv 1) pa_nil)))))))))
          pss_nil)
      (pss_cons (ps_if (pt_not (pt_val (pe_meth (pv 0) T.cl T.mSkips.m GK (hr.mono h2) T.mSkips.b .nil pass0 (pa_cons pe_str pa_nil)))) (pss_one (ps_ret (pv 1))) pss_nil)
      (pss_cons (ps_asg2 (pe_meth0 (pv 0) T.cl T.mNumber.m GN (hr.mono h2) T.mNumber.b .nil pass0) (pg_name (i := 2) scItem.nd rfl (.inl rfl)) (pg_name (i := 3) scItem.nd rfl (.inl rfl)))
      (Evl.pss_cut (ps_if (pt_val (pe_meth (pv 0) T.cl T.mSkips.m GK (hr.mono h2) T.mSkips.b .nil pass0 (pa_cons pe_str pa_nil)))
          (pss_one (ps_set (i := 3) scItem.nd rfl (.inl rfl) (pe_ifExp (pt_cmpR op_eq (pe_meth0 (pv 0) T.cl T.mSign.m GS (hr.mono h1) T.mSign.b .nil pass0) pe_str (nomark _)) pe_non (pe_meth0 (pv 0) T.cl T.mNumber.m GN (hr.mono h2) T.mNumber.b .nil pass0))))
          pss_nil)
      (pss_cons (ps_expr (pe_meth (pv 0) T.cl T.mDemand.m GD (hr.mono h1) T.mDemand.b .nil pass0 (pa_cons
          (pe_and (pe_meth (pv 0) T.cl T.mSkips.m GK (hr.mono h2) T.mSkips.b .nil pass0 (pa_cons pe_str pa_nil))
            (pe_one (pe_or (pe_cmpR op_isN (pv 3) pe_non (nomark _)) (pe_one (pe_cmpR op_le (pv 2) (pv 3) (nomark _)))))) pa_nil)))
      (pss_one (ps_ret (pe_tup (pa_cons (pe_glob (v := .str coW) rfl T.gCo ⟨_, rfl⟩) (pa_cons (pv 2) (pa_cons (pv 3) (pa_cons (pv 1) pa_nil)))))))))))), ?_⟩
    have nS : ∀ s' m', (rf Z s' l m').lookup ("sign" : Str) = none := fun _ _ => rf_no (by decide +kernel) (by decide +kernel) (by decide +kernel) (by decide +kernel)
    have nD : ∀ s' m', (rf Z s' l m').lookup ("demand" : Str) = none := fun _ _ => rf_no (by decide +kernel) (by decide +kernel) (by decide +kernel) (by decide +kernel)
    have nK : ∀ s' m', (rf Z s' l m').lookup ("skips" : Str) = none := fun _ _ => rf_no (by decide +kernel) (by decide +kernel) (by decide +kernel) (by decide +kernel)
    have nU : ∀ s' m', (rf Z s' l m').lookup ("read_unit" : Str) = none := fun _ _ => rf_no (by decide +kernel) (by decide +kernel) (by decide +kernel) (by decide +kernel)
    have nN : ∀ s' m', (rf Z s' l m').lookup ("read_number" : Str) = none := fun _ _ => rf_no (by decide +kernel) (by decide +kernel) (by decide +kernel) (by decide +kernel)
    obtain ⟨u, r, nm1, hu, hc⟩ : ∃ u r nm1, RU Z d s nm u r nm1 ∧ ((u = t ∧ e = r ∧ nm' = nm1 ∧ ∀ c, Z[r]? = some c → cnt c = none ∧ c ≠ 123) ∨ (nm' = nm1 ∧ ∃ c a b, Z[r]? = some c ∧ cnt c = some (a, b) ∧ e = r + 1 ∧ t = .count a b u) ∨
        (nm' = nm1 ∧ Z[r]? = some 123 ∧ ∃ a b r1 r2, RNum Z (r + 1) a r1 ∧ t = .count a b u ∧ e = r2 + 1 ∧ Z[r2]? = some 125 ∧ ((b = some a ∧ r2 = r1) ∨ (b = none ∧ Z[r1]? = some 44 ∧ r2 = r1 + 1) ∨ (∃ b', b = some b' ∧ Z[r1]? = some 44 ∧ RNum Z (r1 + 1) b' r2 ∧ a ≤ b')))) := by
      cases hi with
      | plain h1 h2 => exact ⟨_, _, _, h1, .inl ⟨rfl, rfl, rfl, h2⟩⟩
      | sign h1 h2 h3 => exact ⟨_, _, _, h1, .inr (.inl ⟨rfl, _, _, _, h2, h3, rfl, rfl⟩)⟩
      | just h1 h2 h3 h4 => exact ⟨_, _, _, h1, .inr (.inr ⟨rfl, h2, _, _, _, _, h3, rfl, rfl, h4, .inl ⟨rfl, rfl⟩⟩)⟩
      | least h1 h2 h3 h4 h5 => exact ⟨_, _, _, h1, .inr (.inr ⟨rfl, h2, _, _, _, _, h3, rfl, rfl, h5, .inr (.inl ⟨rfl, h4, rfl⟩)⟩)⟩
      | both h1 h2 h3 h4 h5 h6 h7 => exact ⟨_, _, _, h1, .inr (.inr ⟨rfl, h2, _, _, _, _, h3, rfl, rfl, h7, .inr (.inr ⟨_, rfl, h4, h5, h6⟩)⟩)⟩
    refine ⟨.ref p, rfl, p, dx, _, rfl, R.e, nU _ _, Z, p, dx, l, s, nm, u, r, nm1, rfl, hd, R, hu, fun v H1 o1 R1 k1 => ?_⟩
    refine ⟨.ref p, rfl, p, dx, _, rfl, R1.e, nS _ _, Z, p, dx, l, r, nm1, _, rfl, R1, ?_⟩
    rcases hc with ⟨rfl, rfl, rfl, hp⟩ | ⟨rfl, c, a, b, hz, hcn, rfl, rfl⟩ | ⟨rfl, hz, a, b, r1, r2, hn, rfl, rfl, hz2, hb⟩
    · refine ⟨_, none, rfl, rfl, cnt_no T fun c h => (hp c h).1, _, rfl, iteF ?_⟩
      refine ⟨.ref p, rfl, p, dx, _, rfl, R1.e, nK _ _, Z, p, dx, l, e, nm', _, 123, rfl, R1, fun z => absurd rfl (hp _ z).2, fun _ => ⟨false, rfl, iteT ?_⟩⟩
      exact ⟨v, rfl, q v H1 o1 R1 k1⟩
    · obtain ⟨tp, c1, c2⟩ := cnt_of T hcn
      rw [sg_some hz]
      refine ⟨_, _, rfl, rfl, c1, _, rfl, iteT ?_⟩
      refine ⟨.ref p, rfl, p, dx, _, rfl, R1.e, nS _ _, Z, p, dx, l, r, nm', _, rfl, R1, ?_⟩
      rw [sg_some hz]
      refine ⟨cd, tx [c], .ref tp, rfl, rfl, ⟨ces, cn, _, T.kd.at_, T.kd.lit, c1, rfl⟩, tp, _, rfl, c2 _, rfl, _, _, rfl, _, _, rfl, rfl, ?_⟩
      refine ⟨.ref p, rfl, p, C, dx, _, _, rfl, R1.e, T.cl, T.nSp, rf_spot, _, _, rfl, rfl, dx, _, R1.e, (show 4 < 1000 by decide), ?_⟩
      have R2 := R1.spot (r + 1) (Nat.le_succ r)
      refine ⟨_, rfl, _, rfl, v, rfl, (show 4 ≤ sizeLine by decide), fun b' hb' => ?_⟩
      refine q _ _ (.count upd_same ((o1.mono (R1.kt K2.p)).mono (KT.same (smU hb')))) (R2.up (smU hb')) ((k1.trans K2.p).trans (K2.same (smU hb')))
    · refine ⟨_, none, rfl, rfl, cnt_no T fun c h => by rw [hz] at h; cases h; rfl, _, rfl, iteF ?_⟩
      refine ⟨.ref p, rfl, p, dx, _, rfl, R1.e, nK _ _, Z, p, dx, l, r, nm', _, 123, rfl, R1, fun _ H2 R2 k2 => ⟨true, rfl, iteF ?_⟩, fun z => absurd hz z⟩
      refine ⟨.ref p, rfl, p, dx, _, rfl, R2.e, nN _ _, Z, p, dx, l, r + 1, nm', _, a, r1, rfl, R2, hn, fun H3 R3 k3 => ?_⟩
      refine ⟨fun σ H4 => σ = [some (.ref p), some v, some (.int a), some (mst b)] ∧ RdA C Z p dx l H4 r2 nm' (8 - (d : Int)) ∧ K2 p l H1 H4, ?_, fun σ H4 hM => ?_⟩
      · have k13 := k2.trans k3
        rcases hb with ⟨rfl, rfl⟩ | ⟨rfl, h44, rfl⟩ | ⟨b', rfl, h44, hn2, _⟩
        · refine ⟨.ref p, rfl, p, dx, _, rfl, R3.e, nK _ _, Z, p, dx, l, r2, nm', _, 44, rfl, R3, fun z => ?_, fun _ => ⟨false, rfl, iteF ⟨rfl, R3, k13⟩⟩⟩
          rw [hz2] at z
          cases z
        · refine ⟨.ref p, rfl, p, dx, _, rfl, R3.e, nK _ _, Z, p, dx, l, r1, nm', _, 44, rfl, R3, fun _ H4 R4 k4 => ⟨true, rfl, iteT ?_⟩, fun z => absurd h44 z⟩
          refine ⟨.ref p, rfl, p, dx, _, rfl, R4.e, nS _ _, Z, p, dx, l, r1 + 1, nm', _, rfl, R4, ?_⟩
          rw [sg_some hz2]
          refine ⟨rfl, _, rfl, ?_⟩
          rw [show V.str (tx [125]) = V.str (Str.ofString "}") by decide +kernel, decide_eq_true rfl]
          exact iteT ⟨rfl, R4, k13.trans k4⟩
        · refine ⟨.ref p, rfl, p, dx, _, rfl, R3.e, nK _ _, Z, p, dx, l, r1, nm', _, 44, rfl, R3, fun _ H4 R4 k4 => ⟨true, rfl, iteT ?_⟩, fun z => absurd h44 z⟩
          refine ⟨.ref p, rfl, p, dx, _, rfl, R4.e, nS _ _, Z, p, dx, l, r1 + 1, nm', _, rfl, R4, ?_⟩
          have hne : Z[r1 + 1]? ≠ some 125 := fun z => by
            obtain ⟨_, _, _, _, _, _, _, hlt, hdg, _⟩ := num_word hn2
            obtain ⟨c, hc1, hc2⟩ := hdg (r1 + 1) (Nat.le_refl _) hlt
            rw [z] at hc1
            cases hc1
            exact absurd hc2.2 (by decide)
          refine ⟨rfl, _, rfl, ?_⟩
          rw [decide_eq_false fun z => sg_ne hne ((V.str.inj z).trans (show Str.ofString "}" = tx [125] by decide +kernel))]
          refine iteF ⟨.ref p, rfl, p, dx, _, rfl, R4.e, nN _ _, Z, p, dx, l, r1 + 1, nm', _, b', r2, rfl, R4, hn2, fun H5 R5 k5 => ?_⟩
          exact ⟨rfl, R5, (k13.trans k4).trans k5⟩
      obtain ⟨rfl, R4, k4⟩ := hM
      refine ⟨.ref p, rfl, p, dx, _, rfl, R4.e, nD _ _, .ref p, rfl, p, dx, _, rfl, R4.e, nK _ _, Z, p, dx, l, r2, nm', _, 125, rfl, R4, fun _ H5 R5 k5 => ?_, fun z => absurd hz2 z⟩
      refine ⟨true, rfl, iteT ⟨_, rfl, rfl, _, rfl, ?_⟩⟩
      have fin : ∀ {H6 : Hp}, H6 = H5 → ∀ b', H6 b' = none → Q (.ref b') (upd H6 b' (.tup [.str coW, .int a, mst b, v])) := fun {H6} e6 b' hb' => by
        subst e6
        exact q _ _ (.count upd_same ((o1.mono (R1.kt (k4.trans k5))).mono (KT.same (smU hb')))) (R5.up (smU hb')) ((k1.trans (k4.trans k5)).trans (K2.same (smU hb')))
      cases b with
      | none => exact iteT ⟨p, rfl, _, rfl, _, rfl, v, rfl, (show 4 ≤ sizeLine by decide), fin rfl⟩
      | some b' =>
        have hle : a ≤ b' := by
          rcases hb with ⟨h, _⟩ | ⟨h, _⟩ | ⟨b2, h, _, _, h2⟩
          · cases h
            exact Nat.le_refl _
          · cases h
          · cases h
            exact h2
        refine iteF ⟨_, rfl, _, rfl, _, _, rfl, rfl, p, ?_, _, rfl, _, rfl, v, rfl, (show 4 ≤ sizeLine by decide), fin rfl⟩
        show [V.ref p, V.bl (decide ((a : Int) ≤ (b' : Int)))] = _
        rw [decide_eq_true (by omega)]
end
end Sf4
namespace Sf4
open PySem PySem.Spec PyProof.Rows L2 Sf
section
variable {P : Program} {w : World} {K : PySem.W.Frag} {mg : Str → Option Value} {base : Heap} {C : Addr} {f : Nat → Addr} {fd : Nat → FuncData} {tk : Nat → Tok} {cd : Addr} {ces : Array DictEntry} {cn : Nat} {ct : Nat → Addr}
theorem ok_chain (T : RT K w mg C f fd tk cd ces cn ct) {k d : Nat} (hk : 4 ≤ k) (G : FnOk P w K mg base CX0 k (f 7) (fd 7) ["self"] (spR C d fun Z => RItem Z (RU Z d))) : FnOk P w K mg base CX0 (k + 1) (f 6) (fd 6) ["self"] (spR C d fun Z => RChain Z (RItem Z (RU Z d))) := by
  refine T.mChain.F.ok scChain (fun vs H Q E h => ?_) (fun cdv A outer s H vs Q E hr h => ?_)
  · obtain ⟨Z, p, dx, l, s, nm, t, q, nm', rfl, _⟩ := h
    rfl
  · obtain ⟨Z, p, dx, l, s, nm, t, e, nm', rfl, hd, R, ⟨ts, hm, ht⟩, q⟩ := h
    have GS := ok_sign (P := P) (base := base) T
    have h1 : 1 ≤ k := Nat.le_trans (by decide) hk
    refine ⟨_, pss_cons (ps_set (i := 1) scChain.nd rfl (.inl rfl) (pe_lst (pa_cons (pe_meth0 (pv 0) T.cl T.mItem.m G hr T.mItem.b .nil pass0) pa_nil)))
      (Evl.pss_cut (ps_while PassesOwn.never (PW.pt (pw_and (pt_cmpR op_ne (pe_meth0 (pv 0) T.cl T.mSign.m GS (hr.mono h1) T.mSign.b .nil pass0) pe_str (nomark _))
          (pw_and1 (pt_cmpR op_inS (pe_meth0 (pv 0) T.cl T.mSign.m GS (hr.mono h1) T.mSign.b .nil pass0) (pe_op op_add_str (pe_glob (v := .str LSs) rfl T.gLet ⟨_, rfl⟩) pe_str) rfl))))
        (pss_one (ps_expr (pe_bm PySem.F.plainAttrs_list PySem.F.slot_list_append PySem.F.type_list_append mt_append (pv 1) (pa_cons (pe_meth0 (pv 0) T.cl T.mItem.m G hr T.mItem.b .nil pass0) pa_nil)))))
      (pss_one (ps_ret (pe_ifExp (pt_cmpR op_eq (pe_callB call_len_seq (by rfl) T.zlen PySem.boot_len (pa_cons (pv 1) pa_nil)) pe_int (nomark _)) (pe_ix ix_list (pv 1) pe_int (fun _ _ => rfl))
        (pe_tup (pa_cons (pe_glob (v := .str chW) rfl T.gCh ⟨_, rfl⟩) (pa_cons (pe_tupleOf (by rfl) T.ztup (pv 1)) pa_nil))))))), ?_⟩
    have nS : ∀ s' m', (rf Z s' l m').lookup ("sign" : Str) = none := fun _ _ => rf_no (by decide +kernel) (by decide +kernel) (by decide +kernel) (by decide +kernel)
    have nI : ∀ s' m', (rf Z s' l m').lookup ("read_item" : Str) = none := fun _ _ => rf_no (by decide +kernel) (by decide +kernel) (by decide +kernel) (by decide +kernel)
    obtain ⟨t1, tr, q1, nm1, rfl, f1, f2⟩ := many_first hm
    have pg := item_pgr (ru_pgr Z d)
    have mp := many_pgr pg (fun q => Nat.le_refl q) hm
    have hZ := R.z
    refine ⟨.ref p, rfl, p, dx, _, rfl, R.e, nI _ _, Z, p, dx, l, s, nm, t1, q1, nm1, rfl, hd, R, f1, fun v H1 o1 R1 k1 => ⟨(show 1 ≤ sizeLine by decide), fun a ha => ?_⟩⟩
    have nap := R1.p0 ha
    have nal := R1.l0 ha
    refine ⟨fun σ H2 => ∃ vs, σ = [some (.ref p), some (.ref a)] ∧ H2 a = some (.lst vs) ∧ TrOs H2 vs (t1 :: tr) ∧ RdA C Z p dx l H2 e nm' (8 - (d : Int)) ∧ K2 p l H H2, ?_, fun σ H2 hM => ?_⟩
    · refine ⟨fun n σ H2 => ∃ s1 nm2 dn rt vs, n = rt.length ∧ t1 :: tr = dn ++ rt ∧ σ = [some (.ref p), some (.ref a)] ∧ H2 a = some (.lst vs) ∧ TrOs H2 vs dn ∧ RdA C Z p dx l H2 s1 nm2 (8 - (d : Int)) ∧ K2 p l H H2 ∧ RMore (RItem Z (RU Z d)) (starts Z) id s1 nm2 rt e nm',
        ⟨_, q1, nm1, [t1], tr, [v], rfl, rfl, rfl, upd_same, .cons (o1.mono (KT.same (smU ha))) .nil, R1.up (smU ha), k1.trans (K2.same (smU ha)), f2⟩, ?_⟩
      rintro n σ H2 ⟨s1, nm2, dn, rt, vs, rfl, es, rfl, ea, os, R2, k2, hw⟩
      refine ⟨.ref p, rfl, p, dx, _, rfl, R2.e, nS _ _, Z, p, dx, l, s1, nm2, _, rfl, R2, rfl, _, rfl, ?_⟩
      rcases hw with ⟨rfl, g1, rfl, rfl⟩ | ⟨g1, g2⟩
      · rw [List.append_nil] at es
        subst es
        cases hz : Z[e]? with
        | none =>
          rw [sg_none hz, decide_eq_true em_eq]
          exact iteF (iteF ⟨vs, rfl, ea, os, R2, k2⟩)
        | some c =>
          rw [sg_some hz, decide_eq_false em_ne]
          refine iteT ⟨.ref p, rfl, p, dx, _, rfl, R2.e, nS _ _, Z, p, dx, l, e, _, _, rfl, R2, _, _, rfl, rfl, (show LSs.length + (Str.ofString ".[(<").length ≤ sizeLine by decide +kernel), c, _, by rw [sg_some hz] <;> rfl, rfl, _, rfl, ?_⟩
          rw [decide_eq_false fun z => g1 ⟨c, hz, st_in.mp z⟩]
          exact iteF ⟨vs, rfl, ea, os, R2, k2⟩
      · obtain ⟨c, hz, hc⟩ := g1
        rw [sg_some hz, decide_eq_false em_ne]
        refine iteT ⟨.ref p, rfl, p, dx, _, rfl, R2.e, nS _ _, Z, p, dx, l, s1, _, _, rfl, R2, _, _, rfl, rfl, (show LSs.length + (Str.ofString ".[(<").length ≤ sizeLine by decide +kernel), c, _, by rw [sg_some hz] <;> rfl, rfl, _, rfl, ?_⟩
        rw [decide_eq_true (st_in.mpr hc)]
        obtain ⟨t2, tr2, q2, nm3, rfl, u1, u2⟩ := many_first g2
        have hle := congrArg List.length es
        rw [List.length_append, List.length_cons] at hle
        have hle2 := os.len
        refine iteT ⟨fun σ' H' => ∃ vs', σ' = [some (.ref p), some (.ref a)] ∧ H' a = some (.lst vs') ∧ TrOs H' vs' (dn ++ [t2]) ∧ RdA C Z p dx l H' q2 nm3 (8 - (d : Int)) ∧ K2 p l H H', fun σ' H' ⟨vs', h1, h2, h3, h4, h5⟩ => ⟨tr2.length, by rw [List.length_cons]; omega, q2, nm3, dn ++ [t2], tr2, vs', rfl, by rw [es, List.append_assoc] <;> rfl, h1, h2, h3, h4, h5, u2⟩, ?_⟩
        refine ⟨.ref a, rfl, .inl ⟨rfl, _, .inl (.inl ea)⟩, .ref p, rfl, p, dx, _, rfl, R2.e, nI _ _, Z, p, dx, l, s1, nm2, t2, q2, nm3, rfl, hd, R2, u1, fun v2 H3 o3 R3 k3 => ?_⟩
        have ea3 := k3 a _ nap nal ea
        refine ⟨a, _, _, rfl, rfl, ea3, Nat.lt_of_le_of_lt (show vs.length ≤ 100 by rw [List.length_cons] at mp; omega) (by decide), ?_⟩
        exact ⟨vs ++ [v2], rfl, upd_same, ((os.mono (R2.kt k3)).mono (KT.lst ea3)).snoc (o3.mono (KT.lst ea3)), R3.wr nap nal, K2.put k1 (k2.trans k3) ha⟩
    obtain ⟨vs, rfl, ea, os, R2, k2⟩ := hM
    have hlen := os.len
    refine ⟨.ref a, rfl, a, _, rfl, .inl (.inl (.inl ea)), rfl, _, rfl, ?_⟩
    rcases ht with ⟨x, ex, rfl⟩ | ⟨h2, rfl⟩
    · cases ex
      cases os with
      | cons o r =>
        cases r
        exact iteT ⟨.ref a, rfl, a, _, 0, _, rfl, rfl, .inl (.inl ea), atI_nat (j := 0) rfl, q _ _ o R2 k2⟩
    · have nd : ¬ (V.int (vs.length : Int) = V.int 1) := fun z => by
        have z := V.int.inj z
        omega
      rw [decide_eq_false nd]
      refine iteF ⟨.ref a, rfl, .inl ⟨a, _, rfl, .inl (.inl ea), fun b hb => ⟨(show 2 ≤ sizeLine by decide), fun b2 hb2 => ?_⟩⟩⟩
      have s1 := smU (o := HO.tup vs) hb
      have s2 := smU (o := HO.tup [.str chW, .ref b]) hb2
      exact q _ _ (.chain upd_same (s2 _ _ upd_same) (os.mono (KT.same (s1.trans s2)))) (R2.up (s1.trans s2)) (k2.trans (K2.same (s1.trans s2)))
theorem ok_choice (T : RT K w mg C f fd tk cd ces cn ct) {k d : Nat} (hk : 4 ≤ k) (G : FnOk P w K mg base CX0 k (f 6) (fd 6) ["self"] (spR C d fun Z => RChain Z (RItem Z (RU Z d)))) : FnOk P w K mg base CX0 (k + 1) (f 5) (fd 5) ["self"] (spR C d fun Z => RC Z d) := by
  refine T.mChoice.F.ok scChoice (fun vs H Q E h => ?_) (fun cdv A outer s H vs Q E hr h => ?_)
  · obtain ⟨Z, p, dx, l, s, nm, t, q, nm', rfl, _⟩ := h
    rfl
  · obtain ⟨Z, p, dx, l, s, nm, t, e, nm', rfl, hd, R, hm0, q⟩ := h
    rw [RC_eq] at hm0
    obtain ⟨ts, hm, ht⟩ := hm0
    have GK := ok_skips (P := P) (base := base) T
    have h2 : 2 ≤ k := Nat.le_trans (by decide) hk
    refine ⟨_, pss_cons (ps_set (i := 1) scChoice.nd rfl (.inl rfl) (pe_lst (pa_cons (pe_meth0 (pv 0) T.cl T.mChain.m G hr T.mChain.b .nil pass0) pa_nil)))
      (Evl.pss_cut (ps_while PassesOwn.never (pt_val (pe_meth (pv 0) T.cl T.mSkips.m GK (hr.mono h2) T.mSkips.b .nil pass0 (pa_cons pe_str pa_nil)))
        (pss_one (ps_expr (pe_bm PySem.F.plainAttrs_list PySem.F.slot_list_append PySem.F.type_list_append mt_append (pv 1) (pa_cons (pe_meth0 (pv 0) T.cl T.mChain.m G hr T.mChain.b .nil pass0) pa_nil)))))
      (pss_one (ps_ret (pe_ifExp (pt_cmpR op_eq (pe_callB call_len_seq (by rfl) T.zlen PySem.boot_len (pa_cons (pv 1) pa_nil)) pe_int (nomark _)) (pe_ix ix_list (pv 1) pe_int (fun _ _ => rfl))
        (pe_tup (pa_cons (pe_glob (v := .str alW) rfl T.gAl ⟨_, rfl⟩) (pa_cons (pe_tupleOf (by rfl) T.ztup (pv 1)) pa_nil))))))), ?_⟩
    have nK : ∀ s' m', (rf Z s' l m').lookup ("skips" : Str) = none := fun _ _ => rf_no (by decide +kernel) (by decide +kernel) (by decide +kernel) (by decide +kernel)
    have nI : ∀ s' m', (rf Z s' l m').lookup ("read_chain" : Str) = none := fun _ _ => rf_no (by decide +kernel) (by decide +kernel) (by decide +kernel) (by decide +kernel)
    obtain ⟨t1, tr, q1, nm1, rfl, f1, f2⟩ := many_first hm
    have pg := chain_pgr (item_pgr (ru_pgr Z d))
    have mp := many_pgr pg (fun q => Nat.le_succ q) hm
    have hZ := R.z
    refine ⟨.ref p, rfl, p, dx, _, rfl, R.e, nI _ _, Z, p, dx, l, s, nm, t1, q1, nm1, rfl, hd, R, f1, fun v H1 o1 R1 k1 => ⟨(show 1 ≤ sizeLine by decide), fun a ha => ?_⟩⟩
    have nap := R1.p0 ha
    have nal := R1.l0 ha
    refine ⟨fun σ H2 => ∃ vs, σ = [some (.ref p), some (.ref a)] ∧ H2 a = some (.lst vs) ∧ TrOs H2 vs (t1 :: tr) ∧ RdA C Z p dx l H2 e nm' (8 - (d : Int)) ∧ K2 p l H H2, ?_, fun σ H2 hM => ?_⟩
    · refine ⟨fun n σ H2 => ∃ s1 nm2 dn rt vs, n = rt.length ∧ t1 :: tr = dn ++ rt ∧ σ = [some (.ref p), some (.ref a)] ∧ H2 a = some (.lst vs) ∧ TrOs H2 vs dn ∧ RdA C Z p dx l H2 s1 nm2 (8 - (d : Int)) ∧ K2 p l H H2 ∧ RMore (RChain Z (RItem Z (RU Z d))) (fun q => Z[q]? = some 124) (· + 1) s1 nm2 rt e nm',
        ⟨_, q1, nm1, [t1], tr, [v], rfl, rfl, rfl, upd_same, .cons (o1.mono (KT.same (smU ha))) .nil, R1.up (smU ha), k1.trans (K2.same (smU ha)), f2⟩, ?_⟩
      rintro n σ H2 ⟨s1, nm2, dn, rt, vs, rfl, es, rfl, ea, os, R2, k2, hw⟩
      refine ⟨.ref p, rfl, p, dx, _, rfl, R2.e, nK _ _, Z, p, dx, l, s1, nm2, _, 124, rfl, R2, fun z H3 R3 k3 => ?_, fun z => ?_⟩
      · rcases hw with ⟨_, g1, _⟩ | ⟨g1, g2⟩
        · exact absurd z g1
        obtain ⟨t2, tr2, q2, nm3, rfl, u1, u2⟩ := many_first g2
        have hle := congrArg List.length es
        rw [List.length_append, List.length_cons] at hle
        have hle2 := os.len
        have ea3 := k3 a _ nap nal ea
        refine ⟨true, rfl, iteT ⟨fun σ' H' => ∃ vs', σ' = [some (.ref p), some (.ref a)] ∧ H' a = some (.lst vs') ∧ TrOs H' vs' (dn ++ [t2]) ∧ RdA C Z p dx l H' q2 nm3 (8 - (d : Int)) ∧ K2 p l H H', fun σ' H' ⟨vs', h1, h2, h3, h4, h5⟩ => ⟨tr2.length, by rw [List.length_cons]; omega, q2, nm3, dn ++ [t2], tr2, vs', rfl, by rw [es, List.append_assoc] <;> rfl, h1, h2, h3, h4, h5, u2⟩, ?_⟩⟩
        refine ⟨.ref a, rfl, .inl ⟨rfl, _, .inl (.inl ea3)⟩, .ref p, rfl, p, dx, _, rfl, R3.e, nI _ _, Z, p, dx, l, s1 + 1, nm2, t2, q2, nm3, rfl, hd, R3, u1, fun v2 H4 o4 R4 k4 => ?_⟩
        have ea4 := k4 a _ nap nal ea3
        refine ⟨a, _, _, rfl, rfl, ea4, Nat.lt_of_le_of_lt (show vs.length ≤ 100 by rw [List.length_cons] at mp; omega) (by decide), ?_⟩
        exact ⟨vs ++ [v2], rfl, upd_same, ((os.mono (R2.kt (k3.trans k4))).mono (KT.lst ea4)).snoc (o4.mono (KT.lst ea4)), R4.wr nap nal, K2.put k1 ((k2.trans k3).trans k4) ha⟩
      · rcases hw with ⟨rfl, g1, rfl, rfl⟩ | ⟨g1, _⟩
        · rw [List.append_nil] at es
          subst es
          exact ⟨false, rfl, iteF ⟨vs, rfl, ea, os, R2, k2⟩⟩
        · exact absurd g1 z
    obtain ⟨vs, rfl, ea, os, R2, k2⟩ := hM
    have hlen := os.len
    refine ⟨.ref a, rfl, a, _, rfl, .inl (.inl (.inl ea)), rfl, _, rfl, ?_⟩
    rcases ht with ⟨x, ex, rfl⟩ | ⟨h2, rfl⟩
    · cases ex
      cases os with
      | cons o r =>
        cases r
        exact iteT ⟨.ref a, rfl, a, _, 0, _, rfl, rfl, .inl (.inl ea), atI_nat (j := 0) rfl, q _ _ o R2 k2⟩
    · have nd : ¬ (V.int (vs.length : Int) = V.int 1) := fun z => by
        have z := V.int.inj z
        omega
      rw [decide_eq_false nd]
      refine iteF ⟨.ref a, rfl, .inl ⟨a, _, rfl, .inl (.inl ea), fun b hb => ⟨(show 2 ≤ sizeLine by decide), fun b2 hb2 => ?_⟩⟩⟩
      have s1 := smU (o := HO.tup vs) hb
      have s2 := smU (o := HO.tup [.str alW, .ref b]) hb2
      exact q _ _ (.choice upd_same (s2 _ _ upd_same) (os.mono (KT.same (s1.trans s2)))) (R2.up (s1.trans s2)) (k2.trans (K2.same (s1.trans s2)))
/-- read_choice, whatever is open -/
theorem ok_rc (T : RT K w mg C f fd tk cd ces cn ct) : ∀ d, FnOk P w K mg base CX0 (8 + 5 * d) (f 5) (fd 5) ["self"] (spR C d fun Z => RC Z d)
  | 0 => ok_choice T (k := 7) (by decide) (ok_chain T (k := 6) (by decide) (ok_item T (k := 5) (by decide) (ok_unit T (k := 4) (d := 0) (by decide) ok_no ok_no)))
  | d + 1 => by
    have G := ok_rc T d
    have GG : FnOk P w K mg base CX0 (9 + 5 * d) (f 10) (fd 10) ["self"] (spIn C RGrp (d + 1)) := (ok_group T (by omega) G).mono (by omega)
    have GC : FnOk P w K mg base CX0 (9 + 5 * d) (f 11) (fd 11) ["self"] (spIn C RCap (d + 1)) := (ok_capture T (by omega) G).mono (by omega)
    exact (ok_choice T (by omega) (ok_chain T (by omega) (ok_item T (by omega) (ok_unit T (by omega) GG GC)))).mono (by omega)
theorem scWhole : FnScope ["self", "is_left", "tree", "is_right"] ["self"] (defScope sWhole) := ⟨rfl, rfl, rfl, by decide +kernel, rfl, by decide +kernel, by decide +kernel⟩
def spWhole (C : Addr) : Sp := fun vs H Q _ => ∃ (Z : List Nat) (p dx l : Addr) (lb : Bool) (t : Tr) (rb : Bool) (nm : Nm), vs = [.ref p] ∧ RdA C Z p dx l H 0 [] 0 ∧ RWhole Z lb t rb nm ∧
  ∀ a v H', H' a = some (.tup [.bl lb, v, .bl rb]) → TrO H' v t → RdA C Z p dx l H' Z.length nm 0 → K2 p l H H' → Q (.ref a) H'
theorem ok_whole (T : RT K w mg C f fd tk cd ces cn ct) : FnOk P w K mg base CX0 49 (f 4) (fd 4) ["self"] (spWhole C) := by
  refine T.mWhole.F.ok scWhole (fun vs H Q E h => ?_) (fun cdv A outer s H vs Q E hr h => ?_)
  · obtain ⟨Z, p, dx, l, lb, t, rb, nm, rfl, _⟩ := h
    rfl
  · obtain ⟨Z, p, dx, l, lb, t, rb, nm, rfl, R, ⟨e, w1, w2, w3, w4⟩, q⟩ := h
    have GD := ok_demand (P := P) (base := base) T
    have GK := ok_skips (P := P) (base := base) T
    have G := ok_rc (P := P) (base := base) T 8
    refine ⟨_, Evl.pss_cut (ps_set (i := 1) scWhole.nd rfl (.inl rfl) (pe_meth (pv 0) T.cl T.mSkips.m GK (hr.mono (by decide)) T.mSkips.b .nil pass0 (pa_cons (pe_glob (v := .str (Str.ofString "^")) rfl T.gBeg ⟨_, rfl⟩) pa_nil)))
      (pss_cons (ps_set (i := 2) scWhole.nd rfl (.inl rfl) (pe_meth0 (pv 0) T.cl T.mChoice.m G hr T.mChoice.b .nil pass0))
      (Evl.pss_cut (ps_set (i := 3) scWhole.nd rfl (.inl rfl) (pe_meth (pv 0) T.cl T.mSkips.m GK (hr.mono (by decide)) T.mSkips.b .nil pass0 (pa_cons (pe_glob (v := .str (Str.ofString "$")) rfl T.gEnd ⟨_, rfl⟩) pa_nil)))
      (pss_cons (ps_expr (pe_meth (pv 0) T.cl T.mDemand.m GD (hr.mono (by decide)) T.mDemand.b .nil pass0 (pa_cons (pe_cmpR op_eq (pe_fld (pv 0) rfl) (pe_callB call_len_str (by rfl) T.zlen PySem.boot_len (pa_cons (pe_fld (pv 0) rfl) pa_nil)) (nomark _)) pa_nil)))
      (pss_one (ps_ret (pe_tup (pa_cons (pv 1) (pa_cons (pv 2) (pa_cons (pv 3) pa_nil))))))))), ?_⟩
    have nD : ∀ s' m', (rf Z s' l m').lookup ("demand" : Str) = none := fun _ _ => rf_no (by decide +kernel) (by decide +kernel) (by decide +kernel) (by decide +kernel)
    have nK : ∀ s' m', (rf Z s' l m').lookup ("skips" : Str) = none := fun _ _ => rf_no (by decide +kernel) (by decide +kernel) (by decide +kernel) (by decide +kernel)
    have nC : ∀ s' m', (rf Z s' l m').lookup ("read_choice" : Str) = none := fun _ _ => rf_no (by decide +kernel) (by decide +kernel) (by decide +kernel) (by decide +kernel)
    have hb : Str.ofString "^" = tx [94] := by decide +kernel
    have he : Str.ofString "$" = tx [36] := by decide +kernel
    refine ⟨fun σ H1 => σ = [some (.ref p), some (.bl lb), none, none] ∧ RdA C Z p dx l H1 (if lb then 1 else 0) [] 0 ∧ K2 p l H H1, ?_, fun σ H1 hM => ?_⟩
    · refine ⟨.ref p, rfl, p, dx, _, rfl, R.e, nK _ _, Z, p, dx, l, 0, [], _, 94, (by rw [hb] <;> rfl), R, fun z H1 R1 k1 => ?_, fun z => ?_⟩
      · cases lb with
        | true => exact ⟨rfl, R1, k1⟩
        | false => exact absurd z (w2 rfl)
      · cases lb with
        | true => exact absurd w1 z
        | false => exact ⟨rfl, R, K2.refl _ _ _⟩
    obtain ⟨rfl, R1, k1⟩ := hM
    refine ⟨.ref p, rfl, p, dx, _, rfl, R1.e, nC _ _, Z, p, dx, l, _, [], t, e, nm, rfl, Nat.le_refl 8, R1, w3, fun v H2 o2 R2 k2 => ?_⟩
    refine ⟨fun σ H3 => σ = [some (.ref p), some (.bl lb), some v, some (.bl rb)] ∧ TrO H3 v t ∧ RdA C Z p dx l H3 Z.length nm 0 ∧ K2 p l H H3, ?_, fun σ H3 hM => ?_⟩
    · refine ⟨.ref p, rfl, p, dx, _, rfl, R2.e, nK _ _, Z, p, dx, l, e, nm, _, 36, (by rw [he] <;> rfl), R2, fun z H3 R3 k3 => ?_, fun z => ?_⟩
      · cases rb with
        | true =>
          rw [if_pos rfl] at w4
          exact ⟨rfl, o2.mono (R2.kt k3), w4.2 ▸ R3, (k1.trans k2).trans k3⟩
        | false =>
          rw [if_neg Bool.false_ne_true] at w4
          rw [w4, List.getElem?_eq_none_iff.mpr (Nat.le_refl _)] at z
          cases z
      · cases rb with
        | true =>
          rw [if_pos rfl] at w4
          exact absurd w4.1 z
        | false =>
          rw [if_neg Bool.false_ne_true] at w4
          exact ⟨rfl, o2, w4 ▸ R2, k1.trans k2⟩
    obtain ⟨rfl, o3, R3, k3⟩ := hM
    refine ⟨.ref p, rfl, p, dx, _, rfl, R3.e, nD _ _, .ref p, rfl, p, C, dx, _, _, rfl, R3.e, T.cl, T.nSp, rf_spot, .ref p, rfl, p, C, dx, _, _, rfl, R3.e, T.cl, T.nStr, rf_string, tx Z, rfl, tx_len60 R.z, rfl, p, ?_, ?_⟩
    · show [V.ref p, V.bl (decide (V.int (Z.length : Int) = V.int ((tx Z).length : Int)))] = _
      rw [tx_len, decide_eq_true rfl]
    exact ⟨_, rfl, v, rfl, _, rfl, (show 3 ≤ sizeLine by decide), fun a ha => q a v _ upd_same (o3.mono (KT.same (smU ha))) (R3.up (smU ha)) (k3.trans (K2.same (smU ha)))⟩
end
end Sf4
namespace Sf4
open PySem PySem.Spec PyProof.Rows L2 Sf
theorem scRI : FnScope ["self", "string"] ["self", "string"] (defScope sRI) := ⟨rfl, rfl, rfl, by decide +kernel, rfl, by decide +kernel, by decide +kernel⟩
theorem scRp : FnScope ["value", "reader"] ["value"] (defScope sRp) := ⟨rfl, rfl, rfl, by decide +kernel, rfl, by decide +kernel, by decide +kernel⟩
def spRI (C : Addr) : Sp := fun vs H Q _ => ∃ (Z : List Nat) (p dx : Addr), vs = [.ref p, .str (tx Z)] ∧ H p = some (.ins C dx []) ∧ Z.length ≤ 60 ∧
  ∀ l H', RdA C Z p dx l H' 0 [] 0 → H l = none → (∀ b o, b ≠ p → H b = some o → H' b = some o) → Q .non H'
def spRp (C : Addr) : Sp := fun vs H Q _ => ∃ (Z : List Nat) (lb : Bool) (t : Tr) (rb : Bool) (nm : Nm), vs = [.str (tx Z)] ∧ Z.length ≤ 60 ∧ RWhole Z lb t rb nm ∧
  ∀ a b p dx l v H', H' a = some (.tup [.ref p, .ref b]) → H' b = some (.tup [.bl lb, v, .bl rb]) → TrO H' v t → RdA C Z p dx l H' Z.length nm 0 → Same H H' → Q (.ref a) H'
section
variable {P : Program} {w : World} {K : PySem.W.Frag} {mg : Str → Option Value} {base : Heap} {C : Addr} {f : Nat → Addr} {fd : Nat → FuncData} {tk : Nat → Tok} {cd : Addr} {ces : Array DictEntry} {cn : Nat} {ct : Nat → Addr}
theorem ok_ri (T : RT K w mg C f fd tk cd ces cn ct) : FnOk P w K mg base CX0 1 (f 0) (fd 0) ["self", "string"] (spRI C) := by
  refine T.mI.F.ok scRI (fun vs H Q E h => ?_) (fun cdv A outer s H vs Q E hr h => ?_)
  · obtain ⟨Z, p, dx, rfl, _⟩ := h
    rfl
  · obtain ⟨Z, p, dx, rfl, hp, hZ, q⟩ := h
    refine ⟨_, pss_cons (ps_fld (pv 0) (pv 1) rfl) (pss_cons (ps_fld (pv 0) pe_int rfl) (pss_cons (ps_fld (pv 0) (pe_lst pa_nil) rfl) (pss_one (ps_fld (pv 0) pe_int rfl)))), ?_⟩
    refine ⟨_, rfl, _, rfl, p, C, dx, _, rfl, hp, T.cl, T.nStr, (show 0 < 1000 by decide), ?_⟩
    refine ⟨_, rfl, p, C, dx, _, rfl, upd_same, T.cl, T.nSp, (show 1 < 1000 by decide), ?_⟩
    refine ⟨Nat.zero_le _, fun l hl => ?_⟩
    have npl : p ≠ l := fun z => by
      rw [← z, upd_same] at hl
      cases hl
    have hl0 : H l = none := by
      rw [upd_ne npl.symm, upd_ne npl.symm] at hl
      exact hl
    refine ⟨_, rfl, p, C, dx, _, rfl, (upd_ne npl).trans upd_same, T.cl, T.nNm, (show 2 < 1000 by decide), ?_⟩
    refine ⟨_, rfl, p, C, dx, _, rfl, upd_same, T.cl, T.nMo, (show 3 < 1000 by decide), ?_⟩
    refine q l _ ⟨by rw [upd_same] <;> rfl, by rw [upd_ne npl.symm, upd_ne npl.symm, upd_same] <;> rfl, Nat.le_refl 0, hZ⟩ hl0 fun b o nb e => ?_
    rw [upd_ne nb, upd_ne nb, upd_ne (ne_of_none e hl0), upd_ne nb, upd_ne nb]
    exact e
theorem ok_rp (T : RT K w mg C f fd tk cd ces cn ct) {g : Addr} {gd : FuncData} (F : Fun K "read_pattern" "read_pattern" sRp g gd) : FnOk P w K mg base CX0 50 g gd ["value"] (spRp C) := by
  refine F.ok scRp (fun vs H Q E h => ?_) (fun cdv A outer s H vs Q E hr h => ?_)
  · obtain ⟨Z, lb, t, rb, nm, rfl, _⟩ := h
    rfl
  · obtain ⟨Z, lb, t, rb, nm, rfl, hZ, hw, q⟩ := h
    have GI := ok_ri (P := P) (base := base) T
    have GW := ok_whole (P := P) (base := base) T
    refine ⟨_, pss_cons (ps_if (PW.pt (pw_or (pt_not (pt_val (pe_callB call_isi (by rfl) T.zisi PyProof.Rows.boot_isinstance (pa_cons (pv 0) (pa_cons (pe_bltn (by rfl) T.zstr PySem.Pv.boot_str (v := .ty "str") rfl) pa_nil)))))
        (pw_or1 (pt_cmpR op_gt (pe_callB call_len_str (by rfl) T.zlen PySem.boot_len (pa_cons (pv 0) pa_nil)) (pe_glob (v := .int 60) rfl T.gMS ⟨_, rfl⟩) (nomark _))))) pss_never pss_nil)
      (pss_cons (ps_set (i := 1) scRp.nd rfl (.inl rfl) (pe_make T.mkC GI (hr.mono (by decide)) rfl T.gC T.mI.b .nil pass0 (pa_cons (pv 0) pa_nil)))
      (pss_one (ps_ret (pe_tup (pa_cons (pv 1) (pa_cons (pe_meth0 (pv 1) T.cl T.mWhole.m GW hr T.mWhole.b .nil pass0) pa_nil)))))), ?_⟩
    have nW : ∀ s' l' m', (rf Z s' l' m').lookup ("read_whole" : Str) = none := fun _ _ _ => rf_no (by decide +kernel) (by decide +kernel) (by decide +kernel) (by decide +kernel)
    refine ⟨.str (tx Z), rfl, .str (tx Z), .ty "str", _, _, true, rfl, .ty "str", .base (.str _), kit_ty (a := "str") (b := "str") (by decide +kernel), true, rfl, iteF ?_⟩
    refine ⟨.str (tx Z), rfl, tx Z, rfl, tx_len60 hZ, _, _, rfl, rfl, ?_⟩
    refine ⟨_, rfl, ?_⟩
    rw [decide_eq_false (show ¬ ((60 : Int) < ((tx Z).length : Int)) by rw [tx_len]; omega)]
    refine iteF ⟨.str (tx Z), rfl, fun x dx nx ndx nex => ?_⟩
    refine ⟨Z, x, dx, rfl, upd_same, hZ, fun l H1 R1 hl k1 => ⟨rfl, ?_⟩⟩
    refine ⟨.ref x, rfl, .ref x, rfl, x, dx, _, rfl, R1.e, nW _ _ _, Z, x, dx, l, lb, t, rb, nm, rfl, R1, hw, fun b v H2 e2 o2 R2 k2 => ?_⟩
    refine ⟨(show 2 ≤ sizeLine by decide), fun a ha => ?_⟩
    have s2 := smU (o := HO.tup [.ref x, .ref b]) ha
    refine q a b x dx l v _ upd_same (s2 _ _ e2) (o2.mono (KT.same s2)) (R2.up s2) fun c o e => ?_
    have nl : H l = none := by
      by_cases z : l = x
      · exact z ▸ nx
      · rw [upd_ne z] at hl
        by_cases z2 : l = dx
        · exact z2 ▸ ndx
        · rw [upd_ne z2] at hl
          exact hl
    refine s2 _ _ (k2 c o (ne_of_none e nx) (ne_of_none e nl) (k1 c o (ne_of_none e nx) ?_))
    rw [upd_ne (ne_of_none e nx), upd_ne (ne_of_none e ndx)]
    exact e
end
end Sf4
/-! The written-out expression in plain Lean: places, first and last ones, those behind each. -/
namespace Sf4
/-- whether it can be empty, first places, last places -/
abbrev Pt := Bool × List Nat × List Nat
/-- the letters of the places, and the places behind each -/
structure Wp where
  le : List (List Nat)
  fo : List (List Nat)
def addAt (fo : List (List Nat)) (i : Nat) (la : List Nat) : List (List Nat) := fo.set i (fo.getD i [] ++ la)
def lnk (fo : List (List Nat)) (ah la : List Nat) : List (List Nat) := ah.foldl (fun f i => addAt f i la) fo
def joinP (a b : Pt) : Pt := (a.1 && b.1, (if a.1 then a.2.1 ++ b.2.1 else a.2.1), (if b.1 then a.2.2 ++ b.2.2 else b.2.2))
def e0 : Pt := (true, [], [])
def many (a : Nat) : Option Nat → Nat
  | none => max a 1
  | some b => b
def rep (f : Wp → Pt × Wp) : Nat → Wp → List Pt × Wp
  | 0, w => ([], w)
  | n + 1, w => ((f w).1 :: (rep f n (f w).2).1, (rep f n (f w).2).2)
/-- the copies from the last one, joined ahead of a tail -/
def fin (least : Nat) : List Pt → Pt → List (List Nat) → Pt × List (List Nat)
  | [], tl, fo => (tl, fo)
  | c :: r, tl, fo => fin least r (if r.length + 1 > least then (true, (joinP c tl).2) else joinP c tl) (lnk fo c.2.2 tl.2.1)
def cntd (a : Nat) : Option Nat → List Pt × Wp → Pt × Wp
  | some _, (cs, w) => ((fin a cs.reverse e0 w.fo).1, ⟨w.le, (fin a cs.reverse e0 w.fo).2⟩)
  | none, (cs, w) => match cs.reverse with
    | [] => (e0, w)
    | c :: r => ((fin r.length r (if a > 0 then c else (true, c.2)) (lnk w.fo c.2.2 c.2.1)).1, ⟨w.le, (fin r.length r (if a > 0 then c else (true, c.2)) (lnk w.fo c.2.2 c.2.1)).2⟩)
mutual
def pO : Tr → Wp → Pt × Wp
  | .place s, w => ((false, [w.le.length], [w.le.length]), ⟨w.le ++ [s], w.fo ++ [[]]⟩)
  | .empty, w => (e0, w)
  | .capture _ t, w => pO t w
  | .chain l, w => pCh l e0 w
  | .choice l, w => (((pL l w).1.any (·.1), (pL l w).1.flatMap (·.2.1), (pL l w).1.flatMap (·.2.2)), (pL l w).2)
  | .count a b t, w => cntd a b (rep (pO t) (many a b) w)
def pCh : List Tr → Pt → Wp → Pt × Wp
  | [], p, w => (p, w)
  | t :: r, p, w => pCh r (joinP p (pO t w).1) ⟨(pO t w).2.le, lnk (pO t w).2.fo p.2.2 (pO t w).1.2.1⟩
def pL : List Tr → Wp → List Pt × Wp
  | [], w => ([], w)
  | t :: r, w => ((pO t w).1 :: (pL r (pO t w).2).1, (pL r (pO t w).2).2)
end
mutual
/-- how many places -/
def sz : Tr → Nat
  | .place _ => 1
  | .empty => 0
  | .capture _ t => sz t
  | .chain l => szL l
  | .choice l => szL l
  | .count a b t => many a b * sz t
def szL : List Tr → Nat
  | [] => 0
  | t :: r => sz t + szL r
end
mutual
/-- how often places are linked at most -/
def lks : Tr → Nat
  | .place _ => 0
  | .empty => 0
  | .capture _ t => lks t
  | .chain l => lksL l + l.length
  | .choice l => lksL l
  | .count a b t => many a b * (lks t + 1) + 1
def lksL : List Tr → Nat
  | [] => 0
  | t :: r => lks t + lksL r
end
mutual
/-- the letters, written out -/
def spts : Tr → List (List Nat)
  | .place s => [s]
  | .empty => []
  | .capture _ t => spts t
  | .chain l => sptsL l
  | .choice l => sptsL l
  | .count a b t => (List.replicate (many a b) (spts t)).flatten
def sptsL : List Tr → List (List Nat)
  | [] => []
  | t :: r => spts t ++ sptsL r
end
/-! ### ranges -/
structure Rg (lo hi : Nat) (l : List Nat) : Prop where
  nd : l.Nodup
  lt : ∀ x ∈ l, lo ≤ x ∧ x < hi
theorem Rg.len {lo : Nat} : ∀ {hi : Nat} {l : List Nat}, Rg lo hi l → l.length ≤ hi - lo
  | 0, [], _ => Nat.zero_le _
  | 0, x :: l, h => absurd (h.lt x List.mem_cons_self).2 (by omega)
  | hi + 1, l, h => by
    by_cases z : hi ∈ l
    · have q : Rg lo hi (l.erase hi) := ⟨h.nd.erase hi, fun x hx => by
        obtain ⟨h1, h2⟩ := (h.nd.mem_erase_iff).mp hx
        have := h.lt x h2
        omega⟩
      have := q.len
      have e := List.length_erase_of_mem z
      have b := h.lt hi z
      have c : 0 < l.length := List.length_pos_of_mem z
      omega
    · have q : Rg lo hi l := ⟨h.nd, fun x hx => by
        have := h.lt x hx
        have : x ≠ hi := fun e => z (e ▸ hx)
        omega⟩
      have := q.len
      omega
theorem Rg.nil {lo hi : Nat} : Rg lo hi [] := ⟨List.nodup_nil, fun _ h => nomatch h⟩
theorem Rg.app {lo mid hi : Nat} {l m : List Nat} (a : Rg lo mid l) (b : Rg mid hi m) (h1 : lo ≤ mid) (h2 : mid ≤ hi) : Rg lo hi (l ++ m) := by
  refine ⟨List.nodup_append.mpr ⟨a.nd, b.nd, fun x hx y hy e => ?_⟩, fun x hx => ?_⟩
  · have := a.lt x hx
    have := b.lt y hy
    omega
  · rcases List.mem_append.mp hx with h | h
    · have := a.lt x h
      omega
    · have := b.lt x h
      omega
theorem Rg.wide {lo hi lo' hi' : Nat} {l : List Nat} (a : Rg lo hi l) (h1 : lo' ≤ lo) (h2 : hi ≤ hi') : Rg lo' hi' l := ⟨a.nd, fun x hx => by
  have := a.lt x hx
  omega⟩
structure POk (lo hi : Nat) (p : Pt) : Prop where
  f : Rg lo hi p.2.1
  l : Rg lo hi p.2.2
theorem POk.e0 {lo hi : Nat} : POk lo hi e0 := ⟨.nil, .nil⟩
theorem POk.opt {lo hi : Nat} {p : Pt} (h : POk lo hi p) (b : Bool) : POk lo hi (b, p.2) := ⟨h.f, h.l⟩
theorem POk.wide {lo hi lo' hi' : Nat} {p : Pt} (h : POk lo hi p) (h1 : lo' ≤ lo) (h2 : hi ≤ hi') : POk lo' hi' p := ⟨h.f.wide h1 h2, h.l.wide h1 h2⟩
theorem POk.join {lo mid hi : Nat} {a b : Pt} (h : POk lo mid a) (k : POk mid hi b) (h1 : lo ≤ mid) (h2 : mid ≤ hi) : POk lo hi (joinP a b) := by
  refine ⟨?_, ?_⟩
  · show Rg lo hi (if a.1 then a.2.1 ++ b.2.1 else a.2.1)
    split
    · exact h.f.app k.f h1 h2
    · exact h.f.wide (Nat.le_refl _) h2
  · show Rg lo hi (if b.1 then a.2.2 ++ b.2.2 else b.2.2)
    split
    · exact h.l.app k.l h1 h2
    · exact k.l.wide h1 (Nat.le_refl _)
/-! ### bounds -/
structure WOk (w : Wp) (n M : Nat) : Prop where
  le : w.le.length = n
  fo : w.fo.length = n
  bd : ∀ r ∈ w.fo, r.length ≤ M ∧ ∀ x ∈ r, x < n
theorem addAt_len (fo : List (List Nat)) (i : Nat) (la : List Nat) : (addAt fo i la).length = fo.length := List.length_set
theorem lnk_len (la : List Nat) : ∀ (ah : List Nat) (fo : List (List Nat)), (lnk fo ah la).length = fo.length
  | [], fo => rfl
  | i :: r, fo => (lnk_len la r (addAt fo i la)).trans (addAt_len fo i la)
theorem addAt_get (fo : List (List Nat)) (i j : Nat) (la : List Nat) : (addAt fo i la)[j]? = if j = i then (fo[j]?).map (· ++ la) else fo[j]? := by
  unfold addAt
  rw [List.getElem?_set]
  by_cases h : i = j
  · subst h
    rw [if_pos rfl, if_pos rfl]
    by_cases hl : i < fo.length
    · rw [if_pos hl, List.getElem?_eq_getElem hl, List.getD_eq_getElem?_getD, List.getElem?_eq_getElem hl] <;> rfl
    · rw [if_neg hl, List.getElem?_eq_none_iff.mpr (by omega)] <;> rfl
  · rw [if_neg h, if_neg (fun z => h z.symm)]
theorem lnk_get (la : List Nat) (j : Nat) : ∀ (ah : List Nat) (fo : List (List Nat)), ah.Nodup → (lnk fo ah la)[j]? = if j ∈ ah then (fo[j]?).map (· ++ la) else fo[j]?
  | [], fo, _ => rfl
  | i :: r, fo, h => by
    obtain ⟨h1, h2⟩ := List.nodup_cons.mp h
    rw [show lnk fo (i :: r) la = lnk (addAt fo i la) r la from rfl, lnk_get la j r _ h2, addAt_get]
    by_cases e : j = i
    · subst e
      rw [if_neg h1, if_pos rfl, if_pos List.mem_cons_self]
    · rw [if_neg e]
      by_cases k : j ∈ r
      · rw [if_pos k, if_pos (List.mem_cons_of_mem _ k)]
      · rw [if_neg k, if_neg (fun z => (List.mem_cons.mp z).elim e k)]
theorem WOk.lnk {w : Wp} {n M S : Nat} {ah la : List Nat} (h : WOk w n M) (hn : ah.Nodup) (hla : ∀ x ∈ la, x < n) (hl : la.length ≤ S) : WOk ⟨w.le, lnk w.fo ah la⟩ n (M + S) := by
  refine ⟨h.le, (lnk_len la ah w.fo).trans h.fo, fun r hr => ?_⟩
  obtain ⟨j, hj⟩ := List.mem_iff_getElem?.mp hr
  have hj : (Sf4.lnk w.fo ah la)[j]? = some r := hj
  rw [lnk_get la j ah w.fo hn] at hj
  have key : ∀ {q : List Nat}, w.fo[j]? = some q → q.length ≤ M ∧ ∀ x ∈ q, x < n := fun e => h.bd _ (List.mem_of_getElem? e)
  split at hj
  · cases e : w.fo[j]? with
    | none =>
      rw [e] at hj
      cases hj
    | some q =>
      rw [e] at hj
      obtain rfl : q ++ la = r := Option.some.inj hj
      obtain ⟨k1, k2⟩ := key e
      refine ⟨by rw [List.length_append]; omega, fun x hx => ?_⟩
      rcases List.mem_append.mp hx with z | z
      · exact k2 x z
      · exact hla x z
  · obtain ⟨k1, k2⟩ := key hj
    exact ⟨by omega, k2⟩
theorem WOk.more {w : Wp} {n M M' : Nat} (h : WOk w n M) (k : M ≤ M') : WOk w n M' := ⟨h.le, h.fo, fun r hr => ⟨Nat.le_trans (h.bd r hr).1 k, (h.bd r hr).2⟩⟩
/-- what is told of one's part -/
def Good (S s k : Nat) (f : Wp → Pt × Wp) : Prop := ∀ (w : Wp) (n M : Nat), WOk w n M → n + s ≤ S → WOk (f w).2 (n + s) (M + S * k) ∧ POk n (n + s) (f w).1
def Cps (s : Nat) : Nat → List Pt → Prop
  | _, [] => True
  | n, c :: r => POk n (n + s) c ∧ Cps s (n + s) r
def RCps (n s : Nat) : List Pt → Prop
  | [] => True
  | c :: r => POk (n + r.length * s) (n + (r.length + 1) * s) c ∧ RCps n s r
theorem rep_len (f : Wp → Pt × Wp) : ∀ (m : Nat) (w : Wp), (rep f m w).1.length = m
  | 0, _ => rfl
  | m + 1, w => by
    show (rep f m (f w).2).1.length + 1 = _
    rw [rep_len f m]
theorem rep_ok {S s k : Nat} {f : Wp → Pt × Wp} (hf : Good S s k f) : ∀ (m : Nat) (w : Wp) (n M : Nat), WOk w n M → n + m * s ≤ S → WOk (rep f m w).2 (n + m * s) (M + S * (m * k)) ∧ Cps s n (rep f m w).1
  | 0, w, n, M, h, _ => by
    refine ⟨?_, True.intro⟩
    rw [Nat.zero_mul, Nat.zero_mul]
    exact h
  | m + 1, w, n, M, h, hS => by
    have e1 : (m + 1) * s = m * s + s := Nat.succ_mul m s
    have e2 : (m + 1) * k = m * k + k := Nat.succ_mul m k
    have e3 : S * (m * k + k) = S * (m * k) + S * k := Nat.mul_add _ _ _
    obtain ⟨a, b⟩ := hf w n M h (by omega)
    obtain ⟨c, d⟩ := rep_ok hf m (f w).2 (n + s) (M + S * k) a (by omega)
    refine ⟨?_, b, d⟩
    rw [e1, e2, e3, show n + (m * s + s) = n + s + m * s by omega, show M + (S * (m * k) + S * k) = M + S * k + S * (m * k) by omega]
    exact c
theorem RCps.snoc {n s : Nat} : ∀ {l : List Pt} {c : Pt}, RCps (n + s) s l → POk n (n + s) c → RCps n s (l ++ [c])
  | [], c, _, h => ⟨by
      show POk (n + 0 * s) (n + (0 + 1) * s) c
      rw [Nat.zero_mul, Nat.zero_add, Nat.one_mul]
      exact h, True.intro⟩
  | d :: r, c, ⟨h1, h2⟩, h => by
    refine ⟨?_, RCps.snoc h2 h⟩
    show POk (n + (r ++ [c]).length * s) (n + ((r ++ [c]).length + 1) * s) d
    rw [List.length_append, List.length_singleton]
    have e1 : (r.length + 1) * s = r.length * s + s := Nat.succ_mul _ _
    have e2 : (r.length + 1 + 1) * s = r.length * s + s + s := by rw [Nat.succ_mul, e1]
    rw [e1] at h1
    rw [e1, e2, show n + (r.length * s + s) = n + s + r.length * s by omega, show n + (r.length * s + s + s) = n + s + (r.length * s + s) by omega]
    exact h1
theorem Cps.rev {s : Nat} : ∀ {l : List Pt} {n : Nat}, Cps s n l → RCps n s l.reverse
  | [], _, _ => True.intro
  | c :: r, n, ⟨h1, h2⟩ => by
    rw [List.reverse_cons]
    exact RCps.snoc (Cps.rev h2) h1
theorem fin_ok {S n s N : Nat} (least : Nat) (hS : N ≤ S) : ∀ (rc : List Pt) (tl : Pt) (w : Wp) (M e : Nat), RCps n s rc → POk (n + rc.length * s) e tl → n + rc.length * s ≤ e → e ≤ N → WOk w N M →
    WOk ⟨w.le, (fin least rc tl w.fo).2⟩ N (M + S * rc.length) ∧ POk n e (fin least rc tl w.fo).1
  | [], tl, w, M, e, _, ht, _, _, hw => by
    refine ⟨hw, ?_⟩
    have ht : POk (n + 0 * s) e tl := ht
    rw [Nat.zero_mul] at ht
    exact ht
  | c :: r, tl, w, M, e, ⟨hc, hr⟩, ht, h1, h2, hw => by
    have e1 : (r.length + 1) * s = r.length * s + s := Nat.succ_mul _ _
    rw [List.length_cons] at ht h1
    have j := hc.join ht (by omega) h1
    have j2 : POk (n + r.length * s) e (if r.length + 1 > least then (true, (joinP c tl).2) else joinP c tl) := by
      split
      · exact j.opt true
      · exact j
    have hl : tl.2.1.length ≤ S := by
      have := ht.f.len
      omega
    have w2 := hw.lnk (S := S) hc.l.nd (fun x hx => by have := ht.f.lt x hx; omega) hl
    obtain ⟨a, b⟩ := fin_ok least hS r _ ⟨w.le, lnk w.fo c.2.2 tl.2.1⟩ (M + S) e hr j2 (by omega) h2 w2
    refine ⟨a.more ?_, b⟩
    rw [List.length_cons, Nat.mul_succ]
    omega
theorem cntd_ok {S s k a : Nat} {b : Option Nat} {f : Wp → Pt × Wp} (hf : Good S s k f) : Good S (many a b * s) (many a b * (k + 1) + 1) (fun w => cntd a b (rep f (many a b) w)) := by
  intro w n M hw hS
  obtain ⟨h1, h2⟩ := rep_ok hf (many a b) w n M hw hS
  have hlen := rep_len f (many a b) w
  have rev := h2.rev
  have e1 : S * (many a b * (k + 1) + 1) = S * (many a b * k) + S * many a b + S := by rw [Nat.mul_succ (many a b) k, Nat.mul_add, Nat.mul_add, Nat.mul_one]
  cases hb : b with
  | some m =>
    subst hb
    have q := fin_ok (S := S) (n := n) (s := s) (N := n + many a (some m) * s) a hS (rep f (many a (some m)) w).1.reverse e0 (rep f (many a (some m)) w).2 (M + S * (many a (some m) * k)) (n + many a (some m) * s) rev .e0 (by rw [List.length_reverse, hlen]; exact Nat.le_refl _) (Nat.le_refl _) h1
    rw [List.length_reverse, hlen] at q
    exact ⟨q.1.more (by omega), q.2⟩
  | none =>
    subst hb
    show WOk (match (rep f (many a none) w).1.reverse with | [] => _ | c :: r => _ : Pt × Wp).2 _ _ ∧ POk _ _ (match (rep f (many a none) w).1.reverse with | [] => _ | c :: r => _ : Pt × Wp).1
    cases hr : (rep f (many a none) w).1.reverse with
    | nil => exact ⟨h1.more (by omega), .e0⟩
    | cons c r =>
      rw [hr] at rev
      obtain ⟨hc, hr2⟩ := rev
      have hl2 : r.length + 1 = many a none := by
        have := congrArg List.length hr
        rw [List.length_reverse, hlen] at this
        exact this.symm
      rw [hl2] at hc
      have e2 : many a none * s = r.length * s + s := by rw [← hl2, Nat.succ_mul]
      have hl : c.2.1.length ≤ S := by
        have := hc.f.len
        omega
      have w2 := h1.lnk (S := S) hc.l.nd (fun x hx => (hc.f.lt x hx).2) hl
      have ht : POk (n + r.length * s) (n + many a none * s) (if a > 0 then c else (true, c.2)) := by
        split
        · exact hc
        · exact hc.opt true
      have q := fin_ok (S := S) (n := n) (s := s) (N := n + many a none * s) r.length hS r (if a > 0 then c else (true, c.2)) ⟨(rep f (many a none) w).2.le, lnk (rep f (many a none) w).2.fo c.2.2 c.2.1⟩ (M + S * (many a none * k) + S) (n + many a none * s) hr2 ht (by omega) (Nat.le_refl _) w2
      refine ⟨q.1.more ?_, q.2⟩
      have e3 : S * many a none = S * r.length + S := by rw [← hl2, Nat.mul_succ]
      omega
theorem place_ok {S : Nat} (s : List Nat) : Good S 1 0 (pO (.place s)) := by
  intro w n M hw hS
  have one : Rg n (n + 1) [w.le.length] := ⟨List.nodup_cons.mpr ⟨List.not_mem_nil, List.nodup_nil⟩, fun x hx => by
    obtain rfl := List.mem_singleton.mp hx
    rw [hw.le]
    omega⟩
  refine ⟨⟨?_, ?_, fun r hr => ?_⟩, one, one⟩
  · show (w.le ++ [s]).length = _
    rw [List.length_append, hw.le] <;> rfl
  · show (w.fo ++ [[]]).length = _
    rw [List.length_append, hw.fo] <;> rfl
  · have hr : r ∈ w.fo ++ [[]] := hr
    rcases List.mem_append.mp hr with h | h
    · obtain ⟨a, b⟩ := hw.bd r h
      exact ⟨by omega, fun x hx => by have := b x hx; omega⟩
    · obtain rfl := List.mem_singleton.mp h
      exact ⟨Nat.zero_le _, fun _ h => nomatch h⟩
theorem any_ok {lo hi : Nat} : ∀ {l : List Pt}, True → True := fun _ => True.intro
/-- a row of parts, one behind the other -/
def Row (lo hi : Nat) : List Pt → Prop
  | [] => lo ≤ hi
  | c :: r => ∃ mid, lo ≤ mid ∧ POk lo mid c ∧ Row mid hi r
theorem Row.le {hi : Nat} : ∀ {l : List Pt} {lo : Nat}, Row lo hi l → lo ≤ hi
  | [], _, h => h
  | c :: r, _, ⟨m, h1, _, h3⟩ => Nat.le_trans h1 (Row.le h3)
theorem Row.flat {hi : Nat} (g : Pt → List Nat) (hg : ∀ {lo hi c}, POk lo hi c → Rg lo hi (g c)) : ∀ {l : List Pt} {lo : Nat}, Row lo hi l → Rg lo hi (l.flatMap g)
  | [], _, _ => .nil
  | c :: r, lo, ⟨m, h1, h2, h3⟩ => by
    rw [List.flatMap_cons]
    exact (hg h2).app (Row.flat g hg h3) h1 h3.le
mutual
theorem pO_ok {S : Nat} : ∀ t, Good S (sz t) (lks t) (pO t)
  | .place s => place_ok s
  | .empty => fun w n M hw _ => ⟨hw.more (by omega), .e0⟩
  | .capture n t => pO_ok t
  | .chain l => fun w n M hw hS => by
    have q := pCh_ok l e0 w n n M hw (Nat.le_refl _) .e0 hS
    exact q
  | .choice l => fun w n M hw hS => by
    obtain ⟨a, b⟩ := pL_ok l w n M hw hS
    exact ⟨a, b.flat (·.2.1) (fun h => h.f), b.flat (·.2.2) (fun h => h.l)⟩
  | .count a b t => cntd_ok (pO_ok t)
theorem pCh_ok {S : Nat} : ∀ (l : List Tr) (p : Pt) (w : Wp) (lo n M : Nat), WOk w n M → lo ≤ n → POk lo n p → n + szL l ≤ S → WOk (pCh l p w).2 (n + szL l) (M + S * (lksL l + l.length)) ∧ POk lo (n + szL l) (pCh l p w).1
  | [], p, w, lo, n, M, hw, h1, hp, _ => ⟨hw, hp⟩
  | t :: r, p, w, lo, n, M, hw, h1, hp, hS => by
    have hS : n + (sz t + szL r) ≤ S := hS
    obtain ⟨a, b⟩ := pO_ok (S := S) t w n M hw (by omega)
    have hl : (pO t w).1.2.1.length ≤ S := by
      have := b.f.len
      omega
    have w2 := a.lnk (S := S) hp.l.nd (fun x hx => (b.f.lt x hx).2) hl
    obtain ⟨c, d⟩ := pCh_ok (S := S) r (joinP p (pO t w).1) ⟨(pO t w).2.le, lnk (pO t w).2.fo p.2.2 (pO t w).1.2.1⟩ lo (n + sz t) (M + S * lks t + S) w2 (by omega) (hp.join (mid := n) (hi := n + sz t) b h1 (by omega)) (by omega)
    refine ⟨?_, ?_⟩
    · have e : M + S * (lksL (t :: r) + (t :: r).length) = M + S * lks t + S + S * (lksL r + r.length) := by
        show M + S * (lks t + lksL r + (r.length + 1)) = _
        rw [show lks t + lksL r + (r.length + 1) = lks t + 1 + (lksL r + r.length) by omega, Nat.mul_add, Nat.mul_add, Nat.mul_one]
        omega
      rw [e]
      show WOk _ (n + (sz t + szL r)) _
      rw [show n + (sz t + szL r) = n + sz t + szL r by omega]
      exact c
    · show POk lo (n + (sz t + szL r)) _
      rw [show n + (sz t + szL r) = n + sz t + szL r by omega]
      exact d
theorem pL_ok {S : Nat} : ∀ (l : List Tr) (w : Wp) (n M : Nat), WOk w n M → n + szL l ≤ S → WOk (pL l w).2 (n + szL l) (M + S * lksL l) ∧ Row n (n + szL l) (pL l w).1
  | [], w, n, M, hw, _ => ⟨hw, Nat.le_refl _⟩
  | t :: r, w, n, M, hw, hS => by
    have hS : n + (sz t + szL r) ≤ S := hS
    obtain ⟨a, b⟩ := pO_ok (S := S) t w n M hw (by omega)
    obtain ⟨c, d⟩ := pL_ok (S := S) r (pO t w).2 (n + sz t) (M + S * lks t) a (by omega)
    have e : M + S * lksL (t :: r) = M + S * lks t + S * lksL r := by
      show M + S * (lks t + lksL r) = _
      rw [Nat.mul_add]
      omega
    rw [e]
    show WOk _ (n + (sz t + szL r)) _ ∧ Row n (n + (sz t + szL r)) ((pO t w).1 :: _)
    rw [show n + (sz t + szL r) = n + sz t + szL r by omega]
    exact ⟨c, n + sz t, by omega, b, d⟩
end
/-! ### the letters -/
theorem rep_le {f : Wp → Pt × Wp} {ls : List (List Nat)} (hf : ∀ w, (f w).2.le = w.le ++ ls) : ∀ (m : Nat) (w : Wp), (rep f m w).2.le = w.le ++ (List.replicate m ls).flatten
  | 0, w => by
    show w.le = _
    rw [List.replicate_zero, List.flatten_nil, List.append_nil]
  | m + 1, w => by
    show (rep f m (f w).2).2.le = _
    rw [rep_le hf m, hf, List.replicate_succ, List.flatten_cons, List.append_assoc]
theorem cntd_le (a : Nat) (b : Option Nat) (z : List Pt × Wp) : (cntd a b z).2.le = z.2.le := by
  obtain ⟨cs, w⟩ := z
  cases b with
  | some m => rfl
  | none =>
    show (match cs.reverse with | [] => _ | c :: r => _ : Pt × Wp).2.le = _
    cases cs.reverse <;> rfl
mutual
theorem pO_le : ∀ (t : Tr) (w : Wp), (pO t w).2.le = w.le ++ spts t
  | .place s, w => rfl
  | .empty, w => (List.append_nil _).symm
  | .capture n t, w => pO_le t w
  | .chain l, w => pCh_le l e0 w
  | .choice l, w => pL_le l w
  | .count a b t, w => by
    show (cntd a b (rep (pO t) (many a b) w)).2.le = _
    rw [cntd_le, rep_le (pO_le t)] <;> rfl
theorem pCh_le : ∀ (l : List Tr) (p : Pt) (w : Wp), (pCh l p w).2.le = w.le ++ sptsL l
  | [], p, w => (List.append_nil _).symm
  | t :: r, p, w => by
    show (pCh r _ _).2.le = w.le ++ (spts t ++ sptsL r)
    rw [pCh_le r, pO_le t, List.append_assoc]
theorem pL_le : ∀ (l : List Tr) (w : Wp), (pL l w).2.le = w.le ++ sptsL l
  | [], w => (List.append_nil _).symm
  | t :: r, w => by
    show (pL r _).2.le = w.le ++ (spts t ++ sptsL r)
    rw [pL_le r, pO_le t, List.append_assoc]
end
end Sf4
/-! The object that writes out: its letters, its followers; link, joined. -/
namespace Sf4
open PySem PySem.Spec PyProof.Rows L2 Sf
abbrev sWI : Stmt := inClass cWr 0
abbrev sLink : Stmt := inClass cWr 1
abbrev sJoined : Stmt := inClass cWr 2
abbrev sPartOf : Stmt := inClass cWr 3
abbrev sCounted : Stmt := inClass cWr 4
structure WT (K : PySem.W.Frag) (mg : Str → Option Value) (C : Addr) (f : Nat → Addr) (fd : Nat → FuncData) (tk : Nat → Tok) : Prop where
  cl : Cls K C
  nLe : NoAttr K C "letters"
  nFo : NoAttr K C "followers"
  mI : Mt K C "__init__" "Written.__init__" sWI ["self"] (f 0) (fd 0)
  mLink : Mt K C "link" "Written.link" sLink ["self", "ahead", "later"] (f 1) (fd 1)
  mJoin : Mt K C "joined" "Written.joined" sJoined ["self", "one", "other"] (f 2) (fd 2)
  mPart : Mt K C "part_of" "Written.part_of" sPartOf ["self", "tree"] (f 3) (fd 3)
  mCount : Mt K C "counted" "Written.counted" sCounted ["self", "least", "most", "tree"] (f 4) (fd 4)
  mkC : Mk K C (f 0)
  gC : mg "Written" = some (.ref C)
  gPl : mg "PLACE_parsing" = some (.str plW (tk 9))
  gCh : mg "CHAIN_parsing" = some (.str chW (tk 10))
  gAl : mg "CHOICE_parsing" = some (.str alW (tk 11))
  gCo : mg "COUNT" = some (.str coW (tk 12))
  gCa : mg "CAPTURE_parsing" = some (.str caW (tk 13))
  zlen : mg "len" = none
  zany : mg "any" = none
  zmax : mg "max" = none
  zrange : mg "range" = none
  ztup : mg "tuple" = none
  zsorted : mg "sorted" = none
  zset : mg "set" = none
def nIs (l : List Nat) : List V := l.map fun (i : Nat) => V.int (i : Int)
theorem nIs_len (l : List Nat) : (nIs l).length = l.length := by
  unfold nIs
  rw [List.length_map]
theorem nIs_app (a b : List Nat) : nIs a ++ nIs b = nIs (a ++ b) := by
  unfold nIs
  rw [List.map_append]
def wf_ (la fa : Addr) : List (Str × V) := [("letters", .ref la), ("followers", .ref fa)]
theorem wf_le {la fa : Addr} : (wf_ la fa).lookup ("letters" : Str) = some (.ref la) := lk_eq
theorem wf_fo {la fa : Addr} : (wf_ la fa).lookup ("followers" : Str) = some (.ref fa) := (lk_ne (by decide +kernel)).trans lk_eq
theorem wf_no {la fa : Addr} {k : Str} (h1 : ¬ k = "letters") (h2 : ¬ k = "followers") : (wf_ la fa).lookup k = none := (lk_ne h1).trans ((lk_ne h2).trans rfl)
def Own (p la fa : Addr) (as : List Addr) (b : Addr) : Prop := b = p ∨ b = la ∨ b = fa ∨ b ∈ as
structure WrA (C p dx la fa : Addr) (H : Hp) (w : Wp) (as : List Addr) : Prop where
  e : H p = some (.ins C dx (wf_ la fa))
  l : H la = some (.lst (nmV w.le))
  f : H fa = some (.lst (as.map V.ref))
  ne : la ≠ fa
  nd : as.Nodup
  n : as.length = w.fo.length
  at_ : ∀ (i : Nat) (x : Addr) (r : List Nat), as[i]? = some x → w.fo[i]? = some r → H x = some (.lst (nIs r)) ∧ x ≠ la ∧ x ≠ fa
def KW (p la fa : Addr) (as : List Addr) (H H' : Hp) : Prop := ∀ b o, ¬ Own p la fa as b → H b = some o → H' b = some o
def Ext (H : Hp) (as as' : List Addr) : Prop := ∃ n, as' = as ++ n ∧ ∀ x ∈ n, H x = none
theorem Ext.refl {H : Hp} {as : List Addr} : Ext H as as := ⟨[], (List.append_nil _).symm, fun _ h => nomatch h⟩
section
variable {C p dx la fa : Addr} {H H' H1 H2 : Hp} {w w' : Wp} {as as1 as2 : List Addr}
theorem WrA.own (W : WrA C p dx la fa H w as) {b : Addr} (h : Own p la fa as b) : ∃ o, H b = some o ∧ ∀ xs, o ≠ .tup xs := by
  rcases h with rfl | rfl | rfl | h
  · exact ⟨_, W.e, fun _ z => by cases z⟩
  · exact ⟨_, W.l, fun _ z => by cases z⟩
  · exact ⟨_, W.f, fun _ z => by cases z⟩
  · obtain ⟨i, hi⟩ := List.mem_iff_getElem?.mp h
    have hl := (List.getElem?_eq_some_iff.mp hi).1
    rw [W.n] at hl
    obtain ⟨q, _⟩ := W.at_ i b _ hi (List.getElem?_eq_getElem hl)
    exact ⟨_, q, fun _ z => by cases z⟩
theorem WrA.no (W : WrA C p dx la fa H w as) {b : Addr} (h : H b = none) : ¬ Own p la fa as b := fun z => by
  obtain ⟨o, e, _⟩ := W.own z
  rw [h] at e
  cases e
theorem WrA.tup (W : WrA C p dx la fa H w as) {b : Addr} {xs : List V} (h : H b = some (.tup xs)) : ¬ Own p la fa as b := fun z => by
  obtain ⟨o, e, q⟩ := W.own z
  rw [h] at e
  exact q xs (Option.some.inj e).symm
theorem WrA.up (W : WrA C p dx la fa H w as) (k : Same H H') : WrA C p dx la fa H' w as := ⟨k _ _ W.e, k _ _ W.l, k _ _ W.f, W.ne, W.nd, W.n, fun i x r h1 h2 => by
  obtain ⟨a, b⟩ := W.at_ i x r h1 h2
  exact ⟨k _ _ a, b⟩⟩
/-- a store elsewhere -/
theorem WrA.wr (W : WrA C p dx la fa H w as) {b : Addr} {o : HO} (h : ¬ Own p la fa as b) : WrA C p dx la fa (upd H b o) w as := by
  have n : ∀ {c : Addr}, Own p la fa as c → c ≠ b := fun hc z => h (z ▸ hc)
  refine ⟨by rw [upd_ne (n (.inl rfl))]; exact W.e, by rw [upd_ne (n (.inr (.inl rfl)))]; exact W.l, by rw [upd_ne (n (.inr (.inr (.inl rfl))))]; exact W.f, W.ne, W.nd, W.n, fun i x r h1 h2 => ?_⟩
  obtain ⟨a, c⟩ := W.at_ i x r h1 h2
  refine ⟨?_, c⟩
  rw [upd_ne (n (.inr (.inr (.inr (List.mem_of_getElem? h1)))))]
  exact a
theorem KW.refl : KW p la fa as H H := fun _ _ _ h => h
theorem KW.same (k : Same H H') : KW p la fa as H H' := fun b o _ h => k b o h
theorem KW.trans (a : KW p la fa as H H1) (x : Ext H as as1) (b : KW p la fa as1 H1 H2) : KW p la fa as H H2 := fun c o n h => by
  obtain ⟨m, rfl, hm⟩ := x
  refine b c o (fun z => ?_) (a c o n h)
  rcases z with z | z | z | z
  · exact n (.inl z)
  · exact n (.inr (.inl z))
  · exact n (.inr (.inr (.inl z)))
  · rcases List.mem_append.mp z with z | z
    · exact n (.inr (.inr (.inr z)))
    · rw [hm c z] at h
      cases h
theorem KW.trans0 (a : KW p la fa as H H1) (b : KW p la fa as H1 H2) : KW p la fa as H H2 := a.trans .refl b
theorem Ext.trans (x : Ext H as as1) (a : KW p la fa as H H1) (W : WrA C p dx la fa H1 w as1) (y : Ext H1 as1 as2) : Ext H as as2 := by
  obtain ⟨m, rfl, hm⟩ := x
  obtain ⟨n, rfl, hn⟩ := y
  refine ⟨m ++ n, List.append_assoc .., fun c hc => ?_⟩
  rcases List.mem_append.mp hc with h | h
  · exact hm c h
  · have h0 := hn c h
    have nw := W.no h0
    cases e : H c with
    | none => rfl
    | some o =>
      have := a c o (fun z => nw (by
        rcases z with z | z | z | z
        · exact .inl z
        · exact .inr (.inl z)
        · exact .inr (.inr (.inl z))
        · exact .inr (.inr (.inr (List.mem_append.mpr (.inl z)))))) e
      rw [h0] at this
      cases this
theorem KW.kt (W : WrA C p dx la fa H w as) (k : KW p la fa as H H') : KT H H' := fun b xs h => k b _ (W.tup h) h
/-- a part on the heap, apart from some addresses -/
structure PtB (O : Addr → Prop) (H : Hp) (a f1 g1 : Addr) (c : Pt) : Prop where
  t : H a = some (.tup [.bl c.1, .ref f1, .ref g1])
  f : H f1 = some (.lst (nIs c.2.1))
  g : H g1 = some (.lst (nIs c.2.2))
  nt : ¬ O a
  nf : ¬ O f1
  ng : ¬ O g1
def PtO (O : Addr → Prop) (H : Hp) (x : V) (c : Pt) : Prop := ∃ a f g, x = .ref a ∧ PtB O H a f g c
theorem Ext.own (x : Ext H as as1) {b : Addr} {o : HO} (h : H b = some o) (n : ¬ Own p la fa as b) : ¬ Own p la fa as1 b := fun z => by
  obtain ⟨m, rfl, hm⟩ := x
  rcases z with z | z | z | z
  · exact n (.inl z)
  · exact n (.inr (.inl z))
  · exact n (.inr (.inr (.inl z)))
  · rcases List.mem_append.mp z with z | z
    · exact n (.inr (.inr (.inr z)))
    · rw [hm b z] at h
      cases h
theorem Ext.own2 (x : Ext H as as1) {b : Addr} (n : Own p la fa as b) : Own p la fa as1 b := by
  obtain ⟨m, rfl, hm⟩ := x
  rcases n with z | z | z | z
  · exact .inl z
  · exact .inr (.inl z)
  · exact .inr (.inr (.inl z))
  · exact .inr (.inr (.inr (List.mem_append.mpr (.inl z))))
theorem PtO.mono {O : Addr → Prop} {x : V} {c : Pt} (h : PtO O H x c) (k : ∀ b o, ¬ O b → H b = some o → H' b = some o) : PtO O H' x c := by
  obtain ⟨a, f, g, rfl, b⟩ := h
  exact ⟨a, f, g, rfl, k _ _ b.nt b.t, k _ _ b.nf b.f, k _ _ b.ng b.g, b.nt, b.nf, b.ng⟩
theorem PtO.sub {O O' : Addr → Prop} {x : V} {c : Pt} (h : PtO O H x c) (k : ∀ b o, ¬ O b → H b = some o → ¬ O' b) : PtO O' H x c := by
  obtain ⟨a, f, g, rfl, b⟩ := h
  exact ⟨a, f, g, rfl, b.t, b.f, b.g, k _ _ b.nt b.t, k _ _ b.nf b.f, k _ _ b.ng b.g⟩
theorem PtO.same {O : Addr → Prop} {x : V} {c : Pt} (h : PtO O H x c) (k : Same H H') : PtO O H' x c := h.mono fun b o _ e => k b o e
/-- what is kept apart: all that is owned, and all is there -/
structure Apt (p la fa : Addr) (as : List Addr) (H : Hp) (O : Addr → Prop) : Prop where
  sub : ∀ b, Own p la fa as b → O b
  all : ∀ b, O b → ∃ o, H b = some o
theorem Apt.no {O : Addr → Prop} (a : Apt p la fa as H O) {b : Addr} (h : H b = none) : ¬ O b := fun z => by
  obtain ⟨o, e⟩ := a.all b z
  rw [h] at e
  cases e
/-- one list is extended -/
theorem WrA.add (W : WrA C p dx la fa H w as) {i : Nat} {x : Addr} {r l : List Nat} (h1 : as[i]? = some x) (h2 : w.fo[i]? = some r) : WrA C p dx la fa (upd H x (.lst (nIs (r ++ l)))) ⟨w.le, addAt w.fo i l⟩ as := by
  obtain ⟨a, b, c⟩ := W.at_ i x r h1 h2
  have np : p ≠ x := ne_of W.e a (by intro z; cases z)
  refine ⟨by rw [upd_ne np]; exact W.e, by rw [upd_ne b.symm]; exact W.l, by rw [upd_ne c.symm]; exact W.f, W.ne, W.nd, W.n.trans (addAt_len _ _ _).symm, fun j y q h3 h4 => ?_⟩
  have h4 : (addAt w.fo i l)[j]? = some q := h4
  rw [addAt_get] at h4
  by_cases e : j = i
  · subst e
    rw [h1] at h3
    cases h3
    rw [if_pos rfl, h2] at h4
    cases h4
    exact ⟨upd_same, b, c⟩
  · rw [if_neg e] at h4
    obtain ⟨a2, b2⟩ := W.at_ j y q h3 h4
    refine ⟨?_, b2⟩
    have nxy : y ≠ x := fun z => by
      subst z
      exact e ((List.getElem?_inj (List.getElem?_eq_some_iff.mp h3).1 W.nd).mp (h3.trans h1.symm))
    rw [upd_ne nxy]
    exact a2
end
theorem scLink : FnScope ["self", "ahead", "later", "place"] ["self", "ahead", "later"] (defScope sLink) := ⟨rfl, rfl, rfl, by decide +kernel, rfl, by decide +kernel, by decide +kernel⟩
theorem scJoined : FnScope ["self", "one", "other", "first", "last"] ["self", "one", "other"] (defScope sJoined) := ⟨rfl, rfl, rfl, by decide +kernel, rfl, by decide +kernel, by decide +kernel⟩
theorem scWI : FnScope ["self"] ["self"] (defScope sWI) := ⟨rfl, rfl, rfl, by decide +kernel, rfl, by decide +kernel, by decide +kernel⟩
/-- bounds of the work -/
structure Bn (w : Wp) (ah lr : List Nat) : Prop where
  nd : ah.Nodup
  lt : ∀ x ∈ ah, x < w.fo.length
  la : ah.length ≤ 1000
  ll : lr.length ≤ 1000
  bd : ∀ r ∈ w.fo, r.length ≤ 10000
def spLink (C : Addr) : Sp := fun vs H Q _ => ∃ (p dx la fa a b : Addr) (w : Wp) (as : List Addr) (ah lt : List Nat), vs = [.ref p, .ref a, .ref b] ∧ WrA C p dx la fa H w as ∧ H a = some (.lst (nIs ah)) ∧ H b = some (.lst (nIs lt)) ∧ ¬ Own p la fa as a ∧ ¬ Own p la fa as b ∧ Bn w ah lt ∧
  ∀ H', WrA C p dx la fa H' ⟨w.le, lnk w.fo ah lt⟩ as → KW p la fa as H H' → Q .non H'
def spJoined (C : Addr) : Sp := fun vs H Q _ => ∃ (p dx la fa : Addr) (x y : V) (w : Wp) (as : List Addr) (c d : Pt) (O : Addr → Prop), vs = [.ref p, x, y] ∧ WrA C p dx la fa H w as ∧ Apt p la fa as H O ∧ PtO O H x c ∧ PtO O H y d ∧ Bn w c.2.2 d.2.1 ∧ c.2.1.length ≤ 1000 ∧ d.2.2.length ≤ 1000 ∧
  ∀ z H', PtO O H' z (joinP c d) → WrA C p dx la fa H' ⟨w.le, lnk w.fo c.2.2 d.2.1⟩ as → KW p la fa as H H' → Q z H'
def spWI (C : Addr) : Sp := fun vs H Q _ => ∃ (p dx : Addr), vs = [.ref p] ∧ H p = some (.ins C dx []) ∧
  ∀ la fa H', WrA C p dx la fa H' ⟨[], []⟩ [] → H la = none → H fa = none → (∀ b o, b ≠ p → H b = some o → H' b = some o) → Q .non H'
theorem lnk_snoc (fo : List (List Nat)) (ah la : List Nat) (i : Nat) : lnk fo (ah ++ [i]) la = addAt (lnk fo ah la) i la := by
  unfold lnk
  rw [List.foldl_append] <;> rfl
section
variable {P : Program} {w : World} {K : PySem.W.Frag} {mg : Str → Option Value} {base : Heap} {C : Addr} {f : Nat → Addr} {fd : Nat → FuncData} {tk : Nat → Tok}
theorem ok_wi (T : WT K mg C f fd tk) : FnOk P w K mg base CX0 1 (f 0) (fd 0) ["self"] (spWI C) := by
  refine T.mI.F.ok scWI (fun vs H Q E h => ?_) (fun cdv A outer s H vs Q E hr h => ?_)
  · obtain ⟨p, dx, rfl, _⟩ := h
    rfl
  · obtain ⟨p, dx, rfl, hp, q⟩ := h
    refine ⟨_, pss_cons (ps_fld (pv 0) (pe_lst pa_nil) rfl) (pss_one (ps_fld (pv 0) (pe_lst pa_nil) rfl)), ?_⟩
    refine ⟨Nat.zero_le _, fun l hl => ?_⟩
    have npl : p ≠ l := fun z => by
      rw [← z, hp] at hl
      cases hl
    refine ⟨_, rfl, p, C, dx, _, rfl, (upd_ne npl).trans hp, T.cl, T.nLe, (show 0 < 1000 by decide), ?_⟩
    refine ⟨Nat.zero_le _, fun m hm => ?_⟩
    have npm : p ≠ m := fun z => by
      rw [← z, upd_same] at hm
      cases hm
    have nlm : l ≠ m := fun z => by
      rw [← z, upd_ne npl.symm, upd_same] at hm
      cases hm
    have hm0 : H m = none := by
      rw [upd_ne npm.symm, upd_ne nlm.symm] at hm
      exact hm
    refine ⟨_, rfl, p, C, dx, _, rfl, (upd_ne npm).trans upd_same, T.cl, T.nFo, (show 1 < 1000 by decide), ?_⟩
    refine q l m _ ⟨by rw [upd_same] <;> rfl, by rw [upd_ne npl.symm, upd_ne nlm, upd_ne npl.symm, upd_same] <;> rfl, by rw [upd_ne npm.symm, upd_same] <;> rfl, nlm, List.nodup_nil, rfl, fun i x r h1 => by cases h1⟩ hl hm0 fun b o nb e => ?_
    rw [upd_ne nb, upd_ne (ne_of_none e hm0), upd_ne nb, upd_ne (ne_of_none e hl)]
    exact e
theorem ok_link (T : WT K mg C f fd tk) : FnOk P w K mg base CX0 1 (f 1) (fd 1) ["self", "ahead", "later"] (spLink C) := by
  refine T.mLink.F.ok scLink (fun vs H Q E h => ?_) (fun cdv A outer s H vs Q E hr h => ?_)
  · obtain ⟨p, dx, la, fa, a, b, w, as, ah, lt, rfl, _⟩ := h
    rfl
  · obtain ⟨p, dx, la, fa, a, b, w, as, ah, lt, rfl, W, ha, hb, na, nb, B, q⟩ := h
    refine ⟨_, pss_one (ps_for PassesOwn.never rfl (pi_list (pv 1)) (pg_name (i := 3) scLink.nd rfl (Or.inl rfl))
      (pss_one (ps_expr (pe_bm PySem.F.plainAttrs_list PySem.F.slot_list_extend PySem.F.type_list_extend mt_extend (pe_ix ix_list (pe_fld (pv 0) rfl) (pv 3) (fun _ _ => rfl)) (pa_cons (pv 2) pa_nil))))), ?_⟩
    refine ⟨_, rfl, a, rfl, ⟨_, .inl (.inl ha)⟩, for_list (K := K) (a := a) (xs := nIs ah) (fun i σ H1 => ∃ v, σ = [some (.ref p), some (.ref a), some (.ref b), v] ∧ WrA C p dx la fa H1 ⟨w.le, lnk w.fo (ah.take i) lt⟩ as ∧ KW p la fa as H H1)
      ⟨none, rfl, W, .refl⟩ (fun i σ H1 _ ⟨_, _, _, k⟩ => .inl (.inl (k _ _ na ha))) ?_ ?_⟩
    · rintro i y σ H1 hi ⟨v, rfl, W1, k1⟩
      obtain ⟨x, hx, rfl⟩ : ∃ x, ah[i]? = some x ∧ y = V.int (x : Int) := by
        unfold nIs at hi
        rw [List.getElem?_map] at hi
        cases e : ah[i]? with
        | none =>
          rw [e] at hi
          cases hi
        | some x =>
          rw [e] at hi
          exact ⟨x, rfl, (Option.some.inj hi).symm⟩
      have hlt := B.lt x (List.mem_of_getElem? hx)
      have hl := (List.getElem?_eq_some_iff.mp hx).1
      have ht : ah.take (i + 1) = ah.take i ++ [x] := by
        rw [List.take_succ_eq_append_getElem hl, (List.getElem?_eq_some_iff.mp hx).2]
      have nx : x ∉ ah.take i := fun z => by
        have := B.nd.sublist (List.take_sublist (i + 1) ah)
        rw [ht] at this
        exact (List.nodup_append.mp this).2.2 x z x List.mem_cons_self rfl
      have hr0 : (lnk w.fo (ah.take i) lt)[x]? = some w.fo[x] := by
        rw [lnk_get lt x _ _ (B.nd.sublist (List.take_sublist i ah)), if_neg nx, List.getElem?_eq_getElem hlt]
      have hla : x < as.length := by
        rw [W.n]
        exact hlt
      have hax := List.getElem?_eq_getElem hla
      obtain ⟨c1, c2, c3⟩ := W1.at_ x _ _ hax hr0
      have hbd := B.bd _ (List.getElem_mem hlt)
      have kb := k1 _ _ nb hb
      refine ⟨.ref p, rfl, p, C, dx, _, _, rfl, W1.e, T.cl, T.nFo, wf_fo, .int x, rfl, fa, _, x, .ref as[x], rfl, rfl, .inl (.inl W1.f), atI_nat (by rw [List.getElem?_map, hax] <;> rfl), .inl ⟨rfl, _, .inl (.inl c1)⟩, .ref b, rfl, as[x], b, _, _, rfl, rfl, c1, kb, ?_, ?_⟩
      · rw [nIs_len, nIs_len]
        have := B.ll
        exact Nat.le_trans (show w.fo[x].length + lt.length ≤ 20000 by omega) (by decide)
      · rw [nIs_app]
        refine ⟨_, rfl, ?_, fun d o nd e => ?_⟩
        · rw [ht, lnk_snoc]
          exact W1.add hax hr0
        · have nda : d ≠ as[x] := fun z => nd (.inr (.inr (.inr (by rw [z]; exact List.getElem_mem hla))))
          rw [upd_ne nda]
          exact k1 d o nd e
    · rintro σ H1 ⟨v, rfl, W1, k1⟩
      rw [nIs_len, List.take_of_length_le (Nat.le_refl _)] at W1
      exact q H1 W1 k1
theorem ok_joined (T : WT K mg C f fd tk) : FnOk P w K mg base CX0 2 (f 2) (fd 2) ["self", "one", "other"] (spJoined C) := by
  refine T.mJoin.F.ok scJoined (fun vs H Q E h => ?_) (fun cdv A outer s H vs Q E hr h => ?_)
  · obtain ⟨p, dx, la, fa, x, y, w, as, c, d, O, rfl, _⟩ := h
    rfl
  · obtain ⟨p, dx, la, fa, x, y, w, as, c, d, O, rfl, W, ap, ⟨a, f1, g1, rfl, pc⟩, ⟨b, f2, g2, rfl, pd⟩, B, l1, l2, q⟩ := h
    have un : ∀ {b : Addr}, ¬ O b → ¬ Own p la fa as b := fun h z => h (ap.sub _ z)
    have GL := ok_link (P := P) (base := base) (w := ‹World›) T
    refine ⟨_, pss_cons (ps_expr (pe_meth (pv 0) T.cl T.mLink.m GL hr T.mLink.b .nil pass0 (pa_cons (pe_ix ix_tup (pv 1) pe_int (fun _ _ => rfl)) (pa_cons (pe_ix ix_tup (pv 2) pe_int (fun _ _ => rfl)) pa_nil))))
      (Evl.pss_cut (ps_set (i := 3) scJoined.nd rfl (.inl rfl) (pe_ifExp (pt_val (pe_ix ix_tup (pv 1) pe_int (fun _ _ => rfl))) (pe_op op_cat (pe_ix ix_tup (pv 1) pe_int (fun _ _ => rfl)) (pe_ix ix_tup (pv 2) pe_int (fun _ _ => rfl))) (pe_ix ix_tup (pv 1) pe_int (fun _ _ => rfl))))
      (Evl.pss_cut (ps_set (i := 4) scJoined.nd rfl (.inl rfl) (pe_ifExp (pt_val (pe_ix ix_tup (pv 2) pe_int (fun _ _ => rfl))) (pe_op op_cat (pe_ix ix_tup (pv 1) pe_int (fun _ _ => rfl)) (pe_ix ix_tup (pv 2) pe_int (fun _ _ => rfl))) (pe_ix ix_tup (pv 2) pe_int (fun _ _ => rfl))))
      (pss_one (ps_ret (pe_tup (pa_cons (pe_and (pe_ix ix_tup (pv 1) pe_int (fun _ _ => rfl)) (pe_one (pe_ix ix_tup (pv 2) pe_int (fun _ _ => rfl)))) (pa_cons (pv 3) (pa_cons (pv 4) pa_nil)))))))), ?_⟩
    have ix : ∀ {H1 : Hp} {t : Addr} {u v z : V} {j : Nat} {r : V}, H1 t = some (.tup [u, v, z]) → [u, v, z][j]? = some r → rIxT K (.ref t) (.int (j : Int)) H1 = rIxT K (.ref t) (.int (j : Int)) H1 := fun _ _ => rfl
    have nL : (wf_ la fa).lookup ("link" : Str) = none := wf_no (by decide +kernel) (by decide +kernel)
    refine ⟨.ref p, rfl, p, dx, _, rfl, W.e, nL, .ref a, rfl, a, _, 2, _, rfl, rfl, .inl (.inl pc.t), atI_nat (j := 2) rfl, .ref b, rfl, b, _, 1, _, rfl, rfl, .inl (.inl pd.t), atI_nat (j := 1) rfl, ?_⟩
    refine ⟨p, dx, la, fa, g1, f2, w, as, _, _, rfl, W, pc.g, pd.f, un pc.ng, un pd.nf, B, fun H1 W1 k1 => ?_⟩
    have c1 : PtB O H1 a f1 g1 c := ⟨k1 _ _ (un pc.nt) pc.t, k1 _ _ (un pc.nf) pc.f, k1 _ _ (un pc.ng) pc.g, pc.nt, pc.nf, pc.ng⟩
    have d1 : PtB O H1 b f2 g2 d := ⟨k1 _ _ (un pd.nt) pd.t, k1 _ _ (un pd.nf) pd.f, k1 _ _ (un pd.ng) pd.g, pd.nt, pd.nf, pd.ng⟩
    have al1 : ∀ b, O b → ∃ o, H1 b = some o := fun b hb => by
      by_cases ho : Own p la fa as b
      · obtain ⟨o, e, _⟩ := W1.own ho
        exact ⟨o, e⟩
      · obtain ⟨o, e⟩ := ap.all b hb
        exact ⟨o, k1 b o ho e⟩
    have no1 : ∀ {H2 : Hp} {b : Addr}, Same H1 H2 → H2 b = none → ¬ O b := fun {H2 b} s h z => by
      obtain ⟨o, e⟩ := al1 b z
      rw [s b o e] at h
      cases h
    have B1 := B.la
    have B2 := B.ll
    refine ⟨fun σ H2 => ∃ f3, σ = [some (.ref p), some (.ref a), some (.ref b), some (.ref f3), none] ∧ Same H1 H2 ∧ H2 f3 = some (.lst (nIs (joinP c d).2.1)) ∧ ¬ O f3, ?_, fun σ H2 hM => ?_⟩
    · refine ⟨.ref a, rfl, a, _, 0, _, rfl, rfl, .inl (.inl c1.t), atI_nat (j := 0) rfl, c.1, rfl, ?_⟩
      unfold joinP
      cases c.1 with
      | true =>
        refine iteT ⟨.ref a, rfl, a, _, 1, _, rfl, rfl, .inl (.inl c1.t), atI_nat (j := 1) rfl, .ref b, rfl, b, _, 1, _, rfl, rfl, .inl (.inl d1.t), atI_nat (j := 1) rfl, f1, f2, _, _, rfl, rfl, c1.f, d1.f, ?_, fun f3 h3 => ?_⟩
        · rw [nIs_len, nIs_len]
          exact Nat.le_trans (show c.2.1.length + d.2.1.length ≤ 2000 by omega) (by decide)
        · rw [nIs_app]
          exact ⟨f3, rfl, smU h3, upd_same, no1 (Same.refl _) h3⟩
      | false => exact iteF ⟨.ref a, rfl, a, _, 1, _, rfl, rfl, .inl (.inl c1.t), atI_nat (j := 1) rfl, f1, rfl, Same.refl _, c1.f, c1.nf⟩
    obtain ⟨f3, rfl, s2, e3, n3⟩ := hM
    have c2 : PtB O H2 a f1 g1 c := ⟨s2 _ _ c1.t, s2 _ _ c1.f, s2 _ _ c1.g, c1.nt, c1.nf, c1.ng⟩
    have d2 : PtB O H2 b f2 g2 d := ⟨s2 _ _ d1.t, s2 _ _ d1.f, s2 _ _ d1.g, d1.nt, d1.nf, d1.ng⟩
    refine ⟨fun σ H3 => ∃ g3, σ = [some (.ref p), some (.ref a), some (.ref b), some (.ref f3), some (.ref g3)] ∧ Same H2 H3 ∧ H3 g3 = some (.lst (nIs (joinP c d).2.2)) ∧ ¬ O g3, ?_, fun σ H3 hM => ?_⟩
    · refine ⟨.ref b, rfl, b, _, 0, _, rfl, rfl, .inl (.inl d2.t), atI_nat (j := 0) rfl, d.1, rfl, ?_⟩
      unfold joinP
      cases d.1 with
      | true =>
        refine iteT ⟨.ref a, rfl, a, _, 2, _, rfl, rfl, .inl (.inl c2.t), atI_nat (j := 2) rfl, .ref b, rfl, b, _, 2, _, rfl, rfl, .inl (.inl d2.t), atI_nat (j := 2) rfl, g1, g2, _, _, rfl, rfl, c2.g, d2.g, ?_, fun g3 h3 => ?_⟩
        · rw [nIs_len, nIs_len]
          exact Nat.le_trans (show c.2.2.length + d.2.2.length ≤ 2000 by omega) (by decide)
        · rw [nIs_app]
          exact ⟨g3, rfl, smU h3, upd_same, no1 s2 h3⟩
      | false => exact iteF ⟨.ref b, rfl, b, _, 2, _, rfl, rfl, .inl (.inl d2.t), atI_nat (j := 2) rfl, g2, rfl, Same.refl _, d2.g, d2.ng⟩
    obtain ⟨g3, rfl, s3, e4, n4⟩ := hM
    have s23 := s2.trans s3
    have fin : ∀ b0 : Bool, b0 = (joinP c d).1 → ∀ t, H3 t = none → Q (.ref t) (upd H3 t (.tup [.bl b0, .ref f3, .ref g3])) := fun b0 eb t ht => by
      subst eb
      have s4 := smU (o := HO.tup [.bl (joinP c d).1, .ref f3, .ref g3]) ht
      exact q _ _ ⟨t, f3, g3, rfl, upd_same, s4 _ _ (s3 _ _ e3), s4 _ _ e4, no1 s23 ht, n3, n4⟩ (W1.up (s23.trans s4)) (k1.trans0 (KW.same (s23.trans s4)))
    refine ⟨.ref a, rfl, a, _, 0, _, rfl, rfl, .inl (.inl (s23 _ _ c1.t)), atI_nat (j := 0) rfl, c.1, rfl, ?_⟩
    have ej : (joinP c d).1 = (c.1 && d.1) := rfl
    rw [ej] at fin
    cases hc : c.1 with
    | true =>
      rw [hc, Bool.true_and] at fin
      exact iteT ⟨.ref b, rfl, b, _, 0, _, rfl, rfl, .inl (.inl (s23 _ _ d1.t)), atI_nat (j := 0) rfl, _, rfl, _, rfl, (show 3 ≤ sizeLine by decide), fin _ rfl⟩
    | false =>
      rw [hc, Bool.false_and] at fin
      exact iteF ⟨_, rfl, _, rfl, (show 3 ≤ sizeLine by decide), fin _ rfl⟩
end
end Sf4
namespace Sf4
open PySem PySem.Spec PyProof.Rows L2 Sf
mutual
def dep : Tr → Nat
  | .place _ => 0
  | .empty => 0
  | .capture _ t => dep t + 1
  | .chain l => depL l + 1
  | .choice l => depL l + 1
  | .count _ _ t => dep t + 1
def depL : List Tr → Nat
  | [] => 0
  | t :: r => max (dep t) (depL r)
end
mutual
/-- the longest row of parts, the greatest number of copies -/
def wid : Tr → Nat
  | .place _ => 0
  | .empty => 0
  | .capture _ t => wid t
  | .chain l => max l.length (widL l)
  | .choice l => max l.length (widL l)
  | .count a b t => max (many a b) (wid t)
def widL : List Tr → Nat
  | [] => 0
  | t :: r => max (wid t) (widL r)
end
theorem depL_get : ∀ {l : List Tr} {i : Nat} {t : Tr}, l[i]? = some t → dep t ≤ depL l ∧ wid t ≤ widL l
  | [], _, _, h => by cases h
  | t :: r, 0, _, h => by
    cases h
    exact ⟨Nat.le_max_left _ _, Nat.le_max_left _ _⟩
  | t :: r, i + 1, u, h => by
    obtain ⟨a, b⟩ := depL_get (l := r) (i := i) h
    exact ⟨Nat.le_trans a (Nat.le_max_right _ _), Nat.le_trans b (Nat.le_max_right _ _)⟩
theorem TrOs.get {H : Hp} : ∀ {ts : List Tr} {vs : List V} {i : Nat} {v : V}, TrOs H vs ts → vs[i]? = some v → ∃ t, ts[i]? = some t ∧ TrO H v t
  | [], _, _, _, h, e => by
    cases h
    cases e
  | t :: ts, _, 0, _, h, e => by
    cases h with
    | cons a r =>
      cases e
      exact ⟨t, rfl, a⟩
  | t :: ts, _, i + 1, _, h, e => by
    cases h with
    | cons a r => exact TrOs.get (i := i) r e
/-- parts on the heap -/
inductive PtOs (O : Addr → Prop) (H : Hp) : List V → List Pt → Prop
  | nil : PtOs O H [] []
  | cons {v : V} {vs : List V} {c : Pt} {cs : List Pt} : PtO O H v c → PtOs O H vs cs → PtOs O H (v :: vs) (c :: cs)
theorem PtOs.mono {O : Addr → Prop} {H H' : Hp} (k : ∀ b o, ¬ O b → H b = some o → H' b = some o) : ∀ {cs : List Pt} {vs : List V}, PtOs O H vs cs → PtOs O H' vs cs
  | [], _, h => by
    cases h
    exact .nil
  | c :: cs, _, h => by
    cases h with
    | cons a r => exact .cons (a.mono k) (PtOs.mono k r)
theorem PtOs.sub {O O' : Addr → Prop} {H : Hp} (k : ∀ b o, ¬ O b → H b = some o → ¬ O' b) : ∀ {cs : List Pt} {vs : List V}, PtOs O H vs cs → PtOs O' H vs cs
  | [], _, h => by
    cases h
    exact .nil
  | c :: cs, _, h => by
    cases h with
    | cons a r => exact .cons (a.sub k) (PtOs.sub k r)
theorem PtOs.snoc {O : Addr → Prop} {H : Hp} : ∀ {cs : List Pt} {vs : List V} {v : V} {c : Pt}, PtOs O H vs cs → PtO O H v c → PtOs O H (vs ++ [v]) (cs ++ [c])
  | [], _, _, _, h, k => by
    cases h
    exact .cons k .nil
  | c :: cs, _, _, _, h, k => by
    cases h with
    | cons a r => exact .cons a (r.snoc k)
theorem PtOs.len {O : Addr → Prop} {H : Hp} : ∀ {cs : List Pt} {vs : List V}, PtOs O H vs cs → vs.length = cs.length
  | [], _, h => by
    cases h
    rfl
  | c :: cs, _, h => by
    cases h with
    | cons a r => rw [List.length_cons, List.length_cons, r.len]
theorem PtOs.get {O : Addr → Prop} {H : Hp} : ∀ {cs : List Pt} {vs : List V} {i : Nat} {v : V}, PtOs O H vs cs → vs[i]? = some v → ∃ c, cs[i]? = some c ∧ PtO O H v c
  | [], _, _, _, h, e => by
    cases h
    cases e
  | c :: cs, _, 0, _, h, e => by
    cases h with
    | cons a r =>
      cases e
      exact ⟨c, rfl, a⟩
  | c :: cs, _, i + 1, _, h, e => by
    cases h with
    | cons a r => exact PtOs.get (i := i) r e
def NPart : List Str := ["self", "tree", "place", "found", "part", "parts", "first", "last"]
theorem scPartOf : FnScope NPart ["self", "tree"] (defScope sPartOf) := ⟨rfl, rfl, rfl, by decide +kernel, rfl, by decide +kernel, by decide +kernel⟩
/-- the bounds at which a part is written out -/
structure Fit (w : Wp) (s k S n M : Nat) : Prop where
  ok : WOk w n M
  le : n + s ≤ S
  top : S ≤ 1000
  bd : M + S * k ≤ 10000
/-- what comes of it -/
def Out (C p dx la fa : Addr) (as : List Addr) (O : Addr → Prop) (H : Hp) (r : Pt × Wp) (Q : VK) : Prop :=
  ∀ x H' as', PtO (fun b => O b ∨ b ∈ as') H' x r.1 → WrA C p dx la fa H' r.2 as' → Ext H as as' → KW p la fa as H H' → Q x H'
def spPO (C : Addr) (d : Nat) : Sp := fun vs H Q _ => ∃ (p dx la fa : Addr) (v : V) (t : Tr) (w : Wp) (as : List Addr) (O : Addr → Prop) (S n M : Nat), vs = [.ref p, v] ∧ dep t ≤ d ∧ wid t ≤ 1000 ∧ TrO H v t ∧ WrA C p dx la fa H w as ∧ Apt p la fa as H O ∧ Fit w (sz t) (lks t) S n M ∧
  Out C p dx la fa as O H (pO t w) Q
def spCnt (C : Addr) (d : Nat) : Sp := fun vs H Q _ => ∃ (p dx la fa : Addr) (a : Nat) (b : Option Nat) (v : V) (t : Tr) (w : Wp) (as : List Addr) (O : Addr → Prop) (S n M : Nat), vs = [.ref p, .int a, mst b, v] ∧ dep t ≤ d ∧ wid t ≤ 1000 ∧ many a b ≤ 1000 ∧ TrO H v t ∧ WrA C p dx la fa H w as ∧ Apt p la fa as H O ∧
  Fit w (many a b * sz t) (many a b * (lks t + 1) + 1) S n M ∧ Out C p dx la fa as O H (cntd a b (rep (pO t) (many a b) w)) Q
/-- two promises at one time: what may be called within a tree of this depth -/
def spIf (c : Bool) (sp : Sp) : Sp := fun vs H Q E => c = true ∧ sp vs H Q E
theorem KW.put {p la fa D : Addr} {as : List Addr} {H H0 H1 : Hp} {o : HO} (k : KW p la fa as H H1) (k0 : KW p la fa as H H0) (n : H0 D = none) : KW p la fa as H (upd H1 D o) := fun b u nb e => by
  rw [upd_ne (ne_of_none (k0 b u nb e) n)]
  exact k b u nb e
section
variable {P : Program} {w : World} {K : PySem.W.Frag} {mg : Str → Option Value} {base : Heap} {C : Addr} {f : Nat → Addr} {fd : Nat → FuncData} {tk : Nat → Tok}
theorem ok_partOf (T : WT K mg C f fd tk) {k d : Nat} {spA spB : Sp} (hk : 2 ≤ k) (GA : FnOk P w K mg base CX0 k (f 3) (fd 3) ["self", "tree"] spA) (GB : FnOk P w K mg base CX0 k (f 4) (fd 4) ["self", "least", "most", "tree"] spB)
    (hA : ∀ e vs H Q E, e + 1 ≤ d → spPO C e vs H Q E → spA vs H Q E) (hB : ∀ e vs H Q E, e + 1 ≤ d → spCnt C e vs H Q E → spB vs H Q E) : FnOk P w K mg base CX0 (k + 1) (f 3) (fd 3) ["self", "tree"] (spPO C d) := by
  refine T.mPart.F.ok scPartOf (fun vs H Q E h => ?_) (fun cdv A outer s H vs Q E hr h => ?_)
  · obtain ⟨p, dx, la, fa, v, t, w, as, O, S, n, M, rfl, _⟩ := h
    rfl
  · obtain ⟨p, dx, la, fa, v, t, w, as, O, S, n, M, rfl, hd, hw, ht, W, ap, ft, q⟩ := h
    have GJ := ok_joined (P := P) (base := base) (w := ‹World›) T
    refine ⟨_, pss_cons (ps_if (pt_cmpR op_eq (pe_ix ix_tup (pv 1) pe_int (fun _ _ => rfl)) (pe_glob (v := .str plW) rfl T.gPl ⟨_, rfl⟩) (nomark _))
          (pss_cons (ps_expr (pe_bm PySem.F.plainAttrs_list PySem.F.slot_list_append PySem.F.type_list_append mt_append (pe_fld (pv 0) rfl) (pa_cons (pe_ix ix_tup (pv 1) pe_int (fun _ _ => rfl)) pa_nil)))
          (pss_cons (ps_expr (pe_bm PySem.F.plainAttrs_list PySem.F.slot_list_append PySem.F.type_list_append mt_append (pe_fld (pv 0) rfl) (pa_cons (pe_lst pa_nil) pa_nil)))
          (pss_cons (ps_set (i := 2) scPartOf.nd rfl (.inl rfl) (pe_op op_sub (pe_callB call_len_seq (by rfl) T.zlen PySem.boot_len (pa_cons (pe_fld (pv 0) rfl) pa_nil)) pe_int))
          (pss_one (ps_ret (pe_tup (pa_cons pe_bl (pa_cons (pe_lst (pa_cons (pv 2) pa_nil)) (pa_cons (pe_lst (pa_cons (pv 2) pa_nil)) pa_nil))))))))) pss_nil)
      (pss_cons (ps_if (pt_cmpR op_eq (pe_ix ix_tup (pv 1) pe_int (fun _ _ => rfl)) (pe_glob (v := .str caW) rfl T.gCa ⟨_, rfl⟩) (nomark _))
          (pss_one (ps_ret (pe_meth (pv 0) T.cl T.mPart.m GA hr T.mPart.b .nil pass0 (pa_cons (pe_ix ix_tup (pv 1) pe_int (fun _ _ => rfl)) pa_nil)))) pss_nil)
      (pss_cons (ps_if (pt_cmpR op_eq (pe_ix ix_tup (pv 1) pe_int (fun _ _ => rfl)) (pe_glob (v := .str coW) rfl T.gCo ⟨_, rfl⟩) (nomark _))
          (pss_one (ps_ret (pe_meth (pv 0) T.cl T.mCount.m GB hr T.mCount.b .nil pass0 (pa_cons (pe_ix ix_tup (pv 1) pe_int (fun _ _ => rfl)) (pa_cons (pe_ix ix_tup (pv 1) pe_int (fun _ _ => rfl)) (pa_cons (pe_ix ix_tup (pv 1) pe_int (fun _ _ => rfl)) pa_nil)))))) pss_nil)
      (pss_cons (ps_set (i := 3) scPartOf.nd rfl (.inl rfl) (pe_tup (pa_cons pe_bl (pa_cons (pe_lst pa_nil) (pa_cons (pe_lst pa_nil) pa_nil)))))
      (Evl.pss_cut (ps_if (pt_cmpR op_eq (pe_ix ix_tup (pv 1) pe_int (fun _ _ => rfl)) (pe_glob (v := .str chW) rfl T.gCh ⟨_, rfl⟩) (nomark _))
          (pss_one (ps_for PassesOwn.never rfl (pi_tup (pe_ix ix_tup (pv 1) pe_int (fun _ _ => rfl))) (pg_name (i := 4) scPartOf.nd rfl (Or.inl rfl))
            (pss_one (ps_set (i := 3) scPartOf.nd rfl (.inl rfl) (pe_meth (pv 0) T.cl T.mJoin.m GJ (hr.mono hk) T.mJoin.b .nil pass0 (pa_cons (pv 3) (pa_cons (pe_meth (pv 0) T.cl T.mPart.m GA hr T.mPart.b .nil pass0 (pa_cons (pv 4) pa_nil)) pa_nil))))))) pss_nil)
      (Evl.pss_cut (ps_if (pt_cmpR op_eq (pe_ix ix_tup (pv 1) pe_int (fun _ _ => rfl)) (pe_glob (v := .str alW) rfl T.gAl ⟨_, rfl⟩) (nomark _))
          (pss_cons (ps_setLc (i := 5) (own := [("part", 4)]) (g := gName 4) (tt := tYes) (te := tMeth C "part_of" spA [] E0 (tVar 0) (tCons (tVar 4) tNil)) rfl scPartOf.nd rfl rfl (sw_true rfl rfl rfl (by decide +kernel)) (pi_tup (pe_ix ix_tup (pv 1) pe_int (fun _ _ => rfl))) (blkOk_by (N := NPart) (sc := defScope sPartOf) (by decide +kernel))
              (fun _ _ _ _ _ => pg_name (i := 4) scPartOf.nd rfl (Or.inl rfl)) (fun _ _ _ _ _ => pts_nil) (fun _ _ _ _ _ => pe_meth (pv 0) T.cl T.mPart.m GA hr T.mPart.b .nil pass0 (pa_cons (pv 4) pa_nil)))
          (pss_cons (ps_par (i := 6) (j := 7) rfl scPartOf.nd rfl rfl (by decide) rfl rfl (pa_cons (pe_lst pa_nil) (pa_cons (pe_lst pa_nil) pa_nil)) (by rfl))
          (pss_cons (ps_for PassesOwn.never rfl (pi_list (pv 5)) (pg_name (i := 4) scPartOf.nd rfl (Or.inl rfl))
            (pss_one (ps_par (i := 6) (j := 7) rfl scPartOf.nd rfl rfl (by decide) rfl rfl (pa_cons (pe_op op_cat (pv 6) (pe_ix ix_tup (pv 4) pe_int (fun _ _ => rfl))) (pa_cons (pe_op op_cat (pv 7) (pe_ix ix_tup (pv 4) pe_int (fun _ _ => rfl))) pa_nil)) (by rfl))))
          (pss_one (ps_set (i := 3) scPartOf.nd rfl (.inl rfl) (pe_tup (pa_cons (pe_callB (cr_any rfl) (by rfl) T.zany (by decide +kernel) (pa_cons (pe_lc (own := [("part", 4)]) (g := gName 4) (tt := tYes) (te := tOp (rIxT K) (tVar 4) (tC (.int 0))) rfl scPartOf.nd (pi_list (pv 5)) (blkOk_by (N := NPart) (sc := defScope sPartOf) (by decide +kernel))
              (fun _ _ _ _ _ => pg_name (i := 4) scPartOf.nd rfl (Or.inl rfl)) (fun _ _ _ _ _ => pts_nil) (fun _ _ _ _ _ => pe_ix ix_tup (pv 4) pe_int (fun _ _ => rfl))) pa_nil)) (pa_cons (pv 6) (pa_cons (pv 7) pa_nil))))))))) pss_nil)
      (pss_one (ps_ret (pv 3)))))))), ?_⟩
    have nP : (wf_ la fa).lookup ("part_of" : Str) = none := wf_no (by decide +kernel) (by decide +kernel)
    have nC : (wf_ la fa).lookup ("counted" : Str) = none := wf_no (by decide +kernel) (by decide +kernel)
    have nJ : (wf_ la fa).lookup ("joined" : Str) = none := wf_no (by decide +kernel) (by decide +kernel)
    have hle := ft.ok.le
    have hfo := ft.ok.fo
    have f1 := ft.le
    have f2 := ft.top
    have f3 := ft.bd
    by_cases hp : ∃ s, t = .place s
    · obtain ⟨s, rfl⟩ := hp
      cases ht with
      | place e =>
      rename_i a
      refine ⟨.ref a, rfl, a, _, 0, _, rfl, rfl, .inl (.inl e), atI_nat (j := 0) rfl, rfl, _, rfl, ?_⟩
      rw [decide_eq_true rfl]
      have hpl : p ≠ la := ne_of W.e W.l (by intro z; cases z)
      have hpf : p ≠ fa := ne_of W.e W.f (by intro z; cases z)
      have f1 : n + 1 ≤ S := f1
      refine iteT ⟨.ref p, rfl, p, C, dx, _, _, rfl, W.e, T.cl, T.nLe, wf_le, .inl ⟨rfl, _, .inl (.inl W.l)⟩, .ref a, rfl, a, _, 1, _, rfl, rfl, .inl (.inl e), atI_nat (j := 1) rfl, la, _, _, rfl, rfl, W.l, ?_, ?_⟩
      · unfold nmV
        rw [List.length_map, hle]
        exact Nat.lt_of_le_of_lt (show n ≤ 1000 by omega) (by decide)
      have e1 : upd H la (.lst (nmV w.le ++ [.str (tx s)])) p = some (.ins C dx (wf_ la fa)) := (upd_ne hpl).trans W.e
      have g1 : upd H la (.lst (nmV w.le ++ [.str (tx s)])) fa = some (.lst (as.map V.ref)) := (upd_ne W.ne.symm).trans W.f
      refine ⟨.ref p, rfl, p, C, dx, _, _, rfl, e1, T.cl, T.nFo, wf_fo, .inl ⟨rfl, _, .inl (.inl g1)⟩, Nat.zero_le _, fun b hb => ?_⟩
      have nbl : b ≠ la := fun z => by
        rw [z, upd_same] at hb
        cases hb
      have hb0 : H b = none := by
        rw [upd_ne nbl] at hb
        exact hb
      have nbp : b ≠ p := fun z => by
        rw [z, W.e] at hb0
        cases hb0
      have nbf : b ≠ fa := fun z => by
        rw [z, W.f] at hb0
        cases hb0
      refine ⟨fa, _, _, rfl, rfl, (upd_ne nbf.symm).trans g1, ?_, ?_⟩
      · rw [List.length_map, W.n, hfo]
        exact Nat.lt_of_le_of_lt (show n ≤ 1000 by omega) (by decide)
      have W3 : WrA C p dx la fa (upd (upd (upd H la (.lst (nmV w.le ++ [.str (tx s)]))) b (.lst [])) fa (.lst (as.map V.ref ++ [.ref b]))) ⟨w.le ++ [s], w.fo ++ [[]]⟩ (as ++ [b]) := by
        have nas : ∀ x ∈ as, x ≠ b := fun x hx z => by
          obtain ⟨o, e, _⟩ := W.own (b := x) (.inr (.inr (.inr hx)))
          rw [z, hb0] at e
          cases e
        refine ⟨?_, ?_, ?_, W.ne, ?_, ?_, fun i x r h1 h2 => ?_⟩
        · rw [upd_ne hpf, upd_ne nbp.symm]
          exact e1
        · rw [upd_ne W.ne, upd_ne nbl.symm, upd_same]
          unfold nmV
          rw [List.map_append] <;> rfl
        · rw [upd_same, List.map_append] <;> rfl
        · exact List.nodup_append.mpr ⟨W.nd, List.nodup_cons.mpr ⟨List.not_mem_nil, List.nodup_nil⟩, fun x hx y hy => by
            rw [List.mem_singleton.mp hy]
            exact nas x hx⟩
        · rw [List.length_append, List.length_append, W.n] <;> rfl
        · by_cases hi : i < as.length
          · rw [List.getElem?_append_left hi] at h1
            have h2 : (w.fo ++ [[]])[i]? = some r := h2
            rw [List.getElem?_append_left (by rw [← W.n]; exact hi)] at h2
            obtain ⟨c1, c2, c3⟩ := W.at_ i x r h1 h2
            refine ⟨?_, c2, c3⟩
            rw [upd_ne c3, upd_ne (nas x (List.mem_of_getElem? h1)), upd_ne c2]
            exact c1
          · have hl := (List.getElem?_eq_some_iff.mp h1).1
            rw [List.length_append, List.length_singleton] at hl
            obtain rfl : i = as.length := by omega
            have h2 : (w.fo ++ [[]])[as.length]? = some r := h2
            rw [List.getElem?_append_right (Nat.le_refl _), Nat.sub_self] at h1
            rw [W.n, List.getElem?_append_right (Nat.le_refl _), Nat.sub_self] at h2
            cases h1
            cases h2
            refine ⟨?_, nbl, nbf⟩
            rw [upd_ne nbf, upd_same] <;> rfl
      have k3 : KW p la fa as H (upd (upd (upd H la (.lst (nmV w.le ++ [.str (tx s)]))) b (.lst [])) fa (.lst (as.map V.ref ++ [.ref b]))) := fun c o nc e => by
        rw [upd_ne fun z => nc (.inr (.inr (.inl z))), upd_ne (ne_of_none e hb0), upd_ne fun z => nc (.inr (.inl z))]
        exact e
      generalize upd (upd (upd H la (.lst (nmV w.le ++ [.str (tx s)]))) b (.lst [])) fa (.lst (as.map V.ref ++ [.ref b])) = H3 at W3 k3 ⊢
      have x3 : Ext H as (as ++ [b]) := ⟨[b], rfl, fun x hx => by rw [List.mem_singleton.mp hx]; exact hb0⟩
      refine ⟨.ref p, rfl, p, C, dx, _, _, rfl, W3.e, T.cl, T.nLe, wf_le, la, _, rfl, .inl (.inl (.inl W3.l)), _, _, rfl, rfl, ?_⟩
      have el : (((nmV (w.le ++ [s])).length : Nat) : Int) - 1 = ((w.le.length : Nat) : Int) := by
        unfold nmV
        rw [List.length_map, List.length_append, List.length_singleton]
        omega
      refine ⟨_, rfl, (show 1 ≤ sizeLine by decide), fun c hc => ⟨_, rfl, (show 1 ≤ sizeLine by decide), fun g hg => ⟨(show 3 ≤ sizeLine by decide), fun x hx => ?_⟩⟩⟩
      have s1 := smU (o := HO.lst [.int ((((nmV (w.le ++ [s])).length : Nat) : Int) - 1)]) hc
      have s2 := smU (o := HO.lst [.int ((((nmV (w.le ++ [s])).length : Nat) : Int) - 1)]) hg
      have s3 := smU (o := HO.tup [.bl false, .ref c, .ref g]) hx
      have no : ∀ {H4 : Hp} {y : Addr}, Same H3 H4 → H4 y = none → ¬ (O y ∨ y ∈ as ++ [b]) := fun {H4 y} sm hy z => by
        have h3 : H3 y = none := sm.free hy
        rcases z with z | z
        · by_cases ho : Own p la fa as y
          · exact W3.no h3 (x3.own2 ho)
          · obtain ⟨o, e⟩ := ap.all y z
            rw [k3 y o ho e] at h3
            cases h3
        · exact W3.no h3 (.inr (.inr (.inr z)))
      have ec : nIs [w.le.length] = [V.int ((((nmV (w.le ++ [s])).length : Nat) : Int) - 1)] := by
        rw [el] <;> rfl
      exact q _ _ (as ++ [b]) ⟨x, c, g, rfl, upd_same, (s3 _ _ (s2 _ _ upd_same)).trans (congrArg (fun z => some (HO.lst z)) ec.symm), (s3 _ _ upd_same).trans (congrArg (fun z => some (HO.lst z)) ec.symm), no (s1.trans s2) hx, no (Same.refl _) hc, no s1 hg⟩ (W3.up (s1.trans (s2.trans s3))) x3 (k3.trans x3 (KW.same (s1.trans (s2.trans s3))))
    by_cases hp2 : ∃ m u, t = .capture m u
    · obtain ⟨m, u, rfl⟩ := hp2
      cases ht with
      | capture e r =>
      rename_i a v
      have hd : dep u + 1 ≤ d := hd
      refine ⟨.ref a, rfl, a, _, 0, _, rfl, rfl, .inl (.inl e), atI_nat (j := 0) rfl, rfl, _, rfl, ?_⟩
      rw [decide_eq_false (show ¬ (V.str caW = V.str plW) by decide +kernel)]
      refine iteF ⟨.ref a, rfl, a, _, 0, _, rfl, rfl, .inl (.inl e), atI_nat (j := 0) rfl, rfl, _, rfl, ?_⟩
      rw [decide_eq_true rfl]
      refine iteT ⟨.ref p, rfl, p, dx, _, rfl, W.e, nP, .ref a, rfl, a, _, 2, _, rfl, rfl, .inl (.inl e), atI_nat (j := 2) rfl, ?_⟩
      exact hA (dep u) _ _ _ _ hd ⟨p, dx, la, fa, v, u, w, as, O, S, n, M, rfl, Nat.le_refl _, hw, r, W, ap, ft, q⟩
    by_cases hp3 : ∃ a b u, t = .count a b u
    · obtain ⟨a0, b0, u, rfl⟩ := hp3
      cases ht with
      | count e r =>
      rename_i a v
      have hd : dep u + 1 ≤ d := hd
      have hw : max (many a0 b0) (wid u) ≤ 1000 := hw
      refine ⟨.ref a, rfl, a, _, 0, _, rfl, rfl, .inl (.inl e), atI_nat (j := 0) rfl, rfl, _, rfl, ?_⟩
      rw [decide_eq_false (show ¬ (V.str coW = V.str plW) by decide +kernel)]
      refine iteF ⟨.ref a, rfl, a, _, 0, _, rfl, rfl, .inl (.inl e), atI_nat (j := 0) rfl, rfl, _, rfl, ?_⟩
      rw [decide_eq_false (show ¬ (V.str coW = V.str caW) by decide +kernel)]
      refine iteF ⟨.ref a, rfl, a, _, 0, _, rfl, rfl, .inl (.inl e), atI_nat (j := 0) rfl, rfl, _, rfl, ?_⟩
      rw [decide_eq_true rfl]
      refine iteT ⟨.ref p, rfl, p, dx, _, rfl, W.e, nC, .ref a, rfl, a, _, 1, _, rfl, rfl, .inl (.inl e), atI_nat (j := 1) rfl, .ref a, rfl, a, _, 2, _, rfl, rfl, .inl (.inl e), atI_nat (j := 2) rfl, .ref a, rfl, a, _, 3, _, rfl, rfl, .inl (.inl e), atI_nat (j := 3) rfl, ?_⟩
      exact hB (dep u) _ _ _ _ hd ⟨p, dx, la, fa, a0, b0, v, u, w, as, O, S, n, M, rfl, Nat.le_refl _, by omega, by omega, r, W, ap, ft, q⟩
    obtain ⟨a, X, rest, rfl, e, n1, n2, n3, hX⟩ : ∃ a X rest, v = .ref a ∧ H a = some (.tup (.str X :: rest)) ∧ ¬ (V.str X = V.str plW) ∧ ¬ (V.str X = V.str caW) ∧ ¬ (V.str X = V.str coW) ∧
        ((t = .empty ∧ ¬ (V.str X = V.str chW) ∧ ¬ (V.str X = V.str alW)) ∨ (∃ b vs l, t = .chain l ∧ X = chW ∧ rest = [.ref b] ∧ H b = some (.tup vs) ∧ TrOs H vs l) ∨ (∃ b vs l, t = .choice l ∧ X = alW ∧ rest = [.ref b] ∧ H b = some (.tup vs) ∧ TrOs H vs l)) := by
      cases ht with
      | place e => exact absurd ⟨_, rfl⟩ hp
      | capture e r => exact absurd ⟨_, _, rfl⟩ hp2
      | count e r => exact absurd ⟨_, _, _, rfl⟩ hp3
      | empty e => exact ⟨_, _, _, rfl, e, by decide +kernel, by decide +kernel, by decide +kernel, .inl ⟨rfl, by decide +kernel, by decide +kernel⟩⟩
      | chain e e2 r => exact ⟨_, _, _, rfl, e, by decide +kernel, by decide +kernel, by decide +kernel, .inr (.inl ⟨_, _, _, rfl, rfl, rfl, e2, r⟩)⟩
      | choice e e2 r => exact ⟨_, _, _, rfl, e, by decide +kernel, by decide +kernel, by decide +kernel, .inr (.inr ⟨_, _, _, rfl, rfl, rfl, e2, r⟩)⟩
    refine ⟨.ref a, rfl, a, _, 0, _, rfl, rfl, .inl (.inl e), atI_nat (j := 0) rfl, rfl, _, rfl, ?_⟩
    rw [decide_eq_false n1]
    refine iteF ⟨.ref a, rfl, a, _, 0, _, rfl, rfl, .inl (.inl e), atI_nat (j := 0) rfl, rfl, _, rfl, ?_⟩
    rw [decide_eq_false n2]
    refine iteF ⟨.ref a, rfl, a, _, 0, _, rfl, rfl, .inl (.inl e), atI_nat (j := 0) rfl, rfl, _, rfl, ?_⟩
    rw [decide_eq_false n3]
    refine iteF ⟨Nat.zero_le _, fun c hc => ⟨Nat.zero_le _, fun g hg => ⟨(show 3 ≤ sizeLine by decide), fun x hx => ?_⟩⟩⟩
    have s1 := smU (o := HO.lst []) hc
    have s2 := smU (o := HO.lst []) hg
    have s3 := smU (o := HO.tup [.bl true, .ref c, .ref g]) hx
    have sA := s1.trans (s2.trans s3)
    have x0 : PtO O (upd (upd (upd H c (.lst [])) g (.lst [])) x (.tup [.bl true, .ref c, .ref g])) (.ref x) e0 :=
      ⟨x, c, g, rfl, upd_same, s3 _ _ (s2 _ _ upd_same), s3 _ _ upd_same, ap.no ((s1.trans s2).free hx), ap.no hc, ap.no (s1.free hg)⟩
    generalize upd (upd (upd H c (.lst [])) g (.lst [])) x (.tup [.bl true, .ref c, .ref g]) = H1 at sA x0 ⊢
    have W1 := W.up sA
    have e1 := sA _ _ e
    have apM : ∀ {H2 : Hp} {as1 : List Addr} {w1 : Wp}, WrA C p dx la fa H2 w1 as1 → Ext H as as1 → KW p la fa as H H2 → Apt p la fa as1 H2 (fun b => O b ∨ b ∈ as1) := fun {H2 as1 w1} W2 x2 k2 => by
      refine ⟨fun b hb => ?_, fun b hb => ?_⟩
      · rcases hb with h | h | h | h
        · exact .inl (ap.sub _ (.inl h))
        · exact .inl (ap.sub _ (.inr (.inl h)))
        · exact .inl (ap.sub _ (.inr (.inr (.inl h))))
        · exact .inr h
      · by_cases ho : Own p la fa as1 b
        · obtain ⟨o, e, _⟩ := W2.own ho
          exact ⟨o, e⟩
        · rcases hb with h | h
          · obtain ⟨o, e⟩ := ap.all b h
            exact ⟨o, k2 b o (fun z => ho (x2.own2 z)) e⟩
          · exact absurd (.inr (.inr (.inr h))) ho
    refine ⟨fun σ H2 => ∃ y x5 as1 w1 pt, σ = [some (.ref p), some (.ref a), none, some y, x5, none, none, none] ∧ PtO (fun b => O b ∨ b ∈ as1) H2 y pt ∧ WrA C p dx la fa H2 w1 as1 ∧ Ext H as as1 ∧ KW p la fa as H H2 ∧
        ((X = chW ∧ pO t w = (pt, w1)) ∨ (X ≠ chW ∧ y = .ref x ∧ w1 = w ∧ as1 = as ∧ Same H1 H2 ∧ pt = e0)), ?_, fun σ H2 hM => ?_⟩
    · refine ⟨.ref a, rfl, a, _, 0, _, rfl, rfl, .inl (.inl e1), atI_nat (j := 0) rfl, rfl, _, rfl, ?_⟩
      have x0' : PtO (fun b => O b ∨ b ∈ as) H1 (.ref x) e0 := x0.sub fun b o h _ z => z.elim h fun z => h (ap.sub b (.inr (.inr (.inr z))))
      by_cases hch : X = chW
      · rw [decide_eq_true (by rw [hch])]
        rcases hX with ⟨_, h, _⟩ | ⟨b, vs, l, rfl, _, rfl, eb, os⟩ | ⟨b, vs, l, _, h, _⟩
        · exact absurd (by rw [hch]) h
        · have hd : depL l + 1 ≤ d := hd
          have hw : max l.length (widL l) ≤ 1000 := hw
          have f3 : M + S * (lksL l + l.length) ≤ 10000 := f3
          refine iteT ⟨.ref a, rfl, a, _, 1, _, rfl, rfl, .inl (.inl e1), atI_nat (j := 1) rfl, b, rfl, ⟨_, .inl (.inl (sA _ _ eb))⟩, for_tup (K := K) (a := b) (xs := vs) (fun i σ H2 => ∃ y x4 as1 w1 pt ni Mi, σ = [some (.ref p), some (.ref a), none, some y, x4, none, none, none] ∧ PtO (fun b => O b ∨ b ∈ as1) H2 y pt ∧ WrA C p dx la fa H2 w1 as1 ∧ Ext H as as1 ∧ KW p la fa as H H2 ∧
              pCh l e0 w = pCh (l.drop i) pt w1 ∧ WOk w1 ni Mi ∧ POk n ni pt ∧ n ≤ ni ∧ ni + szL (l.drop i) ≤ S ∧ Mi + S * (lksL (l.drop i) + (l.drop i).length) ≤ 10000)
            ⟨_, _, as, w, e0, n, M, rfl, x0', W1, .refl, KW.same sA, rfl, ft.ok, .e0, Nat.le_refl _, f1, f3⟩ (fun i σ H2 _ ⟨_, _, _, _, _, _, _, _, _, W2, _, k2, _⟩ => .inl (.inl (k2.kt W _ _ eb))) ?_ ?_⟩
          · rintro i xi σ H2 hi ⟨y, x4, as1, w1, pt, ni, Mi, rfl, py, W2, x2, k2, ec, o2, pk, l2, b1, b2⟩
            obtain ⟨ti, hti, oti⟩ := os.get hi
            obtain ⟨d1, d2⟩ := depL_get hti
            obtain ⟨hil, hie⟩ := List.getElem?_eq_some_iff.mp hti
            have edr : l.drop i = ti :: l.drop (i + 1) := by rw [List.drop_eq_getElem_cons hil, hie]
            rw [edr] at ec b1 b2
            have b1 : ni + (sz ti + szL (l.drop (i + 1))) ≤ S := b1
            have b2 : Mi + S * (lks ti + lksL (l.drop (i + 1)) + ((l.drop (i + 1)).length + 1)) ≤ 10000 := b2
            have b3 : S * (lks ti + lksL (l.drop (i + 1)) + ((l.drop (i + 1)).length + 1)) = S * lks ti + S + S * (lksL (l.drop (i + 1)) + (l.drop (i + 1)).length) := by
              rw [show lks ti + lksL (l.drop (i + 1)) + ((l.drop (i + 1)).length + 1) = lks ti + 1 + (lksL (l.drop (i + 1)) + (l.drop (i + 1)).length) by omega, Nat.mul_add, Nat.mul_add, Nat.mul_one]
            obtain ⟨g1, g2⟩ := pO_ok (S := S) ti w1 ni Mi o2 (by omega)
            have ap2 := apM W2 x2 k2
            refine ⟨.ref p, rfl, p, dx, _, rfl, W2.e, nJ, y, rfl, .ref p, rfl, p, dx, _, rfl, W2.e, nP, xi, rfl, ?_⟩
            refine hA (depL l) _ _ _ _ hd ⟨p, dx, la, fa, xi, ti, w1, as1, _, S, ni, Mi, rfl, d1, by omega, oti.mono (k2.kt W), W2, ap2, ⟨o2, by omega, f2, by omega⟩, fun y2 H3 as2 py2 W3 x3 k3 => ?_⟩
            have x23 := x2.trans k2 W2 x3
            have k23 := k2.trans x2 k3
            have py' : PtO (fun b => O b ∨ b ∈ as2) H3 y pt := (py.sub fun b o h e z => by
                obtain ⟨m, rfl, hm⟩ := x3
                rcases z with z | z
                · exact h (.inl z)
                · rcases List.mem_append.mp z with z | z
                  · exact h (.inr z)
                  · rw [hm b z] at e
                    cases e).mono fun b o h e => k3 b o (fun z => h (by
                rcases x3.own2 z with z | z | z | z
                · exact .inl (ap.sub _ (.inl z))
                · exact .inl (ap.sub _ (.inr (.inl z)))
                · exact .inl (ap.sub _ (.inr (.inr (.inl z))))
                · exact .inr z)) e
            have py2' : PtO (fun b => O b ∨ b ∈ as2) H3 y2 (pO ti w1).1 := py2.sub fun b o h _ z => h (z.elim (fun z => .inl (.inl z)) .inr)
            have ln1 := pk.f.len
            have ln2 := pk.l.len
            have ln3 := g2.f.len
            have ln4 := g2.l.len
            refine ⟨p, dx, la, fa, y, y2, (pO ti w1).2, as2, pt, (pO ti w1).1, _, rfl, W3, apM W3 x23 k23, py', py2', ⟨pk.l.nd, fun x hx => ?_, by omega, by omega, fun r hr => ?_⟩, by omega, by omega, fun z H4 pz W4 k4 => ?_⟩
            · rw [g1.fo]
              have := pk.l.lt x hx
              omega
            · have := (g1.bd r hr).1
              omega
            · have w2 := g1.lnk (S := S) pk.l.nd (fun x hx => (g2.f.lt x hx).2) (by omega)
              exact ⟨z, _, as2, _, joinP pt (pO ti w1).1, ni + sz ti, _, rfl, pz, W4, x23, k23.trans x23 k4, ec, w2, pk.join g2 l2 (by omega), by omega, by omega, by omega⟩
          · rintro σ H2 ⟨y, x4, as1, w1, pt, ni, Mi, rfl, py, W2, x2, k2, ec, _⟩
            rw [os.len, List.drop_length] at ec
            exact ⟨y, x4, as1, w1, pt, rfl, py, W2, x2, k2, .inl ⟨hch, ec⟩⟩
        · rw [hch] at h
          exact absurd h (by decide +kernel)
      · rw [decide_eq_false fun z => hch (V.str.inj z)]
        exact iteF ⟨_, _, as, w, e0, rfl, x0', W1, .refl, KW.same sA, .inr ⟨hch, rfl, rfl, rfl, Same.refl _, rfl⟩⟩
    obtain ⟨y, x5, as1, w1, pt, rfl, py, W2, x2, k2, hc⟩ := hM
    have e2 : H2 a = some (.tup (.str X :: rest)) := k2.kt W _ _ e
    refine ⟨fun σ H3 => ∃ z s2 s4 s5 s6 s7 as3, σ = [some (.ref p), some (.ref a), s2, some z, s4, s5, s6, s7] ∧ PtO (fun b => O b ∨ b ∈ as3) H3 z (pO t w).1 ∧ WrA C p dx la fa H3 (pO t w).2 as3 ∧ Ext H as as3 ∧ KW p la fa as H H3, ?_, fun σ H3 hM => ?_⟩
    · refine ⟨.ref a, rfl, a, _, 0, _, rfl, rfl, .inl (.inl e2), atI_nat (j := 0) rfl, rfl, _, rfl, ?_⟩
      rcases hc with ⟨rfl, ec⟩ | ⟨hch, rfl, rfl, rfl, s12, rfl⟩
      · rw [decide_eq_false (show ¬ (V.str chW = V.str alW) by decide +kernel)]
        refine iteF ⟨y, _, _, _, _, _, as1, rfl, ?_, ?_, x2, k2⟩
        · rw [ec]
          exact py
        · rw [ec]
          exact W2
      by_cases hal : X = alW
      · rw [decide_eq_true (by rw [hal])]
        rcases hX with ⟨_, _, h⟩ | ⟨b, vs, l, _, h, _⟩ | ⟨b, vs, l, rfl, _, rfl, eb, os⟩
        · exact absurd (by rw [hal]) h
        · exact absurd h hch
        have hd : depL l + 1 ≤ d := hd
        have hw : max l.length (widL l) ≤ 1000 := hw
        have f3 : M + S * lksL l ≤ 10000 := f3
        have f1 : n + szL l ≤ S := f1
        have hvl := os.len
        refine iteT ⟨.ref a, rfl, a, _, 1, _, rfl, rfl, .inl (.inl e2), atI_nat (j := 1) rfl, b, rfl, ⟨_, .inl (.inl (k2.kt W _ _ eb))⟩, fun D hD => ?_⟩
        have nDo : ¬ Own p la fa as1 D := W2.no hD
        refine lc_it (walk_tup (K := K) (a := b) (xs := vs)) (fun i H3 => ∃ acc ps wi asi ni Mi, H3 D = some (.lst acc) ∧ acc.length = i ∧ PtOs (fun c => (O c ∨ c ∈ asi) ∨ c = D) H3 acc ps ∧ WrA C p dx la fa H3 wi asi ∧ ¬ Own p la fa asi D ∧ Ext H as1 asi ∧ KW p la fa as1 H H3 ∧
            pL l w1 = (ps ++ (pL (l.drop i) wi).1, (pL (l.drop i) wi).2) ∧ WOk wi ni Mi ∧ n ≤ ni ∧ ni + szL (l.drop i) ≤ S ∧ Mi + S * lksL (l.drop i) ≤ 10000 ∧ (∀ c ∈ ps, c.2.1.length ≤ 1000 ∧ c.2.2.length ≤ 1000))
          ⟨[], [], w1, as1, n, M, upd_same, rfl, .nil, W2.wr nDo, nDo, .refl, KW.put k2 k2 hD, rfl, ft.ok, Nat.le_refl _, f1, f3, fun _ h => nomatch h⟩ (fun i H3 _ ⟨_, _, _, _, _, _, _, _, _, _, _, _, k3, _⟩ => .inl (.inl (k3.kt W _ _ eb))) (fun i xi H3 H3' hi hP hy => ?_) (fun H3 hP => ?_)
        · obtain ⟨acc, ps, wi, asi, ni, Mi, eD, hai, pps, W3, nDi, x3, k3, ec, o2, l2, b1, b2, bp⟩ := hP
          obtain ⟨rfl, hxi⟩ := hy
          obtain ⟨ti, hti, oti⟩ := os.get hxi
          obtain ⟨d1, d2⟩ := depL_get hti
          obtain ⟨hil, hie⟩ := List.getElem?_eq_some_iff.mp hti
          have edr : l.drop i = ti :: l.drop (i + 1) := by rw [List.drop_eq_getElem_cons hil, hie]
          rw [edr] at ec b1 b2
          have b1 : ni + (sz ti + szL (l.drop (i + 1))) ≤ S := b1
          have b2 : Mi + S * (lks ti + lksL (l.drop (i + 1))) ≤ 10000 := b2
          rw [Nat.mul_add] at b2
          obtain ⟨g1, g2⟩ := pO_ok (S := S) ti wi ni Mi o2 (by omega)
          have ap3 := apM W3 x3 k3
          have ap4 : Apt p la fa asi H3' (fun c => (O c ∨ c ∈ asi) ∨ c = D) := ⟨fun c h => .inl (ap3.sub c h), fun c h => h.elim (ap3.all c) fun h => ⟨_, h ▸ eD⟩⟩
          refine ⟨rfl, .ref p, rfl, p, dx, _, rfl, W3.e, nP, xi, rfl, ?_⟩
          refine hA (depL l) _ _ _ _ hd ⟨p, dx, la, fa, xi, ti, wi, asi, _, S, ni, Mi, rfl, d1, by omega, oti.mono (k3.kt W), W3, ap4, ⟨o2, by omega, f2, by omega⟩, fun y2 H4 as2 py2 W4 x4 k4 => ?_⟩
          have nD2 : ¬ Own p la fa as2 D := x4.own eD nDi
          have eD4 := k4 D _ nDi eD
          have up : ∀ c o, ¬ ((O c ∨ c ∈ asi) ∨ c = D) → H3' c = some o → ¬ ((O c ∨ c ∈ as2) ∨ c = D) := fun c o h e z => by
            obtain ⟨m, rfl, hm⟩ := x4
            rcases z with (z | z) | z
            · exact h (.inl (.inl z))
            · rcases List.mem_append.mp z with z | z
              · exact h (.inl (.inr z))
              · rw [hm c z] at e
                cases e
            · exact h (.inr z)
          have st : ∀ c o, ¬ ((O c ∨ c ∈ as2) ∨ c = D) → H3' c = some o → upd H4 D (.lst (acc ++ [y2])) c = some o := fun c o h e => by
            rw [upd_ne fun z => h (.inr z)]
            exact k4 c o (fun z => h (.inl (by
              rcases x4.own2 z with z | z | z | z
              · exact .inl (ap.sub _ (.inl z))
              · exact .inl (ap.sub _ (.inr (.inl z)))
              · exact .inl (ap.sub _ (.inr (.inr (.inl z))))
              · exact .inr z))) e
          have py3 : PtO (fun c => (O c ∨ c ∈ as2) ∨ c = D) (upd H4 D (.lst (acc ++ [y2]))) y2 (pO ti wi).1 := (py2.sub (O' := fun c => (O c ∨ c ∈ as2) ∨ c = D) fun c o h _ z => h (by
              rcases z with (z | z) | z
              · exact .inl (.inl (.inl z))
              · exact .inr z
              · exact .inl (.inr z))).mono fun c o h e => by
                rw [upd_ne fun z => h (.inr z)]
                exact e
          have ln3 := g2.f.len
          have ln4 := g2.l.len
          refine ⟨acc, eD4, Nat.lt_of_le_of_lt (show acc.length ≤ 1000 by omega) (by decide), acc ++ [y2], ps ++ [(pO ti wi).1], (pO ti wi).2, as2, ni + sz ti, Mi + S * lks ti, upd_same, by rw [List.length_append, hai] <;> rfl, ((pps.sub up).mono st).snoc py3, W4.wr nD2, nD2, x3.trans k3 W3 x4, KW.put (k3.trans x3 k4) k2 hD, ?_, g1, by omega, by omega, by omega, fun c hc => ?_⟩
          · rw [ec]
            show (ps ++ ((pO ti wi).1 :: _), _) = ((ps ++ [(pO ti wi).1]) ++ _, _)
            rw [List.append_assoc] <;> rfl
          · rcases List.mem_append.mp hc with h | h
            · exact bp c h
            · obtain rfl := List.mem_singleton.mp h
              omega
        obtain ⟨acc, ps, wi, asi, ni, Mi, eD, hai, pps, W3, nDi, x3, k3, ec, _, _, _, _, bp⟩ := hP
        rw [hvl, List.drop_length] at ec
        have ec : pL l w1 = (ps ++ [], wi) := ec
        rw [List.append_nil] at ec
        have hlp := pps.len
        have pps2 : PtOs (fun c => O c ∨ c ∈ asi) H3 acc ps := pps.sub fun c o h _ z => h (.inl z)
        have ap3 := apM W3 x3 k3
        -- the rows of first and last places
        refine ⟨Nat.zero_le _, fun f6 hf6 => ⟨Nat.zero_le _, fun g6 hg6 => ⟨_, _, rfl, ?_⟩⟩⟩
        have s1 := smU (o := HO.lst []) hf6
        have s2 := smU (o := HO.lst []) hg6
        have s12' := s1.trans s2
        refine ⟨.ref D, rfl, D, rfl, ⟨_, .inl (.inl (s12' _ _ eD))⟩, for_list (K := K) (a := D) (xs := acc) (fun i σ H4 => ∃ s4 f7 g7, σ = [some (.ref p), some (.ref a), none, some (.ref x), s4, some (.ref D), some (.ref f7), some (.ref g7)] ∧ Same H3 H4 ∧ H4 f7 = some (.lst (nIs ((ps.take i).flatMap (·.2.1)))) ∧ H4 g7 = some (.lst (nIs ((ps.take i).flatMap (·.2.2)))) ∧ ¬ (O f7 ∨ f7 ∈ asi) ∧ ¬ (O g7 ∨ g7 ∈ asi) ∧
            ((ps.take i).flatMap (·.2.1)).length ≤ 1000 * i ∧ ((ps.take i).flatMap (·.2.2)).length ≤ 1000 * i)
          ⟨_, f6, g6, rfl, s12', s2 _ _ upd_same, upd_same, ap3.no hf6, ap3.no (s1.free hg6), Nat.zero_le _, Nat.zero_le _⟩ (fun i σ H4 _ ⟨_, _, _, _, s, _⟩ => .inl (.inl (s _ _ eD))) ?_ ?_⟩
        · rintro i yi σ H4 hi ⟨s4, f7, g7, rfl, s34, ef, eg, nf, ng, bf, bg⟩
          obtain ⟨c, hci, pc⟩ := pps2.get hi
          obtain ⟨hil, hie⟩ := List.getElem?_eq_some_iff.mp hci
          obtain ⟨ya, fy, gy, rfl, pb⟩ := pc.same s34
          obtain ⟨c1, c2⟩ := bp c (List.mem_of_getElem? hci)
          have ht : ps.take (i + 1) = ps.take i ++ [c] := by rw [List.take_succ_eq_append_getElem hil, hie]
          have hi2 : i < 1000 := by omega
          have m1 : ((ps.take i).flatMap (·.2.1) ++ c.2.1) = (ps.take (i + 1)).flatMap (·.2.1) := by
            rw [ht, List.flatMap_append, List.flatMap_cons, List.flatMap_nil, List.append_nil]
          have m2 : ((ps.take i).flatMap (·.2.2) ++ c.2.2) = (ps.take (i + 1)).flatMap (·.2.2) := by
            rw [ht, List.flatMap_append, List.flatMap_cons, List.flatMap_nil, List.append_nil]
          have q1 := congrArg List.length m1
          have q2 := congrArg List.length m2
          rw [List.length_append] at q1 q2
          refine ⟨.ref f7, rfl, .ref ya, rfl, ya, _, 1, _, rfl, rfl, .inl (.inl pb.t), atI_nat (j := 1) rfl, f7, fy, _, _, rfl, rfl, ef, pb.f, ?_, fun f8 hf8 => ?_⟩
          · rw [nIs_len, nIs_len]
            exact Nat.le_trans (show _ ≤ 1002000 by omega) (by decide)
          have s8 := smU (o := HO.lst (nIs ((ps.take i).flatMap (·.2.1)) ++ nIs c.2.1)) hf8
          refine ⟨.ref g7, rfl, .ref ya, rfl, ya, _, 2, _, rfl, rfl, .inl (.inl (s8 _ _ pb.t)), atI_nat (j := 2) rfl, g7, gy, _, _, rfl, rfl, s8 _ _ eg, s8 _ _ pb.g, ?_, fun g8 hg8 => ⟨_, _, rfl, ?_⟩⟩
          · rw [nIs_len, nIs_len]
            exact Nat.le_trans (show _ ≤ 1002000 by omega) (by decide)
          have s9 := smU (o := HO.lst (nIs ((ps.take i).flatMap (·.2.2)) ++ nIs c.2.2)) hg8
          refine ⟨_, f8, g8, rfl, s34.trans (s8.trans s9), ?_, ?_, ap3.no (s34.free hf8), ap3.no ((s34.trans s8).free hg8), by omega, by omega⟩
          · rw [s9 _ _ upd_same, nIs_app, m1]
          · rw [upd_same, nIs_app, m2]
        · rintro σ H4 ⟨s4, f7, g7, rfl, s34, ef, eg, nf, ng, bf, bg⟩
          rw [hlp, List.take_of_length_le (Nat.le_refl _)] at ef eg
          refine ⟨.ref D, rfl, D, rfl, ⟨_, .inl (.inl (s34 _ _ eD))⟩, fun E5 hE => ?_⟩
          refine lc_it (walk_list (K := K) (a := D) (xs := acc)) (fun i H5 => H5 E5 = some (.lst ((ps.take i).map fun c => V.bl c.1)) ∧ Same H4 H5)
            ⟨upd_same, smU hE⟩ (fun i H5 _ hP => .inl (.inl (hP.2 _ _ (s34 _ _ eD)))) (fun i yi H5 H5' hi hP hy => ?_) (fun H5 hP => ?_)
          · obtain ⟨e5, s5⟩ := hP
            obtain ⟨rfl, hyi⟩ := hy
            obtain ⟨c, hci, pc⟩ := pps2.get hyi
            obtain ⟨hil, hie⟩ := List.getElem?_eq_some_iff.mp hci
            obtain ⟨ya, fy, gy, rfl, pb⟩ := pc.same (s34.trans s5)
            have ht : ps.take (i + 1) = ps.take i ++ [c] := by rw [List.take_succ_eq_append_getElem hil, hie]
            refine ⟨rfl, .ref ya, rfl, ya, _, 0, _, rfl, rfl, .inl (.inl pb.t), atI_nat (j := 0) rfl, _, e5, ?_, ?_, fun c2 o2 h2 => ?_⟩
            · rw [List.length_map, List.length_take]
              exact Nat.lt_of_le_of_lt (show min i ps.length ≤ 1000 by omega) (by decide)
            · rw [upd_same, ht, List.map_append] <;> rfl
            · rw [upd_ne (ne_of_none h2 hE)]
              exact s5 _ _ h2
          · obtain ⟨e5, s5⟩ := hP
            rw [hlp, List.take_of_length_le (Nat.le_refl _), show (ps.map fun c => V.bl c.1) = (ps.map (·.1)).map V.bl by rw [List.map_map] <;> rfl] at e5
            refine ⟨E5, _, rfl, .inl (.inl e5), .ref f7, rfl, .ref g7, rfl, (show 3 ≤ sizeLine by decide), fun z hz => ?_⟩
            have s6 := smU (o := HO.tup [.bl ((ps.map (·.1)).any id), .ref f7, .ref g7]) hz
            have sF := s34.trans (s5.trans s6)
            have eP : pO (.choice l) w1 = ((ps.any (·.1), ps.flatMap (·.2.1), ps.flatMap (·.2.2)), wi) := by
              show (((pL l w1).1.any (·.1), (pL l w1).1.flatMap (·.2.1), (pL l w1).1.flatMap (·.2.2)), (pL l w1).2) = _
              rw [ec]
            have ea : (ps.map (·.1)).any id = ps.any (·.1) := by rw [List.any_map] <;> rfl
            refine ⟨.ref z, _, _, _, _, _, asi, rfl, ?_, ?_, x3, k3.trans x3 (KW.same sF)⟩
            · rw [eP]
              refine ⟨z, f7, g7, rfl, ?_, (s5.trans s6) _ _ ef, (s5.trans s6) _ _ eg, ap3.no ((s34.trans s5).free hz), nf, ng⟩
              rw [upd_same, ea]
            · rw [eP]
              exact W3.up sF
      · rw [decide_eq_false fun z => hal (V.str.inj z)]
        rcases hX with ⟨rfl, _, _⟩ | ⟨b, vs, l, _, h, _⟩ | ⟨b, vs, l, _, h, _⟩
        · exact iteF ⟨.ref x, _, _, _, _, _, as1, rfl, py, W2, x2, k2⟩
        · exact absurd h hch
        · exact absurd h hal
    obtain ⟨z, s2', s4', s5', s6', s7', as3, rfl, pz, W3, x3, k3⟩ := hM
    exact ⟨z, rfl, q z H3 as3 pz W3 x3 k3⟩
end
end Sf4
namespace Sf4
open PySem PySem.Spec PyProof.Rows L2 Sf
def iD (l : List Nat) : List PyData := l.map fun (i : Nat) => PyData.int (i : Int)
def ptD (c : Pt) : PyData := .tuple [.bool c.1, .list (iD c.2.1), .list (iD c.2.2)]
theorem iD_ok : ∀ l : List Nat, PyData.canLayAll0 (iD l) = true ∧ PyData.depthAll (iD l) = 0
  | [] => ⟨rfl, rfl⟩
  | i :: l => by
    obtain ⟨a, b⟩ := iD_ok l
    have e : iD (i :: l) = .int (i : Int) :: iD l := rfl
    rw [e]
    refine ⟨?_, ?_⟩
    · show (PyData.canLay0 (.int (i : Int)) && PyData.canLayAll0 (iD l)) = true
      rw [a] <;> rfl
    · show max (PyData.depth (.int (i : Int))) (PyData.depthAll (iD l)) = 0
      rw [b] <;> rfl
theorem ptD_ok (c : Pt) : PyData.canLay0 (ptD c) = true ∧ PyData.depth (ptD c) ≤ 2 := by
  obtain ⟨a1, b1⟩ := iD_ok c.2.1
  obtain ⟨a2, b2⟩ := iD_ok c.2.2
  refine ⟨?_, ?_⟩
  · simp only [ptD, PyData.canLay0, PyData.canLayAll0, a1, a2, Bool.and_true]
  · simp only [ptD, PyData.depth, PyData.depthAll, b1, b2]
    omega
theorem ptsD_ok : ∀ cs : List Pt, PyData.canLayAll0 (cs.map ptD) = true ∧ PyData.depthAll (cs.map ptD) ≤ 2
  | [] => ⟨rfl, Nat.zero_le _⟩
  | c :: cs => by
    obtain ⟨a, b⟩ := ptsD_ok cs
    obtain ⟨a2, b2⟩ := ptD_ok c
    refine ⟨?_, ?_⟩
    · show (PyData.canLay0 (ptD c) && PyData.canLayAll0 (cs.map ptD)) = true
      rw [a, a2] <;> rfl
    · show max (PyData.depth (ptD c)) (PyData.depthAll (cs.map ptD)) ≤ 2
      omega
theorem cpsD_shaped (cs : List Pt) : SeqAt.shaped (.list (cs.map ptD)) = true := by
  obtain ⟨a, b⟩ := ptsD_ok cs
  have h1 : PyData.canLay0 (.list (cs.map ptD)) = true := by simpa only [PyData.canLay0] using a
  have h2 : PyData.depth (.list (cs.map ptD)) ≤ 64 := by
    simp only [PyData.depth]
    omega
  unfold SeqAt.shaped
  rw [h1, decide_eq_true h2] <;> rfl
theorem ints_dp {K : PySem.W.Frag} {H : Hp} : ∀ l : List Nat, DpAll K H (nIs l) (iD l)
  | [] => .nil
  | i :: l => .cons (.int _) (ints_dp l)
theorem PtO.dp {K : PySem.W.Frag} {O : Addr → Prop} {H : Hp} {x : V} {c : Pt} (h : PtO O H x c) : Dp K H x (ptD c) := by
  obtain ⟨a, f, g, rfl, b⟩ := h
  exact .tup (.inl (.inl b.t)) (.cons (.bl _) (.cons (.lst (.inl (.inl b.f)) (ints_dp _)) (.cons (.lst (.inl (.inl b.g)) (ints_dp _)) .nil)))
theorem PtOs.dp {K : PySem.W.Frag} {O : Addr → Prop} {H : Hp} : ∀ {cs : List Pt} {vs : List V}, PtOs O H vs cs → DpAll K H vs (cs.map ptD)
  | [], _, h => by
    cases h
    exact .nil
  | c :: cs, _, h => by
    cases h with
    | cons a r => exact .cons a.dp r.dp
theorem cps_eqv (cs : List Pt) : PyData.eqv (.list (cs.map ptD)) (.list []) = cs.isEmpty := by
  cases cs <;> rfl
theorem PtOs.last {O : Addr → Prop} {H : Hp} : ∀ {cs : List Pt} {vs : List V} {c : Pt}, PtOs O H vs (cs ++ [c]) → ∃ us v, vs = us ++ [v] ∧ PtOs O H us cs ∧ PtO O H v c
  | [], _, _, h => by
    cases h with
    | cons a r =>
      cases r
      exact ⟨[], _, rfl, .nil, a⟩
  | d :: cs, _, _, h => by
    cases h with
    | cons a r =>
      obtain ⟨us, v, rfl, r1, r2⟩ := PtOs.last r
      exact ⟨_ :: us, v, rfl, .cons a r1, r2⟩
theorem atI_last {α : Type} (l : List α) (v : α) : atI (l ++ [v]) (-1) = some v := by
  unfold atI ixN
  have h1 : ¬ ((0 : Int) ≤ -1) := by decide
  rw [if_neg h1]
  have h2 : -((l ++ [v]).length : Int) ≤ -1 := by rw [List.length_append, List.length_singleton]; omega
  rw [if_pos h2]
  have h3 : (-1 + ((l ++ [v]).length : Int)).toNat = l.length := by rw [List.length_append, List.length_singleton]; omega
  show (some (-1 + ((l ++ [v]).length : Int)).toNat).bind (fun j => (l ++ [v])[j]?) = _
  rw [h3]
  show (l ++ [v])[l.length]? = some v
  rw [List.getElem?_append_right (Nat.le_refl _), Nat.sub_self] <;> rfl
/-- how far the copies are joined -/
structure Fs (n s e N S M : Nat) (cs : List Pt) (tl : Pt) (w : Wp) : Prop where
  rc : RCps n s cs.reverse
  tl : POk (n + cs.length * s) e tl
  le : n + cs.length * s ≤ e
  eN : e ≤ N
  ok : WOk w N M
  NS : N ≤ S
  top : S ≤ 1000
  bd : M + S * cs.length ≤ 10000
theorem Fs.step {n s e N S M : Nat} {cs : List Pt} {c tl : Pt} {w : Wp} (h : Fs n s e N S M (cs ++ [c]) tl w) (b : Bool) :
    Bn w c.2.2 tl.2.1 ∧ c.2.1.length ≤ 1000 ∧ tl.2.2.length ≤ 1000 ∧ Fs n s e N S (M + S) cs (if b = true then (true, (joinP c tl).2) else joinP c tl) ⟨w.le, lnk w.fo c.2.2 tl.2.1⟩ := by
  obtain ⟨rc, ht, le, eN, ok, NS, top, bd⟩ := h
  rw [List.reverse_append, List.reverse_singleton] at rc
  obtain ⟨hc, hr⟩ := (show POk (n + cs.reverse.length * s) (n + (cs.reverse.length + 1) * s) c ∧ RCps n s cs.reverse from rc)
  rw [List.length_reverse] at hc
  rw [List.length_append, List.length_singleton] at ht le bd
  have e1 : (cs.length + 1) * s = cs.length * s + s := Nat.succ_mul _ _
  have e2 : S * (cs.length + 1) = S * cs.length + S := Nat.mul_succ _ _
  have l1 := hc.f.len
  have l2 := hc.l.len
  have l3 := ht.f.len
  have l4 := ht.l.len
  refine ⟨⟨hc.l.nd, fun x hx => ?_, by omega, by omega, fun r hr => ?_⟩, by omega, by omega, hr, ?_, by omega, eN, ok.lnk hc.l.nd (fun x hx => by have := ht.f.lt x hx; omega) (by omega), NS, top, by omega⟩
  · rw [ok.fo]
    have := hc.l.lt x hx
    omega
  · have := (ok.bd r hr).1
    omega
  · have j := hc.join ht (by omega) le
    split
    · exact j.opt true
    · exact j
def NCnt : List Str := ["self", "least", "most", "tree", "many", "copies", "tail", "turn"]
theorem scCounted : FnScope NCnt ["self", "least", "most", "tree"] (defScope sCounted) := ⟨rfl, rfl, rfl, by decide +kernel, rfl, by decide +kernel, by decide +kernel⟩
theorem fin_step (least : Nat) (cs : List Pt) (c tl : Pt) (fo : List (List Nat)) : fin least (cs ++ [c]).reverse tl fo = fin least cs.reverse (if cs.length + 1 > least then (true, (joinP c tl).2) else joinP c tl) (lnk fo c.2.2 tl.2.1) := by
  rw [List.reverse_append, List.reverse_singleton]
  show fin least cs.reverse (if cs.reverse.length + 1 > least then (true, (joinP c tl).2) else joinP c tl) (lnk fo c.2.2 tl.2.1) = _
  rw [List.length_reverse]
theorem cntd_none (a : Nat) (cs : List Pt) (c : Pt) (w : Wp) : cntd a none (cs ++ [c], w) = ((fin cs.length cs.reverse (if a > 0 then c else (true, c.2)) (lnk w.fo c.2.2 c.2.1)).1, ⟨w.le, (fin cs.length cs.reverse (if a > 0 then c else (true, c.2)) (lnk w.fo c.2.2 c.2.1)).2⟩) := by
  show (match (cs ++ [c]).reverse with | [] => (e0, w) | c :: r => ((fin r.length r (if a > 0 then c else (true, c.2)) (lnk w.fo c.2.2 c.2.1)).1, ⟨w.le, (fin r.length r (if a > 0 then c else (true, c.2)) (lnk w.fo c.2.2 c.2.1)).2⟩) : Pt × Wp) = _
  have e : (cs ++ [c]).reverse = c :: cs.reverse := by rw [List.reverse_append, List.reverse_singleton] <;> rfl
  rw [e]
  dsimp only
  rw [List.length_reverse]
/-- the state of the loops that join the copies -/
def CSt (C p dx la fa D : Addr) (as asi : List Addr) (O1 : Addr → Prop) (H : Hp) (n s N S least : Nat) (R : Pt × Wp) (H5 : Hp) (cs : List Pt) (y : V) : Prop :=
  ∃ acc tl w' M', H5 D = some (.lst acc) ∧ PtOs O1 H5 acc cs ∧ PtO O1 H5 y tl ∧ WrA C p dx la fa H5 w' asi ∧ KW p la fa as H H5 ∧ Apt p la fa asi H5 O1 ∧ Fs n s N N S M' cs tl w' ∧ R = ((fin least cs.reverse tl w'.fo).1, ⟨w'.le, (fin least cs.reverse tl w'.fo).2⟩)
theorem CSt.pop {C p dx la fa D : Addr} {as asi : List Addr} {O1 : Addr → Prop} {H : Hp} {n s N S least : Nat} {R : Pt × Wp} {H5 : Hp} {cs : List Pt} {c : Pt} {y : V} (h : CSt C p dx la fa D as asi O1 H n s N S least R H5 (cs ++ [c]) y) (nD : ¬ Own p la fa asi D) (oD : O1 D) (hD : H D = none) (x : Ext H as asi) :
    ∃ us v tl w', H5 D = some (.lst (us ++ [v])) ∧ WrA C p dx la fa (upd H5 D (.lst us)) w' asi ∧ Apt p la fa asi (upd H5 D (.lst us)) O1 ∧ PtO O1 (upd H5 D (.lst us)) v c ∧ PtO O1 (upd H5 D (.lst us)) y tl ∧ Bn w' c.2.2 tl.2.1 ∧ c.2.1.length ≤ 1000 ∧ tl.2.2.length ≤ 1000 ∧
      ∀ z H7, WrA C p dx la fa H7 ⟨w'.le, lnk w'.fo c.2.2 tl.2.1⟩ asi → KW p la fa asi (upd H5 D (.lst us)) H7 → PtO O1 H7 z (joinP c tl) → (∀ z2 H8, Same H7 H8 → PtO O1 H8 z2 (if cs.length + 1 > least then (true, (joinP c tl).2) else joinP c tl) → CSt C p dx la fa D as asi O1 H n s N S least R H8 cs z2) := by
  obtain ⟨acc, tl, w', M', eD, pps, py, W, k, ap, fs, er⟩ := h
  obtain ⟨us, v, rfl, p1, p2⟩ := pps.last
  have st : ∀ b o, ¬ O1 b → H5 b = some o → upd H5 D (.lst us) b = some o := fun b o h e => by
    rw [upd_ne fun z => h (by rw [z]; exact oD)]
    exact e
  have ap6 : Apt p la fa asi (upd H5 D (.lst us)) O1 := ⟨ap.sub, fun b hb => by
    by_cases z : b = D
    · exact ⟨_, by rw [z]; exact upd_same⟩
    · rw [upd_ne z]
      exact ap.all b hb⟩
  obtain ⟨b1, b2, b3, b4⟩ := fs.step (decide (cs.length + 1 > least))
  refine ⟨us, v, tl, w', eD, W.wr nD, ap6, p2.mono st, py.mono st, b1, b2, b3, fun z H7 W7 k7 _ z2 H8 s8 pz => ?_⟩
  have un : ∀ {b : Addr}, ¬ O1 b → ¬ Own p la fa asi b := fun h z => h (ap.sub _ z)
  have fr : ∀ b o, ¬ O1 b → H5 b = some o → H8 b = some o := fun b o h e => s8 _ _ (k7 b o (un h) (st b o h e))
  have kk : KW p la fa as H H8 := ((KW.put k .refl hD).trans x k7).trans x (KW.same s8)
  refine ⟨us, _, ⟨w'.le, lnk w'.fo c.2.2 tl.2.1⟩, M' + S, s8 _ _ (k7 D _ nD upd_same), p1.mono fr, pz, W7.up s8, kk, ⟨ap.sub, fun b hb => ?_⟩, ?_, ?_⟩
  · by_cases ho : Own p la fa asi b
    · obtain ⟨o, e, _⟩ := W7.own ho
      exact ⟨o, s8 _ _ e⟩
    · obtain ⟨o, e⟩ := ap6.all b hb
      exact ⟨o, s8 _ _ (k7 b o ho e)⟩
  · by_cases hc : cs.length + 1 > least
    · rw [if_pos hc]
      rw [if_pos (decide_eq_true hc)] at b4
      exact b4
    · rw [if_neg hc]
      rw [if_neg (by rw [decide_eq_false hc]; decide)] at b4
      exact b4
  · rw [er, fin_step]
section
variable {P : Program} {w : World} {K : PySem.W.Frag} {mg : Str → Option Value} {base : Heap} {C : Addr} {f : Nat → Addr} {fd : Nat → FuncData} {tk : Nat → Tok}
theorem ok_counted (T : WT K mg C f fd tk) {k d : Nat} (hk : 2 ≤ k) (GA : FnOk P w K mg base CX0 k (f 3) (fd 3) ["self", "tree"] (spPO C d)) : FnOk P w K mg base CX0 (k + 1) (f 4) (fd 4) ["self", "least", "most", "tree"] (spCnt C d) := by
  refine T.mCount.F.ok scCounted (fun vs H Q E h => ?_) (fun cdv A outer s H vs Q E hr h => ?_)
  · obtain ⟨p, dx, la, fa, a, b, v, t, w, as, O, S, n, M, rfl, _⟩ := h
    rfl
  · obtain ⟨p, dx, la, fa, a, b, v, t, w, as, O, S, n, M, rfl, hd, hw, hm, ht, W, ap, ft, q⟩ := h
    have GJ := ok_joined (P := P) (base := base) (w := ‹World›) T
    have GL := ok_link (P := P) (base := base) (w := ‹World›) T
    have hu64 := hr.units
    refine ⟨_, Evl.pss_cut (ps_set (i := 4) scCounted.nd rfl (.inl rfl) (pe_ifExp (pt_cmpR op_isN (pv 2) pe_non (nomark _)) (pe_callB (call_max2 rfl) (by rfl) T.zmax (by decide +kernel) (pa_cons (pv 1) (pa_cons pe_int pa_nil))) (pv 2)))
      (pss_cons (ps_par (i := 5) (j := 6) rfl scCounted.nd rfl rfl (by decide) rfl rfl (pa_cons (pe_lc (own := [("turn", 7)]) (g := gName 7) (tt := tYes) (te := tMeth C "part_of" (spPO C d) [] E0 (tVar 0) (tCons (tVar 3) tNil)) rfl scCounted.nd (pi_range1 rfl T.zrange (pa_cons (pv 4) pa_nil)) (blkOk_by (N := NCnt) (sc := defScope sCounted) (by decide +kernel))
            (fun _ _ _ _ _ => pg_name (i := 7) scCounted.nd rfl (Or.inl rfl)) (fun _ _ _ _ _ => pts_nil) (fun _ _ _ _ _ => pe_meth (pv 0) T.cl T.mPart.m GA hr T.mPart.b .nil pass0 (pa_cons (pv 3) pa_nil)))
          (pa_cons (pe_tup (pa_cons pe_bl (pa_cons (pe_lst pa_nil) (pa_cons (pe_lst pa_nil) pa_nil)))) pa_nil)) (by rfl))
      (Evl.pss_cut (ps_if (pt_cmpR op_isN (pv 2) pe_non (nomark _))
          (pss_cons (ps_expr (pe_meth (pv 0) T.cl T.mLink.m GL (hr.mono (Nat.le_trans (by decide) hk)) T.mLink.b .nil pass0 (pa_cons (pe_ix ix_tup (pe_ix ix_list (pv 5) (pe_un un_neg pe_int) (fun _ _ => rfl)) pe_int (fun _ _ => rfl)) (pa_cons (pe_ix ix_tup (pe_ix ix_list (pv 5) (pe_un un_neg pe_int) (fun _ _ => rfl)) pe_int (fun _ _ => rfl)) pa_nil))))
          (pss_cons (ps_set (i := 6) scCounted.nd rfl (.inl rfl) (pe_ifExp (pt_cmpR op_gt (pv 1) pe_int (nomark _)) (pe_bm0 PySem.F.plainAttrs_list PySem.F.slot_list_pop PySem.F.type_list_pop mt_pop (pv 5))
              (pe_tup (pa_cons pe_bl (StX.pa_star (pe_slice sl_tup (pe_bm0 PySem.F.plainAttrs_list PySem.F.slot_list_pop PySem.F.type_list_pop mt_pop (pv 5)) (po_some pe_int) po_none) pa_nil)))))
          (pss_one (ps_set (i := 1) scCounted.nd rfl (.inl rfl) (pe_callB call_len_seq (by rfl) T.zlen PySem.boot_len (pa_cons (pv 5) pa_nil)))))) pss_nil)
      (Evl.pss_cut (ps_while PassesOwn.never (pt_cmpR op_gt (pe_callB call_len_seq (by rfl) T.zlen PySem.boot_len (pa_cons (pv 5) pa_nil)) (pv 1) (nomark _))
          (pss_cons (ps_set (i := 6) scCounted.nd rfl (.inl rfl) (pe_meth (pv 0) T.cl T.mJoin.m GJ (hr.mono hk) T.mJoin.b .nil pass0 (pa_cons (pe_bm0 PySem.F.plainAttrs_list PySem.F.slot_list_pop PySem.F.type_list_pop mt_pop (pv 5)) (pa_cons (pv 6) pa_nil))))
          (pss_one (ps_set (i := 6) scCounted.nd rfl (.inl rfl) (pe_tup (pa_cons pe_bl (pa_cons (pe_ix ix_tup (pv 6) pe_int (fun _ _ => rfl)) (pa_cons (pe_ix ix_tup (pv 6) pe_int (fun _ _ => rfl)) pa_nil))))))))
      (Evl.pss_cut (ps_while PassesOwn.never (pt_cmpR (op_neD hu64) (pv 5) (pe_lst pa_nil) (nomark _))
          (pss_one (ps_set (i := 6) scCounted.nd rfl (.inl rfl) (pe_meth (pv 0) T.cl T.mJoin.m GJ (hr.mono hk) T.mJoin.b .nil pass0 (pa_cons (pe_bm0 PySem.F.plainAttrs_list PySem.F.slot_list_pop PySem.F.type_list_pop mt_pop (pv 5)) (pa_cons (pv 6) pa_nil))))))
      (pss_one (ps_ret (pv 6))))))), ?_⟩
    have nP : (wf_ la fa).lookup ("part_of" : Str) = none := wf_no (by decide +kernel) (by decide +kernel)
    have nL : (wf_ la fa).lookup ("link" : Str) = none := wf_no (by decide +kernel) (by decide +kernel)
    have nJ : (wf_ la fa).lookup ("joined" : Str) = none := wf_no (by decide +kernel) (by decide +kernel)
    have f1 := ft.le
    have f2 := ft.top
    have f3 := ft.bd
    have f4 : S * (many a b * (lks t + 1) + 1) = S * (many a b * lks t) + S * many a b + S := by rw [Nat.mul_succ (many a b) (lks t), Nat.mul_add, Nat.mul_add, Nat.mul_one]
    refine ⟨fun σ H1 => σ = [some (.ref p), some (.int a), some (mst b), some v, some (.int (many a b : Nat)), none, none, none] ∧ H1 = H, ?_, fun σ H1 hM => ?_⟩
    · refine ⟨mst b, rfl, rfl, _, rfl, ?_⟩
      cases b with
      | none =>
        refine iteT ⟨_, rfl, (a : Int), 1, rfl, ?_, rfl⟩
        have e : (if (1 : Int) > (a : Int) then (1 : Int) else (a : Int)) = ((many a none : Nat) : Int) := by
          show _ = ((max a 1 : Nat) : Int)
          split <;> omega
        show [some (V.ref p), some (V.int a), some (mst none), some v, some (V.int (if (1 : Int) > (a : Int) then (1 : Int) else (a : Int))), none, none, none] = _
        rw [e]
      | some m => exact iteF ⟨_, rfl, rfl, rfl⟩
    obtain ⟨rfl, rfl⟩ := hM
    refine ⟨_, rfl, ((many a b : Nat) : Int), rfl, by omega, by omega, fun D hD => ?_⟩
    rw [Int.toNat_natCast]
    have nDo : ¬ Own p la fa as D := W.no hD
    refine lc_it (walk_range (lo := 0) (n := many a b)) (fun i H3 => ∃ acc ps wi asi ni Mi, H3 D = some (.lst acc) ∧ acc.length = i ∧ PtOs (fun c => (O c ∨ c ∈ asi) ∨ c = D) H3 acc ps ∧ WrA C p dx la fa H3 wi asi ∧ ¬ Own p la fa asi D ∧ Ext H1 as asi ∧ KW p la fa as H1 H3 ∧
        rep (pO t) (many a b) w = (ps ++ (rep (pO t) (many a b - i) wi).1, (rep (pO t) (many a b - i) wi).2) ∧ WOk wi ni Mi ∧ ni + (many a b - i) * sz t ≤ S ∧ Mi + S * ((many a b - i) * lks t) ≤ 10000 ∧ Apt p la fa asi H3 (fun c => (O c ∨ c ∈ asi) ∨ c = D))
      ⟨[], [], w, as, n, M, upd_same, rfl, .nil, W.wr nDo, nDo, .refl, KW.put .refl .refl hD, rfl, ft.ok, f1, by show M + S * (many a b * lks t) ≤ 10000; omega, ⟨fun c h => .inl (.inl (ap.sub c h)), fun c h => ?_⟩⟩ (fun _ _ _ _ => True.intro) (fun i xi H3 H3' hi hP hy => ?_) (fun H3 hP => ?_)
    · by_cases z : c = D
      · exact ⟨_, by rw [z]; exact upd_same⟩
      · rw [upd_ne z]
        rcases h with (h | h) | h
        · exact ap.all c h
        · obtain ⟨o, e, _⟩ := W.own (.inr (.inr (.inr h)))
          exact ⟨o, e⟩
        · exact absurd h z
    · obtain ⟨acc, ps, wi, asi, ni, Mi, eD, hai, pps, W3, nDi, x3, k3, ec, o2, b1, b2, ap4⟩ := hP
      obtain ⟨rfl, rfl⟩ := hy
      obtain ⟨m', hm'⟩ : ∃ m', many a b - i = m' + 1 := ⟨many a b - i - 1, by omega⟩
      have hm2 : many a b - (i + 1) = m' := by omega
      rw [hm'] at ec b1 b2
      have e1 : (m' + 1) * sz t = m' * sz t + sz t := Nat.succ_mul _ _
      have e2 : S * ((m' + 1) * lks t) = S * (m' * lks t) + S * lks t := by rw [Nat.succ_mul, Nat.mul_add]
      obtain ⟨g1, g2⟩ := pO_ok (S := S) t wi ni Mi o2 (by omega)
      refine ⟨rfl, .ref p, rfl, p, dx, _, rfl, W3.e, nP, v, rfl, ?_⟩
      refine ⟨p, dx, la, fa, v, t, wi, asi, _, S, ni, Mi, rfl, hd, hw, ht.mono (k3.kt W), W3, ap4, ⟨o2, by omega, f2, by omega⟩, fun y2 H4 as2 py2 W4 x4 k4 => ?_⟩
      have nD2 : ¬ Own p la fa as2 D := x4.own eD nDi
      have eD4 := k4 D _ nDi eD
      have up : ∀ c o, ¬ ((O c ∨ c ∈ asi) ∨ c = D) → H3' c = some o → ¬ ((O c ∨ c ∈ as2) ∨ c = D) := fun c o h e z => by
        obtain ⟨m, rfl, hm⟩ := x4
        rcases z with (z | z) | z
        · exact h (.inl (.inl z))
        · rcases List.mem_append.mp z with z | z
          · exact h (.inl (.inr z))
          · rw [hm c z] at e
            cases e
        · exact h (.inr z)
      have ow : ∀ c, Own p la fa as2 c → O c ∨ c ∈ as2 := fun c z => by
        rcases z with z | z | z | z
        · exact .inl (ap.sub _ (.inl z))
        · exact .inl (ap.sub _ (.inr (.inl z)))
        · exact .inl (ap.sub _ (.inr (.inr (.inl z))))
        · exact .inr z
      have st : ∀ c o, ¬ ((O c ∨ c ∈ as2) ∨ c = D) → H3' c = some o → upd H4 D (.lst (acc ++ [y2])) c = some o := fun c o h e => by
        rw [upd_ne fun z => h (.inr z)]
        exact k4 c o (fun z => h (.inl (ow c (x4.own2 z)))) e
      have py3 : PtO (fun c => (O c ∨ c ∈ as2) ∨ c = D) (upd H4 D (.lst (acc ++ [y2]))) y2 (pO t wi).1 := (py2.sub (O' := fun c => (O c ∨ c ∈ as2) ∨ c = D) fun c o h _ z => h (by
          rcases z with (z | z) | z
          · exact .inl (.inl (.inl z))
          · exact .inr z
          · exact .inl (.inr z))).mono fun c o h e => by
            rw [upd_ne fun z => h (.inr z)]
            exact e
      refine ⟨acc, eD4, Nat.lt_of_le_of_lt (show acc.length ≤ 1000 by omega) (by decide), acc ++ [y2], ps ++ [(pO t wi).1], (pO t wi).2, as2, ni + sz t, Mi + S * lks t, upd_same, by rw [List.length_append, hai] <;> rfl, ((pps.sub up).mono st).snoc py3, W4.wr nD2, nD2, x3.trans k3 W3 x4, KW.put (k3.trans x3 k4) .refl hD, ?_, g1, by rw [hm2]; omega, by rw [hm2]; omega, ⟨fun c h => .inl (ow c h), fun c h => ?_⟩⟩
      · rw [hm2, ec]
        show (ps ++ ((pO t wi).1 :: _), _) = ((ps ++ [(pO t wi).1]) ++ _, _)
        rw [List.append_assoc] <;> rfl
      · by_cases z : c = D
        · exact ⟨_, by rw [z]; exact upd_same⟩
        · rw [upd_ne z]
          by_cases ho : Own p la fa as2 c
          · obtain ⟨o, e, _⟩ := W4.own ho
            exact ⟨o, e⟩
          · rcases h with (h | h) | h
            · obtain ⟨o, e⟩ := ap4.all c (.inl (.inl h))
              exact ⟨o, k4 c o (fun z => ho (x4.own2 z)) e⟩
            · exact absurd (.inr (.inr (.inr h))) ho
            · exact absurd h z
    obtain ⟨acc, ps, wi, asi, ni, Mi, eD, hai, pps, W3, nDi, x3, k3, ec, _, _, _, ap3⟩ := hP
    rw [Nat.sub_self] at ec
    have ec : rep (pO t) (many a b) w = (ps ++ [], wi) := ec
    rw [List.append_nil] at ec
    obtain ⟨g1, g2⟩ := rep_ok (pO_ok (S := S) t) (many a b) w n M ft.ok f1
    have hpl := rep_len (pO t) (many a b) w
    rw [ec] at g1 g2 hpl
    have g1 : WOk wi (n + many a b * sz t) (M + S * (many a b * lks t)) := g1
    have g3 : RCps n (sz t) ps.reverse := Cps.rev (show Cps (sz t) n ps from g2)
    have hpl : ps.length = many a b := hpl
    have hR : cntd a b (rep (pO t) (many a b) w) = cntd a b (ps, wi) := by rw [ec]
    rw [hR] at q
    refine ⟨Nat.zero_le _, fun c hc => ⟨Nat.zero_le _, fun g hg => ⟨(show 3 ≤ sizeLine by decide), fun x hx => ⟨_, _, rfl, ?_⟩⟩⟩⟩
    have s1 := smU (o := HO.lst []) hc
    have s2 := smU (o := HO.lst []) hg
    have s3 := smU (o := HO.tup [.bl true, .ref c, .ref g]) hx
    have sA := s1.trans (s2.trans s3)
    have x0 : PtO (fun c => (O c ∨ c ∈ asi) ∨ c = D) (upd (upd (upd H3 c (.lst [])) g (.lst [])) x (.tup [.bl true, .ref c, .ref g])) (.ref x) e0 :=
      ⟨x, c, g, rfl, upd_same, s3 _ _ (s2 _ _ upd_same), s3 _ _ upd_same, ap3.no ((s1.trans s2).free hx), ap3.no hc, ap3.no (s1.free hg)⟩
    generalize upd (upd (upd H3 c (.lst [])) g (.lst [])) x (.tup [.bl true, .ref c, .ref g]) = H4 at sA x0 ⊢
    have W4 := W3.up sA
    have ap4 : Apt p la fa asi H4 (fun c => (O c ∨ c ∈ asi) ∨ c = D) := ⟨ap3.sub, fun b hb => by
      obtain ⟨o, e⟩ := ap3.all b hb
      exact ⟨o, sA _ _ e⟩⟩
    have pps4 := pps.mono fun b o _ e => sA b o e
    have k4 : KW p la fa as H1 H4 := k3.trans x3 (KW.same sA)
    have oD : (fun c => (O c ∨ c ∈ asi) ∨ c = D) D := .inr rfl
    refine ⟨fun σ H5 => ∃ (least : Nat) (cs : List Pt) (y : V), σ = [some (.ref p), some (.int least), some (mst b), some v, some (.int (many a b : Nat)), some (.ref D), some y, none] ∧ CSt C p dx la fa D as asi (fun c => (O c ∨ c ∈ asi) ∨ c = D) H1 n (sz t) (n + many a b * sz t) S least (cntd a b (ps, wi)) H5 cs y, ?_, fun σ H5 hM => ?_⟩
    · refine ⟨mst b, rfl, rfl, _, rfl, ?_⟩
      cases b with
      | some m =>
        refine iteF ⟨a, ps, .ref x, rfl, acc, e0, wi, M + S * (many a (some m) * lks t), sA _ _ eD, pps4, x0, W4, k4, ap4, ⟨g3, .e0, ?_, Nat.le_refl _, g1, f1, f2, ?_⟩, rfl⟩
        · rw [hpl]
          exact Nat.le_refl _
        · rw [hpl]
          omega
      | none =>
        obtain ⟨cs, c1, rfl⟩ : ∃ cs c, ps = cs ++ [c] := by
          have : ps ≠ [] := fun z => by
            rw [z] at hpl
            have : (0 : Nat) = max a 1 := hpl
            omega
          exact ⟨ps.dropLast, ps.getLast this, (List.dropLast_concat_getLast this).symm⟩
        obtain ⟨us, v1, rfl, p1, p2⟩ := pps4.last
        obtain ⟨pa, pf, pg, rfl, pb⟩ := p2
        have eD4 := sA _ _ eD
        have un : ∀ {b : Addr}, ¬ ((O b ∨ b ∈ asi) ∨ b = D) → ¬ Own p la fa asi b := fun h z => h (ap4.sub _ z)
        rw [List.reverse_append, List.reverse_singleton] at g3
        obtain ⟨h1, h2⟩ := (show POk (n + cs.reverse.length * sz t) (n + (cs.reverse.length + 1) * sz t) c1 ∧ RCps n (sz t) cs.reverse from g3)
        rw [List.length_reverse] at h1
        rw [List.length_append, List.length_singleton] at hpl
        have e1 : (cs.length + 1) * sz t = cs.length * sz t + sz t := Nat.succ_mul _ _
        have e2 : S * (cs.length + 1) = S * cs.length + S := Nat.mul_succ _ _
        rw [hpl] at h1 e1 e2
        have l1 := h1.f.len
        have l2 := h1.l.len
        have B : Bn wi c1.2.2 c1.2.1 := ⟨h1.l.nd, fun x hx => by
          rw [g1.fo]
          have := h1.l.lt x hx
          omega, by omega, by omega, fun r hr => by
          have := (g1.bd r hr).1
          omega⟩
        have w5 := g1.lnk (S := S) h1.l.nd (fun x hx => (h1.f.lt x hx).2) (by omega)
        refine iteT ⟨.ref p, rfl, p, dx, _, rfl, W4.e, nL, .ref D, rfl, 1, rfl, D, _, -1, _, rfl, rfl, .inl (.inl eD4), atI_last _ _, pa, _, 2, _, rfl, rfl, .inl (.inl pb.t), atI_nat (j := 2) rfl, .ref D, rfl, 1, rfl, D, _, -1, _, rfl, rfl, .inl (.inl eD4), atI_last _ _, pa, _, 1, _, rfl, rfl, .inl (.inl pb.t), atI_nat (j := 1) rfl, ?_⟩
        refine ⟨p, dx, la, fa, pg, pf, wi, asi, _, _, rfl, W4, pb.g, pb.f, un pb.ng, un pb.nf, B, fun H5 W5 k5 => ?_⟩
        have eD5 := k5 D _ nDi eD4
        have fr : ∀ b o, ¬ ((O b ∨ b ∈ asi) ∨ b = D) → H4 b = some o → upd H5 D (.lst us) b = some o := fun b o h e => by
          rw [upd_ne fun z => h (.inr z)]
          exact k5 b o (un h) e
        have lastE : (us ++ [V.ref pa])[(us ++ [V.ref pa]).length - 1]? = some (.ref pa) := by
          rw [List.length_append, List.length_singleton, Nat.add_sub_cancel, List.getElem?_append_right (Nat.le_refl _), Nat.sub_self] <;> rfl
        have dr : (us ++ [V.ref pa]).dropLast = us := List.dropLast_concat
        have hlu := p1.len
        have ap6 : ∀ {H6 : Hp}, Same (upd H5 D (.lst us)) H6 → Apt p la fa asi H6 (fun c => (O c ∨ c ∈ asi) ∨ c = D) := fun {H6} s6 => ⟨ap4.sub, fun b hb => by
          by_cases z : b = D
          · exact ⟨_, by rw [z]; exact s6 _ _ upd_same⟩
          · by_cases ho : Own p la fa asi b
            · obtain ⟨o, e, _⟩ := W5.own ho
              exact ⟨o, s6 _ _ (by rw [upd_ne z]; exact e)⟩
            · obtain ⟨o, e⟩ := ap4.all b hb
              exact ⟨o, s6 _ _ (by rw [upd_ne z]; exact k5 b o ho e)⟩⟩
        have pc1 : PtO (fun c => (O c ∨ c ∈ asi) ∨ c = D) H4 (.ref pa) c1 := ⟨pa, pf, pg, rfl, pb⟩
        have fin1 : ∀ (y : V) (tl : Pt) (H6 : Hp), Same (upd H5 D (.lst us)) H6 → PtO (fun c => (O c ∨ c ∈ asi) ∨ c = D) H6 y tl → tl = (if a > 0 then c1 else (true, c1.2)) → CSt C p dx la fa D as asi (fun c => (O c ∨ c ∈ asi) ∨ c = D) H1 n (sz t) (n + many a none * sz t) S cs.length (cntd a none (cs ++ [c1], wi)) H6 cs y := fun y tl H6 s6 py et => by
          refine ⟨us, tl, ⟨wi.le, lnk wi.fo c1.2.2 c1.2.1⟩, M + S * (many a none * lks t) + S, s6 _ _ upd_same, p1.mono fun b o h e => s6 _ _ (fr b o h e), py, (W5.wr nDi).up s6, (KW.put (k4.trans x3 k5) .refl hD).trans0 (KW.same s6), ap6 s6, ⟨h2, ?_, by omega, Nat.le_refl _, w5, f1, f2, by omega⟩, ?_⟩
          · rw [et]
            split
            · exact h1
            · exact h1.opt true
          · rw [et]
            exact cntd_none a cs c1 wi
        refine ⟨_, rfl, _, _, rfl, rfl, _, rfl, ite2 (fun ha => ?_) (fun ha => ?_)⟩
        · refine ⟨.ref D, rfl, .inl ⟨rfl, _, .inl (.inl eD5)⟩, D, _, _, rfl, rfl, eD5, lastE, ?_⟩
          rw [dr]
          refine ⟨.ref D, rfl, D, _, rfl, .inl (.inl (.inl upd_same)), cs.length, cs, .ref pa, by rw [hlu] <;> rfl, ?_⟩
          have ha2 : a > 0 := by
            have := of_decide_eq_true ha
            omega
          exact fin1 _ c1 _ (Same.refl _) (pc1.mono fr) (by rw [if_pos ha2])
        · refine ⟨.ref D, rfl, .inl ⟨rfl, _, .inl (.inl eD5)⟩, D, _, _, rfl, rfl, eD5, lastE, ?_⟩
          rw [dr]
          have pb5 : PtO (fun c => (O c ∨ c ∈ asi) ∨ c = D) (upd H5 D (.lst us)) (.ref pa) c1 := pc1.mono fr
          have tb : upd H5 D (.lst us) pa = some (.tup [.bl c1.1, .ref pf, .ref pg]) := fr _ _ pb.nt pb.t
          refine ⟨1, rfl, pa, _, rfl, .inl (.inl tb), ?_, fun t1 ht1 => ?_⟩
          · exact fun z => absurd z.1 (show ¬ (HT.sIx 3 0 (some 1) = 0) by decide)
          have s6 := smU (o := HO.tup (cutV [V.bl c1.1, .ref pf, .ref pg] (some 1) none)) ht1
          refine ⟨t1, _, rfl, .inl (.inl (.inl upd_same)), (show 3 ≤ sizeLine by decide), fun t2 ht2 => ?_⟩
          have s7 := smU (o := HO.tup (.bl true :: (cutV [V.bl c1.1, .ref pf, .ref pg] (some 1) none ++ []))) ht2
          refine ⟨.ref D, rfl, D, _, rfl, .inl (.inl (.inl ((s6.trans s7) _ _ upd_same))), cs.length, cs, .ref t2, by rw [hlu] <;> rfl, ?_⟩
          have ha2 : ¬ a > 0 := fun z => ha (decide_eq_true (by omega))
          exact fin1 _ (true, c1.2) _ (s6.trans s7) ⟨t2, pf, pg, rfl, upd_same, (s6.trans s7) _ _ (fr _ _ pb.nf pb.f), (s6.trans s7) _ _ (fr _ _ pb.ng pb.g), (ap6 s6).no ht2, pb.nf, pb.ng⟩ (by rw [if_neg ha2])
    obtain ⟨least, cs, y, rfl, st5⟩ := hM
    have un3 : ∀ {H6 : Hp} {b : Addr}, Apt p la fa asi H6 (fun c => (O c ∨ c ∈ asi) ∨ c = D) → ¬ ((O b ∨ b ∈ asi) ∨ b = D) → ¬ Own p la fa asi b := fun ap6 h z => h (ap6.sub _ z)
    have splt : ∀ cs : List Pt, cs ≠ [] → ∃ us c, cs = us ++ [c] := fun cs h => ⟨cs.dropLast, cs.getLast h, (List.dropLast_concat_getLast h).symm⟩
    have lastE : ∀ (us : List V) (z : V), (us ++ [z])[(us ++ [z]).length - 1]? = some z := fun us z => by
      rw [List.length_append, List.length_singleton, Nat.add_sub_cancel, List.getElem?_append_right (Nat.le_refl _), Nat.sub_self] <;> rfl
    refine ⟨fun σ H6 => ∃ (cs : List Pt) (y : V), cs.length ≤ least ∧ σ = [some (.ref p), some (.int least), some (mst b), some v, some (.int (many a b : Nat)), some (.ref D), some y, none] ∧ CSt C p dx la fa D as asi (fun c => (O c ∨ c ∈ asi) ∨ c = D) H1 n (sz t) (n + many a b * sz t) S least (cntd a b (ps, wi)) H6 cs y, ?_, fun σ H6 hM => ?_⟩
    · refine ⟨fun m σ H6 => ∃ (cs : List Pt) (y : V), m = cs.length ∧ σ = [some (.ref p), some (.int least), some (mst b), some v, some (.int (many a b : Nat)), some (.ref D), some y, none] ∧ CSt C p dx la fa D as asi (fun c => (O c ∨ c ∈ asi) ∨ c = D) H1 n (sz t) (n + many a b * sz t) S least (cntd a b (ps, wi)) H6 cs y, ⟨_, cs, y, rfl, rfl, st5⟩, ?_⟩
      rintro m σ H6 ⟨cs, y, rfl, rfl, st6⟩
      obtain ⟨acc6, tl6, w6, M6, eD6, pps6, py6, W6, k6, ap6, fs6, er6⟩ := id st6
      have hl6 := pps6.len
      refine ⟨.ref D, rfl, D, _, rfl, .inl (.inl (.inl eD6)), _, rfl, _, _, rfl, rfl, _, rfl, ite2 (fun hlt => ?_) (fun hlt => ?_)⟩
      · have hlt2 : least < cs.length := by
          have := of_decide_eq_true hlt
          omega
        obtain ⟨us0, c1, rfl⟩ := splt cs (fun z => by rw [z] at hlt2; exact absurd hlt2 (Nat.not_lt_zero _))
        obtain ⟨us, v1, tl, w', eD7, W7, ap7, pv7, py7, B, b2, b3, nxt⟩ := st6.pop nDi oD hD x3
        rw [List.length_append, List.length_singleton] at hlt2
        refine ⟨fun σ' H' => ∃ y', σ' = [some (.ref p), some (.int least), some (mst b), some v, some (.int (many a b : Nat)), some (.ref D), some y', none] ∧ CSt C p dx la fa D as asi (fun c => (O c ∨ c ∈ asi) ∨ c = D) H1 n (sz t) (n + many a b * sz t) S least (cntd a b (ps, wi)) H' us0 y', fun σ' H' ⟨y', h1, h2⟩ => ⟨us0.length, by rw [List.length_append, List.length_singleton]; omega, us0, y', rfl, h1, h2⟩, ?_⟩
        refine ⟨.ref p, rfl, p, dx, _, rfl, W6.e, nJ, .ref D, rfl, .inl ⟨rfl, _, .inl (.inl eD7)⟩, D, _, _, rfl, rfl, eD7, lastE us v1, ?_⟩
        rw [List.dropLast_concat]
        refine ⟨y, rfl, p, dx, la, fa, v1, y, w', asi, c1, tl, _, rfl, W7, ap7, pv7, py7, B, b2, b3, fun z H7 pz W8 k8 => ?_⟩
        obtain ⟨tz, zf, zg, rfl, zb⟩ := id pz
        refine ⟨.ref tz, rfl, tz, _, 1, _, rfl, rfl, .inl (.inl zb.t), atI_nat (j := 1) rfl, .ref tz, rfl, tz, _, 2, _, rfl, rfl, .inl (.inl zb.t), atI_nat (j := 2) rfl, (show 3 ≤ sizeLine by decide), fun t2 ht2 => ?_⟩
        have s7 := smU (o := HO.tup [.bl true, .ref zf, .ref zg]) ht2
        have st8 := nxt _ H7 W8 k8 pz
        have ap8 : Apt p la fa asi H7 (fun c => (O c ∨ c ∈ asi) ∨ c = D) := ⟨ap7.sub, fun c hc => by
          by_cases ho : Own p la fa asi c
          · obtain ⟨o, e, _⟩ := W8.own ho
            exact ⟨o, e⟩
          · obtain ⟨o, e⟩ := ap7.all c hc
            exact ⟨o, k8 c o ho e⟩⟩
        refine ⟨.ref t2, rfl, st8 _ _ s7 ?_⟩
        rw [if_pos (show us0.length + 1 > least from hlt2)]
        exact ⟨t2, zf, zg, rfl, upd_same, s7 _ _ zb.f, s7 _ _ zb.g, ap8.no ht2, zb.nf, zb.ng⟩
      · exact ⟨cs, y, by
          have : ¬ ((least : Int) < (acc6.length : Int)) := fun z => hlt (decide_eq_true z)
          omega, rfl, st6⟩
    obtain ⟨cs, y, hcl, rfl, st6⟩ := hM
    refine ⟨fun σ H7 => ∃ (y : V), σ = [some (.ref p), some (.int least), some (mst b), some v, some (.int (many a b : Nat)), some (.ref D), some y, none] ∧ CSt C p dx la fa D as asi (fun c => (O c ∨ c ∈ asi) ∨ c = D) H1 n (sz t) (n + many a b * sz t) S least (cntd a b (ps, wi)) H7 [] y, ?_, fun σ H7 hM => ?_⟩
    · refine ⟨fun m σ H6 => ∃ (cs : List Pt) (y : V), m = cs.length ∧ cs.length ≤ least ∧ σ = [some (.ref p), some (.int least), some (mst b), some v, some (.int (many a b : Nat)), some (.ref D), some y, none] ∧ CSt C p dx la fa D as asi (fun c => (O c ∨ c ∈ asi) ∨ c = D) H1 n (sz t) (n + many a b * sz t) S least (cntd a b (ps, wi)) H6 cs y, ⟨_, cs, y, rfl, hcl, rfl, st6⟩, ?_⟩
      rintro m σ H6 ⟨cs, y, rfl, hcl, rfl, st6⟩
      obtain ⟨acc6, tl6, w6, M6, eD6, pps6, py6, W6, k6, ap6, fs6, er6⟩ := id st6
      refine ⟨.ref D, rfl, Nat.zero_le _, fun e1 he1 => ?_⟩
      have s6 := smU (o := HO.lst []) he1
      have st7 : CSt C p dx la fa D as asi (fun c => (O c ∨ c ∈ asi) ∨ c = D) H1 n (sz t) (n + many a b * sz t) S least (cntd a b (ps, wi)) (upd H6 e1 (.lst [])) cs y :=
        ⟨acc6, tl6, w6, M6, s6 _ _ eD6, pps6.mono fun c o _ e => s6 c o e, py6.same s6, W6.up s6, k6.trans0 (KW.same s6), ⟨ap6.sub, fun c hc => by
          obtain ⟨o, e⟩ := ap6.all c hc
          exact ⟨o, s6 _ _ e⟩⟩, fs6, er6⟩
      refine ⟨.list (cs.map ptD), .list [], .lst (.inl (.inl (s6 _ _ eD6))) (pps6.mono fun c o _ e => s6 c o e).dp, .lst (.inl (.inl upd_same)) .nil, cpsD_shaped cs, by decide, _, rfl, ?_⟩
      rw [cps_eqv]
      cases hcs : cs with
      | nil =>
        subst hcs
        exact iteF ⟨y, rfl, st7⟩
      | cons c0 r0 =>
        have hne : cs ≠ [] := fun z => by rw [z] at hcs; cases hcs
        rw [← hcs]
        clear hcs
        obtain ⟨us0, c1, rfl⟩ := splt cs hne
        obtain ⟨us, v1, tl, w', eD7, W7, ap7, pv7, py7, B, b2, b3, nxt⟩ := st7.pop nDi oD hD x3
        rw [List.length_append, List.length_singleton] at hcl
        rw [show (us0 ++ [c1]).isEmpty = false by cases us0 <;> rfl]
        refine iteT ⟨fun σ' H' => ∃ y', σ' = [some (.ref p), some (.int least), some (mst b), some v, some (.int (many a b : Nat)), some (.ref D), some y', none] ∧ CSt C p dx la fa D as asi (fun c => (O c ∨ c ∈ asi) ∨ c = D) H1 n (sz t) (n + many a b * sz t) S least (cntd a b (ps, wi)) H' us0 y', fun σ' H' ⟨y', h1, h2⟩ => ⟨us0.length, by rw [List.length_append, List.length_singleton]; omega, us0, y', rfl, by omega, h1, h2⟩, ?_⟩
        refine ⟨.ref p, rfl, p, dx, _, rfl, s6 _ _ W6.e, nJ, .ref D, rfl, .inl ⟨rfl, _, .inl (.inl eD7)⟩, D, _, _, rfl, rfl, eD7, lastE us v1, ?_⟩
        rw [List.dropLast_concat]
        refine ⟨y, rfl, p, dx, la, fa, v1, y, w', asi, c1, tl, _, rfl, W7, ap7, pv7, py7, B, b2, b3, fun z H7 pz W8 k8 => ?_⟩
        refine ⟨z, rfl, nxt z H7 W8 k8 pz _ _ (Same.refl _) ?_⟩
        rw [if_neg (show ¬ us0.length + 1 > least by omega)]
        exact pz
    obtain ⟨y, rfl, acc7, tl7, w7, M7, eD7, pps7, py7, W7, k7, ap7, fs7, er7⟩ := hM
    have er7 : cntd a b (ps, wi) = (tl7, ⟨w7.le, w7.fo⟩) := er7
    refine ⟨y, rfl, q y H7 asi ?_ ?_ x3 k7⟩
    · rw [er7]
      exact py7.sub fun c o h _ z => h (.inl z)
    · rw [er7]
      exact W7
end
end Sf4
/-! set(list of ints), and how many its members are. -/
namespace Sf
open PySem PySem.Spec PyProof.Rows L2 PySem.Froz
theorem nodup_few : ∀ (m : Nat) (l : List Int), l.Nodup → (∀ k ∈ l, 0 ≤ k ∧ k < (m : Int)) → l.length ≤ m
  | 0, [], _, _ => Nat.le_refl 0
  | 0, x :: l, _, h => by
    have := h x List.mem_cons_self
    omega
  | m + 1, l, nd, h => by
    by_cases z : (m : Int) ∈ l
    · have q := nodup_few m (l.erase (m : Int)) (nd.erase _) fun k hk => by
        obtain ⟨h1, h2⟩ := (nd.mem_erase_iff).mp hk
        have := h k h2
        omega
      have e := List.length_erase_of_mem z
      omega
    · have q := nodup_few m l nd fun k hk => by
        have := h k hk
        have : k ≠ (m : Int) := fun e => z (e ▸ hk)
        omega
      omega
theorem setR_few {w : World} {h : Heap} {a : Addr} {ns : List Int} {c m : Nat} (R : SetR w h a (fun j => decide (j ∈ ns)) c) (hm : ∀ k ∈ ns, 0 ≤ k ∧ k < (m : Int)) : c ≤ m := by
  obtain ⟨o, es, ep, t, ho, hex, hd, g, nd, hk, hb, hf, hn, _⟩ := R
  have q := nodup_few m (es.toList.map keyOf) nd fun k hkm => hm k (of_decide_eq_true ((hk k).mpr hkm))
  rw [List.length_map, Array.length_toList, hn] at q
  exact q
section
variable {P : Program} {w : World} {A : Around} {E : Value → Shared → Prop} {s : Shared}
set_option maxHeartbeats 4000000 in
theorem call_setIL {l : Addr} {items : Array Value} (ns : List Int) {Q : Value → Shared → Prop} (hh : A.handled = none) (hli : s.heap.IsList l items) (hit : IntsAre items.toList ns) (hx : ns.length + 1 < scanBound)
    (h : ∀ (h' : Heap) (tk c : Nat), (∀ b o, s.heap.get? b = some o → h'.get? b = some o) → SetR w h' s.heap.objs.size (fun j => decide (j ∈ ns)) c → c ≤ ns.length → Q (.ref s.heap.objs.size) { s with heap := h', toks := tk }) :
    wpAny (model P w) A (call (.type "set") [.ref l]) Q E s := by
  obtain ⟨c, tl, hmro⟩ := PySem.F.called_set.mro
  have q1 := PySem.F.called_set.made
  have q2 := PySem.F.called_set.sub
  have q3 := PySem.F.called_set.notType
  have q4 := PySem.F.called_set.canCreate
  have q5 := PySem.F.typeCall_set_1 (.ref l)
  refine wpAny_call (codeAny_of_tree (wpAny_pure ⟨Code.quiet_builtin _ (by decide +kernel), codeAny_builtin PySem.F.entry_type_call ?_⟩))
  rw [Around.under_plain (weight_type_call_type "set" [.ref l] []) rfl]
  repeat (any_goals (first | assumption | wp_step))
  generalize hO : ({ cls := .type "set", dict := none, data := .set #[] 0 (.fresh 0 0 (!w.params.followText "set-order")) } : Obj) = O
  have hS : (s.heap.push O).get? s.heap.objs.size = some O := Heap.get?_push_size _ (by rw [← hO]; rfl)
  have hT : Shared.TypeIs { s with heap := s.heap.push O } (.ref s.heap.objs.size) "set" := ⟨_, hS, by rw [← hO]⟩
  refine codeAny_mono (code_set_led1 (.ref l) (E := E) (Q₁ := fun obj s₁ => obj = .ref s.heap.objs.size ∧ s₁ = { s with heap := s.heap.push O }) ⟨rfl, by rw [hO]⟩) fun r s₁ hr => ?_
  cases r with
  | error e => exact hr
  | ok fl =>
    cases fl with
    | ret obj =>
      obtain ⟨rfl, rfl⟩ := hr
      have q6 := PySem.F.called_set.init.lookup
      have q7 := PySem.F.called_set.init.bind (.ref s.heap.objs.size)
      repeat (any_goals (first | assumption | wp_step))
      refine codeAny_mono (codeAny_call_builtin (R := wants (fun r s₂ => r = .none ∧ ∃ h' tk c, s₂ = { s with heap := h', toks := tk } ∧ (∀ b o, s.heap.get? b = some o → h'.get? b = some o) ∧ SetR w h' s.heap.objs.size (fun j => decide (j ∈ ns)) c ∧ c ≤ ns.length) E)
        PySem.F.called_set.init.plain PySem.F.entry_set_init (check_set_init_1 hT ?_)) fun r₂ s₂ hr₂ => ?_
      · have hneI : ∀ {b : Addr} {o : Obj}, s.heap.get? b = some o → b ≠ (s.heap.push O).objs.size := fun e => by
          rw [Heap.size_push]
          exact Nat.ne_of_lt (Nat.lt_succ_of_lt (Heap.lt_size e))
        have hh3 : A.in1.in1.in1.handled = none := by simp [hh]
        have hsz : items.size = ns.length := by
          have q := IntsAre.length hit
          rw [Array.length_toList] at q
          exact q
        have hv : ∀ (i : Nat) (v : Value), items[i]? = some v → ∃ k t, ns[i]? = some k ∧ v = .int k t := fun i v e => by
          have hi : i < ns.length := hsz ▸ (Array.getElem?_eq_some_iff.mp e).1
          obtain ⟨t, e2⟩ := PyProof.Rows.IntsAre.int_at hit i v (by rw [Array.getElem?_toList]; exact e)
          exact ⟨ns[i], t, List.getElem?_eq_getElem hi, by rw [e2, List.getD_eq_getElem?_getD, List.getElem?_eq_getElem hi] <;> rfl⟩
        obtain ⟨ol, hol, hcl, nl, hdl⟩ := id hli
        obtain ⟨ocls, odict, odata, oslots⟩ := ol
        simp only at hcl hdl
        subst hcl; subst hdl
        have hol' : (s.heap.push O).get? l = some { cls := .type "list", dict := odict, data := .seq items nl, slots := oslots } := Heap.get?_push_of_some _ hol
        have q8 := PySem.F.sub_list_set
        have q9 := PySem.F.sub_list_frozenset
        have q10 : (Value.type "list" == Value.type "dict") = false := by decide
        have hl1 : (s.heap.push O).IsList l items := ⟨_, hol', rfl, nl, rfl⟩
        have nf : s.heap.objs.size ∉ [(s.heap.push O).objs.size, l] := by
          rw [Heap.size_push, List.mem_cons, List.mem_singleton, not_or]
          exact ⟨Nat.ne_of_lt (Nat.lt_succ_self _), Nat.ne_of_gt (Heap.lt_size hol)⟩
        have W := (Walks.list (prog := P) (w := w) hh3 (s.heap.push O).objs.size l (hneI hol) items).toS
        subst hO
        unfold Builtin.«set.__init__» noKeywords Builtin.Frozenset.updateFrom
        generalize hPI : pyIter = PI
        wp_walk
        subst hPI
        refine wpAny_pyIter_list hl1 ?_
        refine wpAny_bind (wpAny_runValue ?_)
        refine set_update_ints W s.heap.objs.size nf ns hsz hx hv items.size 0 _ (Nat.sub_zero _) (Nat.zero_le _) ⟨⟨_, Heap.get?_push_size _ rfl, rfl, rfl⟩, hl1.push _⟩ ⟨0, Nat.le_refl 0, setR_new_at (Heap.get?_push_of_some _ hS)⟩ fun s3 c3 hm hc hS3 => ?_
        obtain ⟨h', g2, d', tk', os'⟩ := s3
        have eg : g2 = s.gens := hm.gens
        have ed : d' = s.drawn := hm.drawn
        have eo : os' = s.os := hm.os
        subst eg; subst ed; subst eo
        rw [hsz] at hc
        refine wpAny_pure (wpAny_pure ⟨rfl, h', tk', c3, rfl, fun b o e => ?_, hS3, hc⟩)
        refine hm.heap b o (fun z => ?_) (Heap.get?_push_of_some _ (Heap.get?_push_of_some _ e))
        rcases List.mem_cons.mp z with z | z
        · exact Nat.ne_of_lt (Heap.lt_size e) z
        · exact hneI e (List.mem_singleton.mp z)
      · cases r₂ with
        | error e => exact hr₂
        | ok fl₂ =>
          cases fl₂ with
          | ret r =>
            obtain ⟨rfl, h', tk, c2, rfl, k, T, hc⟩ := hr₂
            repeat (any_goals (first | assumption | wp_step))
            exact h _ _ _ k T hc
          | _ => exact hr₂.elim
    | _ => exact hr.elim
end
section
variable {X : Cx}
/-- set(ints below m) -/
def rSetIL (K : PySem.W.Frag) (w : World) : List V → Hp → VK → Prop := fun vs H Q => ∃ (a : Addr) (ns : List Int) (m : Nat), vs = [.ref a] ∧ SqL K H a (ns.map V.int) ∧ ns.length + 1 < scanBound ∧ (∀ k ∈ ns, 0 ≤ k ∧ k < (m : Int)) ∧
  ∀ p n, H p = none → n ≤ m → Q (.ref p) (upd H p (SetO w p (fun j => decide (j ∈ ns)) n))
theorem cr_setIL (hc : X.calm = true) : CallR X (.type "set") (rSetIL X.K X.w) := by
  intro pins s σ H vs us Q I r h
  obtain ⟨a, ns, m, rfl, hs, hx, hm, q⟩ := h
  rw [Vals.ref1 r]
  obtain ⟨its, rv, pl, _⟩ := I.list hs
  refine call_setIL ns (I.ok.hd hc) pl.isList rv.ints hx fun h' tk c k T hcn => ?_
  exact ⟨.ref _, upd H s.heap.objs.size (SetO X.w s.heap.objs.size (fun j => decide (j ∈ ns)) c), I.laid (t' := tk) k (Nat.le_refl _) (setO_new T), rfl, q _ _ (I.hok.fresh (Nat.le_refl _)) (setR_few T hm)⟩
end
end Sf
namespace Sf4
open PySem PySem.Spec PyProof.Rows L2 Sf
/-- the members below n, ascending -/
def ascL (n : Nat) (l : List Nat) : List Nat := (List.range n).filter fun i => decide (i ∈ l)
def zI (l : List Nat) : List Int := l.map fun (i : Nat) => (i : Int)
theorem nIs_z (l : List Nat) : nIs l = (zI l).map V.int := by
  unfold nIs zI
  rw [List.map_map] <;> rfl
theorem zI_mem {l : List Nat} {k : Int} : k ∈ zI l ↔ ∃ i, i ∈ l ∧ k = (i : Int) := by
  unfold zI
  rw [List.mem_map]
  exact ⟨fun ⟨a, b, c⟩ => ⟨a, b, c.symm⟩, fun ⟨a, b, c⟩ => ⟨a, b, c.symm⟩⟩
theorem asc_pw (n : Nat) (l : List Nat) : (zI (ascL n l)).Pairwise (· < ·) := by
  unfold zI ascL
  rw [List.pairwise_map]
  exact (List.Pairwise.filter _ List.pairwise_lt_range).imp fun h => by omega
theorem asc_uniq {ms : List Int} {n : Nat} {l : List Nat} (h1 : ms.Pairwise (· < ·)) (h2 : ∀ k : Int, k ∈ ms ↔ decide (k ∈ zI l) = true) (h3 : ∀ i ∈ l, i < n) : ms = zI (ascL n l) := by
  have h4 := asc_pw n l
  have nd1 : ms.Nodup := h1.imp fun h => by omega
  have nd2 : (zI (ascL n l)).Nodup := h4.imp fun h => by omega
  refine List.Perm.eq_of_pairwise (le := (· < ·)) (fun a b _ _ x y => by omega) h1 h4 ((List.perm_ext_iff_of_nodup nd1 nd2).mpr fun k => ?_)
  rw [h2, decide_eq_true_iff, zI_mem, zI_mem]
  refine ⟨fun ⟨i, h, e⟩ => ⟨i, List.mem_filter.mpr ⟨List.mem_range.mpr (h3 i h), decide_eq_true h⟩, e⟩, fun ⟨i, h, e⟩ => ⟨i, of_decide_eq_true (List.mem_filter.mp h).2, e⟩⟩
theorem spPO_mono {C : Addr} {e d : Nat} (h : e ≤ d) {vs : List V} {H : Hp} {Q : VK} {E : XK} (q : spPO C e vs H Q E) : spPO C d vs H Q E := by
  obtain ⟨p, dx, la, fa, v, t, w, as, O, S, n, M, r, hd, q⟩ := q
  exact ⟨p, dx, la, fa, v, t, w, as, O, S, n, M, r, Nat.le_trans hd h, q⟩
theorem spCnt_mono {C : Addr} {e d : Nat} (h : e ≤ d) {vs : List V} {H : Hp} {Q : VK} {E : XK} (q : spCnt C e vs H Q E) : spCnt C d vs H Q E := by
  obtain ⟨p, dx, la, fa, a, b, v, t, w, as, O, S, n, M, r, hd, q⟩ := q
  exact ⟨p, dx, la, fa, a, b, v, t, w, as, O, S, n, M, r, Nat.le_trans hd h, q⟩
/-- a tuple of tuples of ints -/
def BehT (H : Hp) (b : Addr) (ls : List (List Nat)) : Prop := ∃ bs : List Addr, H b = some (.tup (bs.map V.ref)) ∧ bs.length = ls.length ∧ ∀ (j : Nat) (x : Addr) (r : List Nat), bs[j]? = some x → ls[j]? = some r → H x = some (.tup (nIs r))
theorem BehT.mono {H H' : Hp} {b : Addr} {ls : List (List Nat)} (h : BehT H b ls) (k : KT H H') : BehT H' b ls := by
  obtain ⟨bs, h1, h2, h3⟩ := h
  exact ⟨bs, k _ _ h1, h2, fun j x r a b => k _ _ (h3 j x r a b)⟩
def w0 : Wp := ⟨[], []⟩
theorem w0_ok : WOk w0 0 0 := ⟨rfl, rfl, fun _ h => nomatch h⟩
/-- the four rows that are written -/
structure WrOut (H : Hp) (a : Addr) (t : Tr) : Prop where
  ex : ∃ l f g b, H a = some (.tup [.ref l, .ref f, .ref g, .ref b]) ∧ H l = some (.tup (nmV (spts t))) ∧ H f = some (.tup (nIs (ascL (sz t) (pO t w0).1.2.1))) ∧ H g = some (.tup (nIs (ascL (sz t) (pO t w0).1.2.2))) ∧ BehT H b ((pO t w0).2.fo.map (ascL (sz t)))
/-- the bounds of a tree that is written out -/
structure Sml (t : Tr) : Prop where
  d : dep t ≤ 40
  w : wid t ≤ 1000
  s : sz t ≤ 24
  l : 24 * lks t ≤ 4000
def spWrt : Sp := fun vs H Q _ => ∃ (v : V) (t : Tr), vs = [v] ∧ TrO H v t ∧ Sml t ∧ ∀ a H', WrOut H' a t → Same H H' → Q (.ref a) H'
def NWrt : List Str := ["tree", "here", "can_be_empty", "first", "last", "behind", "later"]
theorem scWrt : FnScope NWrt ["tree"] (defScope sWrt) := ⟨rfl, rfl, rfl, by decide +kernel, rfl, by decide +kernel, by decide +kernel⟩
section
variable {P : Program} {w : World} {K : PySem.W.Frag} {mg : Str → Option Value} {base : Heap} {C : Addr} {f : Nat → Addr} {fd : Nat → FuncData} {tk : Nat → Tok}
theorem ok_po (T : WT K mg C f fd tk) : ∀ d, FnOk P w K mg base CX0 (3 + 2 * d) (f 3) (fd 3) ["self", "tree"] (spPO C d)
  | 0 => ok_partOf T (k := 2) (d := 0) (spA := spNo) (spB := spNo) (by decide) ok_no ok_no (fun e _ _ _ _ h => absurd h (by omega)) (fun e _ _ _ _ h => absurd h (by omega))
  | d + 1 => by
    have GA := ok_po T d
    have GB := ok_counted T (k := 3 + 2 * d) (by omega) GA
    have G := ok_partOf T (k := 4 + 2 * d) (d := d + 1) (spA := spPO C d) (spB := spCnt C d) (by omega) (GA.mono (by omega)) (GB.mono (by omega)) (fun e _ _ _ _ h q => spPO_mono (by omega) q) (fun e _ _ _ _ h q => spCnt_mono (by omega) q)
    exact G.mono (by omega)
theorem ok_written (T : WT K mg C f fd tk) {g : Addr} {gd : FuncData} (F : Fun K "written" "written" sWrt g gd) : FnOk P w K mg base CX0 84 g gd ["tree"] spWrt := by
  refine F.ok scWrt (fun vs H Q E h => ?_) (fun cdv A outer s H vs Q E hr h => ?_)
  · obtain ⟨v, t, rfl, _⟩ := h
    rfl
  · obtain ⟨v, t, rfl, ht, hs, q⟩ := h
    have GI := ok_wi (P := P) (w := w) (base := base) T
    have GP := ok_po (P := P) (w := w) (base := base) T 40
    refine ⟨_, pss_cons (ps_set (i := 1) scWrt.nd rfl (.inl rfl) (pe_make0 T.mkC GI (hr.mono (by decide)) rfl T.gC T.mI.b .nil pass0))
      (pss_cons (ps_asg (pe_meth (pv 1) T.cl T.mPart.m GP hr T.mPart.b .nil pass0 (pa_cons (pv 0) pa_nil)) (pg_tup rfl (pgs_cons (pg_name (i := 2) scWrt.nd rfl (.inl rfl)) (pgs_cons (pg_name (i := 3) scWrt.nd rfl (.inl rfl)) (pgs_cons (pg_name (i := 4) scWrt.nd rfl (.inl rfl)) pgs_nil)))))
      (pss_cons (ps_set (i := 5) scWrt.nd rfl (.inl rfl) (pe_tupleOf (by rfl) T.ztup (pe_lc (own := [("later", 6)]) (g := gName 6) (tt := tYes) (te := tThen (tCB (rSortedSet w) (tCons (tCB (rSetIL K w) (tCons (tVar 6) tNil)) tNil)) (kTup K)) rfl scWrt.nd (pi_list (pe_fld (pv 1) rfl)) (blkOk_by (N := NWrt) (sc := defScope sWrt) (by decide +kernel))
          (fun _ _ _ _ _ => pg_name (i := 6) scWrt.nd rfl (Or.inl rfl)) (fun _ _ _ _ _ => pts_nil)
          (fun _ _ _ _ _ => pe_tupleOf (by rfl) T.ztup (pe_callB (cr_sortedSet rfl) (by rfl) T.zsorted (by decide +kernel) (pa_cons (pe_callTy (cr_setIL rfl) (by rfl) T.zset PySem.Pv.boot_set (pa_cons (pv 6) pa_nil)) pa_nil))))))
      (pss_one (ps_ret (pe_tup (pa_cons (pe_tupleOf (by rfl) T.ztup (pe_fld (pv 1) rfl))
        (pa_cons (pe_tupleOf (by rfl) T.ztup (pe_callB (cr_sortedSet rfl) (by rfl) T.zsorted (by decide +kernel) (pa_cons (pe_callTy (cr_setIL rfl) (by rfl) T.zset PySem.Pv.boot_set (pa_cons (pv 3) pa_nil)) pa_nil)))
        (pa_cons (pe_tupleOf (by rfl) T.ztup (pe_callB (cr_sortedSet rfl) (by rfl) T.zsorted (by decide +kernel) (pa_cons (pe_callTy (cr_setIL rfl) (by rfl) T.zset PySem.Pv.boot_set (pa_cons (pv 4) pa_nil)) pa_nil)))
        (pa_cons (pv 5) pa_nil))))))))), ?_⟩
    have nP : ∀ {la fa : Addr}, (wf_ la fa).lookup ("part_of" : Str) = none := wf_no (by decide +kernel) (by decide +kernel)
    intro x dx nx ndx nex
    refine ⟨x, dx, rfl, upd_same, fun la fa H1 W1 nla nfa k1 => ⟨rfl, ?_⟩⟩
    have s1 : Same H H1 := fun b o e => k1 b o (ne_of_none e nx) (by
      rw [upd_ne (ne_of_none e nx), upd_ne (ne_of_none e ndx)]
      exact e)
    have free : ∀ {b : Addr}, upd (upd H dx (.own x)) x (.ins C dx []) b = none → H b = none := fun {b} h => by
      by_cases z : b = x
      · exact z ▸ nx
      · rw [upd_ne z] at h
        by_cases z2 : b = dx
        · exact z2 ▸ ndx
        · rw [upd_ne z2] at h
          exact h
    have s1' : ∀ b o, H b = some o → ¬ Own x la fa [] b := fun b o e z => by
      rcases z with z | z | z | z
      · rw [z, nx] at e
        cases e
      · rw [z, free nla] at e
        cases e
      · rw [z, free nfa] at e
        cases e
      · cases z
    have b1 := hs.s
    have b2 := hs.l
    refine ⟨.ref x, rfl, x, dx, _, rfl, W1.e, nP, v, rfl, ?_⟩
    refine ⟨x, dx, la, fa, v, t, w0, [], Own x la fa [], 24, 0, 0, rfl, hs.d, hs.w, ht.mono (KT.same s1), W1, ⟨fun _ h => h, fun b h => ?_⟩, ⟨w0_ok, by omega, by decide, by omega⟩, fun y H2 as2 py W2 x2 k2 => ?_⟩
    · obtain ⟨o, e, _⟩ := W1.own h
      exact ⟨o, e⟩
    obtain ⟨pa, pf, pg, rfl, pb⟩ := py
    obtain ⟨g1, g2⟩ := pO_ok (S := 24) t w0 0 0 w0_ok (by omega)
    rw [Nat.zero_add] at g1 g2
    have hfo := g1.fo
    have s2 : Same H H2 := fun b o e => k2 b o (s1' b o e) (s1 b o e)
    refine ⟨pa, _, rfl, .inl (.inl pb.t), rfl, _, _, rfl, _, _, rfl, _, _, rfl, rfl, ?_⟩
    have ms : ∀ {H3 : Hp} {b : Addr} {l : List Nat} {R : V → Hp → Prop}, H3 b = some (.lst (nIs l)) → (∀ i ∈ l, i < sz t) → l.length ≤ 4000 → (∀ T H', Same H3 H' → H3 T = none → H' T = some (.tup (nIs (ascL (sz t) l))) → R (.ref T) H') →
        rSetIL K w [.ref b] H3 fun v1 H4 => rSortedSet w [v1] H4 fun v2 H5 => kTup K v2 H5 R := fun {H3 b l R} e hl hn hR => by
      refine ⟨b, zI l, sz t, rfl, .inl (.inl (by rw [← nIs_z]; exact e)), ?_, fun k hk => ?_, fun S c hS hc => ?_⟩
      · unfold zI
        rw [List.length_map]
        exact Nat.lt_of_le_of_lt (show l.length + 1 ≤ 4001 by omega) (by decide)
      · obtain ⟨i, h1, rfl⟩ := zI_mem.mp hk
        have := hl i h1
        omega
      refine ⟨S, _, c, rfl, upd_same, by omega, fun ns L pw mem len hL => ?_⟩
      obtain rfl := asc_uniq pw mem hl
      refine .inl ⟨L, _, rfl, .inl (.inl upd_same), fun T hT => ?_⟩
      have s3 := smU (o := SetO w S (fun j => decide (j ∈ zI l)) c) hS
      have s4 := smU (o := HO.lst ((zI (ascL (sz t) l)).map V.int)) hL
      have s5 := smU (o := HO.tup ((zI (ascL (sz t) l)).map V.int)) hT
      exact hR T _ (s3.trans (s4.trans s5)) ((s3.trans s4).free hT) (by rw [upd_same, nIs_z])
    refine ⟨.ref x, rfl, x, C, dx, _, _, rfl, W2.e, T.cl, T.nFo, wf_fo, fa, rfl, ⟨_, .inl (.inl W2.f)⟩, fun D hD => ?_⟩
    refine lc_it (walk_list (K := K) (a := fa) (xs := as2.map V.ref)) (fun i H3 => ∃ bs : List Addr, H3 D = some (.lst (bs.map V.ref)) ∧ bs.length = i ∧ Same H2 H3 ∧ ∀ (j : Nat) (b : Addr) (r : List Nat), bs[j]? = some b → (pO t w0).2.fo[j]? = some r → H3 b = some (.tup (nIs (ascL (sz t) r))))
      ⟨[], upd_same, rfl, smU hD, fun j b r h => by cases h⟩ (fun i H3 _ ⟨_, _, _, s3, _⟩ => .inl (.inl (s3 _ _ W2.f))) (fun i xi H3 H3' hi hP hy => ?_) (fun H3 hP => ?_)
    · obtain ⟨bs, eD, hbl, s3, hb⟩ := hP
      obtain ⟨rfl, hxi⟩ := hy
      rw [List.getElem?_map] at hxi
      obtain ⟨ai, hai, rfl⟩ : ∃ ai, as2[i]? = some ai ∧ xi = .ref ai := by
        cases e : as2[i]? with
        | none =>
          rw [e] at hxi
          cases hxi
        | some ai =>
          rw [e] at hxi
          exact ⟨ai, rfl, (Option.some.inj hxi).symm⟩
      have hil : i < (pO t w0).2.fo.length := by
        rw [← W2.n]
        exact (List.getElem?_eq_some_iff.mp hai).1
      obtain ⟨c1, _, _⟩ := W2.at_ i ai _ hai (List.getElem?_eq_getElem hil)
      obtain ⟨d1, d2⟩ := g1.bd _ (List.getElem_mem hil)
      refine ⟨rfl, .ref ai, rfl, ?_⟩
      have mm := ms (R := fun y H' => ∃ acc, H' D = some (.lst acc) ∧ acc.length < sizeLine ∧ ∃ bs : List Addr, upd H' D (.lst (acc ++ [y])) D = some (.lst (bs.map V.ref)) ∧ bs.length = i + 1 ∧ Same H2 (upd H' D (.lst (acc ++ [y]))) ∧ ∀ (j : Nat) (b : Addr) (r : List Nat), bs[j]? = some b → (pO t w0).2.fo[j]? = some r → upd H' D (.lst (acc ++ [y])) b = some (.tup (nIs (ascL (sz t) r)))) (s3 _ _ c1) d2 (by omega) fun T H' sm hT e => ?_
      · exact mm
      · have nTD : ∀ {c : Addr} {xs : List V}, H' c = some (.tup xs) → c ≠ D := fun h => ne_of h (sm _ _ eD) (by intro z; cases z)
        refine ⟨bs.map V.ref, sm _ _ eD, ?_, bs ++ [T], by rw [upd_same, List.map_append] <;> rfl, by rw [List.length_append, hbl] <;> rfl, fun c o h => ?_, fun j b r h1 h2 => ?_⟩
        · rw [List.length_map, hbl]
          exact Nat.lt_of_le_of_lt (show i ≤ 24 by omega) (by decide)
        · rw [upd_ne (ne_of_none h hD)]
          exact sm _ _ (s3 _ _ h)
        · by_cases hj : j < bs.length
          · rw [List.getElem?_append_left hj] at h1
            have := sm _ _ (hb j b r h1 h2)
            rw [upd_ne (nTD this)]
            exact this
          · have hl := (List.getElem?_eq_some_iff.mp h1).1
            rw [List.length_append, List.length_singleton] at hl
            obtain rfl : j = i := by omega
            rw [List.getElem?_append_right (by omega), hbl, Nat.sub_self] at h1
            cases h1
            rw [List.getElem?_eq_getElem hil] at h2
            cases h2
            rw [upd_ne (nTD e)]
            exact e
    obtain ⟨bs, eD, hbl, s3, hb⟩ := hP
    have hal := W2.n
    rw [List.length_map] at hbl
    refine .inl ⟨D, _, rfl, .inl (.inl eD), fun B hB => ?_⟩
    have sB := smU (o := HO.tup (bs.map V.ref)) hB
    have W4 := (W2.up s3).up sB
    have s4 := s3.trans sB
    refine ⟨.ref x, rfl, x, C, dx, _, _, rfl, W4.e, T.cl, T.nLe, wf_le, .inl ⟨la, _, rfl, .inl (.inl W4.l), fun L hL => ?_⟩⟩
    have sL := smU (o := HO.tup (nmV (pO t w0).2.le)) hL
    have lf := g2.f.len
    have ll := g2.l.len
    refine ⟨.ref pf, rfl, ms (R := fun y H' => _) ((s4.trans sL) _ _ pb.f) (fun i hi => (g2.f.lt i hi).2) (by omega) fun F1 H5 s5 nF eF => ?_⟩
    refine ⟨.ref pg, rfl, ms (R := fun y H' => _) ((s4.trans (sL.trans s5)) _ _ pb.g) (fun i hi => (g2.l.lt i hi).2) (by omega) fun G1 H6 s6 nG eG => ?_⟩
    refine ⟨.ref B, rfl, (show 4 ≤ sizeLine by decide), fun a ha => ?_⟩
    have sa := smU (o := HO.tup [.ref L, .ref F1, .ref G1, .ref B]) ha
    have sT := sL.trans (s5.trans (s6.trans sa))
    refine q a _ ⟨L, F1, G1, B, upd_same, ?_, (s6.trans sa) _ _ eF, sa _ _ eG, bs, sT _ _ upd_same, ?_, fun j b r h1 h2 => ?_⟩ (s2.trans (s4.trans sT))
    · have e := (s5.trans (s6.trans sa)) _ _ (upd_same (H := _) (a := L) (o := HO.tup (nmV (pO t w0).2.le)))
      rw [pO_le] at e
      exact e
    · rw [hbl, List.length_map, hal]
    · rw [List.getElem?_map] at h2
      cases e : (pO t w0).2.fo[j]? with
      | none =>
        rw [e] at h2
        cases h2
      | some r0 =>
        rw [e] at h2
        cases h2
        exact (sB.trans sT) _ _ (hb j b r0 h1 e)
end
end Sf4
namespace Sf4
open PySem PySem.Spec PyProof.Rows L2 Sf
/-! ### a target that is an attribute -/
def gFld (K : PySem.W.Frag) (to : TE) (f : Str) : TG := fun v σ H Q => to σ H fun x H1 => ∃ a C dx fs, x = .ref a ∧ H1 a = some (.ins C dx fs) ∧ Cls K C ∧ NoAttr K C f ∧ fs.length < 1000 ∧ Q σ (upd H1 a (.ins C dx (putF f v fs)))
theorem pg_fld {X : Cx} {o : Expr} {f : Str} {pos : Pos} {to : TE} (ho : PE X o to)
    (ha : ∀ v, assign (.Attribute o f pos) X.env v = (do
      let ov ← holding [v] (eval o X.env)
      standAt pos.atName
      holding [v, ov] (setAttr ov f v)
      release [v, ov] []) := by intro _; rfl) : PG X (.Attribute o f pos) (gFld X.K to f) := by
  refine ⟨fun pins s σ H v u Q I r h => ?_⟩
  rw [ha]
  refine wpAny_bind (wpAny_holding (thn (ho.run pins s σ H _ I h) fun ov s1 ⟨x, H1, I1, r1, a, C, dx, fs, ex, ea, c, n, l, q⟩ => ?_))
  subst ex
  obtain rfl : ov = Value.ref a := r1
  refine wpAny_bind (wpAny_standAt (wpAny_bind (wpAny_holding (setattr_ok I1 ea c n l r fun s2 I2 => ?_))))
  exact wpAny_release ⟨σ, _, I2, q⟩
/-! ### how many places -/
def NSz : List Str := ["tree", "part", "least", "most"]
theorem scSize : FnScope NSz ["tree"] (defScope sSize) := ⟨rfl, rfl, rfl, by decide +kernel, rfl, by decide +kernel, by decide +kernel⟩
def spSize (d : Nat) : Sp := fun vs H Q _ => ∃ (v : V) (t : Tr), vs = [v] ∧ dep t ≤ d ∧ wid t ≤ 1000 ∧ TrO H v t ∧ ∀ H', Same H H' → Q (.int (sz t)) H'
structure ST (K : PySem.W.Frag) (mg : Str → Option Value) (tk : Nat → Tok) (g : Addr) (gd : FuncData) : Prop where
  F : Fun K "size_of" "size_of" sSize g gd
  b : Binds K gd ["tree"] []
  gg : mg "size_of" = some (.ref g)
  gPl : mg "PLACE_parsing" = some (.str plW (tk 9))
  gCh : mg "CHAIN_parsing" = some (.str chW (tk 10))
  gAl : mg "CHOICE_parsing" = some (.str alW (tk 11))
  gCo : mg "COUNT" = some (.str coW (tk 12))
  gCa : mg "CAPTURE_parsing" = some (.str caW (tk 13))
  zsum : mg "sum" = none
  zmax : mg "max" = none
section
variable {P : Program} {w : World} {K : PySem.W.Frag} {mg : Str → Option Value} {base : Heap} {tk : Nat → Tok} {g : Addr} {gd : FuncData}
theorem szL_sum : ∀ l : List Tr, ((l.map fun t => ((sz t : Nat) : Int)).sum) = ((szL l : Nat) : Int)
  | [] => rfl
  | t :: r => by
    rw [List.map_cons, List.sum_cons, szL_sum r]
    show _ = ((sz t + szL r : Nat) : Int)
    omega
theorem ok_size1 (T : ST K mg tk g gd) {k d : Nat} {spA : Sp} (G : FnOk P w K mg base CX0 k g gd ["tree"] spA) (hA : ∀ e vs H Q E, e + 1 ≤ d → spSize e vs H Q E → spA vs H Q E) : FnOk P w K mg base CX0 (k + 1) g gd ["tree"] (spSize d) := by
  refine T.F.ok scSize (fun vs H Q E h => ?_) (fun cdv A outer s H vs Q E hr h => ?_)
  · obtain ⟨v, t, rfl, _⟩ := h
    rfl
  · obtain ⟨v, t, rfl, hd, hw, ht, q⟩ := h
    refine ⟨_, pss_cons (ps_if (pt_cmpR op_eq (pe_ix ix_tup (pv 0) pe_int (fun _ _ => rfl)) (pe_glob (v := .str plW) rfl T.gPl ⟨_, rfl⟩) (nomark _)) (pss_one (ps_ret pe_int)) pss_nil)
      (pss_cons (ps_if (pt_cmpR op_in_seq (pe_ix ix_tup (pv 0) pe_int (fun _ _ => rfl)) (pe_tup (pa_cons (pe_glob (v := .str chW) rfl T.gCh ⟨_, rfl⟩) (pa_cons (pe_glob (v := .str alW) rfl T.gAl ⟨_, rfl⟩) pa_nil))) rfl)
          (pss_one (ps_ret (pe_callB (cr_sum rfl) (by rfl) T.zsum (by decide +kernel) (pa_cons (pe_lc (own := [("part", 1)]) (g := gName 1) (tt := tYes) (te := tCall spA [] E0 (tCons (tVar 1) tNil)) rfl scSize.nd (pi_tup (pe_ix ix_tup (pv 0) pe_int (fun _ _ => rfl))) (blkOk_by (N := NSz) (sc := defScope sSize) (by decide +kernel))
              (fun _ _ _ _ _ => pg_name (i := 1) scSize.nd rfl (Or.inl rfl)) (fun _ _ _ _ _ => pts_nil) (fun _ _ _ _ _ => pe_call G hr (by rfl) T.gg T.F.kp T.b .nil pass0 (pa_cons (pv 1) pa_nil))) pa_nil)))) pss_nil)
      (pss_cons (ps_if (pt_cmpR op_eq (pe_ix ix_tup (pv 0) pe_int (fun _ _ => rfl)) (pe_glob (v := .str caW) rfl T.gCa ⟨_, rfl⟩) (nomark _)) (pss_one (ps_ret (pe_call G hr (by rfl) T.gg T.F.kp T.b .nil pass0 (pa_cons (pe_ix ix_tup (pv 0) pe_int (fun _ _ => rfl)) pa_nil)))) pss_nil)
      (pss_cons (ps_if (pt_cmpR op_ne (pe_ix ix_tup (pv 0) pe_int (fun _ _ => rfl)) (pe_glob (v := .str coW) rfl T.gCo ⟨_, rfl⟩) (nomark _)) (pss_one (ps_ret pe_int)) pss_nil)
      (pss_cons (ps_asg (pe_slice sl_tup (pv 0) (po_some pe_int) po_none) (pg_tup rfl (pgs_cons (pg_name (i := 2) scSize.nd rfl (.inl rfl)) (pgs_cons (pg_name (i := 3) scSize.nd rfl (.inl rfl)) (pgs_cons (pg_name (i := 1) scSize.nd rfl (.inl rfl)) pgs_nil)))))
      (pss_one (ps_ret (pe_op op_mul (pe_ifExp (pt_cmpR op_isN (pv 3) pe_non (nomark _)) (pe_callB (call_max2 rfl) (by rfl) T.zmax (by decide +kernel) (pa_cons (pv 2) (pa_cons pe_int pa_nil))) (pv 3)) (pe_call G hr (by rfl) T.gg T.F.kp T.b .nil pass0 (pa_cons (pv 1) pa_nil))))))))), ?_⟩
    by_cases hp : ∃ s, t = .place s
    · obtain ⟨s, rfl⟩ := hp
      cases ht with
      | place e =>
      rename_i a
      refine ⟨.ref a, rfl, a, _, 0, _, rfl, rfl, .inl (.inl e), atI_nat (j := 0) rfl, rfl, _, rfl, ?_⟩
      rw [decide_eq_true rfl]
      exact iteT (q H (Same.refl H))
    obtain ⟨a, X, rest, rfl, e, n1, hX⟩ : ∃ a X rest, v = .ref a ∧ H a = some (.tup (.str X :: rest)) ∧ ¬ (V.str X = V.str plW) ∧
        ((t = .empty ∧ X = emW) ∨ (∃ b vs l, (t = .chain l ∧ X = chW ∨ t = .choice l ∧ X = alW) ∧ rest = [.ref b] ∧ H b = some (.tup vs) ∧ TrOs H vs l) ∨ (∃ n z u, t = .capture n u ∧ X = caW ∧ rest = [.str (tx n), z] ∧ TrO H z u) ∨ (∃ a b z u, t = .count a b u ∧ X = coW ∧ rest = [.int a, mst b, z] ∧ TrO H z u)) := by
      cases ht with
      | place e => exact absurd ⟨_, rfl⟩ hp
      | capture e r => exact ⟨_, _, _, rfl, e, by decide +kernel, .inr (.inr (.inl ⟨_, _, _, rfl, rfl, rfl, r⟩))⟩
      | count e r => exact ⟨_, _, _, rfl, e, by decide +kernel, .inr (.inr (.inr ⟨_, _, _, _, rfl, rfl, rfl, r⟩))⟩
      | empty e => exact ⟨_, _, _, rfl, e, by decide +kernel, .inl ⟨rfl, rfl⟩⟩
      | chain e e2 r => exact ⟨_, _, _, rfl, e, by decide +kernel, .inr (.inl ⟨_, _, _, .inl ⟨rfl, rfl⟩, rfl, e2, r⟩)⟩
      | choice e e2 r => exact ⟨_, _, _, rfl, e, by decide +kernel, .inr (.inl ⟨_, _, _, .inr ⟨rfl, rfl⟩, rfl, e2, r⟩)⟩
    refine ⟨.ref a, rfl, a, _, 0, _, rfl, rfl, .inl (.inl e), atI_nat (j := 0) rfl, rfl, _, rfl, ?_⟩
    rw [decide_eq_false n1]
    refine iteF ⟨.ref a, rfl, a, _, 0, _, rfl, rfl, .inl (.inl e), atI_nat (j := 0) rfl, (show 2 ≤ sizeLine by decide), fun T0 h0 => ?_⟩
    have s0 := smU (o := HO.tup [.str chW, .str alW]) h0
    refine ⟨T0, _, rfl, .inr (.inl (.inl upd_same)), rfl, rfl, _, rfl, ?_⟩
    show if inV (V.str X) [V.str chW, V.str alW] = true then _ else _
    have e1 := s0 _ _ e
    rcases hX with ⟨rfl, rfl⟩ | ⟨b, vs, l, hXl, rfl, eb, os⟩ | ⟨n, z, u, rfl, rfl, rfl, r⟩ | ⟨a0, b0, z, u, rfl, rfl, rfl, r⟩
    · rw [show inV (V.str emW) [V.str chW, V.str alW] = false by decide +kernel]
      refine iteF ⟨.ref a, rfl, a, _, 0, _, rfl, rfl, .inl (.inl e1), atI_nat (j := 0) rfl, rfl, _, rfl, ?_⟩
      rw [decide_eq_false (show ¬ (V.str emW = V.str caW) by decide +kernel)]
      refine iteF ⟨.ref a, rfl, a, _, 0, _, rfl, rfl, .inl (.inl e1), atI_nat (j := 0) rfl, rfl, _, rfl, ?_⟩
      rw [decide_eq_false (show ¬ (V.str emW = V.str coW) by decide +kernel)]
      exact iteT (q _ s0)
    · have hin : inV (V.str X) [V.str chW, V.str alW] = true := by
        rcases hXl with ⟨_, rfl⟩ | ⟨_, rfl⟩ <;> decide +kernel
      have hd : depL l + 1 ≤ d := by
        rcases hXl with ⟨rfl, _⟩ | ⟨rfl, _⟩ <;> exact hd
      have hw : max l.length (widL l) ≤ 1000 := by
        rcases hXl with ⟨rfl, _⟩ | ⟨rfl, _⟩ <;> exact hw
      have hsz : sz t = szL l := by
        rcases hXl with ⟨rfl, _⟩ | ⟨rfl, _⟩ <;> rfl
      rw [hin]
      have hvl := os.len
      refine iteT ⟨.ref a, rfl, a, _, 1, _, rfl, rfl, .inl (.inl e1), atI_nat (j := 1) rfl, b, rfl, ⟨_, .inl (.inl (s0 _ _ eb))⟩, fun D hD => ?_⟩
      refine lc_it (walk_tup (K := K) (a := b) (xs := vs)) (fun i H3 => H3 D = some (.lst (((l.take i).map fun t => ((sz t : Nat) : Int)).map V.int)) ∧ Same H H3)
        ⟨upd_same, s0.trans (smU hD)⟩ (fun i H3 _ hP => .inl (.inl (hP.2 _ _ eb))) (fun i xi H3 H3' hi hP hy => ?_) (fun H3 hP => ?_)
      · obtain ⟨eD, s3⟩ := hP
        obtain ⟨rfl, hxi⟩ := hy
        obtain ⟨ti, hti, oti⟩ := os.get hxi
        obtain ⟨d1, d2⟩ := depL_get hti
        obtain ⟨hil, hie⟩ := List.getElem?_eq_some_iff.mp hti
        have ht : l.take (i + 1) = l.take i ++ [ti] := by rw [List.take_succ_eq_append_getElem hil, hie]
        refine ⟨rfl, xi, rfl, hA (depL l) _ _ _ _ hd ⟨xi, ti, rfl, d1, by omega, oti.mono (KT.same s3), fun H4 s4 => ?_⟩⟩
        refine ⟨_, s4 _ _ eD, ?_, ?_, fun c o h => ?_⟩
        · rw [List.length_map, List.length_map, List.length_take]
          exact Nat.lt_of_le_of_lt (show min i l.length ≤ 1000 by omega) (by decide)
        · rw [upd_same, ht, List.map_append, List.map_append] <;> rfl
        · rw [upd_ne (ne_of_none (s0 _ _ h) hD)]
          exact s4 _ _ (s3 _ _ h)
      · obtain ⟨eD, s3⟩ := hP
        rw [hvl, List.take_of_length_le (Nat.le_refl _)] at eD
        refine ⟨D, _, rfl, .inl (.inl eD), ?_⟩
        rw [szL_sum, ← hsz]
        exact q _ s3
    · have hd : dep u + 1 ≤ d := hd
      rw [show inV (V.str caW) [V.str chW, V.str alW] = false by decide +kernel]
      refine iteF ⟨.ref a, rfl, a, _, 0, _, rfl, rfl, .inl (.inl e1), atI_nat (j := 0) rfl, rfl, _, rfl, ?_⟩
      rw [decide_eq_true rfl]
      refine iteT ⟨.ref a, rfl, a, _, 2, _, rfl, rfl, .inl (.inl e1), atI_nat (j := 2) rfl, ?_⟩
      exact hA (dep u) _ _ _ _ hd ⟨z, u, rfl, Nat.le_refl _, hw, r.mono (KT.same s0), fun H4 s4 => q H4 (s0.trans s4)⟩
    · have hd : dep u + 1 ≤ d := hd
      have hw : max (many a0 b0) (wid u) ≤ 1000 := hw
      rw [show inV (V.str coW) [V.str chW, V.str alW] = false by decide +kernel]
      refine iteF ⟨.ref a, rfl, a, _, 0, _, rfl, rfl, .inl (.inl e1), atI_nat (j := 0) rfl, rfl, _, rfl, ?_⟩
      rw [decide_eq_false (show ¬ (V.str coW = V.str caW) by decide +kernel)]
      refine iteF ⟨.ref a, rfl, a, _, 0, _, rfl, rfl, .inl (.inl e1), atI_nat (j := 0) rfl, rfl, _, rfl, ?_⟩
      rw [decide_eq_true rfl]
      refine iteF ⟨.ref a, rfl, 1, rfl, a, _, rfl, .inl (.inl e1), fun z => absurd z.1 (show ¬ (HT.sIx 4 0 (some 1) = 0) by decide), fun T1 h1 => ?_⟩
      have s1 := smU (o := HO.tup (cutV [V.str coW, .int a0, mst b0, z] (some 1) none)) h1
      refine ⟨T1, _, rfl, .inl (.inl upd_same), rfl, _, _, rfl, _, _, rfl, _, _, rfl, rfl, ?_⟩
      have mm : ∀ (Q2 : VK), Q2 (.int (many a0 b0 : Nat)) (upd (upd H T0 (.tup [.str chW, .str alW])) T1 (.tup (cutV [V.str coW, .int a0, mst b0, z] (some 1) none))) → tIf (tTest (tOp (fun x y H Q => y = V.non ∧ Q (V.bl (decide (x = V.non))) H) (tVar 3) (tC V.non))) (tCB (fun xs H Q => ∃ i j, xs = [V.int i, V.int j] ∧ Q (V.int (if j > i then j else i)) H) (tCons (tVar 2) (tCons (tC (V.int 1)) tNil))) (tVar 3) [some (.ref a), some z, some (.int a0), some (mst b0)] (upd (upd H T0 (.tup [.str chW, .str alW])) T1 (.tup (cutV [V.str coW, .int a0, mst b0, z] (some 1) none))) Q2 := fun Q2 h2 => by
        refine ⟨mst b0, rfl, rfl, _, rfl, ?_⟩
        cases b0 with
        | none =>
          refine iteT ⟨_, rfl, (a0 : Int), 1, rfl, ?_⟩
          have e : (if (1 : Int) > (a0 : Int) then (1 : Int) else (a0 : Int)) = ((many a0 none : Nat) : Int) := by
            show _ = ((max a0 1 : Nat) : Int)
            split <;> omega
          rw [e]
          exact h2
        | some m => exact iteF ⟨_, rfl, h2⟩
      refine mm _ ?_
      refine ⟨z, rfl, hA (dep u) _ _ _ _ hd ⟨z, u, rfl, Nat.le_refl _, by omega, r.mono (KT.same (s0.trans s1)), fun H4 s4 => ?_⟩⟩
      refine ⟨_, _, rfl, rfl, .inl ⟨by omega, by omega⟩, ?_⟩
      have q1 := q H4 ((s0.trans s1).trans s4)
      have e5 : ((sz (.count a0 b0 u) : Nat) : Int) = ((many a0 b0 : Nat) : Int) * ((sz u : Nat) : Int) := by
        show ((many a0 b0 * sz u : Nat) : Int) = _
        rw [Int.natCast_mul]
      rw [e5] at q1
      exact q1
theorem ok_size (T : ST K mg tk g gd) : ∀ d, FnOk P w K mg base CX0 (1 + d) g gd ["tree"] (spSize d)
  | 0 => ok_size1 T (k := 0) (d := 0) (spA := spNo) ok_no (fun e _ _ _ _ h => absurd h (by omega))
  | d + 1 => (ok_size1 T (d := d + 1) (spA := spSize d) (ok_size T d) (fun e vs H Q E h ⟨v, t, r, hd, q⟩ => ⟨v, t, r, Nat.le_trans hd (by omega), q⟩)).mono (by omega)
end
end Sf4
namespace Sf4
open PySem PySem.Spec PyProof.Rows L2 Sf
abbrev sPI : Stmt := inClass cPat 0
abbrev sPEq : Stmt := inClass cPat 1
/-- what Pattern's methods find -/
structure PatT (K : PySem.W.Frag) (mg : Str → Option Value) (C : Addr) (f : Nat → Addr) (fd : Nat → FuncData) (tk : Nat → Tok) (gR gW : Addr) (dR dW : FuncData) : Prop where
  cl : Cls K C
  n1 : NoAttr K C "is_bound_left"
  n2 : NoAttr K C "tree"
  n3 : NoAttr K C "is_bound_right"
  n4 : NoAttr K C "string"
  n5 : NoAttr K C "names"
  n6 : NoAttr K C "places"
  n7 : NoAttr K C "first"
  n8 : NoAttr K C "last"
  n9 : NoAttr K C "later_places"
  mI : Mt K C "__init__" "Pattern.__init__" sPI ["self", "string"] (f 0) (fd 0)
  mE : Mt K C "__eq__" "Pattern.__eq__" sPEq ["self", "other"] (f 1) (fd 1)
  mkC : Mk K C (f 0)
  gC : mg "Pattern" = some (.ref C)
  FR : Fun K "read_pattern" "read_pattern" sRp gR dR
  bR : Binds K dR ["value"] []
  gR_ : mg "read_pattern" = some (.ref gR)
  FW : Fun K "written" "written" sWrt gW dW
  bW : Binds K dW ["tree"] []
  gW_ : mg "written" = some (.ref gW)
  gMP : mg "MOST_PLACES" = some (.int 24 (tk 15))
  ztup : mg "tuple" = none
  zisi : mg "isinstance" = none
  ha : PySem.W.findIn K (.ref C) "__class__" = some (some (.builtin "object.__class__"))
  hn : PySem.W.specialIn K (.builtin "object.__class__") "__get__" = some (some (.builtin "getset_descriptor.__get__"))
  ht : PySem.W.takesIn K (.builtin "object.__class__") = some true
  hm : PySem.W.mroIn K C (.type "object") = some true
  k1 : PySem.W.kitOne K (.ref C) (.ref C) = some true
  k2 : PySem.W.kitOne K (.type "str") (.ref C) = some false
  sb : PySem.W.subIn K (.type "str") (.ref C) = some false
def pf9 (l r : Bool) (tv : V) (Z : List Nat) (nm pl fi la be : Addr) : List (Str × V) := [("is_bound_left", .bl l), ("tree", tv), ("is_bound_right", .bl r), ("string", .str (tx Z)), ("names", .ref nm), ("places", .ref pl), ("first", .ref fi), ("last", .ref la), ("later_places", .ref be)]
/-- the pattern of a string at x -/
def PatO (C : Addr) (H : Hp) (x : Addr) (Z : List Nat) (l : Bool) (t : Tr) (r : Bool) (nm : Nm) : Prop := ∃ dx tv na pl fi la be, H x = some (.ins C dx (pf9 l r tv Z na pl fi la be)) ∧ TrO H tv t ∧ H na = some (.tup (nmV nm)) ∧ H pl = some (.tup (nmV (spts t))) ∧
  H fi = some (.tup (nIs (ascL (sz t) (pO t w0).1.2.1))) ∧ H la = some (.tup (nIs (ascL (sz t) (pO t w0).1.2.2))) ∧ BehT H be ((pO t w0).2.fo.map (ascL (sz t)))
theorem PatO.mono {C : Addr} {H H' : Hp} {x : Addr} {Z : List Nat} {l : Bool} {t : Tr} {r : Bool} {nm : Nm} (h : PatO C H x Z l t r nm) (k : Same H H') : PatO C H' x Z l t r nm := by
  obtain ⟨dx, tv, na, pl, fi, la, be, h1, h2, h3, h4, h5, h6, h7⟩ := h
  exact ⟨dx, tv, na, pl, fi, la, be, k _ _ h1, h2.mono (KT.same k), k _ _ h3, k _ _ h4, k _ _ h5, k _ _ h6, h7.mono (KT.same k)⟩
def spPI (C : Addr) : Sp := fun vs H Q _ => ∃ (Z : List Nat) (x dx : Addr) (l : Bool) (t : Tr) (r : Bool) (nm : Nm), vs = [.ref x, .str (tx Z)] ∧ H x = some (.ins C dx []) ∧ Z.length ≤ 60 ∧ RWhole Z l t r nm ∧ Sml t ∧
  ∀ H', PatO C H' x Z l t r nm → (∀ b o, b ≠ x → H b = some o → H' b = some o) → Q .non H'
theorem scPI : FnScope ["self", "string", "reader", "parts"] ["self", "string"] (defScope sPI) := ⟨rfl, rfl, rfl, by decide +kernel, rfl, by decide +kernel, by decide +kernel⟩
theorem scPEq : FnScope ["self", "other"] ["self", "other"] (defScope sPEq) := ⟨rfl, rfl, rfl, by decide +kernel, rfl, by decide +kernel, by decide +kernel⟩
theorem KT.ins {H : Hp} {a C dx dx' : Addr} {fs gs : List (Str × V)} (h : H a = some (.ins C dx fs)) : KT H (upd H a (.ins C dx' gs)) := fun b zs e => by
  rw [upd_ne (ne_of e h (by intro z; cases z))]
  exact e
section
variable {P : Program} {w : World} {K : PySem.W.Frag} {mg : Str → Option Value} {base : Heap} {C : Addr} {f : Nat → Addr} {fd : Nat → FuncData} {tk : Nat → Tok} {gR gW gS : Addr} {dR dW dS : FuncData}
variable {RC WC : Addr} {rf_ wf' : Nat → Addr} {rd wd : Nat → FuncData} {cd : Addr} {ces : Array DictEntry} {cn : Nat} {ct : Nat → Addr}
theorem ok_pi (T : PatT K mg C f fd tk gR gW dR dW) (TR : RT K w mg RC rf_ rd tk cd ces cn ct) (TW : WT K mg WC wf' wd tk) (TS : ST K mg tk gS dS) : FnOk P w K mg base CX0 85 (f 0) (fd 0) ["self", "string"] (spPI C) := by
  refine T.mI.F.ok scPI (fun vs H Q E h => ?_) (fun cdv A outer s H vs Q E hr h => ?_)
  · obtain ⟨Z, x, dx, l, t, r, nm, rfl, _⟩ := h
    rfl
  · obtain ⟨Z, x, dx, l, t, r, nm, rfl, hx, hZ, hw, hs, q⟩ := h
    have GR := ok_rp (P := P) (base := base) TR T.FR
    have GW := ok_written (P := P) (w := w) (base := base) TW T.FW
    have GS := ok_size (P := P) (w := w) (base := base) TS 40
    refine ⟨_, pss_cons (ps_asg (pe_call GR (hr.mono (by decide)) rfl T.gR_ T.FR.kp T.bR .nil pass0 (pa_cons (pv 1) pa_nil)) (pg_tup rfl (pgs_cons (pg_name (i := 2) scPI.nd rfl (.inl rfl)) (pgs_cons (pg_name (i := 3) scPI.nd rfl (.inl rfl)) pgs_nil))))
      (pss_cons (ps_asg (pv 3) (pg_tup rfl (pgs_cons (pg_fld (pv 0)) (pgs_cons (pg_fld (pv 0)) (pgs_cons (pg_fld (pv 0)) pgs_nil)))))
      (pss_cons (ps_if (pt_cmpR op_gt (pe_call GS (hr.mono (by decide)) rfl TS.gg TS.F.kp TS.b .nil pass0 (pa_cons (pe_fld (pv 0) rfl) pa_nil)) (pe_glob (v := .int 24) rfl T.gMP ⟨_, rfl⟩) (nomark _)) pss_never pss_nil)
      (pss_cons (ps_fld (pv 0) (pv 1) rfl)
      (pss_cons (ps_fld (pv 0) (pe_tupleOf (by rfl) T.ztup (pe_fld (pv 2) rfl)) rfl)
      (pss_one (ps_asg (pe_call GW hr rfl T.gW_ T.FW.kp T.bW .nil pass0 (pa_cons (pe_fld (pv 0) rfl) pa_nil)) (pg_tup rfl (pgs_cons (pg_fld (pv 0)) (pgs_cons (pg_fld (pv 0)) (pgs_cons (pg_fld (pv 0)) (pgs_cons (pg_fld (pv 0)) pgs_nil))))))))))), ?_⟩
    refine ⟨.str (tx Z), rfl, Z, l, t, r, nm, rfl, hZ, hw, fun a b p rx rl v H1 ea eb ot R s1 => ⟨a, _, rfl, .inl (.inl ea), rfl, _, _, rfl, _, _, rfl, rfl, ?_⟩⟩
    have hx1 := s1 _ _ hx
    -- three attributes
    refine ⟨.ref b, rfl, b, _, rfl, .inl (.inl eb), rfl, _, _, rfl, .ref x, rfl, x, C, dx, _, rfl, hx1, T.cl, T.n1, (show 0 < 1000 by decide), _, _, rfl, .ref x, rfl, x, C, dx, _, rfl, upd_same, T.cl, T.n2, (show 1 < 1000 by decide), _, _, rfl, .ref x, rfl, x, C, dx, _, rfl, upd_same, T.cl, T.n3, (show 2 < 1000 by decide), rfl, ?_⟩
    have pnx : p ≠ x := fun z => by
      have e := R.e
      rw [z, hx1] at e
      cases e
    have lnx : rl ≠ x := ne_of R.n hx1 (by intro z; cases z)
    have kt1 : KT H1 (upd (upd (upd H1 x (.ins C dx (putF "is_bound_left" (.bl l) []))) x (.ins C dx (putF "tree" v (putF "is_bound_left" (.bl l) [])))) x (.ins C dx (putF "is_bound_right" (.bl r) (putF "tree" v (putF "is_bound_left" (.bl l) []))))) := ((KT.ins hx1).trans (KT.ins upd_same)).trans (KT.ins upd_same)
    have st1 : ∀ c o, c ≠ x → H1 c = some o → (upd (upd (upd H1 x (.ins C dx (putF "is_bound_left" (.bl l) []))) x (.ins C dx (putF "tree" v (putF "is_bound_left" (.bl l) [])))) x (.ins C dx (putF "is_bound_right" (.bl r) (putF "tree" v (putF "is_bound_left" (.bl l) []))))) c = some o := fun c o n e => by
      rw [upd_ne n, upd_ne n, upd_ne n]
      exact e
    have e1 : (upd (upd (upd H1 x (.ins C dx (putF "is_bound_left" (.bl l) []))) x (.ins C dx (putF "tree" v (putF "is_bound_left" (.bl l) [])))) x (.ins C dx (putF "is_bound_right" (.bl r) (putF "tree" v (putF "is_bound_left" (.bl l) []))))) x = some (.ins C dx (([("is_bound_left", V.bl l), ("tree", v), ("is_bound_right", V.bl r)] : List (Str × V)))) := upd_same.trans rfl
    generalize (upd (upd (upd H1 x (.ins C dx (putF "is_bound_left" (.bl l) []))) x (.ins C dx (putF "tree" v (putF "is_bound_left" (.bl l) [])))) x (.ins C dx (putF "is_bound_right" (.bl r) (putF "tree" v (putF "is_bound_left" (.bl l) []))))) = H2 at kt1 st1 e1 ⊢
    -- not too many places
    refine ⟨.ref x, rfl, x, C, dx, _, v, rfl, e1, T.cl, T.n2, rfl, v, t, rfl, hs.d, hs.w, ot.mono kt1, fun H3 s3 => ⟨_, _, rfl, rfl, _, rfl, ?_⟩⟩
    have b1 := hs.s
    rw [decide_eq_false (show ¬ ((24 : Int) < ((sz t : Nat) : Int)) by omega)]
    refine iteF ⟨.str (tx Z), rfl, .ref x, rfl, x, C, dx, _, rfl, s3 _ _ e1, T.cl, T.n4, (show 3 < 1000 by decide), ?_⟩
    have kt3 : KT H1 (upd H3 x (.ins C dx (putF "string" (.str (tx Z)) ([("is_bound_left", V.bl l), ("tree", v), ("is_bound_right", V.bl r)] : List (Str × V))))) := (kt1.trans (KT.same s3)).trans (KT.ins (s3 _ _ e1))
    have st3 : ∀ c o, c ≠ x → H1 c = some o → (upd H3 x (.ins C dx (putF "string" (.str (tx Z)) ([("is_bound_left", V.bl l), ("tree", v), ("is_bound_right", V.bl r)] : List (Str × V))))) c = some o := fun c o n e => by
      rw [upd_ne n]
      exact s3 _ _ (st1 c o n e)
    have e3 : (upd H3 x (.ins C dx (putF "string" (.str (tx Z)) ([("is_bound_left", V.bl l), ("tree", v), ("is_bound_right", V.bl r)] : List (Str × V))))) x = some (.ins C dx ([("is_bound_left", V.bl l), ("tree", v), ("is_bound_right", V.bl r), ("string", .str (tx Z))] : List (Str × V))) := upd_same.trans rfl
    generalize (upd H3 x (.ins C dx (putF "string" (.str (tx Z)) ([("is_bound_left", V.bl l), ("tree", v), ("is_bound_right", V.bl r)] : List (Str × V))))) = H4 at kt3 st3 e3 ⊢
    refine ⟨.ref p, rfl, p, RC, rx, _, _, rfl, st3 _ _ pnx R.e, TR.cl, TR.nNm, rf_names, .inl ⟨rl, _, rfl, .inl (.inl (st3 _ _ lnx R.n)), fun na hna => ?_⟩⟩
    have sn := smU (o := HO.tup (nmV nm)) hna
    refine ⟨.ref x, rfl, x, C, dx, _, rfl, sn _ _ e3, T.cl, T.n5, (show 4 < 1000 by decide), ?_⟩
    have nna : na ≠ x := fun z => by
      rw [z, e3] at hna
      cases hna
    have kt5 : KT H1 (upd (upd H4 na (.tup (nmV nm))) x (.ins C dx (putF "names" (.ref na) ([("is_bound_left", V.bl l), ("tree", v), ("is_bound_right", V.bl r), ("string", .str (tx Z))] : List (Str × V))))) := (kt3.trans (KT.same sn)).trans (KT.ins (sn _ _ e3))
    have st5 : ∀ c o, c ≠ x → H1 c = some o → (upd (upd H4 na (.tup (nmV nm))) x (.ins C dx (putF "names" (.ref na) ([("is_bound_left", V.bl l), ("tree", v), ("is_bound_right", V.bl r), ("string", .str (tx Z))] : List (Str × V))))) c = some o := fun c o n e => by
      rw [upd_ne n]
      exact sn _ _ (st3 c o n e)
    have e5 : (upd (upd H4 na (.tup (nmV nm))) x (.ins C dx (putF "names" (.ref na) ([("is_bound_left", V.bl l), ("tree", v), ("is_bound_right", V.bl r), ("string", .str (tx Z))] : List (Str × V))))) x = some (.ins C dx ([("is_bound_left", V.bl l), ("tree", v), ("is_bound_right", V.bl r), ("string", .str (tx Z)), ("names", .ref na)] : List (Str × V))) := upd_same.trans rfl
    have en : (upd (upd H4 na (.tup (nmV nm))) x (.ins C dx (putF "names" (.ref na) ([("is_bound_left", V.bl l), ("tree", v), ("is_bound_right", V.bl r), ("string", .str (tx Z))] : List (Str × V))))) na = some (.tup (nmV nm)) := (upd_ne nna).trans upd_same
    generalize (upd (upd H4 na (.tup (nmV nm))) x (.ins C dx (putF "names" (.ref na) ([("is_bound_left", V.bl l), ("tree", v), ("is_bound_right", V.bl r), ("string", .str (tx Z))] : List (Str × V))))) = H5 at kt5 st5 e5 en ⊢
    refine ⟨.ref x, rfl, x, C, dx, _, v, rfl, e5, T.cl, T.n2, rfl, v, t, rfl, ot.mono kt5, hs, fun a4 H6 wo s6 => ?_⟩
    obtain ⟨pl, fi, la, be, h1, h2, h3, h4, h5⟩ := wo.ex
    have e6 := s6 _ _ e5
    refine ⟨a4, _, rfl, .inl (.inl h1), rfl, _, _, rfl, .ref x, rfl, x, C, dx, _, rfl, e6, T.cl, T.n6, (show 5 < 1000 by decide), _, _, rfl, .ref x, rfl, x, C, dx, _, rfl, upd_same, T.cl, T.n7, (show 6 < 1000 by decide), _, _, rfl, .ref x, rfl, x, C, dx, _, rfl, upd_same, T.cl, T.n8, (show 7 < 1000 by decide), _, _, rfl, .ref x, rfl, x, C, dx, _, rfl, upd_same, T.cl, T.n9, (show 8 < 1000 by decide), rfl, ?_⟩
    have kt6 : KT H6 _ := (((KT.ins (dx' := dx) (gs := putF "places" (.ref pl) ([("is_bound_left", V.bl l), ("tree", v), ("is_bound_right", V.bl r), ("string", .str (tx Z)), ("names", .ref na)] : List (Str × V))) e6).trans (KT.ins (dx' := dx) (gs := putF "first" (.ref fi) (putF "places" (.ref pl) ([("is_bound_left", V.bl l), ("tree", v), ("is_bound_right", V.bl r), ("string", .str (tx Z)), ("names", .ref na)] : List (Str × V)))) upd_same)).trans (KT.ins (dx' := dx) (gs := putF "last" (.ref la) (putF "first" (.ref fi) (putF "places" (.ref pl) ([("is_bound_left", V.bl l), ("tree", v), ("is_bound_right", V.bl r), ("string", .str (tx Z)), ("names", .ref na)] : List (Str × V))))) upd_same)).trans
      (KT.ins (dx' := dx) (gs := putF "later_places" (.ref be) (putF "last" (.ref la) (putF "first" (.ref fi) (putF "places" (.ref pl) ([("is_bound_left", V.bl l), ("tree", v), ("is_bound_right", V.bl r), ("string", .str (tx Z)), ("names", .ref na)] : List (Str × V)))))) upd_same)
    refine q _ ⟨dx, v, na, pl, fi, la, be, upd_same.trans rfl, ((ot.mono kt5).mono (KT.same s6)).mono kt6, kt6 _ _ (s6 _ _ en), kt6 _ _ h2, kt6 _ _ h3, kt6 _ _ h4, h5.mono kt6⟩ fun c o n e => ?_
    rw [upd_ne n, upd_ne n, upd_ne n, upd_ne n]
    exact s6 _ _ (st5 c o n (s1 _ _ e))
/-! ### equal patterns -/
def spPEq (C : Addr) : Sp := fun vs H Q _ => ∃ (a dx : Addr) (fs : List (Str × V)) (y : V) (z : Str) (b : Bool), vs = [.ref a, y] ∧ H a = some (.ins C dx fs) ∧ fs.lookup ("string" : Str) = some (.str z) ∧
  ((∃ c dy gs u, y = .ref c ∧ H c = some (.ins C dy gs) ∧ gs.lookup ("string" : Str) = some (.str u) ∧ b = decide (V.str z = V.str u)) ∨ (∃ u, y = .str u ∧ b = false)) ∧ Q (.bl b) H
theorem ok_peq (T : PatT K mg C f fd tk gR gW dR dW) : FnOk P w K mg base CX0 1 (f 1) (fd 1) ["self", "other"] (spPEq C) := by
  refine T.mE.F.ok scPEq (fun vs H Q E h => ?_) (fun cdv A outer s H vs Q E hr h => ?_)
  · obtain ⟨a, dx, fs, y, z, b, rfl, _⟩ := h
    rfl
  · obtain ⟨a, dx, fs, y, z, b, rfl, ha, hl, hy, q⟩ := h
    refine ⟨_, pss_one (ps_ret (pe_and (pe_callB call_isi (by rfl) T.zisi PyProof.Rows.boot_isinstance (pa_cons (pv 1) (pa_cons (pe_glob (v := .ref C) rfl T.gC rfl) pa_nil))) (pe_one (pe_cmpR op_eq (pe_fld (pv 0) rfl) (pe_fld (pv 1) rfl) (nomark _))))), ?_⟩
    rcases hy with ⟨c, dy, gs, u, rfl, hc, hg, rfl⟩ | ⟨u, rfl, rfl⟩
    · refine ⟨.ref c, rfl, .ref c, .ref C, _, _, true, rfl, .own C, .base (.ins hc T.cl T.ha T.hn T.ht T.hm), T.k1, true, rfl, iteT ?_⟩
      exact ⟨.ref a, rfl, a, C, dx, fs, _, rfl, ha, T.cl, T.n4, hl, .ref c, rfl, c, C, dy, gs, _, rfl, hc, T.cl, T.n4, hg, rfl, q⟩
    · exact ⟨.str u, rfl, .str u, .ref C, _, _, false, rfl, .own C, .base (.str u), T.k2, false, rfl, iteF q⟩
/-- == by an own __eq__ -/
theorem op_eqOwn {X : Cx} {n : Nat} {g : Addr} {gd : FuncData} {ps : List Str} {sp : Sp} {D : Addr} (F : FnOk X.prog X.w X.K X.mg X.base CX0 n g gd ps sp) (hs : PySem.W.findIn X.K (.ref D) "__eq__" = some (some (.ref g))) (hf : PySem.W.isFn X.K (.ref g) = true) (hb : Binds X.K gd ps []) (hr : Room n X.A) (hsub : PySem.W.subIn X.K (.type "str") (.ref D) = some false) :
    OpR X (compareOp .Eq) (fun x y H Q => ∃ a dx fs, x = .ref a ∧ H a = some (.ins D dx fs) ∧ ((∃ c dy gs, y = .ref c ∧ H c = some (.ins D dy gs)) ∨ ∃ u, y = .str u) ∧ sp [x, y] H (fun v H' => (∃ b, v = .bl b) ∧ Q v H') E0) := by
  intro pins s σ H x y u1 u2 Q I rx ry hq
  obtain ⟨a, dx, fs, rfl, ha, hy, hsp⟩ := hq
  cases rx
  obtain ⟨mA, J, _⟩ := ins_get I.hok ha
  obtain ⟨od, J, _⟩ := J.look
  obtain ⟨m, hF⟩ := I.fr
  have r2 : Vals [V.ref a, y] [Value.ref a, u2] := .cons rfl (.cons ry .nil)
  have hl := F.len _ _ _ _ hsp
  have go : wpAny (model X.prog X.w) X.A (call (.ref g) [.ref a, u2]) (PySem.W.CmpBack (EP X pins σ Q)) X.xe s := by
    refine wpAny_call (codeAny_mono (F.run X.A X.stack s H ⟨[.ref a, u2], []⟩ [.ref a, u2] [.ref a, y] _ E0 hr I.env0 (by
      have := hb s [.ref a, u2] I.kIn (by simpa using hl)
      simpa using this) r2 hsp) fun r s' hq => ?_)
    cases r with
    | error e => exact False.elim hq
    | ok fl =>
      cases fl with
      | ret w =>
        obtain ⟨z, H', I', rz, ⟨b, ez⟩, ex⟩ := I.after hq
        subst ez
        cases rz
        exact ⟨.bl b, H', I', rfl, ex⟩
      | next => exact False.elim hq
      | brk => exact False.elim hq
      | cont => exact False.elim hq
  show wpAny (model X.prog X.w) X.A (richCompare .Eq (.ref a) u2) (EP X pins σ Q) X.xe s
  rcases hy with ⟨c, dy, gs, rfl, hc⟩ | ⟨z, rfl⟩
  · cases ry
    obtain ⟨mB, J', _⟩ := ins_get I.hok hc
    obtain ⟨od', J', _⟩ := J'.look
    exact PySem.W.cmp_K (op := .Eq) (tb := .ref D) hr.units0 hF I.ok.mod.kin J J'.type (by simp [PySem.W.notFirst]) hs hf go
  · obtain ⟨t, rfl⟩ := ry
    exact PySem.W.cmp_K (op := .Eq) (tb := .type "str") hr.units0 hF I.ok.mod.kin J (PySem.W.Looks.of_pure rfl) (by simp [PySem.W.notFirst, hsub]) hs hf go
end
end Sf4
/-! The law's pot: drawn numbers. -/
namespace Sf4
open PySem PySem.Spec PyProof.Rows L2 Sf
abbrev sPot : Stmt := topS 54
abbrev sDraw : Stmt := topS 55
abbrev sAny : Stmt := topS 56
theorem scPot : FnScope ["_law_script", "_law_k", "_law_cell", "_law_own"] ["_law_script", "_law_k"] (defScope sPot) := ⟨rfl, rfl, rfl, by decide +kernel, rfl, by decide +kernel, by decide +kernel⟩
theorem scDraw : FnScope ["_law_pot_here", "_law_many", "_law_digit", "_law_prime", "_law_made"] ["_law_pot_here", "_law_many"] (defScope sDraw) := ⟨rfl, rfl, rfl, by decide +kernel, rfl, by decide +kernel, by decide +kernel⟩
theorem scAny : FnScope ["_law_pot_here", "_law_items"] ["_law_pot_here", "_law_items"] (defScope sAny) := ⟨rfl, rfl, rfl, by decide +kernel, rfl, by decide +kernel, by decide +kernel⟩
theorem str_len (x : Str) : x.length = x.cps.toList.length := TL.len_tl x
/-! ### the pot -/
/-- a pot out of which at most n mixed numbers were drawn -/
def Pot (H : Hp) (p : Addr) (n : Int) : Prop := ∃ a b c : Int, H p = some (.lst [.int a, .int b, .int c]) ∧ 0 ≤ a ∧ 0 ≤ b ∧ b < 2305843009213693951 ∧ 0 ≤ c ∧ c ≤ n
theorem Pot.mono {H : Hp} {p : Addr} {n m : Int} (h : Pot H p n) (l : n ≤ m) : Pot H p m := by
  obtain ⟨a, b, c, e, h1, h2, h3, h4, h5⟩ := h
  exact ⟨a, b, c, e, h1, h2, h3, h4, by omega⟩
/-- all but the pot stands as it stood -/
def Kp (p : Addr) (H H' : Hp) : Prop := ∀ b o, b ≠ p → H b = some o → H' b = some o
theorem Kp.refl (p : Addr) (H : Hp) : Kp p H H := fun _ _ _ h => h
theorem Kp.trans {p : Addr} {H H1 H2 : Hp} (a : Kp p H H1) (b : Kp p H1 H2) : Kp p H H2 := fun c o n h => b c o n (a c o n h)
theorem Kp.same {p : Addr} {H H1 : Hp} (a : Same H H1) : Kp p H H1 := fun c o _ h => a c o h
theorem Kp.pot {p : Addr} {H : Hp} {o : HO} : Kp p H (upd H p o) := fun c u n h => by
  rw [upd_ne n]
  exact h
theorem sq_le {c : Int} (h0 : 0 ≤ c) (h1 : c ≤ 1000000) : 0 ≤ 99991 * c * c ∧ 99991 * c * c ≤ 99991000000000000 := by
  have h2 : 0 ≤ c * c := Int.mul_nonneg h0 h0
  have h3 : c * c ≤ 1000000 * 1000000 := Int.mul_le_mul h1 h1 h0 (by decide)
  rw [Int.mul_assoc]
  omega
def spDraw : Sp := fun vs H Q _ => ∃ (p : Addr) (n m : Int), vs = [.ref p, .int m] ∧ Pot H p n ∧ n < 1000000 ∧ 0 < m ∧ m < 1073741824 ∧
  ∀ (r : Int) (H' : Hp), 0 ≤ r → r < m → Pot H' p (n + 1) → Kp p H H' → Q (.int r) H'
section
variable {P : Program} {w : World} {K : PySem.W.Frag} {mg : Str → Option Value} {base : Heap}
theorem ok_draw {f : Addr} {fd : FuncData} {k : Nat} (F : Fun K "_law_draw" "_law_draw" sDraw f fd) (mi : mg "int" = none) : FnOk P w K mg base CX0 (k + 1) f fd ["_law_pot_here", "_law_many"] spDraw := by
  refine F.ok scDraw (fun vs H Q E h => ?_) (fun cdv A outer s H vs Q E hr h => ?_)
  · obtain ⟨p, n, m, rfl, _⟩ := h
    rfl
  · obtain ⟨p, n, m, rfl, ⟨a, b, c, hp, ha, hb0, hb1, hc0, hc1⟩, hn, hm0, hm1, q⟩ := h
    refine ⟨_, pss_cons (ps_if (pt_cmpR op_gt (pe_ix ix_list (pv 0) pe_int (fun _ _ => rfl)) pe_int (nomark _))
        (pss_cons (ps_set (i := 2) scDraw.nd rfl (.inl rfl) (pe_op op_mod (pe_callTy call_int1 (by rfl) mi PySem.Pv.boot_int (pa_cons (pe_ix ix_list (pv 0) pe_int (fun _ _ => rfl)) pa_nil)) (pv 1)))
        (pss_cons (ps_asg (pe_op op_fdiv (pe_ix ix_list (pv 0) pe_int (fun _ _ => rfl)) (pv 1)) (pg_sub (pv 0) pe_int set_list (fun _ => rfl)))
        (pss_one (ps_ret (pv 2)))))
        pss_nil)
      (pss_cons (ps_asg (pe_op op_add (pe_ix ix_list (pv 0) pe_int (fun _ _ => rfl)) pe_int) (pg_sub (pv 0) pe_int set_list (fun _ => rfl)))
      (pss_cons (ps_set (i := 3) scDraw.nd rfl (.inl rfl) (pe_ix ix_list (pe_lst (pa_cons pe_int (pa_cons pe_int (pa_cons pe_int (pa_cons pe_int (pa_cons pe_int pa_nil))))))
          (pe_op op_mod (pe_callTy call_int1 (by rfl) mi PySem.Pv.boot_int (pa_cons (pe_ix ix_list (pv 0) pe_int (fun _ _ => rfl)) pa_nil)) pe_int) (fun _ _ => rfl)))
      (pss_cons (ps_set (i := 4) scDraw.nd rfl (.inl rfl) (pe_op op_mod (pe_callTy call_int1 (by rfl) mi PySem.Pv.boot_int (pa_cons
          (pe_op op_pow (pe_op op_add (pe_op op_add (pe_ix ix_list (pv 0) pe_int (fun _ _ => rfl)) (pe_op op_mul (pe_op op_mul pe_int (pe_ix ix_list (pv 0) pe_int (fun _ _ => rfl))) (pe_ix ix_list (pv 0) pe_int (fun _ _ => rfl)))) pe_int) pe_int) pa_nil)) (pv 3)))
      (pss_cons (ps_set (i := 4) scDraw.nd rfl (.inl rfl) (pe_op op_mod (pe_callTy call_int1 (by rfl) mi PySem.Pv.boot_int (pa_cons
          (pe_op op_mul (pv 4) (pe_op op_add (pe_op op_mod (pe_callTy call_int1 (by rfl) mi PySem.Pv.boot_int (pa_cons (pv 4) pa_nil)) pe_int) (pe_op op_mul pe_int (pe_ix ix_list (pv 0) pe_int (fun _ _ => rfl))))) pa_nil)) pe_int))
      (pss_one (ps_ret (pe_op op_mod (pe_callTy call_int1 (by rfl) mi PySem.Pv.boot_int (pa_cons (pe_op op_fdiv (pv 4) pe_int) pa_nil)) (pv 1)))))))), ?_⟩
    have hS : ∀ {H1 : Hp} {xs : List V}, H1 p = some (.lst xs) → SqL K H1 p xs := fun h => .inl (.inl h)
    -- pot[0] > 0
    refine ⟨.ref p, rfl, p, _, 0, _, rfl, rfl, hS hp, rfl, _, _, rfl, rfl, _, rfl, ?_⟩
    refine ite2 (fun h => ?_) (fun h => ?_)
    · have h0 : 0 < a := of_decide_eq_true h
      -- digit
      refine ⟨.ref p, rfl, p, _, 0, _, rfl, rfl, hS hp, rfl, .inl ⟨_, rfl, .int m, rfl, _, _, rfl, rfl, hm0, ?_⟩⟩
      -- pot[0] = pot[0] // many
      refine ⟨.ref p, rfl, p, _, 0, _, rfl, rfl, hS hp, rfl, .int m, rfl, _, _, rfl, rfl, ⟨hm0, hm1⟩, ?_⟩
      refine ⟨.ref p, rfl, p, _, 0, 0, rfl, rfl, hp, rfl, ?_⟩
      refine ⟨_, rfl, q _ _ (Int.emod_nonneg _ (by omega)) (Int.emod_lt_of_pos _ hm0) ⟨a / m, b, c, upd_same, Int.ediv_nonneg ha (by omega), hb0, hb1, hc0, by omega⟩ Kp.pot⟩
    · have h0 : ¬ 0 < a := fun z => h (decide_eq_true z)
      -- pot[2] = pot[2] + 1
      refine ⟨.ref p, rfl, p, _, 2, _, rfl, rfl, hS hp, rfl, _, _, rfl, rfl, .ref p, rfl, p, _, 2, 2, rfl, rfl, hp, rfl, ?_⟩
      have e1 : upd H p (.lst [.int a, .int b, .int (c + 1)]) p = some (.lst [.int a, .int b, .int (c + 1)]) := upd_same
      -- prime
      refine ⟨by show 5 ≤ sizeLine; decide, fun l hl => ?_⟩
      have nlp : p ≠ l := ne_of_none e1 hl
      have e2 : upd (upd H p (.lst [.int a, .int b, .int (c + 1)])) l (.lst [.int 2147483647, .int 2147483629, .int 2147483587, .int 2147483579, .int 2147483563]) p = some (.lst [.int a, .int b, .int (c + 1)]) := by
        rw [upd_ne nlp]
        exact e1
      have kp : Kp p H (upd (upd H p (.lst [.int a, .int b, .int (c + 1)])) l (.lst [.int 2147483647, .int 2147483629, .int 2147483587, .int 2147483579, .int 2147483563])) := by
        intro b' o nb hb
        have nl : H l = none := by
          rw [upd_ne nlp.symm] at hl
          exact hl
        rw [upd_ne (ne_of_none hb nl), upd_ne nb]
        exact hb
      obtain ⟨pr, hpr, p0⟩ : ∃ pr : Int, atI [V.int 2147483647, V.int 2147483629, V.int 2147483587, V.int 2147483579, V.int 2147483563] ((c + 1) % 5) = some (.int pr) ∧ 0 < pr ∧ pr ≤ 2147483647 := by
        have h1 : 0 ≤ (c + 1) % 5 := Int.emod_nonneg _ (by decide)
        have h2 : (c + 1) % 5 < 5 := Int.emod_lt_of_pos _ (by decide)
        generalize (c + 1) % 5 = r at h1 h2
        have : r = 0 ∨ r = 1 ∨ r = 2 ∨ r = 3 ∨ r = 4 := by omega
        rcases this with rfl | rfl | rfl | rfl | rfl
        · exact ⟨2147483647, rfl, by decide⟩
        · exact ⟨2147483629, rfl, by decide⟩
        · exact ⟨2147483587, rfl, by decide⟩
        · exact ⟨2147483579, rfl, by decide⟩
        · exact ⟨2147483563, rfl, by decide⟩
      refine ⟨.ref p, rfl, p, _, 2, _, rfl, rfl, hS e2, rfl, .inl ⟨_, rfl, _, _, rfl, rfl, by show (0 : Int) < 5; decide, l, _, _, _, rfl, rfl, .inl (.inl upd_same), hpr, ?_⟩⟩
      -- made
      refine ⟨.ref p, rfl, p, _, 1, _, rfl, rfl, hS e2, rfl, .ref p, rfl, p, _, 2, _, rfl, rfl, hS e2, rfl, _, _, rfl, rfl, .inl ⟨by decide, by decide⟩, .ref p, rfl, p, _, 2, _, rfl, rfl, hS e2, rfl, _, _, rfl, rfl, .inl ⟨?_, ?_⟩, _, _, rfl, rfl, _, _, rfl, rfl, ?_⟩
      · omega
      · omega
      refine ⟨_, _, rfl, rfl, ⟨by decide, by decide, ?_⟩, .inl ⟨_, rfl, _, rfl, _, _, rfl, rfl, p0.1, ?_⟩⟩
      · have hq := sq_le (c := c + 1) (by omega) (by omega)
        show (b + 99991 * (c + 1) * (c + 1) + 61).natAbs < 2 ^ 64
        omega
      generalize (b + 99991 * (c + 1) * (c + 1) + 61) ^ Int.toNat 3 = X
      have hM0 : 0 ≤ X % pr := Int.emod_nonneg _ (by omega)
      have hM1 : X % pr < pr := Int.emod_lt_of_pos _ p0.1
      refine ⟨.int (X % pr), rfl, .int (X % pr), rfl, .inl ⟨_, rfl, _, _, rfl, rfl, by show (0 : Int) < 10007; decide, .ref p, rfl, p, _, 2, _, rfl, rfl, hS e2, rfl, _, _, rfl, rfl, .inl ⟨by decide, by decide⟩, _, _, rfl, rfl, _, _, rfl, rfl, .inl ⟨by omega, by omega⟩, .inl ⟨_, rfl, _, _, rfl, rfl, by show (0 : Int) < 2305843009213693907; decide, ?_⟩⟩⟩
      generalize X % pr * (X % pr % 10007 + 83 * (c + 1)) = Y
      refine ⟨.int (Y % 2305843009213693907), rfl, _, _, rfl, rfl, ⟨by decide, by decide⟩, .inl ⟨_, rfl, .int m, rfl, _, _, rfl, rfl, hm0, ?_⟩⟩
      exact q _ _ (Int.emod_nonneg _ (by omega)) (Int.emod_lt_of_pos _ hm0) ⟨a, b, c + 1, e2, ha, hb0, hb1, by omega, by omega⟩ kp
end
/-! ### powers of greater numbers -/
def CPw (i j : Int) : Prop := 0 ≤ j ∧ (Builtin.Int.intBits i : Int) * j ≤ 2 ^ 27
section
variable {X : Cx}
theorem op_powW : OpR X (binaryOp .Pow) (rI CPw fun i j => .int (i ^ j.toNat)) := opI fun _ _ _ _ _ _ _ hc q => pow_int hc.1 hc.2 q
end
section
variable {P : Program} {w : World} {K : PySem.W.Frag} {mg : Str → Option Value} {base : Heap}
/-! ### _law_pot -/
def spPot (K : PySem.W.Frag) : Sp := fun vs H Q _ => ∃ (a : Addr) (ns : List Int) (k : Nat), vs = [.ref a, .int (k : Int)] ∧ SqL K H a (ns.map V.int) ∧ k ≤ 2 ∧ ∀ (p : Addr) H', H p = none → Same H H' → Pot H' p 0 → Q (.ref p) H'
theorem ok_pot {f : Addr} {fd : FuncData} {k : Nat} (F : Fun K "_law_pot" "_law_pot" sPot f fd) (mi : mg "int" = none) (ma : mg "abs" = none) (ml : mg "len" = none) : FnOk P w K mg base CX0 (k + 1) f fd ["_law_script", "_law_k"] (spPot K) := by
  refine F.ok scPot (fun vs H Q E h => ?_) (fun cdv A outer s H vs Q E hr h => ?_)
  · obtain ⟨a, ns, k, rfl, _⟩ := h
    rfl
  · obtain ⟨a, ns, k, rfl, hS, hk, q⟩ := h
    refine ⟨_, Evl.pss_cut (ps_set (i := 2) scPot.nd rfl (.inl rfl) (pe_ifExp (pt_cmpR op_lt (pv 1) (pe_callB call_len_seq (by rfl) ml PySem.boot_len (pa_cons (pv 0) pa_nil)) (nomark _))
        (pe_ix ix_list (pv 0) (pv 1) (fun _ _ => rfl)) (pe_op op_add (pe_op op_mul pe_int (pv 1)) pe_int)))
      (pss_cons (ps_set (i := 3) scPot.nd rfl (.inl rfl) (pe_op op_mul (pe_op op_mod (pe_callTy call_int1 (by rfl) mi PySem.Pv.boot_int (pa_cons (pe_callB call_abs (by rfl) ma (by decide +kernel) (pa_cons (pv 2) pa_nil)) pa_nil))
          (pe_op op_powW (pe_op op_pow pe_int pe_int) pe_int))
        (pe_callTy call_int1 (by rfl) mi PySem.Pv.boot_int (pa_cons (pe_cmpR op_ge (pe_callB call_abs (by rfl) ma (by decide +kernel) (pa_cons (pv 2) pa_nil)) (pe_op op_pow pe_int pe_int) (nomark _)) pa_nil))))
      (pss_one (ps_ret (pe_lst (pa_cons (pv 3) (pa_cons (pe_op op_mod (pe_callTy call_int1 (by rfl) mi PySem.Pv.boot_int (pa_cons
          (pe_op op_add (pe_op op_add (pe_op op_mul (pe_op op_mod (pe_callTy call_int1 (by rfl) mi PySem.Pv.boot_int (pa_cons (pv 2) pa_nil)) pe_int) pe_int) (pe_op op_mul (pe_op op_mul pe_int (pv 1)) (pv 1))) pe_int) pa_nil)) pe_int)
        (pa_cons pe_int pa_nil))))))), ?_⟩
    refine ⟨fun σ H' => ∃ c : Int, σ = [some (.ref a), some (.int k), some (.int c), none] ∧ H' = H, ?_, fun σ H' hM => ?_⟩
    · refine ⟨.int k, rfl, .ref a, rfl, a, _, rfl, .inl hS, _, _, rfl, rfl, _, rfl, ?_⟩
      refine ite2 (fun h => ?_) (fun h => ?_)
      · have h1 : (k : Int) < ((ns.map V.int).length : Int) := of_decide_eq_true h
        rw [List.length_map] at h1
        have hk2 : k < ns.length := by omega
        exact ⟨.ref a, rfl, .int k, rfl, a, _, k, .int ns[k], rfl, rfl, hS, atI_nat (by rw [List.getElem?_map, List.getElem?_eq_getElem hk2] <;> rfl), ns[k], rfl, rfl⟩
      · exact ⟨.int k, rfl, _, _, rfl, rfl, .inl ⟨by decide, by decide⟩, _, _, rfl, rfl, _, rfl, rfl⟩
    · obtain ⟨c, rfl, rfl⟩ := hM
      have p0 : (0 : Int) < (10 ^ Int.toNat 60) ^ Int.toNat 5 := by decide +kernel
      have m0 : ∀ z : Int, 0 ≤ z % (10 ^ Int.toNat 60) ^ Int.toNat 5 := fun z => Int.emod_nonneg _ (by omega)
      have b0 : ∀ b : Bool, (0 : Int) ≤ (if b = true then 1 else 0) ∧ (if b = true then (1 : Int) else 0) < 2 ^ 64 := fun b => by cases b <;> decide
      have c0 : 0 ≤ c % 2305843009213693951 ∧ c % 2305843009213693951 < 2305843009213693951 := ⟨Int.emod_nonneg _ (by decide), Int.emod_lt_of_pos _ (by decide)⟩
      refine ⟨.int c, rfl, c, rfl, .inl ⟨_, rfl, _, _, rfl, rfl, ⟨by decide, by decide, by decide⟩, _, _, rfl, rfl, ⟨by decide, by decide +kernel⟩, _, _, rfl, rfl, p0,
        .int c, rfl, c, rfl, _, _, rfl, rfl, ⟨by decide, by decide, by decide⟩, _, _, rfl, rfl, .inr ⟨_, rfl, _, _, rfl, rfl, .inr ⟨Int.lt_of_lt_of_le (by decide) (b0 _).1, (b0 _).2⟩, ?_⟩⟩⟩
      refine ⟨_, rfl, .int c, rfl, .inl ⟨_, rfl, _, _, rfl, rfl, by show (0 : Int) < 2305843009213693951; decide, _, _, rfl, rfl, .inr ⟨by decide, by decide⟩,
        .int k, rfl, _, _, rfl, rfl, .inl ⟨by decide, by decide⟩, .int k, rfl, _, _, rfl, rfl, .inl ⟨by omega, by omega⟩, _, _, rfl, rfl, _, _, rfl, rfl,
        .inl ⟨_, rfl, _, _, rfl, rfl, by show (0 : Int) < 2305843009213693921; decide, by show 3 ≤ sizeLine; decide, fun p np => q p _ np (smU np) ?_⟩⟩⟩
      refine ⟨_, _, 0, upd_same, Int.mul_nonneg (m0 _) (b0 _).1, Int.emod_nonneg _ (by decide), Int.lt_trans (Int.emod_lt_of_pos _ (by decide)) (by decide), Int.le_refl _, Int.le_refl _⟩
/-! ### _law_any -/
def spAny (K : PySem.W.Frag) : Sp := fun vs H Q _ => ∃ (p : Addr) (n : Int) (x : V), vs = [.ref p, x] ∧ Pot H p n ∧ n < 1000000 ∧
  ((∃ z : Str, x = .str z ∧ 0 < z.length ∧ z.length ≤ 1000 ∧ ∀ (c : Nat) H', c ∈ z.cps.toList → Pot H' p (n + 1) → Kp p H H' → Q (.str ⟨#[c]⟩) H') ∨
   (∃ (a : Addr) (xs : List V), x = .ref a ∧ (∀ {H'}, Kp p H H' → SqL K H' a xs) ∧ 0 < xs.length ∧ xs.length ≤ 1000 ∧ ∀ (v : V) H', v ∈ xs → Pot H' p (n + 1) → Kp p H H' → Q v H'))
theorem atI_of {α : Type} {xs : List α} {r : Int} (h0 : 0 ≤ r) (h1 : r < (xs.length : Int)) : ∃ x, atI xs r = some x ∧ x ∈ xs := by
  obtain ⟨n, rfl⟩ := Int.eq_ofNat_of_zero_le h0
  have hn : n < xs.length := by omega
  exact ⟨xs[n], atI_nat (List.getElem?_eq_getElem hn), List.getElem_mem hn⟩
theorem ok_any {f fD : Addr} {fd fdD : FuncData} {k : Nat} (F : Fun K "_law_any" "_law_any" sAny f fd) (FD : Fun K "_law_draw" "_law_draw" sDraw fD fdD) (bD : Binds K fdD ["_law_pot_here", "_law_many"] []) (gD : mg "_law_draw" = some (.ref fD))
    (GD : FnOk P w K mg base CX0 (k + 1) fD fdD ["_law_pot_here", "_law_many"] spDraw) (ml : mg "len" = none) : FnOk P w K mg base CX0 (k + 2) f fd ["_law_pot_here", "_law_items"] (spAny K) := by
  refine F.ok scAny (fun vs H Q E h => ?_) (fun cdv A outer s H vs Q E hr h => ?_)
  · obtain ⟨p, n, x, rfl, _⟩ := h
    rfl
  · obtain ⟨p, n, x, rfl, hp, hn, h⟩ := h
    refine ⟨_, pss_one (ps_ret (pe_ix ix_seq (pv 1) (pe_call GD hr (by rfl) gD FD.kp bD .nil pass0 (pa_cons (pv 0) (pa_cons (pe_callB (CallR.or call_len_seq call_len_str) (by rfl) ml PySem.boot_len (pa_cons (pv 1) pa_nil)) pa_nil))) (fun _ _ => rfl))), ?_⟩
    rcases h with ⟨z, rfl, z0, z1, q⟩ | ⟨a, xs, rfl, hS, x0, x1, q⟩
    · have zl : z.length ≤ sizeLine := Nat.le_trans z1 (by decide)
      refine ⟨.str z, rfl, .ref p, rfl, .str z, rfl, .inr ⟨z, rfl, zl, p, n, _, rfl, hp, hn, by omega, by omega, fun r H' h0 h1 hp' hk => ?_⟩⟩
      rw [str_len] at h1
      obtain ⟨c, e, hc⟩ := atI_of h0 h1
      exact .inr (.inr ⟨z, r, c, rfl, rfl, zl, e, q c H' hc hp' hk⟩)
    · refine ⟨.ref a, rfl, .ref p, rfl, .ref a, rfl, .inl ⟨a, xs, rfl, .inl (hS (Kp.refl p H)), p, n, _, rfl, hp, hn, by omega, by omega, fun r H' h0 h1 hp' hk => ?_⟩⟩
      obtain ⟨v, e, hv⟩ := atI_of h0 h1
      exact .inl ⟨a, xs, r, v, rfl, rfl, hS hk, e, q v H' hv hp' hk⟩

def spLets : Sp := fun vs H Q _ => vs = [] ∧ Q (.str LSs) H
end
theorem Pot.up {H : Hp} {p D : Addr} {o : HO} {n : Int} (h : Pot H p n) (hD : H D = none) : Pot (upd H D o) p n := by
  obtain ⟨a, b, c, e, r⟩ := h
  refine ⟨a, b, c, ?_, r⟩
  rw [upd_ne (ne_of_none e hD)]
  exact e
theorem Pot.ne {H : Hp} {p D : Addr} {n : Int} (h : Pot H p n) (hD : H D = none) : D ≠ p := by
  obtain ⟨a, b, c, e, r⟩ := h
  exact (ne_of_none e hD).symm
theorem Pot.wr {H : Hp} {p D : Addr} {o : HO} {n : Int} (h : Pot H p n) (hD : D ≠ p) : Pot (upd H D o) p n := by
  obtain ⟨a, b, c, e, r⟩ := h
  refine ⟨a, b, c, ?_, r⟩
  rw [upd_ne hD.symm]
  exact e
end Sf4
/-! What is left of the law's draws. -/
namespace Sf4
open PySem PySem.Spec PyProof.Rows L2 Sf
/-- text * 0, text * 1 -/
theorem op_mul_s {X : Cx} : OpR X (binaryOp .Mult) (fun x y H Q => ∃ (i : Str) (n : Int), x = .str i ∧ y = .int n ∧ (n = 0 ∨ n = 1) ∧ Q (.str (if n = 0 then Str.empty else i)) H) := by
  intro pins s σ H x y v u Q I rx ry h
  obtain ⟨i, n, rfl, rfl, hn, q⟩ := h
  obtain ⟨t, rfl⟩ := rx
  obtain ⟨t', rfl⟩ := ry
  refine PySem.SB.mul (n := n) ⟨?_, fun h1 h2 => ?_, fun h1 h2 => ?_⟩ fun t' k => ?_
  · rcases hn with rfl | rfl <;> decide
  · rcases hn with rfl | rfl
    · exact absurd (by decide) h1
    · rw [show ((1 : Int) == 1) = true by decide] at h2
      cases h2
  · rcases hn with rfl | rfl
    · exact absurd (by decide) h1
    · rw [show ((1 : Int) == 1) = true by decide] at h2
      cases h2
  · have e : Txt.mul i n = if n = 0 then Str.empty else i := by
      unfold Txt.mul
      rcases hn with rfl | rfl
      · rw [if_pos (by decide), if_pos rfl]
      · rw [if_neg (show ¬ ((1 : Int) < 1) by decide), show ((1 : Int) == 1) = true by decide, Bool.true_or, if_pos rfl]
        rfl
    rw [e]
    exact ⟨.str (if n = 0 then Str.empty else i), H, I.tok _, ⟨_, rfl⟩, q⟩
/-! ### bounds of drawn trees -/
/-- a def of the law, where it stands -/
structure Fd (K : PySem.W.Frag) (mg : Str → Option Value) (x : Str) (st : Stmt) (ps : List Str) (f : Addr) (fd : FuncData) : Prop where
  F : Fun K x x st f fd
  b : Binds K fd ps []
  g : mg x = some (.ref f)
structure LawT (K : PySem.W.Frag) (mg : Str → Option Value) (f : Nat → Addr) (fd : Nat → FuncData) : Prop where
  pot : Fd K mg "_law_pot" sPot ["_law_script", "_law_k"] (f 0) (fd 0)
  draw : Fd K mg "_law_draw" sDraw ["_law_pot_here", "_law_many"] (f 1) (fd 1)
  any : Fd K mg "_law_any" sAny ["_law_pot_here", "_law_items"] (f 2) (fd 2)
  zint : mg "int" = none
  zabs : mg "abs" = none
  zlen : mg "len" = none
  zmax : mg "max" = none
  zmin : mg "min" = none
  zrange : mg "range" = none
  zsum : mg "sum" = none
  ztup : mg "tuple" = none
  zstr : mg "str" = none
  zrepr : mg "repr" = none
def okNm (nm : Nm) : Prop := ∀ n ∈ nm, 1 ≤ n.length ∧ n.length ≤ 8 ∧ ∀ c ∈ n, small c
theorem one_let : ∀ c ∈ LETc, (LETc.filter fun e => decide (e ∈ [c])) = [c] := by decide +kernel
theorem all_let : (LETc.filter fun e => decide (e ∈ LETc)) = LETc := by decide +kernel
theorem nd_let : LETc.Nodup := by decide +kernel
def nmD (nm : Nm) : List PyData := nm.map fun n => PyData.str (tx n)
theorem nm_dp {K : PySem.W.Frag} {H : Hp} : ∀ nm : Nm, DpAll K H (nmV nm) (nmD nm)
  | [] => .nil
  | n :: r => .cons (.str _) (nm_dp r)
theorem nmD_lay : ∀ {nm : Nm}, okNm nm → PyData.canLayAll0 (nmD nm) = true ∧ PyData.depthAll (nmD nm) = 0
  | [], _ => ⟨rfl, rfl⟩
  | n :: r, h => by
    obtain ⟨a, b⟩ := nmD_lay (nm := r) fun m hm => h m (List.mem_cons_of_mem _ hm)
    obtain ⟨_, _, hs⟩ := h n List.mem_cons_self
    have e : PyData.canLay0 (.str (tx n)) = true := by
      show (n.toArray).all (· < 0x110000) = true
      rw [List.all_toArray, List.all_eq_true]
      intro c hc
      have := (hs c hc).2
      exact decide_eq_true (by omega)
    refine ⟨?_, ?_⟩
    · show (PyData.canLay0 (.str (tx n)) && PyData.canLayAll0 (nmD r)) = true
      rw [a, e] <;> rfl
    · show max 0 (PyData.depthAll (nmD r)) = 0
      rw [b] <;> rfl
theorem nmD_shaped {nm : Nm} (h : okNm nm) : SeqAt.shaped (.list (nmD nm)) = true := by
  obtain ⟨a, b⟩ := nmD_lay h
  have h1 : PyData.canLay0 (.list (nmD nm)) = true := by simpa only [PyData.canLay0] using a
  have h2 : PyData.depth (.list (nmD nm)) ≤ 64 := by
    simp only [PyData.depth]
    omega
  unfold SeqAt.shaped
  rw [h1, decide_eq_true h2] <;> rfl
theorem nmD_eqv (nm : Nm) : PyData.eqv (.list (nmD nm)) (.list []) = nm.isEmpty := by
  cases nm <;> rfl
theorem Kp.k2 {p q : Addr} {H H' : Hp} (k : Kp p H H') : K2 p q H H' := fun b o n _ h => k b o n h
theorem Pot.kt {p : Addr} {n : Int} {H H' : Hp} (h : Pot H p n) (k : Kp p H H') : KT H H' := fun b xs e => k b _ (by
  obtain ⟨a, b', c, e2, _⟩ := h
  exact ne_of e e2 (by intro z; cases z)) e
theorem Pot.same {p : Addr} {n : Int} {H H' : Hp} (h : Pot H p n) (k : Same H H') : Pot H' p n := by
  obtain ⟨a, b, c, e, r⟩ := h
  exact ⟨a, b, c, k _ _ e, r⟩
theorem sl20 {n : Nat} (h : n ≤ 20000) : n ≤ sizeLine := Nat.le_trans h (by decide)
abbrev asc (l : List Nat) : Bool := l.all fun c => decide (c < 1000)
theorem asc_mem {l : List Nat} (h : ∀ c ∈ l, c < 1000) : asc l = true := List.all_eq_true.mpr fun c hc => decide_eq_true (h c hc)
theorem asc_of {l : List Nat} (h : asc l = true) {c : Nat} (hc : c ∈ l) : c < 1000 := of_decide_eq_true (List.all_eq_true.mp h c hc)
theorem asc_app {a b : List Nat} (h : asc a = true) (k : asc b = true) : asc (a ++ b) = true := asc_mem fun c hc => (List.mem_append.mp hc).elim (asc_of h) (asc_of k)
theorem asc_cons {c : Nat} {b : List Nat} (h : c < 1000) (k : asc b = true) : asc (c :: b) = true := asc_mem fun d hd => by
  rcases List.mem_cons.mp hd with rfl | hd
  · exact h
  · exact asc_of k hd
theorem asc_let : ∀ c ∈ LETc, c < 1000 := by decide
section
variable {P : Program} {w : World} {K : PySem.W.Frag} {mg : Str → Option Value} {base : Heap} {f : Nat → Addr} {fd : Nat → FuncData}
theorem law_draw (T : LawT K mg f fd) : FnOk P w K mg base CX0 1 (f 1) (fd 1) ["_law_pot_here", "_law_many"] spDraw := ok_draw (k := 0) T.draw.F T.zint
theorem law_any (T : LawT K mg f fd) : FnOk P w K mg base CX0 2 (f 2) (fd 2) ["_law_pot_here", "_law_items"] (spAny K) := ok_any (k := 0) T.any.F T.draw.F T.draw.b T.draw.g (law_draw T) T.zlen
end
end Sf4
/-! A dict comprehension with two sources and no tests: {key: value for a in one for b in other}. -/
namespace L2
open PySem PySem.Spec PyProof.Rows
/-- the comprehension -/
abbrev d2 (kx vx t0 i0 t1 i1 : Expr) (sc : Scope) (pos : Pos) : Expr := .DictComp kx vx [⟨t0, i0, [], 0⟩, ⟨t1, i1, [], 0⟩] sc pos
section
variable {kx vx t0 i0 t1 i1 : Expr} {sc : Scope} {pos : Pos} {it acc : Value} {env : Env} {D : Addr}
theorem d2_first : compTurn (d2 kx vx t0 i0 t1 i1 sc pos) 0 it acc env = (do
    standAt i0.pos
    match ← pyNext it with
    | none => pure (.done .next)
    | some u =>
      letOwnedTupleGo t0 it u
      assign t0 env u
      let y ← eval i1 env
      standAt i1.pos
      let y ← foldedSetIterable i1 env y
      let _ ← runOwn (.compStart (d2 kx vx t0 i0 t1 i1 sc pos) 1 (← holding [y] (pyIter y)) acc env) env
      again (.compLoop (d2 kx vx t0 i0 t1 i1 sc pos) 0 it acc env)) := by rfl
theorem d2_second : compTurn (d2 kx vx t0 i0 t1 i1 sc pos) 1 it (.ref D) env = (do
    standAt i1.pos
    match ← pyNext it with
    | none => pure (.done .next)
    | some u =>
      letOwnedTupleGo t1 it u
      assign t1 env u
      (do
        let a ← eval kx env
        let b ← holding [a] (eval vx env)
        standAt { kx.pos with endLine := vx.pos.endLine, endCol := vx.pos.endCol }
        holding [a, b] (dictSet D a b))
      again (.compLoop (d2 kx vx t0 i0 t1 i1 sc pos) 1 it (.ref D) env)) := by rfl
/-- nothing is raised -/
abbrev nix : Value → Shared → Prop := fun _ _ => False
variable {prog : Program} {w : World} {A : Around} {R : Result → Shared → Prop} {s : Shared}
theorem noNix {α : Type} {t : Sem α} {Q : α → Shared → Prop} {E : Value → Shared → Prop} (h : wpAny (model prog w) A t Q nix s) : wpAny (model prog w) A t Q E s := wpAny_mono h (fun _ _ z => z) fun _ _ z => z.elim
theorem d2_loop0 (hs : ∀ y, foldedSetIterable i1 env y = pure y) (J : Nat → Shared → Prop)
    (go : ∀ n s, J n s → wpAny (model prog w) A (pyNext it) (fun r sa => match r with
      | none => R (.ok .next) sa
      | some u => wpAny (model prog w) A (letOwnedTupleGo t0 it u) (fun _ sb => wpAny (model prog w) A (assign t0 env u) (fun _ sd =>
          wpAny (model prog w) A (eval i1 env) (fun y se => wpAny (model prog w) A (pyIter y) (fun jt sf =>
            codeAny (model prog w) A (.compStart (d2 kx vx t0 i0 t1 i1 sc pos) 1 jt acc env) (fun r sz => (∃ f, r = .ok f) ∧ ∃ m, m < n ∧ J m sz) sf) nix se) nix sd) nix sb) nix sa) nix s)
    (n : Nat) (h : J n s) : codeAny (model prog w) A (.compLoop (d2 kx vx t0 i0 t1 i1 sc pos) 0 it acc env) R s := by
  refine codeAny_loop rfl J (fun n s hJ => ?_) n h
  show wpAny _ A ((compTurn (d2 kx vx t0 i0 t1 i1 sc pos) 0 it acc env).onRaise (fun x => do noteFrame x env; theTreesLotGoes x)) _ _ s
  refine wpAny_noted ?_
  rw [d2_first]
  refine wpAny_bind (wpAny_standAt (wpAny_bind (noNix (wpAny_mono (go n s hJ) (fun r sa ha => ?_) fun _ _ z => z.elim))))
  match r, ha with
  | none, ha => exact wpAny_pure ha
  | some u, ha =>
    refine wpAny_bind (noNix (wpAny_mono ha (fun _ sb hb => ?_) fun _ _ z => z.elim))
    refine wpAny_bind (noNix (wpAny_mono hb (fun _ sd hd => ?_) fun _ _ z => z.elim))
    refine wpAny_bind (noNix (wpAny_mono hd (fun y se he => ?_) fun _ _ z => z.elim))
    refine wpAny_bind (wpAny_standAt (wpAny_bind (wpAny_of_eq (hs y) (wpAny_bind (wpAny_holding (noNix (wpAny_mono he (fun jt sf hf => ?_) fun _ _ z => z.elim)))))))
    refine wpAny_bind (wpAny_runOwn ?_)
    rw [Around.mark_none]
    refine codeAny_mono hf fun r sz ⟨⟨f, hr⟩, hz⟩ => ?_
    subst hr
    first
      | exact wpAny_pure ⟨rfl, hz⟩
      | exact wpAny_bind (wpAny_pure (wpAny_pure ⟨rfl, hz⟩))
theorem d2_loop1 (J : Nat → Shared → Prop)
    (go : ∀ n s, J n s → wpAny (model prog w) A (pyNext it) (fun r sa => match r with
      | none => R (.ok .next) sa
      | some u => wpAny (model prog w) A (letOwnedTupleGo t1 it u) (fun _ sb => wpAny (model prog w) A (assign t1 env u) (fun _ sd =>
          wpAny (model prog w) A (eval kx env) (fun a se => wpAny (model prog w) A (eval vx env) (fun b sf =>
            wpAny (model prog w) A (dictSet D a b) (fun _ sz => ∃ m, m < n ∧ J m sz) nix sf) nix se) nix sd) nix sb) nix sa) nix s)
    (n : Nat) (h : J n s) : codeAny (model prog w) A (.compLoop (d2 kx vx t0 i0 t1 i1 sc pos) 1 it (.ref D) env) R s := by
  refine codeAny_loop rfl J (fun n s hJ => ?_) n h
  show wpAny _ A ((compTurn (d2 kx vx t0 i0 t1 i1 sc pos) 1 it (.ref D) env).onRaise (fun x => do noteFrame x env; theTreesLotGoes x)) _ _ s
  refine wpAny_noted ?_
  rw [d2_second]
  refine wpAny_bind (wpAny_standAt (wpAny_bind (noNix (wpAny_mono (go n s hJ) (fun r sa ha => ?_) fun _ _ z => z.elim))))
  match r, ha with
  | none, ha => exact wpAny_pure ha
  | some u, ha =>
    refine wpAny_bind (noNix (wpAny_mono ha (fun _ sb hb => ?_) fun _ _ z => z.elim))
    refine wpAny_bind (noNix (wpAny_mono hb (fun _ sd hd => ?_) fun _ _ z => z.elim))
    refine wpAny_bind (wpAny_bind (noNix (wpAny_mono hd (fun a se he => ?_) fun _ _ z => z.elim)))
    refine wpAny_bind (wpAny_holding (noNix (wpAny_mono he (fun b sf hf => ?_) fun _ _ z => z.elim)))
    exact wpAny_bind (wpAny_standAt (wpAny_holding (noNix (wpAny_mono hf (fun _ sz hz => wpAny_pure ⟨rfl, hz⟩) fun _ _ z => z.elim))))
/-- the second source is taken up -/
theorem d2_start1 (h0 : codeAny (model prog w) A (.compLoop (d2 kx vx t0 i0 t1 i1 sc pos) 1 it acc env) R s)
    (h : wpAny (model prog w) A (pyIter it) (fun jt sz => codeAny (model prog w) A (.compLoop (d2 kx vx t0 i0 t1 i1 sc pos) 1 jt acc env) R sz) nix s) :
    codeAny (model prog w) A (.compStart (d2 kx vx t0 i0 t1 i1 sc pos) 1 it acc env) R s := by
  refine codeAny_of_tree ?_
  show wpAny _ _ ((compStart (d2 kx vx t0 i0 t1 i1 sc pos) 1 it acc env).onRaise (fun x => do noteFrame x env; standAt theWindowsPlace)) _ _ s
  refine wpAny_notedAt ?_
  unfold compStart
  show wpAny _ _ (ask >>= _) _ _ s
  refine wpAny_bind (wpAny_askSetting (wpAny_ite ?_))
  split
  · first
      | exact wpAny_pure ⟨rfl, h0⟩
      | exact wpAny_bind (wpAny_pure (wpAny_pure ⟨rfl, h0⟩))
  · refine wpAny_bind (wpAny_rule ?_)
    show wpAny _ _ (standAt i1.pos >>= _) _ _ s
    exact wpAny_bind (wpAny_standAt (wpAny_bind (noNix (wpAny_mono h (fun jt sz hz => wpAny_pure ⟨rfl, hz⟩) fun _ _ z => z.elim))))
end
section
variable {X : Cx}
/-- what the inner loop has to keep, for one item of the outer source; Nx: what is wanted behind it -/
def tIn (g1 : TG) (tk tv : TE) (vs1 : List Nat) (D : Addr) (σ2 : St) (Nx : Hp → Prop) (J1 : It) (H4 : Hp) : Prop := ∃ W1 : Nat → Nat → Hp → Prop, (∃ k0, W1 0 k0 H4) ∧ ∀ j k Ha, W1 j k Ha → (J1.stop j Ha ∧ Nx Ha) ∨
  (J1.go j Ha ∧ ∃ N1 : Hp → Prop, (∀ Hb, N1 Hb → ∃ k', k' < k ∧ W1 (j + 1) k' Hb) ∧ ∀ y Hb, J1.yld j Ha y Hb → g1 y (wipe σ2 vs1) Hb fun σ3 H5 => wipe σ3 vs1 = wipe σ2 vs1 ∧
    tk σ3 H5 fun a H6 => tv σ3 H6 fun b H7 => ∃ kvs k, a = kV k ∧ H7 D = some (.dK kvs) ∧ kvs.length < sizeLine ∧ N1 (upd H7 D (.dK (putK kvs k b))))
def tD2 (wi : TI) (g : TG) (wi1 : TI) (g1 : TG) (tk tv : TE) (vs vs1 : List Nat) : TE := fun σ H Q => wi σ H fun J H1 => ∀ D, H1 D = none → ∃ W : Nat → Nat → Hp → Prop, (∃ m0, W 0 m0 (upd H1 D (.dK []))) ∧ ∀ i m Ha, W i m Ha → (J.stop i Ha ∧ Q (.ref D) Ha) ∨
  (J.go i Ha ∧ ∃ Nx : Hp → Prop, (∀ Hb, Nx Hb → ∃ m', m' < m ∧ W (i + 1) m' Hb) ∧ ∀ y Hb, J.yld i Ha y Hb → g y (wipe σ vs) Hb fun σ2 H2 => wipe σ2 vs = wipe σ vs ∧ wi1 σ2 H2 (tIn g1 tk tv vs1 D σ2 Nx))
theorem dc2_core {kx vx t0 i0 t1 i1 : Expr} {sc : Scope} {own : List (Str × Nat)} {vs1 : List Nat} {pos pos' : Pos} {wi wi1 : TI} {g g1 : TG} {tk tv : TE} {pins : List (Addr × Obj)} {s : Shared} {σ : St} {H : Hp} {Q : VK} {use : Option (Value → Sem Unit)} {Qf : Value → Shared → Prop} (hc : X.calm = true) (hN : X.N.Nodup) (I : Inv X pins σ H s) (hi : PI X t0 i0 wi) (ok : BlkOk X.N X.env.scope sc own) (hv : ∀ i ∈ vs1, i ∈ own.map (·.2))
    (hg : ∀ (s : Shared) (H : Hp) (C : Addr) (cl : List (Str × Addr)) (fp : List Addr), PG (X.blk s H sc (compEnvC sc cl C X.env) fp) t0 g)
    (hi1 : ∀ (s : Shared) (H : Hp) (C : Addr) (cl : List (Str × Addr)) (fp : List Addr), PI (X.blk s H sc (compEnvC sc cl C X.env) fp) t1 i1 wi1)
    (hg1 : ∀ (s : Shared) (H : Hp) (C : Addr) (cl : List (Str × Addr)) (fp : List Addr), PG (X.blk s H sc (compEnvC sc cl C X.env) fp) t1 g1)
    (hk : ∀ (s : Shared) (H : Hp) (C : Addr) (cl : List (Str × Addr)) (fp : List Addr), PE (X.blk s H sc (compEnvC sc cl C X.env) fp) kx tk)
    (he : ∀ (s : Shared) (H : Hp) (C : Addr) (cl : List (Str × Addr)) (fp : List Addr), PE (X.blk s H sc (compEnvC sc cl C X.env) fp) vx tv)
    (hs : ∀ y, foldedSetIterable i0 X.env y = pure y) (hs1 : ∀ env y, foldedSetIterable i1 env y = pure y) (hq : tD2 wi g wi1 g1 tk tv (own.map (·.2)) vs1 σ H Q)
    (last : ∀ D C sz mm H', Inv X pins σ H' sz → Q (.ref D) H' → sz.heap.Ns C mm → FpOk X pins H' C → compPost (model X.prog X.w) X.A X.xe use Qf (.ref D) C (.ok .next) sz) :
    wpAny (model X.prog X.w) X.A (comprehension (d2 kx vx t0 i0 t1 i1 sc pos) sc X.env pos' newDict false (eval i0 X.env) use) Qf X.xe s := by
  have clo : ∀ y ∈ sc.names, y.2 = .free → ∃ c, X.env.cells.lookup y.1 = some c := fun y hy e => (ok.free y hy e).elim (fun z => I.ok.has _ (.inl z)) fun z => I.ok.has _ (.inr z)
  refine wpAny_comprehension_free (use := use) rfl hs (closure_ok clo) ok.kind (fun y hy e => by rw [ok.uniq y hy, e]) (thn (hi.run pins s σ H _ I hq) fun _ _ hx => thn hx fun _ sa ha => ?_)
  obtain ⟨it, fp, tn, J, Ha, rfl, Ia, T, sta, fa, q⟩ := ha
  refine wpAny_newObj_type (newEnv_comp ?_)
  generalize hD : sa.heap.objs.size = D
  obtain ⟨W, ⟨m0, w0⟩, turn⟩ := q D (Ia.hok.fresh (Nat.le_of_eq hD))
  generalize hsb : ({ sa with heap := sa.heap.push { cls := .type "dict", data := .dict #[] } } : Shared) = sb
  have hb : sb.heap = sa.heap.push { cls := .type "dict", data := .dict #[] } := by rw [← hsb]
  have Ib : Inv X pins σ (upd Ha D (.dK [])) sb := by
    rw [← hsb, ← hD]
    exact Ia.laid (t' := sa.toks) (fun _ _ e => Heap.get?_push_of_some _ e) (Nat.le_refl _) (dk_empty sa.heap Ia.big)
  have fb : ∀ b ∈ fp, FpOk X pins (upd Ha D (.dK [])) b ∧ b < sb.heap.objs.size := fun b hm => by
    obtain ⟨_, e, _⟩ := T.obj _ _ sta b hm
    have lt := Heap.lt_size e
    refine ⟨⟨(upd_ne (fun z => by rw [z, ← hD] at lt; exact absurd lt (Nat.lt_irrefl _))).trans (fa b hm).1, (fa b hm).2⟩, ?_⟩
    rw [hb, Heap.size_push]
    exact Nat.lt_succ_of_lt lt
  have stb : tn 0 sb.heap := T.keep _ _ _ sta fun _ _ _ e => by rw [hb]; exact Heap.get?_push_of_some _ e
  have Ic := block_start Ib ok hN fb
  generalize hHb : upd Ha D (.dK []) = Hb at Ib fb Ic w0
  generalize hcl : cellsFrom (sb.heap.objs.size + 1) sc.names (cloFrom X.env.cells sc.names []) = cl at Ic
  have pg := hg sb Hb sb.heap.objs.size cl fp
  have pi1 := hi1 sb Hb sb.heap.objs.size cl fp
  have pg1 := hg1 sb Hb sb.heap.objs.size cl fp
  have pk := hk sb Hb sb.heap.objs.size cl fp
  have pe := he sb Hb sb.heap.objs.size cl fp
  show codeAny _ _ (.compStart (d2 kx vx t0 i0 t1 i1 sc pos) 0 (.ref it) (.ref D) (compEnvC sc cl sb.heap.objs.size X.env)) (compPost (model X.prog X.w) X.A X.xe use _ (.ref D) sb.heap.objs.size) { sb with heap := pushCells (sb.heap.push { cls := .type "dict", data := .dict #[] }) sc.names }
  have cL : (compEnvC sc cl sb.heap.objs.size X.env).locals = sb.heap.objs.size := rfl
  generalize compEnvC sc cl sb.heap.objs.size X.env = ce at Ic pg pi1 pg1 pk pe cL ⊢
  generalize hsc : ({ sb with heap := pushCells (sb.heap.push { cls := .type "dict", data := .dict #[] }) sc.names } : Shared) = s0 at Ic ⊢
  have st0 : tn 0 s0.heap := T.keep _ _ _ stb fun _ _ _ e => by rw [← hsc]; exact pushCells_keeps _ _ _ _ (Heap.get?_push_of_some _ e)
  have own0 : ∀ {σ' : St} {H' : Hp} {s' : Shared}, Inv (X.blk sb Hb sc ce fp) [] σ' H' s' → (∀ b ∈ fp, H' b = none) → ∀ b ∈ fp, FpOk (X.blk sb Hb sc ce fp) [] H' b := fun I' n b hm =>
    ⟨n b hm, (I'.ok.exf b hm).1, I'.ok.exfs b hm, .inl hm, fun x c e => (I'.ok.exf b hm).2 x c e, fun p hp => nomatch (show p ∈ ([] : List (Addr × Obj)) from hp)⟩
  have loop : codeAny (model X.prog X.w) X.A (.compLoop (d2 kx vx t0 i0 t1 i1 sc pos) 0 (.ref it) (.ref D) ce) (compPost (model X.prog X.w) X.A X.xe use Qf (.ref D) sb.heap.objs.size) s0 := by
    refine d2_loop0 (hs1 ce) (fun n s' => ∃ i H', Inv (X.blk sb Hb sc ce fp) [] (wipe σ (own.map (·.2))) H' s' ∧ tn i s'.heap ∧ (∀ b ∈ fp, H' b = none) ∧ W i n H') ?_ m0 ⟨0, Hb, Ic, st0, fun b hm => (fb b hm).1.1, w0⟩
    rintro n s1 ⟨i, H1, I1, st1, n1, w1⟩
    rcases turn i n H1 w1 with ⟨stop, qq⟩ | ⟨go, Nx, hNx, step⟩
    · refine thnF (T.done (X.blk sb Hb sc ce fp) rfl rfl rfl hc i [] s1 _ H1 (fun _ _ => False) I1 (own0 I1 n1) st1 stop) fun r s2 ⟨hr, I2⟩ => ?_
      subst hr
      have I3 : Inv X pins σ H1 s2 := Ib.call' (ch := fp) I2.os I2.base I2.hok I2.bare fun b hm => ⟨(fb b hm).1.2.2.2.1, (fb b hm).1.2.1, (fb b hm).1.2.2.2.2.1, (fb b hm).1.2.2.2.2.2⟩
      have fr : H1 ce.locals = none := I2.free
      obtain ⟨mm, ns, _⟩ := I2.loc
      replace ns : s2.heap.Ns ce.locals mm := ns
      rw [cL] at fr ns
      exact last D _ s2 mm H1 I3 qq ns (Ib.fpOk (Nat.le_refl _) fr)
    · refine thnF (T.item (X.blk sb Hb sc ce fp) rfl rfl rfl hc i [] s1 _ H1 (fun _ _ => False) I1 (own0 I1 n1) st1 go) fun r s2 ⟨u, hr, h2⟩ => ?_
      subst hr
      refine thnF h2 fun _ s3 ⟨y, H3, I3, r3, y3, st3, n3⟩ => ?_
      have I3p := I3.pinned (own0 I3 n3) (T.obj _ _ st3)
      refine thnF (pg.run _ s3 _ H3 y u _ I3p r3 (step y H3 y3)) fun _ s4 ⟨σ4, H4, I4, hw4, q4⟩ => ?_
      refine thnF (pi1.run _ s4 σ4 H4 _ I4 q4) fun xv s5 hx => thnF hx fun itv s6 h6 => ?_
      obtain ⟨it1, fp1, tn1, J1, H6, rfl, I6, T1, st6, f6, W1, ⟨k0, w6⟩, turn1⟩ := h6
      have ln : (wipe σ (own.map (·.2))).length = σ4.length := by rw [← hw4, wipe_length]
      have kn : ∀ (j : Nat) v, (wipe σ (own.map (·.2)))[j]? = some (some v) → (wipe σ4 vs1)[j]? = some (some v) := fun j v e => by
        rw [← hw4] at e
        obtain ⟨e1, e2⟩ := wipe_some e
        rw [wipe_out fun z => e2 (hv j z)]
        exact e1
      have here1 : ∀ {H' : Hp}, (∀ b ∈ fp1, H' b = none) → ∀ b ∈ fp1, FpOk (X.blk sb Hb sc ce fp) ([] ++ pinsAt fp s3.heap) H' b := fun n b hm => ⟨n b hm, (f6 b hm).2⟩
      have inner : codeAny (model X.prog X.w) X.A (.compLoop (d2 kx vx t0 i0 t1 i1 sc pos) 1 (.ref it1) (.ref D) ce) (fun r sz => (∃ f, r = .ok f) ∧ ∃ m, m < n ∧ ∃ i H', Inv (X.blk sb Hb sc ce fp) [] (wipe σ (own.map (·.2))) H' sz ∧ tn i sz.heap ∧ (∀ b ∈ fp, H' b = none) ∧ W i m H') s6 := by
        refine d2_loop1 (fun k s' => ∃ j H', Inv (X.blk sb Hb sc ce fp) ([] ++ pinsAt fp s3.heap) (wipe σ4 vs1) H' s' ∧ tn1 j s'.heap ∧ (∀ b ∈ fp1, H' b = none) ∧ W1 j k H') ?_ k0 ⟨0, H6, I6.weak (wipe_length _ _) (fun j v e => (wipe_some e).1), st6, fun b hm => (f6 b hm).1, w6⟩
        rintro k s7 ⟨j, H7, I7, st7, n7, w7⟩
        rcases turn1 j k H7 w7 with ⟨stop1, nx⟩ | ⟨go1, N1, hN1, step1⟩
        · refine thnF (T1.done (X.blk sb Hb sc ce fp) rfl rfl rfl hc j _ s7 (wipe σ4 vs1) H7 (fun _ _ => False) I7 (here1 n7) st7 stop1) fun r s8 ⟨hr, I8⟩ => ?_
          subst hr
          obtain ⟨m', hm, w'⟩ := hNx H7 nx
          have pin' : ∀ b ∈ fp, ∀ o, s3.heap.get? b = some o → s8.heap.get? b = some o ∧ H7 b = none := fun b hm o e => by
            obtain ⟨z1, z2, _⟩ := I8.pin (b, o) (List.mem_append_right _ (List.mem_append_right _ (mem_pinsAt hm e)))
            exact ⟨z1, z2⟩
          refine ⟨⟨_, rfl⟩, m', hm, i + 1, H7, (I8.unpinned (pins := [])).weak (ln.trans (wipe_length σ4 vs1).symm) kn, T.keep _ _ _ st3 fun b hm o e => (pin' b hm o e).1, fun b hm => ?_, w'⟩
          obtain ⟨o, e, _⟩ := T.obj _ _ st3 b hm
          exact (pin' b hm o e).2
        · refine thnF (T1.item (X.blk sb Hb sc ce fp) rfl rfl rfl hc j _ s7 (wipe σ4 vs1) H7 (fun _ _ => False) I7 (here1 n7) st7 go1) fun r s8 ⟨u1, hr, h8⟩ => ?_
          subst hr
          refine thnF h8 fun _ s9 ⟨z, H9, I9, r9, y9, st9, n9⟩ => ?_
          have I9p := I9.pinned (here1 n9) (T1.obj _ _ st9)
          refine thnF (pg1.run _ s9 (wipe σ4 vs1) H9 z u1 _ I9p r9 (step1 z H9 y9)) fun _ sA ⟨σA, HA, IA, hwA, qA⟩ => ?_
          refine thnF (pk.run _ sA σA HA _ IA qA) fun av sB ⟨a, HB, IB, rB, qB⟩ => ?_
          refine thnF (pe.run _ sB σA HB _ IB qB) fun bv sC ⟨b_, HC, IC, rC, kvs, key, ek, hDC, hz, nx⟩ => ?_
          subst ek
          refine d_dictSet (X := X.blk sb Hb sc ce fp) IC hDC hz rB rC fun sE IE => ?_
          obtain ⟨m', hm, w'⟩ := hN1 _ nx
          have pin' : ∀ b ∈ fp1, ∀ o, s9.heap.get? b = some o → sE.heap.get? b = some o ∧ upd HC D (.dK (putK kvs key b_)) b = none := fun b hm o e => by
            obtain ⟨z1, z2, _⟩ := IE.pin (b, o) (List.mem_append_right _ (List.mem_append_right _ (mem_pinsAt hm e)))
            exact ⟨z1, z2⟩
          refine ⟨m', hm, j + 1, _, IE.unpinned.weak (by rw [← hwA, wipe_length]) (fun j v e => by rw [← hwA] at e; exact (wipe_some e).1), T1.keep _ _ _ st9 fun b hm o e => (pin' b hm o e).1, fun b hm => ?_, w'⟩
          obtain ⟨o, e, _⟩ := T1.obj _ _ st9 b hm
          exact (pin' b hm o e).2
      exact d2_start1 inner (T1.self X.A 0 _ _ _ st6 inner)
  exact codeAny_compStart_dict loop (T.self X.A 0 _ _ _ st0 loop)
theorem pe_dc2 {kx vx t0 i0 t1 i1 : Expr} {sc : Scope} {own : List (Str × Nat)} {vs1 : List Nat} {pos : Pos} {wi wi1 : TI} {g g1 : TG} {tk tv : TE} (hc : X.calm = true) (hN : X.N.Nodup) (hi : PI X t0 i0 wi) (ok : BlkOk X.N X.env.scope sc own) (hv : ∀ i ∈ vs1, i ∈ own.map (·.2))
    (hg : ∀ (s : Shared) (H : Hp) (C : Addr) (cl : List (Str × Addr)) (fp : List Addr), PG (X.blk s H sc (compEnvC sc cl C X.env) fp) t0 g)
    (hi1 : ∀ (s : Shared) (H : Hp) (C : Addr) (cl : List (Str × Addr)) (fp : List Addr), PI (X.blk s H sc (compEnvC sc cl C X.env) fp) t1 i1 wi1)
    (hg1 : ∀ (s : Shared) (H : Hp) (C : Addr) (cl : List (Str × Addr)) (fp : List Addr), PG (X.blk s H sc (compEnvC sc cl C X.env) fp) t1 g1)
    (hk : ∀ (s : Shared) (H : Hp) (C : Addr) (cl : List (Str × Addr)) (fp : List Addr), PE (X.blk s H sc (compEnvC sc cl C X.env) fp) kx tk)
    (he : ∀ (s : Shared) (H : Hp) (C : Addr) (cl : List (Str × Addr)) (fp : List Addr), PE (X.blk s H sc (compEnvC sc cl C X.env) fp) vx tv)
    (hs : ∀ y, foldedSetIterable i0 X.env y = pure y := by intro _; rfl) (hs1 : ∀ env y, foldedSetIterable i1 env y = pure y := by intro _ _; rfl) :
    PE X (d2 kx vx t0 i0 t1 i1 sc pos) (tD2 wi g wi1 g1 tk tv (own.map (·.2)) vs1) := by
  refine ⟨fun pins s σ H Q I hq => ?_⟩
  rw [arm_eval_DictComp]
  refine dc2_core hc hN I hi ok hv hg hi1 hg1 hk he hs hs1 hq fun D C sz mm H' Iz qq ns fo => ⟨mm, ns, fun _ sub => ?_⟩
  obtain ⟨g0, g1, _, g3, g4, g5⟩ := fo
  exact ⟨.ref D, H', Iz.turned (t' := sz.toks) (fun b o hm e => (sub.2 b hm).trans e) g0 g1 g3 g4 g5, rfl, qq⟩
/-- name = the comprehension -/
theorem ps_setDc2 {i : Nat} {nm : Str} {pn spos : Pos} {kx vx t0 i0 t1 i1 : Expr} {sc : Scope} {own : List (Str × Nat)} {vs1 : List Nat} {pos : Pos} {wi wi1 : TI} {g g1 : TG} {tk tv : TE} (hc : X.calm = true) (hN : X.N.Nodup) (hy : X.N[i]? = some nm) (hyl : X.env.scope.names.lookup nm = some .local)
    (hw : swapsWith (d2 kx vx t0 i0 t1 i1 sc pos) (some (.Name nm pn)) spos.line X.env = pure true) (hi : PI X t0 i0 wi) (ok : BlkOk X.N X.env.scope sc own) (hv : ∀ i ∈ vs1, i ∈ own.map (·.2))
    (hg : ∀ (s : Shared) (H : Hp) (C : Addr) (cl : List (Str × Addr)) (fp : List Addr), PG (X.blk s H sc (compEnvC sc cl C X.env) fp) t0 g)
    (hi1 : ∀ (s : Shared) (H : Hp) (C : Addr) (cl : List (Str × Addr)) (fp : List Addr), PI (X.blk s H sc (compEnvC sc cl C X.env) fp) t1 i1 wi1)
    (hg1 : ∀ (s : Shared) (H : Hp) (C : Addr) (cl : List (Str × Addr)) (fp : List Addr), PG (X.blk s H sc (compEnvC sc cl C X.env) fp) t1 g1)
    (hk : ∀ (s : Shared) (H : Hp) (C : Addr) (cl : List (Str × Addr)) (fp : List Addr), PE (X.blk s H sc (compEnvC sc cl C X.env) fp) kx tk)
    (he : ∀ (s : Shared) (H : Hp) (C : Addr) (cl : List (Str × Addr)) (fp : List Addr), PE (X.blk s H sc (compEnvC sc cl C X.env) fp) vx tv)
    (hs : ∀ y, foldedSetIterable i0 X.env y = pure y := by intro _; rfl) (hs1 : ∀ env y, foldedSetIterable i1 env y = pure y := by intro _ _; rfl) :
    PS X (.Assign [.Name nm pn] (d2 kx vx t0 i0 t1 i1 sc pos) spos) (tAsg (tD2 wi g wi1 g1 tk tv (own.map (·.2)) vs1) (gName i)) := by
  refine ⟨fun pins s σ H D I hq => ?_⟩
  rw [exec_Assign_Name_used _ _ _ _ hw]
  refine wpAny_bind (wpAny_standAt (wpAny_bind ?_))
  show wpAny _ X.A (comprehension (d2 kx vx t0 i0 t1 i1 sc pos) sc X.env _ newDict false (eval i0 X.env) (some (assign (.Name nm pn) X.env)) >>= fun _ => _) _ _ s
  have hq : tD2 wi g wi1 g1 tk tv (own.map (·.2)) vs1 σ H (fun x H1 => gName i x σ H1 D.nx) := hq
  refine wpAny_bind (thn (dc2_core (Qf := fun _ sz => SP X pins D .next sz) hc hN I hi ok hv hg hi1 hg1 hk he hs hs1 hq fun L C sz mm H' Iz qq ns fo => ?_) fun _ _ z => wpAny_pure (wpAny_pure z))
  show wpAny _ _ (assign (.Name nm pn) X.env (.ref L)) _ _ _
  refine wpAny_assign_Name (store_ok2 (v := V.ref L) Iz hN hy (.inl hyl) rfl (fun sy Iy ⟨a, sub, ha⟩ => ?_) (.inr hyl))
  obtain ⟨g0, g1, _, g3, g4, g5⟩ := fo
  have nCa : C ≠ a := ha.elim (fun z => by rw [z]; exact g1) fun z e => g4 nm a z e.symm
  exact ⟨mm, ns.sameBut sub nCa, fun _ sub3 => ⟨_, H', Iy.turned (t' := sy.toks) (fun b o hm e => (sub3.2 b hm).trans e) g0 g1 g3 g4 g5, qq⟩⟩
end
end L2
/-! d.update(e) of two dicts. -/
namespace L2
open PySem PySem.Spec PyProof.Rows
section
variable {X : Cx}
def rUpd : V → List V → Hp → VK → Prop := fun x xs H Q => ∃ (a b : Addr) (kvs more : List (Key × V)), x = .ref a ∧ xs = [.ref b] ∧ H a = some (.dK kvs) ∧ H b = some (.dK more) ∧ a ≠ b ∧ kvs.length + more.length ≤ sizeLine ∧ Q .non (upd H a (.dK (mergeK kvs more)))
theorem mt_update : MtR X "dict.update" rUpd := by
  rintro pins s σ H x xs v us Q I rx rxs ⟨a, b, kvs, more, rfl, rfl, ha, hb, hab, hz, q⟩
  cases rx
  obtain ⟨u, rfl, ru⟩ := vals1 rxs
  cases ru
  obtain ⟨z, hd, vs, rel, dd⟩ := dk_of I.hok ha
  obtain ⟨z2, lo, ws, rel2, dd2⟩ := dk_of I.hok hb
  have l1 := Paired.length rel
  have l2 := Paired.length rel2
  have lm : (mergeK kvs more).length ≤ sizeLine := Nat.le_trans (length_mergeK more kvs) hz
  refine call_meetsIn PySem.F.slot_dict_update dd.typeIs PySem.F.entry_dict_update (PySem.F.args_dict_update_2 _ _) (meets_dict_update (mixKind X.prog X.w) a b hab lo) ⟨vs, ws, dd, dd2, by omega, fun h' d1 d2 sb => ?_⟩
  have he : ∃ q, h'.get? a = some q := let ⟨q, _, _, hq, _⟩ := d1; ⟨q, hq⟩
  exact ⟨.non, _, d_write I (by rw [ha]; exact True.intro) sb he (dk_new lm hd (rel2.merge rel) d1), rfl, q⟩
end
end L2
/-! Patterns where they stand; their places, first, last, behind. -/
namespace Sq
open PySem PySem.Spec PyProof.Rows L2 Sf Sf4
/-- a pattern, where it stands -/
structure Pi where
  x : Addr
  Z : List Nat
  l : Bool
  t : Tr
  r : Bool
  nm : Nm
/-- all but lists and objects that are not made yet stands -/
def KI (H H' : Hp) : Prop := ∀ b o, H b = some o → (∀ xs, o ≠ .lst xs) → (∀ C d, o ≠ .ins C d []) → (∀ ps, o ≠ .tbl ps) → H' b = some o
theorem KI.refl (H : Hp) : KI H H := fun _ _ e _ _ _ => e
theorem KI.kt {H H1 : Hp} (a : KI H H1) : KT H H1 := fun b xs e => a b _ e (fun _ z => by cases z) (fun _ _ z => by cases z) fun _ z => by cases z
theorem KI.trans {H H1 H2 : Hp} (a : KI H H1) (b : KI H1 H2) : KI H H2 := fun c o e n m t => b c o (a c o e n m t) n m t
theorem KI.same {H H1 : Hp} (a : Same H H1) : KI H H1 := fun c o e _ _ _ => a c o e
theorem KI.kp {H H1 : Hp} {p : Addr} {n : Int} (h : Pot H p n) (a : Kp p H H1) : KI H H1 := fun c o e z _ _ => a c o (fun y => by
  obtain ⟨_, _, _, e2, _⟩ := h
  rw [y, e2] at e
  cases e
  exact z _ rfl) e
theorem KI.kx {H H1 : Hp} {x C d : Addr} (h : H x = some (.ins C d [])) (a : ∀ b o, b ≠ x → H b = some o → H1 b = some o) : KI H H1 := fun c o e _ m _ => a c o (fun y => by
  rw [y, h] at e
  cases e
  exact m _ _ rfl) e
theorem KI.wr {H : Hp} {b : Addr} {xs : List V} {o : HO} (h : H b = some (.lst xs)) : KI H (upd H b o) := fun c u e z _ _ => by
  refine (upd_ne fun y => ?_).trans e
  rw [y, h] at e
  cases e
  exact z _ rfl
theorem _root_.Sf4.PatO.ki {C : Addr} {H H' : Hp} {x : Addr} {Z : List Nat} {l : Bool} {t : Tr} {r : Bool} {nm : Nm} (h : PatO C H x Z l t r nm) (k : KI H H') : PatO C H' x Z l t r nm := by
  obtain ⟨dx, tv, na, pl, fi, la, be, h1, h2, h3, h4, h5, h6, h7⟩ := h
  have kt := k.kt
  exact ⟨dx, tv, na, pl, fi, la, be, k _ _ h1 (fun _ z => by cases z) (fun _ _ z => by cases z) (fun _ z => by cases z), h2.mono kt, kt _ _ h3, kt _ _ h4, kt _ _ h5, kt _ _ h6, h7.mono kt⟩
def PiO (C : Addr) (H : Hp) (p : Pi) : Prop := PatO C H p.x p.Z p.l p.t p.r p.nm ∧ sz p.t ≤ 24 ∧ p.Z.length ≤ 60
theorem PiO.ki {C : Addr} {H H' : Hp} {p : Pi} (h : PiO C H p) (k : KI H H') : PiO C H' p := ⟨h.1.ki k, h.2⟩
/-- any loop over a walk: what a turn has to do, told by B -/
theorem it_gen {J : It} {n : Nat} {G : Hp → Prop} {Y : Nat → Hp → V → Hp → Prop} (w : Walk J n G Y) {B : (Hp → Prop) → V → Hp → Prop} {H0 : Hp} {Qd : Hp → Prop} (Pv : Nat → Hp → Prop) (h0 : Pv 0 H0) (hG : ∀ i H, i ≤ n → Pv i H → G H)
    (hs : ∀ i x H H', i < n → Pv i H → Y i H x H' → B (Pv (i + 1)) x H') (hd : ∀ H, Pv n H → Qd H) :
    ∃ W : Nat → Nat → Hp → Prop, (∃ m, W 0 m H0) ∧ ∀ i m H, W i m H → (J.stop i H ∧ Qd H) ∨ (J.go i H ∧ ∃ Nx : Hp → Prop, (∀ H', Nx H' → ∃ m', m' < m ∧ W (i + 1) m' H') ∧ ∀ x H', J.yld i H x H' → B Nx x H') := by
  refine ⟨fun i m H => m + i = n ∧ Pv i H, ⟨n, rfl, h0⟩, fun i m H hW => ?_⟩
  obtain ⟨hm, p⟩ := hW
  have g := hG i H (by omega) p
  cases m with
  | zero =>
    obtain rfl : i = n := by omega
    exact .inl ⟨w.stops H g, hd H p⟩
  | succ m =>
    have hi : i < n := by omega
    exact .inr ⟨w.goes i H hi g, Pv (i + 1), fun H' p' => ⟨m, Nat.lt_succ_self m, by omega, p'⟩, fun x H' y => hs i x H H' hi p (w.yields i H x H' hi g y)⟩
theorem spts_sz (t : Tr) (h : sz t ≤ 24) : (spts t).length = sz t := by
  obtain ⟨g1, g2⟩ := pO_ok (S := 24) t w0 0 0 w0_ok (by omega)
  have := g1.le
  rw [pO_le t w0] at this
  have e : (spts t).length = 0 + sz t := this
  omega
end Sq
namespace Sf4
open PySem PySem.Spec PyProof.Rows L2 Sf
theorem nmV_len (l : List (List Nat)) : (nmV l).length = l.length := by
  show (l.map _).length = _
  rw [List.length_map]
abbrev sBeh : Stmt := inClass cPat 2
theorem scIsI : FnScope ["value", "least", "greatest"] ["value", "least", "greatest"] (defScope sIsI) := ⟨rfl, rfl, rfl, by decide +kernel, rfl, by decide +kernel, by decide +kernel⟩
theorem scBeh : FnScope ["self", "place"] ["self", "place"] (defScope sBeh) := ⟨rfl, rfl, rfl, by decide +kernel, rfl, by decide +kernel, by decide +kernel⟩
def spIsI5 : Sp := fun vs H Q _ => ∃ (i a b : Int), vs = [.int i, .int a, .int b] ∧ a ≤ i ∧ i ≤ b ∧ Q (.bl true) H
theorem fo_sz (t : Tr) (h : sz t ≤ 24) : (pO t w0).2.fo.length = sz t := by
  obtain ⟨g1, g2⟩ := pO_ok (S := 24) t w0 0 0 w0_ok (by omega)
  have := g1.fo
  omega
/-- behind, of a pattern with n places, at one of them -/
def spBeh5 (C : Addr) : Sp := fun vs H Q _ => ∃ (a : Addr) (Z : List Nat) (l : Bool) (t : Tr) (r : Bool) (nm : Nm) (j : Nat), vs = [.ref a, .int j] ∧ PatO C H a Z l t r nm ∧ sz t ≤ 24 ∧ j < sz t ∧
  ∀ b, H b = some (.tup (nIs (ascL (sz t) ((pO t w0).2.fo.getD j [])))) → Q (.ref b) H
section
variable {P : Program} {w : World} {K : PySem.W.Frag} {mg : Str → Option Value} {base : Heap}
theorem ok_isI5 {f : Addr} {fd : FuncData} {k : Nat} (F : Fun K "is_integer" "is_integer" sIsI f fd) (mi : mg "isinstance" = none) (mn : mg "int" = none) (mb : mg "bool" = none) : FnOk P w K mg base CX0 (k + 1) f fd ["value", "least", "greatest"] spIsI5 := by
  refine F.ok scIsI (fun vs H Q E h => ?_) (fun cdv A outer s H vs Q E hr h => ?_)
  · obtain ⟨i, a, b, rfl, _⟩ := h
    rfl
  · obtain ⟨i, a, b, rfl, h1, h2, q⟩ := h
    refine ⟨_, pss_one (ps_ret (pe_and (pe_callB call_isi (by rfl) mi PyProof.Rows.boot_isinstance (pa_cons (pv 0) (pa_cons (pe_bltn (by rfl) mn PySem.Pv.boot_int (v := .ty "int") rfl) pa_nil)))
      (pe_and (pe_not (pe_callB call_isi (by rfl) mi PyProof.Rows.boot_isinstance (pa_cons (pv 0) (pa_cons (pe_bltn (by rfl) mb PySem.Pv.boot_bool (v := .ty "bool") rfl) pa_nil))))
      (pe_one (pe_chain op_le op_le (pv 1) (pv 0) (pv 2)))))), ?_⟩
    refine ⟨.int i, rfl, .int i, .ty "int", _, _, true, rfl, .ty "int", .base (.int i), kit_ty (by decide +kernel), true, rfl, ?_⟩
    refine iteT ⟨.int i, rfl, .int i, .ty "bool", _, _, false, rfl, .ty "bool", .base (.int i), kit_ty (by decide +kernel), false, rfl, true, rfl, iteT ⟨_, rfl, _, rfl, _, _, rfl, rfl, _, rfl, ?_⟩⟩
    rw [decide_eq_true h1]
    refine iteT ⟨_, rfl, _, _, rfl, rfl, ?_⟩
    show Q (V.bl (decide (i ≤ b))) H
    rw [decide_eq_true h2]
    exact q
theorem ok_beh5 {C : Addr} {pf : Nat → Addr} {pfd : Nat → FuncData} {tk : Nat → Tok} {gR gW : Addr} {dR dW : FuncData} {fI fb : Addr} {dI db : FuncData} {k : Nat} (T : PatT K mg C pf pfd tk gR gW dR dW) (M : Mt K C "behind" "Pattern.behind" sBeh ["self", "place"] fb db)
    (FI : Fun K "is_integer" "is_integer" sIsI fI dI) (bI : Binds K dI ["value", "least", "greatest"] []) (gI : mg "is_integer" = some (.ref fI)) (GI : FnOk P w K mg base CX0 (k + 1) fI dI ["value", "least", "greatest"] spIsI5) (ml : mg "len" = none) :
    FnOk P w K mg base CX0 (k + 2) fb db ["self", "place"] (spBeh5 C) := by
  refine M.F.ok scBeh (fun vs H Q E h => ?_) (fun cdv A outer s H vs Q E hr h => ?_)
  · obtain ⟨a, Z, l, t, r, nm, j, rfl, _⟩ := h
    rfl
  · obtain ⟨a, Z, l, t, r, nm, j, rfl, po, h24, hj, q⟩ := h
    refine ⟨_, pss_cons (ps_if (pt_not (pt_val (pe_call GI hr (by rfl) gI FI.kp bI .nil pass0 (pa_cons (pv 1) (pa_cons pe_int (pa_cons (pe_op op_sub (pe_callB call_len_seq (by rfl) ml PySem.boot_len (pa_cons (pe_fld (pv 0) rfl) pa_nil)) pe_int) pa_nil))))))
        pss_never pss_nil)
      (pss_one (ps_ret (pe_ix ix_tup (pe_fld (pv 0) rfl) (pv 1) (fun _ _ => rfl)))), ?_⟩
    obtain ⟨dx, tv, na, pl, fi, la, be, e1, _, en, ep, _, _, eb⟩ := po
    have hl : (nmV (spts t)).length = sz t := by
      rw [nmV_len]
      exact Sq.spts_sz t h24
    refine ⟨_, rfl, _, rfl, a, C, dx, _, _, rfl, e1, T.cl, T.n6, rfl, pl, _, rfl, .inr (.inl (.inl ep)), _, _, rfl, rfl, ?_⟩
    rw [hl]
    refine ⟨(j : Int), 0, (sz t : Nat) - 1, rfl, by omega, by omega, true, rfl, ?_⟩
    obtain ⟨bs, b1, b2, b3⟩ := eb
    rw [List.length_map, fo_sz t h24] at b2
    have hb' : j < bs.length := by omega
    have hf : j < (pO t w0).2.fo.length := by
      rw [fo_sz t h24]
      exact hj
    have e3 := b3 j _ _ (List.getElem?_eq_getElem hb') (by rw [List.getElem?_map, List.getElem?_eq_getElem hf] <;> rfl)
    refine iteF ⟨_, rfl, a, C, dx, _, _, rfl, e1, T.cl, T.n9, rfl, _, rfl, be, _, (j : Int), _, rfl, rfl, .inl (.inl b1), atI_nat (j := j) (v := V.ref bs[j]) (by rw [List.getElem?_map, List.getElem?_eq_getElem hb'] <;> rfl), ?_⟩
    refine q _ ?_
    rw [List.getD_eq_getElem?_getD, List.getElem?_eq_getElem hf]
    exact e3
end
end Sf4
namespace Sq
open PySem PySem.Spec PyProof.Rows L2 Sf Sf4
def asIs (p : Pi) (j : Nat) : List Nat := ascL (sz p.t) ((pO p.t w0).2.fo.getD j [])
def fst (p : Pi) : List Nat := ascL (sz p.t) (pO p.t w0).1.2.1
def lst (p : Pi) : List Nat := ascL (sz p.t) (pO p.t w0).1.2.2
/-- a state: found, or some places -/
abbrev Sta : Type := Option (List Nat)
def hasLast (p : Pi) (ls : List Nat) : Bool := ls.any fun i => decide (i ∈ lst p)
def ended (p : Pi) (s : Sta) : Bool := match s with
  | none => true
  | some ls => p.r && hasLast p ls
theorem inI_dec (i : Nat) (ls : List Nat) : inV (.int (i : Int)) (nIs ls) = decide (i ∈ ls) := by
  by_cases h : i ∈ ls
  · rw [decide_eq_true h]
    exact List.any_eq_true.mpr ⟨.int (i : Int), List.mem_map.mpr ⟨i, h, rfl⟩, beq_iff_eq.mpr rfl⟩
  · rw [decide_eq_false h]
    refine Bool.eq_false_iff.mpr fun z => h ?_
    obtain ⟨y, hy, e⟩ := List.any_eq_true.mp z
    obtain ⟨m, hm, rfl⟩ := List.mem_map.mp hy
    have e : ((m : Int) == (i : Int)) = true := e
    have := beq_iff_eq.mp e
    have : m = i := by omega
    rw [← this]
    exact hm
/-- what the defs of matching find -/
structure NoT (K : PySem.W.Frag) (mg : Str → Option Value) (C aF : Addr) (f : Nat → Addr) (fd : Nat → FuncData) (fb : Addr) (db : FuncData) (tk : Nat → Tok) : Prop where
  isi : Fd K mg "is_integer" sIsI ["value", "least", "greatest"] (f 7) (fd 7)
  mB : Mt K C "behind" "Pattern.behind" sBeh ["self", "place"] fb db
  zany : mg "any" = none
  zlen : mg "len" = none
  zisi : mg "isinstance" = none
  zint : mg "int" = none
  zbool : mg "bool" = none
def kD (ks : List Nat) : List (L2.Key × V) := ks.map fun (j : Nat) => (Sum.inl (j : Int), V.bl true)
def insS (ks : List Nat) (j : Nat) : List Nat := if j ∈ ks then ks else ks ++ [j]
def insL (ks l : List Nat) : List Nat := l.foldl insS ks
theorem put_kD (ks : List Nat) (j : Nat) : putK (kD ks) (Sum.inl (j : Int)) (.bl true) = kD (insS ks j) := by
  have e : ((kD ks).any fun kv => decide (kv.1 = (Sum.inl (j : Int) : L2.Key))) = decide (j ∈ ks) := by
    rw [Bool.eq_iff_iff, decide_eq_true_iff, List.any_eq_true]
    constructor
    · rintro ⟨y, hy, h⟩
      obtain ⟨m, hm, rfl⟩ := List.mem_map.mp hy
      have := Sum.inl.inj (of_decide_eq_true h)
      obtain rfl : m = j := by omega
      exact hm
    · intro h
      exact ⟨_, List.mem_map.mpr ⟨j, h, rfl⟩, decide_eq_true rfl⟩
  unfold putK
  rw [e]
  unfold insS
  by_cases h : j ∈ ks
  · rw [decide_eq_true h, if_pos rfl, if_pos h]
    unfold kD
    rw [List.map_map]
    refine List.map_congr_left fun m _ => ?_
    show (if (Sum.inl (m : Int) : L2.Key) = Sum.inl (j : Int) then _ else _) = _
    split <;> rfl
  · rw [decide_eq_false h, if_neg Bool.false_ne_true, if_neg h]
    unfold kD
    rw [List.map_append] <;> rfl
theorem merge_kD : ∀ (l ks : List Nat), mergeK (kD ks) (kD l) = kD (insL ks l)
  | [], _ => rfl
  | j :: r, ks => by
    show mergeK (putK (kD ks) (Sum.inl (j : Int)) (.bl true)) (kD r) = _
    rw [put_kD, merge_kD r] <;> rfl
theorem insS_mem {ks : List Nat} {j y : Nat} : y ∈ insS ks j ↔ y ∈ ks ∨ y = j := by
  unfold insS
  split
  · rename_i h
    constructor
    · exact .inl
    · rintro (z | rfl)
      · exact z
      · exact h
  · rw [List.mem_append, List.mem_singleton]
theorem insS_nd {ks : List Nat} {j : Nat} (h : ks.Nodup) : (insS ks j).Nodup := by
  unfold insS
  split
  · exact h
  · rename_i n
    refine List.nodup_append.mpr ⟨h, List.nodup_cons.mpr ⟨List.not_mem_nil, List.nodup_nil⟩, fun a ha b hb e => ?_⟩
    rw [List.mem_singleton.mp hb] at e
    exact n (e ▸ ha)
theorem insL_mem : ∀ {l ks : List Nat} {y : Nat}, y ∈ insL ks l ↔ y ∈ ks ∨ y ∈ l
  | [], ks, y => by
    show y ∈ ks ↔ _
    simp
  | j :: r, ks, y => by
    show y ∈ insL (insS ks j) r ↔ _
    rw [insL_mem, insS_mem, List.mem_cons, or_assoc]
theorem insL_nd : ∀ {l ks : List Nat}, ks.Nodup → (insL ks l).Nodup
  | [], _, h => h
  | j :: r, ks, h => insL_nd (l := r) (insS_nd h)
theorem insL_app (ks a b : List Nat) : insL ks (a ++ b) = insL (insL ks a) b := List.foldl_append ..
theorem insL_take {ks l : List Nat} {i j : Nat} (h : l[i]? = some j) : insL ks (l.take (i + 1)) = insS (insL ks (l.take i)) j := by
  obtain ⟨h1, h2⟩ := List.getElem?_eq_some_iff.mp h
  rw [List.take_succ_eq_append_getElem h1, h2, insL_app] <;> rfl
theorem nd_len {ks : List Nat} {n : Nat} (nd : ks.Nodup) (h : ∀ i ∈ ks, i < n) : ks.length ≤ n := by
  have nd2 : (ascL n ks).Nodup := List.Pairwise.filter _ List.nodup_range
  have pm : ks.Perm (ascL n ks) := (List.perm_ext_iff_of_nodup nd nd2).mpr fun a => by
    unfold ascL
    rw [List.mem_filter, List.mem_range, decide_eq_true_iff]
    exact ⟨fun z => ⟨h a z, z⟩, fun z => z.2⟩
  rw [pm.length_eq]
  have := List.length_filter_le (fun i => decide (i ∈ ks)) (List.range n)
  rw [List.length_range] at this
  exact this
theorem asc_mem {n i : Nat} {l : List Nat} : i ∈ ascL n l ↔ i < n ∧ i ∈ l := by
  unfold ascL
  rw [List.mem_filter, List.mem_range, decide_eq_true_iff]
theorem asc_len (n : Nat) (l : List Nat) : (ascL n l).length ≤ n := by
  have := List.length_filter_le (fun i => decide (i ∈ l)) (List.range n)
  rw [List.length_range] at this
  exact this
theorem asc_congr {n : Nat} {l m : List Nat} (h : ∀ i, i < n → (i ∈ l ↔ i ∈ m)) : ascL n l = ascL n m := by
  unfold ascL
  refine List.filter_congr fun i hi => ?_
  exact decide_eq_decide.mpr (h i (List.mem_range.mp hi))
theorem insL_lt {ks l : List Nat} {n : Nat} (h : ∀ i ∈ ks, i < n) (g : ∀ i ∈ l, i < n) : ∀ i ∈ insL ks l, i < n := fun i hi => (insL_mem.mp hi).elim (h i) (g i)
theorem insL_len {ks l : List Nat} {n : Nat} (nd : ks.Nodup) (h : ∀ i ∈ ks, i < n) (g : ∀ i ∈ l, i < n) : (insL ks l).length ≤ n := nd_len (insL_nd nd) (insL_lt h g)
theorem kD_len (ks : List Nat) : (kD ks).length = ks.length := List.length_map ..
theorem take_at {l : List Nat} {i j : Nat} (h : l[i]? = some j) : l.take (i + 1) = l.take i ++ [j] := by
  obtain ⟨h1, h2⟩ := List.getElem?_eq_some_iff.mp h
  rw [List.take_succ_eq_append_getElem h1, h2]
theorem nIs_at {l : List Nat} {i : Nat} {x : V} (h : (nIs l)[i]? = some x) : ∃ j, l[i]? = some j ∧ x = .int (j : Int) := by
  unfold nIs at h
  rw [List.getElem?_map] at h
  obtain ⟨j, h1, h2⟩ := Option.map_eq_some_iff.mp h
  exact ⟨j, h1, h2.symm⟩
theorem asIs_lt {p : Pi} {j : Nat} : ∀ i ∈ asIs p j, i < sz p.t := fun i h => (asc_mem.mp h).1
theorem fst_lt {p : Pi} : ∀ i ∈ fst p, i < sz p.t := fun i h => (asc_mem.mp h).1
theorem ins0_lt {l : List Nat} {n : Nat} (g : ∀ i ∈ l, i < n) : ∀ i ∈ insL [] l, i < n := fun i hi => (insL_mem.mp hi).elim (fun z => absurd z List.not_mem_nil) (g i)
theorem ins0_len {l : List Nat} {n : Nat} (g : ∀ i ∈ l, i < n) : (insL [] l).length ≤ n := nd_len (insL_nd List.nodup_nil) (ins0_lt g)
theorem flat_lt {p : Pi} (ls : List Nat) : ∀ i ∈ ls.flatMap (asIs p), i < sz p.t := fun i hi => by
  obtain ⟨m, _, h⟩ := List.mem_flatMap.mp hi
  exact asIs_lt i h
/-! ### the step -/
/-- what can come -/
def come (p : Pi) (isb : Bool) (ls : List Nat) : List Nat := ls.flatMap (asIs p) ++ (if isb || !p.l then fst p else [])
def found (p : Pi) (c : Nat) (isb : Bool) (ls : List Nat) : List Nat := (ascL (sz p.t) (come p isb ls)).filter fun j => decide (c ∈ (spts p.t).getD j [])
def nxt (p : Pi) (c : Nat) (isb : Bool) : Sta → Sta
  | none => none
  | some ls => if (!p.r && hasLast p (found p c isb ls)) = true then none else some (found p c isb ls)
theorem come_lt {p : Pi} {isb : Bool} {ls : List Nat} : ∀ i ∈ come p isb ls, i < sz p.t := fun i hi => by
  unfold come at hi
  rcases List.mem_append.mp hi with h | h
  · obtain ⟨j, _, h⟩ := List.mem_flatMap.mp h
    exact (asc_mem.mp h).1
  · split at h
    · exact (asc_mem.mp h).1
    · cases h
abbrev sIsT : Stmt := topS 10
structure Q7T (K : PySem.W.Frag) (mg : Str → Option Value) (CQ : Addr) (f : Nat → Addr) (fd : Nat → FuncData) : Prop where
  ist : Fd K mg "is_text" sIsT ["value"] (f 3) (fd 3)
  zall : mg "all" = none
  zisi : mg "isinstance" = none
  zstr : mg "str" = none
theorem scIsT : FnScope ["value", "sign"] ["value"] (defScope sIsT) := ⟨rfl, rfl, rfl, by decide +kernel, rfl, by decide +kernel, by decide +kernel⟩
def spIsT : Sp := fun vs H Q _ => ∃ (T : List Nat), vs = [.str (tx T)] ∧ T.length ≤ 2000 ∧ (∀ c ∈ T, c ∈ LETc) ∧ ∀ H', Same H H' → Q (.bl true) H'
section
variable {P : Program} {w : World} {K : PySem.W.Frag} {mg : Str → Option Value} {base : Heap} {CQ : Addr} {cf : Nat → Addr} {cfd : Nat → FuncData} {lt : Tok}
theorem ok_isT (T : Q7T K mg CQ cf cfd) (gL : mg "LETTERS" = some (.str LSs lt)) : FnOk P w K mg base CX0 1 (cf 3) (cfd 3) ["value"] spIsT := by
  refine T.ist.F.ok (k := 0) scIsT (fun vs H Q E h => ?_) (fun cdv A outer s H vs Q E hr h => ?_)
  · obtain ⟨X, rfl, _⟩ := h
    rfl
  · obtain ⟨X, rfl, hX, hl, fin⟩ := h
    refine ⟨_, pss_one (ps_ret (pe_and (pe_callB call_isi (by rfl) T.zisi PyProof.Rows.boot_isinstance (pa_cons (pv 0) (pa_cons (pe_bltn (by rfl) T.zstr PySem.Pv.boot_str (v := .ty "str") rfl) pa_nil)))
        (pe_one (pe_callB (cr_all rfl) (by rfl) T.zall (by decide +kernel) (pa_cons (pe_lc (own := [("sign", 1)]) (g := gName 1) (tt := tYes) (te := tOp rInS (tVar 1) (tC (.str LSs))) rfl scIsT.nd (pi_str (pv 0)) (blkOk_by (N := ["value", "sign"]) (sc := defScope sIsT) (by decide +kernel)) (fun _ _ _ _ _ => pg_name (i := 1) scIsT.nd rfl (Or.inl rfl)) (fun _ _ _ _ _ => pts_nil)
            (fun _ _ _ _ _ => pe_cmpR op_inS (pv 1) (pe_glob (v := .str LSs) rfl gL ⟨_, rfl⟩) rfl)) pa_nil))))), ?_⟩
    refine ⟨.str (tx X), rfl, .str (tx X), .ty "str", _, _, true, rfl, .ty "str", .base (.str _), kit_ty (a := "str") (b := "str") (by decide +kernel), true, rfl, iteT ?_⟩
    refine ⟨_, rfl, tx X, rfl, fun D hD => ?_⟩
    refine lc_it (walk_str (z := tx X)) (fun i H1 => H1 D = some (.lst ((List.replicate i true).map V.bl)) ∧ Same H H1) ⟨upd_same, smU hD⟩ (fun _ _ _ _ => True.intro) (fun i x H1 H1' hi hP hy => ?_) (fun H1 hP => ?_)
    · obtain ⟨eD, s1⟩ := hP
      obtain ⟨rfl, d, hd, rfl⟩ := hy
      have hd : X[i]? = some d := by
        have h2 : (tx X).cps.toList[i]? = some d := by
          rw [Array.getElem?_toList]
          exact hd
        exact h2
      have hdl := hl d (List.mem_of_getElem? hd)
      refine ⟨rfl, _, rfl, d, LSs, rfl, rfl, _, eD, ?_, ?_, fun b o hb => ?_⟩
      · rw [List.length_map, List.length_replicate]
        have hi2 : i < X.length := by
          have e : (tx X).cps.size = X.length := tx_len X
          rw [← e]
          exact hi
        exact Nat.lt_of_le_of_lt (show i ≤ 2000 by omega) (by decide)
      · rw [upd_same, decide_eq_true (inLS.mpr hdl), List.replicate_succ', List.map_append] <;> rfl
      · rw [upd_ne (ne_of_none hb hD)]
        exact s1 _ _ hb
    · obtain ⟨eD, s1⟩ := hP
      refine ⟨D, _, rfl, .inl (.inl eD), ?_⟩
      have e9 : (List.replicate (tx X).length true).all id = true := List.all_eq_true.mpr fun x hx => List.eq_of_mem_replicate hx
      show Q (V.bl ((List.replicate (tx X).length true).all id)) H1
      rw [e9]
      exact fin H1 s1
end
end Sq
/-! enumerate(text). -/
namespace L2
open PySem PySem.Spec PyProof.Rows
/-- the text's signs, each in a new pair with its number -/
def Ites (x : Str) : It :=
  ⟨fun i _ => i < x.cps.size, fun i H v H' => ∃ T c, v = .ref T ∧ H T = none ∧ H' = upd H T (.tup [.int (i : Nat), .str ⟨#[c]⟩]) ∧ x.cps[i]? = some c, fun i _ => i = x.cps.size⟩
theorem turn_enumS {P : Program} {w : World} {K : PySem.W.Frag} {elts : List Expr} {kk : Nat} {tpos : Pos} (e it : Addr) (x : Str) (t : Tok) (ty : String) (hty : ty = "str_ascii_iterator" ∨ ty = "str_iterator") :
    Turn P w K (.Tuple elts kk tpos) (Ites x) [e, it] e (fun i h => (∃ old, IsEnum h e it ((i : Nat) : Int) old) ∧ h.IsStrIter it ty x t i ∧ e ≠ it) where
  mem := by simp
  obj := fun i h st b hb => by
    obtain ⟨⟨old, he⟩, ⟨o, ho, hc, hd⟩, _⟩ := st
    have e' : b = e ∨ b = it := by simpa using hb
    rcases e' with z | z
    · rw [z]; exact ⟨_, he, fun v q => nomatch q⟩
    · rw [z]; exact ⟨o, ho, fun v q => by rw [hd] at q; cases q⟩
  keep := fun i h h' st k => let ⟨⟨old, he⟩, ⟨o, ho, r⟩, hne⟩ := st; ⟨⟨old, k e (by simp) _ he⟩, ⟨o, k it (by simp) o ho, r⟩, hne⟩
  item := by
    intro X hP hw hK hc i pins s σ H E I hf st hg
    subst hP hw hK
    obtain ⟨⟨old, he⟩, hit, hne⟩ := st
    have hel : e < s.heap.objs.size := Heap.lt_size he
    have hil : it < s.heap.objs.size := by obtain ⟨_, q, _⟩ := hit; exact Heap.lt_size q
    have hh1 : X.A.in1.handled = none := by simp [I.ok.hd hc]
    have D : Draws X.prog X.w X.A.in1 it [it] x.cps.size (SignAt x) (fun i h => h.IsStrIter it ty x t i) := by
      rcases hty with q | q
      · rw [q]; exact Draws.strAscii hh1 it x t
      · rw [q]; exact Draws.strWide hh1 it x t
    refine wpAny_pyNext_enum_itemD D he hit hg hne (by simpa using hne) fun v h' tk hv ho hit' hT hsz hk => ?_
    obtain ⟨c, u, hcx, rfl⟩ := hv
    refine ⟨_, rfl, wpAny_letOwnedTupleGo_enum (s := { s with heap := h', toks := tk + 1 }) ho fun h'' he' sb => ?_⟩
    have hT2 : h''.get? s.heap.objs.size = some { cls := .type "tuple", data := .seq #[.int i tk, .str ⟨#[c]⟩ u] } := (sb.2 _ (Nat.ne_of_gt hel)).trans hT
    have new : ObjOk X.prog X.w (upd H s.heap.objs.size (.tup [.int (i : Nat), .str ⟨#[c]⟩])) h'' s.heap.objs.size (.tup [.int (i : Nat), .str ⟨#[c]⟩]) :=
      ⟨by show 2 ≤ sizeLine; decide, [.int i tk, .str ⟨#[c]⟩ u], .cons ⟨_, rfl⟩ (.cons ⟨_, rfl⟩ .nil), ⟨_, hT2, rfl, _, rfl⟩⟩
    have I1 : Inv X pins σ (upd H s.heap.objs.size (.tup [.int (i : Nat), .str ⟨#[c]⟩])) { s with heap := h'', toks := tk + 1 } :=
      I.turnedNew (ch := [e, it]) (fun b ob hb q => (sb.2 b (fun z => hb (by simp [z]))).trans (hk b ob (fun z => hb (by simp [z])) (fun z => hb (by simp [z])) q)) hf (Nat.le_refl _) new
    refine ⟨.ref s.heap.objs.size, _, I1, rfl, ⟨_, c, rfl, I.hok.fresh (Nat.le_refl _), rfl, hcx⟩, ⟨⟨.str ⟨#[c]⟩ u, ?_⟩, ?_, hne⟩, fun b hb => ?_⟩
    · have e1 : ((i + 1 : Nat) : Int) = (i : Int) + 1 := by omega
      rw [e1]; exact he'
    · obtain ⟨o, q, r⟩ := hit'
      exact ⟨o, (sb.2 it (Ne.symm hne)).trans q, r⟩
    · have hb' : b < s.heap.objs.size := by
        have e' : b = e ∨ b = it := by simpa using hb
        rcases e' with z | z
        · rw [z]; exact hel
        · rw [z]; exact hil
      rw [upd_ne (Nat.ne_of_lt hb')]
      exact (hf b hb).1
  done := by
    intro X hP hw hK hc i pins s σ H E I hf st hg
    subst hP hw hK
    obtain ⟨⟨old, he⟩, hit, hne⟩ := st
    obtain ⟨f0, f1, f2, f3, f4, f5⟩ := hf it (by simp)
    have hh1 : X.A.in1.handled = none := by simp [I.ok.hd hc]
    have D : Draws X.prog X.w X.A.in1 it [it] x.cps.size (SignAt x) (fun i h => h.IsStrIter it ty x t i) := by
      rcases hty with q | q
      · rw [q]; exact Draws.strAscii hh1 it x t
      · rw [q]; exact Draws.strWide hh1 it x t
    obtain rfl : i = x.cps.size := hg
    exact wpAny_pyNext_enum_endD D he hit fun h' eb => ⟨rfl, I.turned (t' := s.toks) (fun b o hb q => eb b o hb q) f0 f1 f3 f4 f5⟩
  self := fun A i s Q E st h => let ⟨⟨_, he⟩, _⟩ := st; wpAny_pyIter_enum he h
def iEnumS (ta : TA) : TI := fun σ H R => ta σ H fun vs H1 => ∃ x, vs = [.str x] ∧ R (Ites x) H1
theorem pi_enumS {X : Cx} {e : Expr} {ta : TA} {p pos tpos : Pos} {elts : List Expr} {kk : Nat} (hg : Gl X "enumerate") (hm : X.mg "enumerate" = none) (ha : PA X [e] ta) (hs : starEach [e] X.env = [(false, eval e X.env)] := by rfl) :
    PI X (.Tuple elts kk tpos) (.Call (.Name "enumerate" p) [e] [] pos) (iEnumS ta) := by
  refine ⟨fun pins s σ H R I h => ?_⟩
  refine Call_ (ld_blt I hg hm boot_enumerate (PyProof.Rows.callWith_type1 (thn (ha.run pos pins s σ H _ I h) fun us s1 ⟨vs, H1, I1, r1, q1⟩ => ?_) hs rfl))
  obtain ⟨x, ex, q⟩ := q1
  subst ex
  cases r1 with
  | cons r rr =>
    cases rr
    obtain ⟨t, rfl⟩ := r
    refine call_enumerate_str fun h' he hit hsz hk => wpAny_pyIter_enum he ?_
    have I2 : Inv X pins σ H1 { s1 with heap := h' } := I1.kept (t' := s1.toks) hk
    have hty : strIterType x = "str_ascii_iterator" ∨ strIterType x = "str_iterator" := by
      unfold strIterType
      split
      · first | exact .inl rfl | exact .inr rfl
      · first | exact .inr rfl | exact .inl rfl
    refine ⟨s1.heap.objs.size + 1, [s1.heap.objs.size + 1, s1.heap.objs.size], _, _, H1, rfl, I2, turn_enumS (s1.heap.objs.size + 1) s1.heap.objs.size x t _ hty, ⟨⟨.none, he⟩, hit, Nat.succ_ne_self _⟩, fun b hb => ?_, q⟩
    have e' : b = s1.heap.objs.size + 1 ∨ b = s1.heap.objs.size := by simpa using hb
    have hle : s1.heap.objs.size ≤ b := by
      rcases e' with z | z
      · rw [z]; exact Nat.le_add_right _ _
      · rw [z]; exact Nat.le_refl _
    exact I1.fpOk hle (I1.hok.fresh hle)
theorem walk_enumS {x : Str} : Walk (Ites x) x.cps.size (fun _ => True) (fun i H v H' => ∃ T c, v = .ref T ∧ H T = none ∧ H' = upd H T (.tup [.int (i : Nat), .str ⟨#[c]⟩]) ∧ x.cps[i]? = some c) :=
  ⟨fun _ _ hi _ => hi, fun _ _ => rfl, fun _ _ _ _ _ _ y => y⟩
end L2
/-! begun, gone_on, can_end, has_match. -/
namespace Sq
open PySem PySem.Spec PyProof.Rows L2 Sf Sf4
abbrev sBegun : Stmt := topS 22
abbrev sGone : Stmt := topS 23
abbrev sCan : Stmt := topS 24
abbrev sHM : Stmt := topS 28
structure HmT (K : PySem.W.Frag) (mg : Str → Option Value) (f : Nat → Addr) (fd : Nat → FuncData) : Prop where
  beg : Fd K mg "begun" sBegun ["pattern", "letter"] (f 0) (fd 0)
  gon : Fd K mg "gone_on" sGone ["pattern", "some", "letter"] (f 1) (fd 1)
  can : Fd K mg "can_end" sCan ["pattern", "some"] (f 2) (fd 2)
  hm : Fd K mg "has_match" sHM ["pattern", "text"] (f 3) (fd 3)
  zlist : mg "list" = none
  zenum : mg "enumerate" = none
theorem scBegun : FnScope ["pattern", "letter", "place"] ["pattern", "letter"] (defScope sBegun) := ⟨rfl, rfl, rfl, by decide +kernel, rfl, by decide +kernel, by decide +kernel⟩
def NGo : List Str := ["pattern", "some", "letter", "behind", "here", "place"]
theorem scGone : FnScope NGo ["pattern", "some", "letter"] (defScope sGone) := ⟨rfl, rfl, rfl, by decide +kernel, rfl, by decide +kernel, by decide +kernel⟩
theorem scCan : FnScope ["pattern", "some", "place"] ["pattern", "some"] (defScope sCan) := ⟨rfl, rfl, rfl, by decide +kernel, rfl, by decide +kernel, by decide +kernel⟩
def NHM : List Str := ["pattern", "text", "some", "at", "letter", "fresh", "place"]
theorem scHM : FnScope NHM ["pattern", "text"] (defScope sHM) := ⟨rfl, rfl, rfl, by decide +kernel, rfl, by decide +kernel, by decide +kernel⟩
/-- the places that stand for a letter -/
def here (p : Pi) (c : Nat) (l : List Nat) : List Nat := l.filter fun j => decide (c ∈ (spts p.t).getD j [])
def run1 (p : Pi) (T : List Nat) : Bool × Sta := T.foldl (fun x d => (false, nxt p d x.1 x.2)) (true, some [])
theorem run1_snoc (p : Pi) (T : List Nat) (d : Nat) : run1 p (T ++ [d]) = (false, nxt p d (run1 p T).1 (run1 p T).2) := by
  unfold run1
  rw [List.foldl_append] <;> rfl
theorem run1_fst (p : Pi) (T : List Nat) : (run1 p T).1 = decide (T = []) := by
  cases h : T.reverse with
  | nil =>
    have : T = [] := List.reverse_eq_nil_iff.mp h
    subst this
    rfl
  | cons d r =>
    have : T = r.reverse ++ [d] := by rw [← List.reverse_reverse T, h, List.reverse_cons]
    subst this
    rw [run1_snoc]
    simp
theorem run1_none (p : Pi) : ∀ (U T : List Nat), (run1 p T).2 = none → (run1 p (T ++ U)).2 = none
  | [], T, h => by rw [List.append_nil]; exact h
  | d :: U, T, h => by
    rw [show T ++ d :: U = (T ++ [d]) ++ U by simp]
    refine run1_none p U (T ++ [d]) ?_
    rw [run1_snoc, h] <;> rfl
def hasM (p : Pi) (T : List Nat) : Bool := ended p (run1 p T).2
theorem hasLast_eq {p : Pi} {l m : List Nat} (h : ∀ i, i ∈ l ↔ i ∈ m) : hasLast p l = hasLast p m := by
  unfold hasLast
  rw [Bool.eq_iff_iff, List.any_eq_true, List.any_eq_true]
  constructor
  · rintro ⟨x, a, b⟩
    exact ⟨x, (h x).mp a, b⟩
  · rintro ⟨x, a, b⟩
    exact ⟨x, (h x).mpr a, b⟩
def spBeg (C : Addr) : Sp := fun vs H Q _ => ∃ (p : Pi) (c : Nat), vs = [.ref p.x, .str (tx [c])] ∧ PiO C H p ∧ ∀ L H', H L = none → Same H H' → H' L = some (.lst (nIs (here p c (fst p)))) → Q (.ref L) H'
def spGo (C : Addr) : Sp := fun vs H Q _ => ∃ (p : Pi) (a : Addr) (ls : List Nat) (c : Nat), vs = [.ref p.x, .ref a, .str (tx [c])] ∧ PiO C H p ∧ H a = some (.lst (nIs ls)) ∧ ls.length ≤ 24 ∧ (∀ i ∈ ls, i < sz p.t) ∧
  ∀ L H', H L = none → Same H H' → H' L = some (.lst (nIs (here p c (insL [] (ls.flatMap (asIs p)))))) → Q (.ref L) H'
def spCan (C : Addr) : Sp := fun vs H Q _ => ∃ (p : Pi) (a : Addr) (ls : List Nat), vs = [.ref p.x, .ref a] ∧ PiO C H p ∧ H a = some (.lst (nIs ls)) ∧ ls.length ≤ 24 ∧ ∀ H', Same H H' → Q (.bl (hasLast p ls)) H'
def spHM (C : Addr) : Sp := fun vs H Q _ => ∃ (p : Pi) (T : List Nat), vs = [.ref p.x, .str (tx T)] ∧ PiO C H p ∧ T.length ≤ 2000 ∧ (∀ c ∈ T, c ∈ LETc) ∧ ∀ H', Same H H' → Q (.bl (hasM p T)) H'
theorem here_take {p : Pi} {c : Nat} {l : List Nat} {i j : Nat} (h : l[i]? = some j) : here p c (l.take (i + 1)) = here p c (l.take i) ++ (if decide (c ∈ (spts p.t).getD j []) = true then [j] else []) := by
  unfold here
  rw [take_at h, List.filter_append]
  congr 1
  rw [List.filter_cons, List.filter_nil]
theorem here_len (p : Pi) (c : Nat) (l : List Nat) : (here p c l).length ≤ l.length := List.length_filter_le _ _
theorem here_mem {p : Pi} {c : Nat} {l : List Nat} {i : Nat} : i ∈ here p c l ↔ i ∈ l ∧ c ∈ (spts p.t).getD i [] := by
  unfold here
  rw [List.mem_filter, decide_eq_true_iff]
theorem lst_same {H H1 : Hp} {D : Addr} {o : HO} (hD : H D = none) (s : Same H H1) : Same H (upd H1 D o) := fun b u e => by
  rw [upd_ne (ne_of_none e hD)]
  exact s b u e
section
variable {P : Program} {w : World} {K : PySem.W.Frag} {mg : Str → Option Value} {base : Heap} {CQ C aF fb : Addr} {cf : Nat → Addr} {cfd : Nat → FuncData} {f : Nat → Addr} {fd : Nat → FuncData} {nf : Nat → Addr} {nfd : Nat → FuncData} {db : FuncData} {tn : Nat → Tok} {qf : Nat → Addr} {qfd : Nat → FuncData} {tq : Nat → Tok}
variable {pf : Nat → Addr} {pfd : Nat → FuncData} {tk : Nat → Tok} {gR gW : Addr} {dR dW : FuncData} {lt : Tok}
theorem ok_beg (TM : HmT K mg f fd) (TP : PatT K mg C pf pfd tk gR gW dR dW) {k : Nat} : FnOk P w K mg base CX0 (k + 1) (f 0) (fd 0) ["pattern", "letter"] (spBeg C) := by
  refine TM.beg.F.ok scBegun (fun vs H Q E h => ?_) (fun cdv A outer s H vs Q E hr h => ?_)
  · obtain ⟨p, c, rfl, _⟩ := h
    rfl
  · obtain ⟨p, c, rfl, po, fin⟩ := h
    refine ⟨_, pss_one (ps_ret (pe_lc (own := [("place", 2)]) (g := gName 2) (tt := tTest (tOp rInS (tVar 1) (tOp (rIxT K) (tFld K (tVar 0) "places") (tVar 2)))) (te := tVar 2) rfl scBegun.nd (pi_tup (pe_fld (pv 0) rfl)) (blkOk_by (N := ["pattern", "letter", "place"]) (sc := defScope sBegun) (by decide +kernel))
        (fun _ _ _ _ _ => pg_name (i := 2) scBegun.nd rfl (Or.inl rfl)) (fun _ _ _ _ _ => pts_one (pt_cmpR op_inS (pv 1) (pe_ix ix_tup (pe_fld (pv 0) rfl) (pv 2) (fun _ _ => rfl)) rfl)) (fun _ _ _ _ _ => pv 2))), ?_⟩
    obtain ⟨po1, h8, h60⟩ := id po
    obtain ⟨dx, tv, na, pl, fi, la, be, e1, _, _, ep, ef, el, _⟩ := id po1
    have spl : (spts p.t).length = sz p.t := spts_sz p.t (by omega)
    have fl : (fst p).length ≤ 24 := Nat.le_trans (asc_len _ _) h8
    refine ⟨_, rfl, p.x, C, dx, _, _, rfl, e1, TP.cl, TP.n7, rfl, fi, rfl, ⟨_, .inl (.inl ef)⟩, fun D hD => ?_⟩
    refine lc_it (walk_tup (K := K) (a := fi) (xs := nIs (fst p))) (fun i H1 => H1 D = some (.lst (nIs (here p c ((fst p).take i)))) ∧ Same H H1) ⟨upd_same, smU hD⟩ (fun i H1 _ hP => .inl (.inl (hP.2 _ _ ef))) (fun i xi H1 H1' hi hP hy => ?_) (fun H1 hP => ?_)
    · obtain ⟨eD, s1⟩ := hP
      obtain ⟨rfl, hx⟩ := hy
      obtain ⟨j, hj, rfl⟩ := nIs_at hx
      have hjs : j < (spts p.t).length := by
        rw [spl]
        exact fst_lt j (List.mem_of_getElem? hj)
      have eg : (spts p.t)[j]? = some ((spts p.t).getD j []) := by
        rw [List.getD_eq_getElem?_getD, List.getElem?_eq_getElem hjs] <;> rfl
      refine ⟨rfl, _, rfl, _, rfl, p.x, C, dx, _, _, rfl, s1 _ _ e1, TP.cl, TP.n6, rfl, _, rfl, pl, _, (j : Int), _, rfl, rfl, .inl (.inl (s1 _ _ ep)), atI_nat (j := j) (v := V.str (tx ((spts p.t).getD j []))) (by unfold nmV; rw [List.getElem?_map, eg] <;> rfl), c, _, rfl, rfl, _, rfl, ?_⟩
      have ht := here_take (p := p) (c := c) hj
      show if decide (c ∈ (spts p.t).getD j []) = true then _ else _
      cases hd : decide (c ∈ (spts p.t).getD j []) with
      | true =>
        refine iteT ⟨_, rfl, _, eD, ?_, ?_, lst_same hD s1⟩
        · rw [nIs_len]
          have h1 := here_len p c ((fst p).take i)
          have h2 := List.length_take_le' i (fst p)
          exact Nat.lt_of_le_of_lt (show _ ≤ 24 by omega) (by decide)
        · rw [upd_same, ht, hd, if_pos rfl]
          unfold nIs
          rw [List.map_append] <;> rfl
      | false =>
        refine iteF ⟨?_, s1⟩
        rw [ht, hd, if_neg Bool.false_ne_true, List.append_nil]
        exact eD
    · obtain ⟨eD, s1⟩ := hP
      rw [nIs_len, List.take_length] at eD
      exact fin D H1 hD s1 eD
theorem ok_can (TM : HmT K mg f fd) (T : NoT K mg C aF nf nfd fb db tn) (TP : PatT K mg C pf pfd tk gR gW dR dW) {k : Nat} : FnOk P w K mg base CX0 (k + 1) (f 2) (fd 2) ["pattern", "some"] (spCan C) := by
  refine TM.can.F.ok scCan (fun vs H Q E h => ?_) (fun cdv A outer s H vs Q E hr h => ?_)
  · obtain ⟨p, a, ls, rfl, _⟩ := h
    rfl
  · obtain ⟨p, a, ls, rfl, po, ea, hl, fin⟩ := h
    refine ⟨_, pss_one (ps_ret (pe_callB (cr_any rfl) (by rfl) T.zany (by decide +kernel) (pa_cons (pe_lc (own := [("place", 2)]) (g := gName 2) (tt := tYes) (te := tOp (rIn K false) (tVar 2) (tFld K (tVar 0) "last")) rfl scCan.nd (pi_list (pv 1)) (blkOk_by (N := ["pattern", "some", "place"]) (sc := defScope sCan) (by decide +kernel)) (fun _ _ _ _ _ => pg_name (i := 2) scCan.nd rfl (Or.inl rfl)) (fun _ _ _ _ _ => pts_nil)
        (fun _ _ _ _ _ => pe_cmpR op_in_seq (pv 2) (pe_fld (pv 0) rfl) (by rfl))) pa_nil))), ?_⟩
    obtain ⟨⟨dx, tv, na, pl, fi, la, be, e1, _, _, _, _, el, _⟩, h8, _⟩ := po
    refine ⟨_, rfl, a, rfl, ⟨_, .inl (.inl ea)⟩, fun D hD => ?_⟩
    refine lc_it (walk_list (K := K) (a := a) (xs := nIs ls)) (fun i H1 => H1 D = some (.lst (((ls.take i).map fun j => decide (j ∈ lst p)).map V.bl)) ∧ Same H H1)
      ⟨upd_same, smU hD⟩ (fun i H1 _ hP => .inl (.inl (hP.2 _ _ ea))) (fun i xi H1 H1' hi hP hy => ?_) (fun H1 hP => ?_)
    · obtain ⟨eD, s1⟩ := hP
      obtain ⟨rfl, hxi⟩ := hy
      obtain ⟨j, hj, rfl⟩ := nIs_at hxi
      have tk1 : ls.take (i + 1) = ls.take i ++ [j] := take_at hj
      refine ⟨rfl, _, rfl, _, rfl, p.x, C, dx, _, _, rfl, s1 _ _ e1, TP.cl, TP.n8, rfl, la, _, rfl, .inr (.inl (.inl (s1 _ _ el))), rfl, ?_, ?_⟩
      · exact List.all_eq_true.mpr fun y hy => by
          obtain ⟨m, _, rfl⟩ := List.mem_map.mp hy
          rfl
      refine ⟨_, eD, ?_, ?_, lst_same hD s1⟩
      · rw [List.length_map, List.length_map]
        have := List.length_take_le' i ls
        exact Nat.lt_of_le_of_lt (show _ ≤ 30 by omega) (by decide)
      · rw [upd_same, tk1, List.map_append, List.map_append, inI_dec] <;> rfl
    · obtain ⟨eD, s1⟩ := hP
      rw [nIs_len, List.take_length] at eD
      refine ⟨D, _, rfl, .inl (.inl eD), ?_⟩
      have e9 : (ls.map fun j => decide (j ∈ lst p)).any id = hasLast p ls := by
        unfold hasLast
        rw [List.any_map] <;> rfl
      show Q (V.bl ((ls.map fun j => decide (j ∈ lst p)).any id)) H1
      rw [e9]
      exact fin H1 s1
theorem ok_gon (TM : HmT K mg f fd) (T : NoT K mg C aF nf nfd fb db tn) (TP : PatT K mg C pf pfd tk gR gW dR dW) : FnOk P w K mg base CX0 4 (f 1) (fd 1) ["pattern", "some", "letter"] (spGo C) := by
  have GB := ok_beh5 (P := P) (w := w) (base := base) (k := 0) TP T.mB T.isi.F T.isi.b T.isi.g (ok_isI5 (k := 0) T.isi.F T.zisi T.zint T.zbool) T.zlen
  refine TM.gon.F.ok (k := 3) scGone (fun vs H Q E h => ?_) (fun cdv A outer s H vs Q E hr h => ?_)
  · obtain ⟨p, a, ls, c, rfl, _⟩ := h
    rfl
  · obtain ⟨p, a, ls, c, rfl, po, ea, hl, hb, fin⟩ := h
    refine ⟨_, pss_cons (ps_setDc2 (i := 3) (own := [("here", 4), ("place", 5)]) (vs1 := [5]) (g := gName 4) (g1 := gName 5) (wi1 := iTup K (tMeth C "behind" (spBeh5 C) [] E0 (tVar 0) (tCons (tVar 4) tNil))) (tk := tVar 5) (tv := tC (.bl true)) rfl scGone.nd rfl rfl (by rfl) (pi_list (pv 1)) (blkOk_by (N := NGo) (sc := defScope sGone) (by decide +kernel)) (by decide)
          (fun _ _ _ _ _ => pg_name (i := 4) scGone.nd rfl (Or.inl rfl)) (fun _ _ _ _ _ => pi_tup (pe_meth (pv 0) TP.cl T.mB.m GB (hr.mono (by decide)) T.mB.b .nil pass0 (pa_cons (pv 4) pa_nil))) (fun _ _ _ _ _ => pg_name (i := 5) scGone.nd rfl (Or.inl rfl)) (fun _ _ _ _ _ => pv 5) (fun _ _ _ _ _ => pe_bl))
      (pss_one (ps_lock (ps_ret (pe_lc (own := [("place", 5)]) (g := gName 5) (tt := tTest (tOp rInS (tVar 2) (tOp (rIxT K) (tFld K (tVar 0) "places") (tVar 5)))) (te := tVar 5) rfl scGone.nd (pi_keys (pv 3)) (blkOk_by (N := NGo) (sc := defScope sGone) (by decide +kernel))
        (fun _ _ _ _ _ => pg_name (i := 5) scGone.nd rfl (Or.inl rfl)) (fun _ _ _ _ _ => pts_one (pt_cmpR op_inS (pv 2) (pe_ix ix_tup (pe_fld (pv 0) rfl) (pv 5) (fun _ _ => rfl)) rfl)) (fun _ _ _ _ _ => pv 5))))), ?_⟩
    obtain ⟨po1, h8, h60⟩ := id po
    obtain ⟨dx, tv, na, pl, fi, la, be, e1, _, _, ep, ef, el, _⟩ := id po1
    have spl : (spts p.t).length = sz p.t := spts_sz p.t (by omega)
    refine ⟨_, rfl, a, rfl, ⟨_, .inl (.inl ea)⟩, fun D hD => ?_⟩
    refine it_gen (walk_list (K := K) (a := a) (xs := nIs ls)) (fun i H1 => H1 D = some (.dK (kD (insL [] ((ls.take i).flatMap (asIs p))))) ∧ Same H H1) ⟨upd_same, smU hD⟩ (fun i H1 _ hP => .inl (.inl (hP.2 _ _ ea))) (fun i x H1 H1' hi hP hy => ?_) (fun H1 hP => ?_)
    · obtain ⟨eD, s1⟩ := hP
      obtain ⟨rfl, hx⟩ := hy
      obtain ⟨j, hj, rfl⟩ := nIs_at hx
      have hj8 := hb j (List.mem_of_getElem? hj)
      have l1 : ∀ y ∈ insL [] ((ls.take i).flatMap (asIs p)), y < sz p.t := ins0_lt (flat_lt (p := p) _)
      have n1 : (insL [] ((ls.take i).flatMap (asIs p))).Nodup := insL_nd List.nodup_nil
      refine ⟨rfl, _, rfl, p.x, dx, _, rfl, s1 _ _ e1, rfl, _, rfl, p.x, p.Z, p.l, p.t, p.r, p.nm, j, rfl, po1.mono s1, by omega, hj8, fun b eb => ⟨b, rfl, ⟨_, .inl (.inl eb)⟩, ?_⟩⟩
      refine it_gen (walk_tup (K := K) (a := b) (xs := nIs (asIs p j))) (fun k H2 => H2 D = some (.dK (kD (insL (insL [] ((ls.take i).flatMap (asIs p))) ((asIs p j).take k)))) ∧ Same H H2 ∧ H2 b = some (.tup (nIs (asIs p j)))) ⟨eD, s1, eb⟩ (fun k H2 _ hP => .inl (.inl hP.2.2)) (fun k y H2 H2' hk hP hy => ?_) (fun H2 hP => ?_)
      · obtain ⟨eD2, s2, eb2⟩ := hP
        obtain ⟨rfl, hy⟩ := hy
        obtain ⟨m, hm, rfl⟩ := nIs_at hy
        refine ⟨rfl, _, rfl, _, Sum.inl (m : Int), rfl, eD2, ?_, ?_, lst_same hD s2, ?_⟩
        · rw [kD_len]
          have := insL_len n1 l1 (l := (asIs p j).take k) fun i hi => asIs_lt i (List.mem_of_mem_take hi)
          exact Nat.lt_of_le_of_lt (show _ ≤ 24 by omega) (by decide)
        · rw [upd_same, put_kD, insL_take hm]
        · refine (upd_ne fun z => ?_).trans eb2
          rw [z, eD2] at eb2
          cases eb2
      · obtain ⟨eD2, s2, _⟩ := hP
        refine ⟨?_, s2⟩
        rw [eD2, nIs_len, List.take_length, take_at hj, List.flatMap_append, insL_app]
        rw [show [j].flatMap (asIs p) = asIs p j from List.append_nil _]
    · obtain ⟨eD, s1⟩ := hP
      rw [nIs_len, List.take_length] at eD
      have n1 : (insL [] (ls.flatMap (asIs p))).Nodup := insL_nd List.nodup_nil
      have q1 := ins0_len (flat_lt (p := p) ls)
      refine ⟨D, _, eD, True.intro, fun od => ?_⟩
      have s1' : Same H (upd H1 D (.frz od (.dK (kD (insL [] (ls.flatMap (asIs p))))))) := lst_same hD s1
      generalize hH2 : upd H1 D (.frz od (.dK (kD (insL [] (ls.flatMap (asIs p)))))) = H2 at s1' ⊢
      have eF : H2 D = some (.frz od (.dK (kD (insL [] (ls.flatMap (asIs p)))))) := by rw [← hH2, upd_same]
      refine ⟨_, rfl, D, od, rfl, .inl ⟨_, eF, fun E2 hE => ?_⟩⟩
      have nDE : D ≠ E2 := fun z => by
        rw [← z, eF] at hE
        cases hE
      refine lc_it (walk_keys (d := D) (o := od) (kvs := kD (insL [] (ls.flatMap (asIs p))))) (fun i H3 => H3 E2 = some (.lst (nIs (here p c ((insL [] (ls.flatMap (asIs p))).take i)))) ∧ Same H2 H3) ⟨upd_same, smU hE⟩ (fun i H3 _ hP => hP.2 _ _ eF) (fun i xi H3 H3' hi hP hy => ?_) (fun H3 hP => ?_)
      · obtain ⟨eE, s3⟩ := hP
        have s5 := s1'.trans s3
        obtain ⟨rfl, kk, v, hk, rfl⟩ := hy
        obtain ⟨j, hj, rfl⟩ : ∃ j : Nat, (insL [] (ls.flatMap (asIs p)))[i]? = some j ∧ kk = Sum.inl (j : Int) := by
          unfold kD at hk
          rw [List.getElem?_map] at hk
          obtain ⟨j, h1, h2⟩ := Option.map_eq_some_iff.mp hk
          exact ⟨j, h1, (congrArg Prod.fst h2).symm⟩
        have hjs : j < (spts p.t).length := by
          rw [spl]
          exact ins0_lt (flat_lt (p := p) ls) j (List.mem_of_getElem? hj)
        have eg : (spts p.t)[j]? = some ((spts p.t).getD j []) := by
          rw [List.getD_eq_getElem?_getD, List.getElem?_eq_getElem hjs] <;> rfl
        refine ⟨rfl, _, rfl, _, rfl, p.x, C, dx, _, _, rfl, s5 _ _ e1, TP.cl, TP.n6, rfl, _, rfl, pl, _, (j : Int), _, rfl, rfl, .inl (.inl (s5 _ _ ep)), atI_nat (j := j) (v := V.str (tx ((spts p.t).getD j []))) (by unfold nmV; rw [List.getElem?_map, eg] <;> rfl), c, _, rfl, rfl, _, rfl, ?_⟩
        have ht := here_take (p := p) (c := c) hj
        show if decide (c ∈ (spts p.t).getD j []) = true then _ else _
        cases hd : decide (c ∈ (spts p.t).getD j []) with
        | true =>
          refine iteT ⟨_, rfl, _, eE, ?_, ?_, lst_same hE s3⟩
          · rw [nIs_len]
            have h1 := here_len p c ((insL [] (ls.flatMap (asIs p))).take i)
            have h2 := List.length_take_le' i (insL [] (ls.flatMap (asIs p)))
            exact Nat.lt_of_le_of_lt (show _ ≤ 24 by omega) (by decide)
          · rw [upd_same, ht, hd, if_pos rfl]
            unfold nIs
            rw [List.map_append] <;> rfl
        | false =>
          refine iteF ⟨?_, s3⟩
          rw [ht, hd, if_neg Bool.false_ne_true, List.append_nil]
          exact eE
      · obtain ⟨eE, s3⟩ := hP
        rw [kD_len, List.take_length] at eE
        refine ⟨s3 _ _ eF, fin E2 _ (s1'.free hE) (lst_same hD (s1'.trans s3)) ?_⟩
        rw [upd_ne nDE.symm]
        exact eE
/-- what stands there behind a letter -/
def some1 (p : Pi) (c : Nat) (b : Bool) (ls : List Nat) : List Nat := insL [] (here p c (insL [] (ls.flatMap (asIs p))) ++ (if (b || !p.l) = true then here p c (fst p) else []))
theorem some1_mem {p : Pi} {c : Nat} {b : Bool} {ls S : List Nat} (h : ∀ i, i ∈ ls ↔ i ∈ S) (i : Nat) : i ∈ some1 p c b ls ↔ i ∈ found p c b S := by
  have e : i ∈ ls.flatMap (asIs p) ↔ i ∈ S.flatMap (asIs p) := by
    rw [List.mem_flatMap, List.mem_flatMap]
    exact ⟨fun ⟨j, a, z⟩ => ⟨j, (h j).mp a, z⟩, fun ⟨j, a, z⟩ => ⟨j, (h j).mpr a, z⟩⟩
  have e2 : i ∈ found p c b S ↔ (i ∈ come p b S ∧ c ∈ (spts p.t).getD i []) := by
    unfold found
    rw [List.mem_filter, decide_eq_true_iff, asc_mem]
    exact ⟨fun z => ⟨z.1.2, z.2⟩, fun z => ⟨⟨come_lt i z.1, z.1⟩, z.2⟩⟩
  rw [e2]
  unfold some1 come
  rw [insL_mem, List.mem_append, here_mem, insL_mem, e]
  cases hb : (b || !p.l) with
  | true =>
    rw [if_pos rfl, if_pos rfl, here_mem, List.mem_append]
    simp only [List.not_mem_nil, false_or]
    exact or_and_right.symm
  | false =>
    rw [if_neg Bool.false_ne_true, if_neg Bool.false_ne_true, List.append_nil]
    simp
theorem some1_lt {p : Pi} {c : Nat} {b : Bool} {ls : List Nat} : ∀ i ∈ some1 p c b ls, i < sz p.t := fun i hi => by
  have h := (some1_mem (S := ls) (fun _ => Iff.rfl) i).mp hi
  unfold found at h
  exact (asc_mem.mp (List.mem_filter.mp h).1).1
theorem some1_nd {p : Pi} {c : Nat} {b : Bool} {ls : List Nat} : (some1 p c b ls).Nodup := insL_nd List.nodup_nil
theorem last_run {p : Pi} {T S : List Nat} (h : (run1 p T).2 = some S) : hasLast p S = ended p (some S) := by
  show _ = (p.r && hasLast p S)
  cases hr : p.r with
  | true => rfl
  | false =>
    show hasLast p S = false
    cases e : T.reverse with
    | nil =>
      have : T = [] := List.reverse_eq_nil_iff.mp e
      subst this
      cases h
      rfl
    | cons d r =>
      have : T = r.reverse ++ [d] := by rw [← List.reverse_reverse T, e, List.reverse_cons]
      subst this
      rw [run1_snoc] at h
      cases hs : (run1 p r.reverse).2 with
      | none =>
        rw [hs] at h
        cases h
      | some S0 =>
        rw [hs] at h
        have h2 : (if (!p.r && hasLast p (found p d (run1 p r.reverse).1 S0)) = true then none else some (found p d (run1 p r.reverse).1 S0)) = some S := h
        rw [hr] at h2
        cases hh : hasLast p (found p d (run1 p r.reverse).1 S0) with
        | true =>
          rw [hh] at h2
          cases h2
        | false =>
          rw [hh] at h2
          rw [← Option.some.inj h2]
          exact hh
theorem ok_hm (TM : HmT K mg f fd) (T7 : Q7T K mg CQ cf cfd) (T : NoT K mg C aF nf nfd fb db tn) (TP : PatT K mg C pf pfd tk gR gW dR dW) (gL : mg "LETTERS" = some (.str LSs lt)) : FnOk P w K mg base CX0 5 (f 3) (fd 3) ["pattern", "text"] (spHM C) := by
  have GT := ok_isT (P := P) (w := w) (base := base) T7 gL
  have GB := ok_beg (P := P) (w := w) (base := base) (k := 0) TM TP
  have GG := ok_gon (P := P) (w := w) (base := base) TM T TP
  have GC := ok_can (P := P) (w := w) (base := base) (k := 0) TM T TP
  refine TM.hm.F.ok (k := 4) scHM (fun vs H Q E h => ?_) (fun cdv A outer s H vs Q E hr h => ?_)
  · obtain ⟨p, X, rfl, _⟩ := h
    rfl
  · obtain ⟨p, X, rfl, po, hX, hc, fin⟩ := h
    refine ⟨_, pss_cons (ps_if (pt_not (pt_val (pe_call GT (hr.mono (by decide)) (by rfl) T7.ist.g T7.ist.F.kp T7.ist.b .nil pass0 (pa_cons (pv 1) pa_nil)))) pss_never pss_nil)
      (pss_cons (ps_set (i := 2) scHM.nd rfl (.inl rfl) (pe_lst pa_nil))
      (pss_cons (ps_for PassesOwn.never rfl (pi_enumS (by rfl) TM.zenum (pa_cons (pv 1) pa_nil)) (pg_tup rfl (pgs_cons (pg_name (i := 3) scHM.nd rfl (.inl rfl)) (pgs_cons (pg_name (i := 4) scHM.nd rfl (.inl rfl)) pgs_nil)))
          (Evl.pss_cut (ps_set (i := 5) scHM.nd rfl (.inl rfl) (pe_ifExp (PW.pt (pw_or (pt_cmpR op_eq (pv 3) pe_int (nomark _)) (pw_or1 (pt_not (pt_val (pe_fld (pv 0) rfl))))))
                (pe_call GB (hr.mono (by decide)) (by rfl) TM.beg.g TM.beg.F.kp TM.beg.b .nil pass0 (pa_cons (pv 0) (pa_cons (pv 4) pa_nil))) (pe_lst pa_nil)))
          (pss_cons (ps_set (i := 2) scHM.nd rfl (.inl rfl) (pe_callTy (call_list_dK rfl) (by rfl) TM.zlist (by decide +kernel) (pa_cons (pe_dc (own := [("place", 6)]) (g := gName 6) (tt := tYes) (tk := tVar 6) (tv := tC (.bl true)) rfl scHM.nd
                (pi_list (pe_lst (StX.pa_star (pe_call GG (hr.mono (by decide)) (by rfl) TM.gon.g TM.gon.F.kp TM.gon.b .nil pass0 (pa_cons (pv 0) (pa_cons (pv 2) (pa_cons (pv 4) pa_nil)))) (StX.pa_star (pv 5) pa_nil))))
                (blkOk_by (N := NHM) (sc := defScope sHM) (by decide +kernel)) (fun _ _ _ _ _ => pg_name (i := 6) scHM.nd rfl (Or.inl rfl)) (fun _ _ _ _ _ => pts_nil) (fun _ _ _ _ _ => pv 6) (fun _ _ _ _ _ => pe_bl)) pa_nil)))
          (pss_one (ps_if (PW.pt (pw_and (pt_val (pe_call GC (hr.mono (by decide)) (by rfl) TM.can.g TM.can.F.kp TM.can.b .nil pass0 (pa_cons (pv 0) (pa_cons (pv 2) pa_nil)))) (pw_and1 (pt_not (pt_val (pe_fld (pv 0) rfl)))))) (pss_one (ps_ret pe_bl)) pss_nil)))))
      (pss_one (ps_ret (pe_call GC (hr.mono (by decide)) (by rfl) TM.can.g TM.can.F.kp TM.can.b .nil pass0 (pa_cons (pv 0) (pa_cons (pv 2) pa_nil))))))), ?_⟩
    have h8 := po.2.1
    refine ⟨_, rfl, X, rfl, hX, hc, fun H1 s1 => ⟨_, rfl, iteF ?_⟩⟩
    refine ⟨Nat.zero_le _, fun L0 nL0 => ?_⟩
    have sL0 := smU (o := HO.lst []) nL0
    refine ⟨_, rfl, tx X, rfl, ?_⟩
    refine for_it walk_enumS (fun i σ H2 => ∃ L ls S y3 y4 y5, σ = [some (.ref p.x), some (.str (tx X)), some (.ref L), y3, y4, y5, none] ∧ H2 L = some (.lst (nIs ls)) ∧ ls.Nodup ∧ (∀ m, m ∈ ls ↔ m ∈ S) ∧ (∀ m ∈ ls, m < sz p.t) ∧ (run1 p (X.take i)).2 = some S ∧ Same H H2)
      ⟨L0, [], [], none, none, none, rfl, upd_same, List.nodup_nil, fun _ => Iff.rfl, (fun _ h => nomatch h), rfl, s1.trans sL0⟩ (fun _ _ _ _ _ => True.intro) (fun i xi σ H3 H3' hi hP hy => ?_) (fun σ H3 hP => ?_)
    · obtain ⟨L, ls, S, y3, y4, y5, rfl, eL, nd, hm, hlt, hrun, s3⟩ := hP
      obtain ⟨T0, c, rfl, hT0, rfl, hcx⟩ := hy
      have hcx : X[i]? = some c := by
        have h2 : (tx X).cps.toList[i]? = some c := by
          rw [Array.getElem?_toList]
          exact hcx
        exact h2
      have u0 := smU (o := HO.tup [V.int (i : Nat), V.str ⟨#[c]⟩]) hT0
      have s4 := s3.trans u0
      have eL4 := u0 _ _ eL
      refine ⟨T0, _, rfl, .inl (.inl upd_same), rfl, _, _, rfl, _, _, rfl, rfl, ?_⟩
      generalize upd H3 T0 (.tup [V.int (i : Nat), V.str ⟨#[c]⟩]) = H4 at s4 eL4 ⊢
      clear u0 hT0
      have hll : ls.length ≤ 24 := Nat.le_trans (nd_len nd hlt) h8
      have hb : (run1 p (X.take i)).1 = decide (i = 0) := by
        rw [run1_fst]
        have hi2 : i < X.length := (List.getElem?_eq_some_iff.mp hcx).1
        refine decide_eq_decide.mpr ⟨fun z => ?_, fun z => by rw [z] <;> rfl⟩
        have := congrArg List.length z
        rw [List.length_take, List.length_nil] at this
        omega
      obtain ⟨po1, _, h60⟩ := id po
      obtain ⟨dx, tv, na, pl, fi, la, be, e1, _⟩ := id po1
      -- the fresh ones
      refine ⟨fun σ H5 => ∃ F, σ = [some (.ref p.x), some (.str (tx X)), some (.ref L), some (.int (i : Nat)), some (.str ⟨#[c]⟩), some (.ref F), none] ∧ H5 F = some (.lst (nIs (if (decide (i = 0) || !p.l) = true then here p c (fst p) else []))) ∧ Same H4 H5, ?_, fun σ H5 hM => ?_⟩
      · have beg : ∀ R : VK, (∀ F H5, Same H4 H5 → H5 F = some (.lst (nIs (here p c (fst p)))) → R (.ref F) H5) → (tCall (spBeg C) [] E0 (tCons (tVar 0) (tCons (tVar 4) tNil))) [some (.ref p.x), some (.str (tx X)), some (.ref L), some (.int (i : Nat)), some (.str ⟨#[c]⟩), y5, none] H4 R := fun R h =>
          ⟨_, rfl, _, rfl, p, c, rfl, po.ki (KI.same s4), fun F H5 _ s5 e5 => h F H5 s5 e5⟩
        refine ⟨_, rfl, rfl, _, rfl, ?_⟩
        by_cases h0 : i = 0
        · subst h0
          refine ite2 (fun _ => iteT (beg _ fun F H5 s5 e5 => ⟨F, rfl, e5, s5⟩)) (fun z => absurd (decide_eq_true rfl) z)
        · refine ite2 (fun z => ?_) (fun _ => ?_)
          · have z2 : V.int ((i : Nat) : Int) = V.int 0 := of_decide_eq_true z
            have z3 : ((i : Nat) : Int) = 0 := by injection z2
            omega
          refine ⟨_, rfl, p.x, C, dx, _, _, rfl, s4 _ _ e1, TP.cl, TP.n1, rfl, p.l, rfl, ?_⟩
          rw [decide_eq_false h0, Bool.false_or]
          cases hl : p.l with
          | false => exact iteT (beg _ fun F H5 s5 e5 => ⟨F, rfl, e5, s5⟩)
          | true => exact iteF ⟨Nat.zero_le _, fun F nF => ⟨F, rfl, upd_same, smU nF⟩⟩
      obtain ⟨F, rfl, eF, s5⟩ := hM
      have s45 := s4.trans s5
      have eL5 := s5 _ _ eL4
      have hfl : (if (decide (i = 0) || !p.l) = true then here p c (fst p) else []).length ≤ 24 := by
        split
        · exact Nat.le_trans (here_len _ _ _) (Nat.le_trans (asc_len _ _) h8)
        · exact Nat.zero_le _
      refine ⟨_, rfl, _, rfl, _, rfl, p, L, ls, c, rfl, po.ki (KI.same s45), eL5, hll, hlt, fun G H6 nG s6 eG => ?_⟩
      have eF6 := s6 _ _ eF
      refine ⟨G, _, rfl, .inr (.inl (.inl eG)), _, rfl, F, _, rfl, .inr (.inl (.inl eF6)), ?_, fun A nA => ?_⟩
      · have h1 : (here p c (insL [] (ls.flatMap (asIs p)))).length ≤ 24 := Nat.le_trans (here_len _ _ _) (Nat.le_trans (ins0_len (flat_lt (p := p) ls)) h8)
        show (nIs _ ++ (nIs _ ++ [])).length ≤ sizeLine
        rw [List.length_append, List.length_append, nIs_len, nIs_len]
        exact Nat.le_trans (show _ ≤ 60 by simp only [List.length_nil]; omega) (by decide)
      have eAll : nIs (here p c (insL [] (ls.flatMap (asIs p)))) ++ (nIs (if (decide (i = 0) || !p.l) = true then here p c (fst p) else []) ++ []) = nIs (here p c (insL [] (ls.flatMap (asIs p))) ++ (if (decide (i = 0) || !p.l) = true then here p c (fst p) else [])) := by
        rw [List.append_nil]
        unfold nIs
        rw [List.map_append]
      have hal : ∀ y ∈ here p c (insL [] (ls.flatMap (asIs p))) ++ (if (decide (i = 0) || !p.l) = true then here p c (fst p) else []), y < sz p.t := fun y hy => by
        rcases List.mem_append.mp hy with z | z
        · exact ins0_lt (flat_lt (p := p) ls) y (here_mem.mp z).1
        · split at z
          · exact fst_lt y (here_mem.mp z).1
          · cases z
      generalize hU : here p c (insL [] (ls.flatMap (asIs p))) ++ (if (decide (i = 0) || !p.l) = true then here p c (fst p) else []) = U at eAll hal
      have eU : some1 p c (decide (i = 0)) ls = insL [] U := by
        unfold some1
        rw [hU]
      refine ⟨A, rfl, ⟨_, .inl (.inl upd_same)⟩, fun D hD => ?_⟩
      have sA := smU (o := HO.lst (nIs (here p c (insL [] (ls.flatMap (asIs p)))) ++ (nIs (if (decide (i = 0) || !p.l) = true then here p c (fst p) else []) ++ []))) nA
      have eA : (upd H6 A (.lst (nIs (here p c (insL [] (ls.flatMap (asIs p)))) ++ (nIs (if (decide (i = 0) || !p.l) = true then here p c (fst p) else []) ++ [])))) A = some (.lst (nIs U)) := by rw [upd_same, eAll]
      generalize upd H6 A (.lst (nIs (here p c (insL [] (ls.flatMap (asIs p)))) ++ (nIs (if (decide (i = 0) || !p.l) = true then here p c (fst p) else []) ++ []))) = H7 at sA eA hD ⊢
      refine it_gen (walk_list (K := K) (a := A) (xs := nIs U)) (fun k H8 => H8 D = some (.dK (kD (insL [] (U.take k)))) ∧ Same H7 H8) ⟨upd_same, smU hD⟩ (fun k H8 _ hP => .inl (.inl (hP.2 _ _ eA))) (fun k y H8 H8' hk hP hy => ?_) (fun H8 hP => ?_)
      · obtain ⟨eD, s8⟩ := hP
        obtain ⟨rfl, hy⟩ := hy
        obtain ⟨m, hm2, rfl⟩ := nIs_at hy
        refine ⟨rfl, _, rfl, _, Sum.inl (m : Int), rfl, eD, ?_, ?_, lst_same hD s8⟩
        · rw [kD_len]
          have := ins0_len (n := sz p.t) (l := U.take k) fun j hj => hal j (List.mem_of_mem_take hj)
          exact Nat.lt_of_le_of_lt (show _ ≤ 24 by omega) (by decide)
        · rw [upd_same, put_kD, insL_take hm2]
      · obtain ⟨eD, s8⟩ := hP
        rw [nIs_len, List.take_length, ← eU] at eD
        refine ⟨D, _, rfl, eD, fun M2 nM2 => ?_⟩
        have eV : ((kD (some1 p c (decide (i = 0)) ls)).map fun kv => kV kv.1) = nIs (some1 p c (decide (i = 0)) ls) := by
          unfold kD nIs
          rw [List.map_map] <;> rfl
        rw [eV]
        have s9 := s45.trans (s6.trans (sA.trans (s8.trans (smU (o := HO.lst (nIs (some1 p c (decide (i = 0)) ls))) nM2))))
        have eM2 : (upd H8 M2 (.lst (nIs (some1 p c (decide (i = 0)) ls)))) M2 = some (.lst (nIs (some1 p c (decide (i = 0)) ls))) := upd_same
        generalize upd H8 M2 (.lst (nIs (some1 p c (decide (i = 0)) ls))) = H9 at s9 eM2 ⊢
        have sm := some1_mem (p := p) (c := c) (b := decide (i = 0)) hm
        have hnx : (run1 p (X.take (i + 1))).2 = nxt p c (decide (i = 0)) (some S) := by
          rw [take_at hcx, run1_snoc, hb, hrun]
        refine ⟨_, rfl, _, rfl, p, M2, some1 p c (decide (i = 0)) ls, rfl, po.ki (KI.same s9), eM2, Nat.le_trans (nd_len some1_nd some1_lt) h8, fun H10 s10 => ⟨_, rfl, ?_⟩⟩
        rw [hasLast_eq sm]
        have s11 := s9.trans s10
        have go : ((!p.r) && hasLast p (found p c (decide (i = 0)) S)) = false → ∃ L ls S y3 y4 y5, ([some (.ref p.x), some (.str (tx X)), some (.ref M2), some (.int (i : Nat)), some (.str ⟨#[c]⟩), some (.ref F), none] : L2.St) = [some (.ref p.x), some (.str (tx X)), some (.ref L), y3, y4, y5, none] ∧ H10 L = some (.lst (nIs ls)) ∧ ls.Nodup ∧ (∀ m, m ∈ ls ↔ m ∈ S) ∧ (∀ m ∈ ls, m < sz p.t) ∧ (run1 p (X.take (i + 1))).2 = some S ∧ Same H H10 := fun z =>
          ⟨M2, _, found p c (decide (i = 0)) S, _, _, _, rfl, s10 _ _ eM2, some1_nd, sm, some1_lt, by
            rw [hnx]
            show (if _ then _ else _) = _
            rw [z] <;> rfl, s11⟩
        cases hh : hasLast p (found p c (decide (i = 0)) S) with
        | false => exact iteF (go (by rw [hh, Bool.and_false]))
        | true =>
          refine iteT ⟨_, rfl, p.x, C, dx, _, _, rfl, s11 _ _ e1, TP.cl, TP.n3, rfl, p.r, rfl, ?_⟩
          cases hr2 : p.r with
          | true => exact iteF (go (by rw [hr2] <;> rfl))
          | false =>
            refine iteT ?_
            have hnone : (run1 p X).2 = none := by
              have h1 : (run1 p (X.take (i + 1))).2 = none := by
                rw [hnx]
                show (if _ then _ else _) = _
                rw [hr2, hh] <;> rfl
              have h2 := run1_none p (X.drop (i + 1)) _ h1
              rw [List.take_append_drop] at h2
              exact h2
            have h := fin H10 s11
            unfold hasM at h
            rw [hnone] at h
            exact h
    · obtain ⟨L, ls, S, y3, y4, y5, rfl, eL, nd, hm, hlt, hrun, s3⟩ := hP
      have hlen : (tx X).cps.size = X.length := tx_len X
      rw [hlen, List.take_length] at hrun
      refine ⟨_, rfl, _, rfl, p, L, ls, rfl, po.ki (KI.same s3), eL, Nat.le_trans (nd_len nd hlt) h8, fun H4 s4 => ?_⟩
      have h := fin H4 (s3.trans s4)
      unfold hasM at h
      rw [hrun] at h
      rw [hasLast_eq hm, last_run hrun]
      exact h
end
end Sq
/-! What a written-out expression reads: whether nothing, the first and last places, those behind each; and what the program's parts say of it. -/
namespace Sf4
/-- a written-out expression -/
inductive Nd where
  | spot (n : Nat)
  | row (l : List Nd)
  | way (l : List Nd)
  | may (x : Nd)
  | more (x : Nd)
@[ext] structure Se where
  n : Bool
  f : Nat → Prop
  l : Nat → Prop
  k : Nat → Nat → Prop
def seOne : Se := ⟨true, fun _ => False, fun _ => False, fun _ _ => False⟩
def seNone : Se := ⟨false, fun _ => False, fun _ => False, fun _ _ => False⟩
def seq (a b : Se) : Se := ⟨a.n && b.n, fun x => a.f x ∨ (a.n = true ∧ b.f x), fun x => b.l x ∨ (b.n = true ∧ a.l x), fun x y => a.k x y ∨ b.k x y ∨ (a.l x ∧ b.f y)⟩
def alt (a b : Se) : Se := ⟨a.n || b.n, fun x => a.f x ∨ b.f x, fun x => a.l x ∨ b.l x, fun x y => a.k x y ∨ b.k x y⟩
def opt (a : Se) : Se := { a with n := true }
def plus (a : Se) : Se := { a with k := fun x y => a.k x y ∨ (a.l x ∧ a.f y) }
theorem seq_one (a : Se) : seq a seOne = a := by
  ext <;> simp only [seq, seOne] <;> grind
theorem one_seq (a : Se) : seq seOne a = a := by
  ext <;> simp only [seq, seOne] <;> grind
theorem seq_assoc (a b c : Se) : seq (seq a b) c = seq a (seq b c) := by
  ext <;> simp only [seq] <;> grind
mutual
def sem : Nd → Se
  | .spot n => ⟨false, fun x => x = n, fun x => x = n, fun _ _ => False⟩
  | .row l => semR l
  | .way l => semW l
  | .may x => opt (sem x)
  | .more x => plus (sem x)
def semR : List Nd → Se
  | [] => seOne
  | x :: r => seq (sem x) (semR r)
def semW : List Nd → Se
  | [] => seNone
  | x :: r => alt (sem x) (semW r)
end
theorem semR_app : ∀ a b : List Nd, semR (a ++ b) = seq (semR a) (semR b)
  | [], b => by
    show semR b = seq seOne (semR b)
    rw [one_seq]
  | x :: r, b => by
    show seq (sem x) (semR (r ++ b)) = seq (seq (sem x) (semR r)) (semR b)
    rw [semR_app r b, seq_assoc]
theorem semR_one (x : Nd) : semR [x] = sem x := seq_one _
theorem semR_snoc (a : List Nd) (x : Nd) : semR (a ++ [x]) = seq (semR a) (sem x) := by rw [semR_app, semR_one]
/-! ### the law's writing out -/
mutual
/-- the copies' nodes, numbered from n on; the next number -/
def outN : Tr → Nat → Nd × Nat
  | .place _, n => (.spot n, n + 1)
  | .empty, n => (.row [], n)
  | .capture _ t, n => outN t n
  | .chain l, n => (.row (outL l n).1, (outL l n).2)
  | .choice l, n => (.way (outL l n).1, (outL l n).2)
  | .count a b t, n => (outC a b (outR (outN t) (many a b) n).1, (outR (outN t) (many a b) n).2)
def outL : List Tr → Nat → List Nd × Nat
  | [], n => ([], n)
  | t :: r, n => ((outN t n).1 :: (outL r (outN t n).2).1, (outL r (outN t n).2).2)
/-- so many copies -/
def outR (f : Nat → Nd × Nat) : Nat → Nat → List Nd × Nat
  | 0, n => ([], n)
  | m + 1, n => ((f n).1 :: (outR f m (f n).2).1, (outR f m (f n).2).2)
/-- the tail of a count: the copies from the last one, each with the tail so far -/
def outT : List Nd → Nd → Nd
  | [], tl => tl
  | c :: r, tl => outT r (.may (.row [c, tl]))
def outC (a : Nat) : Option Nat → List Nd → Nd
  | some m, cs => .row (cs.take a ++ [outT (cs.drop a).reverse (.row [])])
  | none, cs => .row (cs.dropLast ++ [if a > 0 then .more (cs.getLastD (.row [])) else .may (.more (cs.getLastD (.row [])))])
end
/-! ### what a part says -/
/-- the part is what the node reads -/
structure Pis (p : Pt) (s : Se) : Prop where
  e : p.1 = s.n
  f : ∀ b, b ∈ p.2.1 ↔ s.f b
  l : ∀ a, a ∈ p.2.2 ↔ s.l a
/-- the places behind, as a relation -/
def fol (fo : List (List Nat)) (a b : Nat) : Prop := b ∈ fo.getD a []
theorem pis_e0 : Pis e0 seOne := ⟨rfl, fun b => by simp [e0, seOne], fun b => by simp [e0, seOne]⟩
theorem Pis.join {p q : Pt} {s t : Se} (h : Pis p s) (k : Pis q t) : Pis (joinP p q) (seq s t) := by
  obtain ⟨h1, h2, h3⟩ := h
  obtain ⟨k1, k2, k3⟩ := k
  refine ⟨?_, fun b => ?_, fun b => ?_⟩
  · show (p.1 && q.1) = (s.n && t.n)
    rw [h1, k1]
  · show b ∈ (if p.1 then p.2.1 ++ q.2.1 else p.2.1) ↔ s.f b ∨ (s.n = true ∧ t.f b)
    rw [h1]
    cases s.n <;> simp [h2, k2]
  · show b ∈ (if q.1 then p.2.2 ++ q.2.2 else q.2.2) ↔ t.l b ∨ (t.n = true ∧ s.l b)
    rw [k1]
    cases t.n <;> simp [h3, k3] <;> grind
theorem Pis.opt {p : Pt} {s : Se} (h : Pis p s) : Pis (true, p.2) (opt s) := ⟨rfl, h.f, h.l⟩
theorem Pis.plus {p : Pt} {s : Se} (h : Pis p s) : Pis p (plus s) := ⟨h.e, h.f, h.l⟩
theorem fol_add (fo : List (List Nat)) (i : Nat) (la : List Nat) (a b : Nat) (hi : i < fo.length) : fol (addAt fo i la) a b ↔ fol fo a b ∨ (a = i ∧ b ∈ la) := by
  unfold fol
  rw [List.getD_eq_getElem?_getD, List.getD_eq_getElem?_getD, addAt_get]
  by_cases h : a = i
  · subst h
    rw [if_pos rfl, List.getElem?_eq_getElem hi]
    simp
  · rw [if_neg h]
    simp [h]
theorem fol_lnk (la : List Nat) (a b : Nat) : ∀ (ah : List Nat) (fo : List (List Nat)), (∀ i ∈ ah, i < fo.length) → (fol (lnk fo ah la) a b ↔ fol fo a b ∨ (a ∈ ah ∧ b ∈ la))
  | [], fo, _ => by simp [lnk]
  | i :: r, fo, h => by
    show fol (lnk (addAt fo i la) r la) a b ↔ _
    rw [fol_lnk la a b r (addAt fo i la) (fun j hj => by rw [addAt_len]; exact h j (List.mem_cons_of_mem _ hj)), fol_add _ _ _ _ _ (h i List.mem_cons_self)]
    simp only [List.mem_cons]
    grind
/-- what is told of one's part: it is what the node reads, and its links are put to those that were -/
structure Ptw (p : Pt) (w w' : Wp) (s : Se) : Prop where
  i : Pis p s
  k : ∀ a b, fol w'.fo a b ↔ fol w.fo a b ∨ s.k a b
  b : ∀ a ∈ p.2.2, a < w'.fo.length
  g : w.fo.length ≤ w'.fo.length
  q : w'.le.length = w'.fo.length
theorem joinP_last {p q : Pt} {n : Nat} (h : ∀ a ∈ p.2.2, a < n) (k : ∀ a ∈ q.2.2, a < n) : ∀ a ∈ (joinP p q).2.2, a < n := by
  intro a ha
  have ha : a ∈ (if q.1 then p.2.2 ++ q.2.2 else q.2.2) := ha
  split at ha
  · rcases List.mem_append.mp ha with z | z
    · exact h a z
    · exact k a z
  · exact k a ha
/-- the copies, one behind the other -/
inductive PtwL : List Pt → Wp → Wp → List Se → Prop
  | nil {w : Wp} : PtwL [] w w []
  | cons {p : Pt} {w w1 w2 : Wp} {s : Se} {ps : List Pt} {ss : List Se} : Ptw p w w1 s → PtwL ps w1 w2 ss → PtwL (p :: ps) w w2 (s :: ss)
theorem PtwL.g {ps : List Pt} {w w' : Wp} {ss : List Se} (h : PtwL ps w w' ss) : w.fo.length ≤ w'.fo.length := by
  induction h with
  | nil => exact Nat.le_refl _
  | cons a _ ih => exact Nat.le_trans a.g ih
theorem PtwL.q {ps : List Pt} {w w' : Wp} {ss : List Se} (h : PtwL ps w w' ss) (z : w.le.length = w.fo.length) : w'.le.length = w'.fo.length := by
  induction h with
  | nil => exact z
  | cons a _ ih => exact ih a.q
theorem PtwL.k {ps : List Pt} {w w' : Wp} {ss : List Se} (h : PtwL ps w w' ss) (a b : Nat) : fol w'.fo a b ↔ fol w.fo a b ∨ ∃ s ∈ ss, s.k a b := by
  induction h with
  | nil => simp
  | cons x _ ih =>
    rw [ih, x.k]
    simp only [List.mem_cons]
    grind
/-- each copy, with the places that there are -/
inductive PisL (n : Nat) : List Pt → List Se → Prop
  | nil : PisL n [] []
  | cons {p : Pt} {s : Se} {ps : List Pt} {ss : List Se} : Pis p s → (∀ a ∈ p.2.2, a < n) → PisL n ps ss → PisL n (p :: ps) (s :: ss)
theorem PtwL.pis {n : Nat} : ∀ {ps : List Pt} {w w' : Wp} {ss : List Se}, PtwL ps w w' ss → w'.fo.length ≤ n → PisL n ps ss
  | _, _, _, _, .nil, _ => .nil
  | _, _, _, _, .cons a r, h => .cons a.i (fun x hx => Nat.lt_of_lt_of_le (a.b x hx) (Nat.le_trans r.g h)) (r.pis h)
theorem PisL.snoc {n : Nat} {p : Pt} {s : Se} : ∀ {ps : List Pt} {ss : List Se}, PisL n ps ss → Pis p s → (∀ a ∈ p.2.2, a < n) → PisL n (ps ++ [p]) (ss ++ [s])
  | _, _, .nil, h, k => .cons h k .nil
  | _, _, .cons a b r, h, k => .cons a b (r.snoc h k)
theorem PisL.rev {n : Nat} : ∀ {ps : List Pt} {ss : List Se}, PisL n ps ss → PisL n ps.reverse ss.reverse
  | _, _, .nil => .nil
  | _, _, .cons a b r => by
    rw [List.reverse_cons, List.reverse_cons]
    exact r.rev.snoc a b
theorem PisL.len {n : Nat} : ∀ {ps : List Pt} {ss : List Se}, PisL n ps ss → ps.length = ss.length
  | _, _, .nil => rfl
  | _, _, .cons _ _ r => by rw [List.length_cons, List.length_cons, r.len]
/-- the reading of a count from the last copy -/
def finS (least : Nat) : List Se → Se → Se
  | [], tl => tl
  | c :: r, tl => finS least r (if r.length + 1 > least then opt (seq c tl) else seq c tl)
/-- the links that come by it -/
def crsS (least : Nat) : List Se → Se → Nat → Nat → Prop
  | [], tl => fun _ _ => False
  | c :: r, tl => fun a b => (c.l a ∧ tl.f b) ∨ crsS least r (if r.length + 1 > least then opt (seq c tl) else seq c tl) a b
theorem fin_is {n least : Nat} : ∀ (rc : List Pt) (tl : Pt) (fo : List (List Nat)) (ss : List Se) (s : Se), PisL n rc ss → Pis tl s → (∀ a ∈ tl.2.2, a < n) → fo.length = n →
    Pis (fin least rc tl fo).1 (finS least ss s) ∧ (∀ a b, fol (fin least rc tl fo).2 a b ↔ fol fo a b ∨ crsS least ss s a b) ∧ (∀ a ∈ (fin least rc tl fo).1.2.2, a < n) ∧ (fin least rc tl fo).2.length = n
  | [], tl, fo, _, s, .nil, ht, hb, hn => ⟨ht, fun a b => by simp [fin, crsS], hb, hn⟩
  | c :: r, tl, fo, _, s, .cons (s := sc) (ss := ss) hc hcb hr, ht, hb, hn => by
    have e := hr.len
    have hj : Pis (if r.length + 1 > least then (true, (joinP c tl).2) else joinP c tl) (if ss.length + 1 > least then opt (seq sc s) else seq sc s) := by
      rw [← e]
      split
      · exact (hc.join ht).opt
      · exact hc.join ht
    have hjb : ∀ a ∈ (if r.length + 1 > least then (true, (joinP c tl).2) else joinP c tl).2.2, a < n := by
      intro a ha
      split at ha
      · exact joinP_last hcb hb a ha
      · exact joinP_last hcb hb a ha
    obtain ⟨q1, q2, q3, q4⟩ := fin_is (n := n) (least := least) r _ (lnk fo c.2.2 tl.2.1) ss _ hr hj hjb ((lnk_len _ _ _).trans hn)
    refine ⟨q1, fun a b => ?_, q3, q4⟩
    show fol (fin least r _ (lnk fo c.2.2 tl.2.1)).2 a b ↔ _
    rw [q2, fol_lnk _ _ _ _ _ (fun i hi => hn ▸ hcb i hi), ht.f, hc.l, or_assoc]
    rfl
theorem finS_k (least : Nat) : ∀ (ss : List Se) (s : Se) (a b : Nat), (finS least ss s).k a b ↔ s.k a b ∨ (∃ c ∈ ss, c.k a b) ∨ crsS least ss s a b
  | [], s, a, b => by simp [finS, crsS]
  | c :: r, s, a, b => by
    show (finS least r _).k a b ↔ s.k a b ∨ (∃ d ∈ c :: r, d.k a b) ∨ ((c.l a ∧ s.f b) ∨ crsS least r _ a b)
    rw [finS_k least r]
    have e : (if r.length + 1 > least then opt (seq c s) else seq c s).k a b ↔ c.k a b ∨ s.k a b ∨ (c.l a ∧ s.f b) := by split <;> rfl
    rw [e]
    simp only [List.mem_cons]
    grind
end Sf4
/-! The program's written-out expression and the law's read the same. -/
namespace Sf4
def rowS : List Se → Se
  | [] => seOne
  | x :: r => seq x (rowS r)
theorem rowS_app : ∀ a b : List Se, rowS (a ++ b) = seq (rowS a) (rowS b)
  | [], b => (one_seq _).symm
  | x :: r, b => by
    show seq x (rowS (r ++ b)) = seq (seq x (rowS r)) (rowS b)
    rw [rowS_app r b, seq_assoc]
theorem rowS_one (x : Se) : rowS [x] = x := seq_one x
theorem semR_map : ∀ l : List Nd, semR l = rowS (l.map sem)
  | [] => rfl
  | x :: r => by
    show seq (sem x) (semR r) = seq (sem x) (rowS (r.map sem))
    rw [semR_map r]
def tailS : List Se → Se → Se
  | [], s => s
  | c :: r, s => tailS r (opt (seq c s))
theorem outT_sem : ∀ (l : List Nd) (tl : Nd), sem (outT l tl) = tailS (l.map sem) (sem tl)
  | [], tl => rfl
  | c :: r, tl => by
    show sem (outT r (.may (.row [c, tl]))) = tailS (r.map sem) (opt (seq (sem c) (sem tl)))
    rw [outT_sem r]
    congr 1
    show opt (seq (sem c) (seq (sem tl) seOne)) = _
    rw [seq_one]
theorem finS_low (least : Nat) : ∀ (xs : List Se) (s : Se), xs.length ≤ least → finS least xs s = seq (rowS xs.reverse) s
  | [], s, _ => (one_seq s).symm
  | c :: r, s, h => by
    have h : r.length + 1 ≤ least := h
    show finS least r (if r.length + 1 > least then opt (seq c s) else seq c s) = _
    rw [if_neg (by omega), finS_low least r _ (by omega), List.reverse_cons, rowS_app, rowS_one, seq_assoc]
theorem finS_high (least : Nat) (ys : List Se) (hy : ys.length = least) : ∀ (xs : List Se) (s : Se), finS least (xs ++ ys) s = finS least ys (tailS xs s)
  | [], s => rfl
  | c :: r, s => by
    show finS least (r ++ ys) (if (r ++ ys).length + 1 > least then opt (seq c s) else seq c s) = _
    rw [if_pos (by rw [List.length_append]; omega), finS_high least ys hy r] <;> rfl
theorem outC_some {a m : Nat} {cs : List Nd} (hm : cs.length = m) (ha : a ≤ m) : sem (outC a (some m) cs) = finS a (cs.map sem).reverse seOne := by
  have e1 : cs.map sem = (cs.take a).map sem ++ (cs.drop a).map sem := by rw [← List.map_append, List.take_append_drop]
  have hl : ((cs.take a).map sem).reverse.length = a := by
    rw [List.length_reverse, List.length_map, List.length_take]
    omega
  rw [e1, List.reverse_append, finS_high a _ hl, finS_low a _ _ (Nat.le_of_eq hl), List.reverse_reverse]
  show semR (cs.take a ++ [outT (cs.drop a).reverse (.row [])]) = _
  rw [semR_snoc, semR_map, outT_sem, List.map_reverse] <;> rfl
theorem rep_pos {f : Wp → Pt × Wp} {g : Nat → Nd × Nat} (h : ∀ w n, w.le.length = n → w.fo.length = n → Ptw (f w).1 w (f w).2 (sem (g n).1) ∧ (f w).2.le.length = (g n).2) : ∀ (m : Nat) (w : Wp) (n : Nat), w.le.length = n → w.fo.length = n →
    PtwL (rep f m w).1 w (rep f m w).2 ((outR g m n).1.map sem) ∧ (rep f m w).2.le.length = (outR g m n).2 ∧ (rep f m w).2.fo.length = (outR g m n).2
  | 0, w, n, h1, h2 => ⟨.nil, h1, h2⟩
  | m + 1, w, n, h1, h2 => by
    obtain ⟨a, b⟩ := h w n h1 h2
    obtain ⟨c, d, e⟩ := rep_pos h m (f w).2 (g n).2 b (a.q.symm.trans b)
    exact ⟨.cons a c, d, e⟩
theorem outR_len (g : Nat → Nd × Nat) : ∀ (m n : Nat), (outR g m n).1.length = m
  | 0, _ => rfl
  | m + 1, n => by
    show (outR g m (g n).2).1.length + 1 = _
    rw [outR_len g m]
theorem cntd_pos {a : Nat} {b : Option Nat} (hb : ∀ c, b = some c → a ≤ c) {ps : List Pt} {w w' : Wp} {cs : List Nd} (h : PtwL ps w w' (cs.map sem)) (hl : cs.length = many a b) (hq : w'.le.length = w'.fo.length) :
    Ptw (cntd a b (ps, w')).1 w (cntd a b (ps, w')).2 (sem (outC a b cs)) ∧ (cntd a b (ps, w')).2.le.length = w'.le.length := by
  have hp := (h.pis (Nat.le_refl _)).rev
  have hk := h.k
  cases b with
  | some m =>
    have hl : cs.length = m := hl
    obtain ⟨q1, q2, q3, q4⟩ := fin_is (n := w'.fo.length) (least := a) ps.reverse e0 w'.fo _ seOne hp pis_e0 (fun _ z => nomatch z) rfl
    refine ⟨⟨?_, fun x y => ?_, fun x hx => ?_, ?_, ?_⟩, rfl⟩
    · rw [outC_some hl (hb m rfl)]
      exact q1
    · rw [outC_some hl (hb m rfl), finS_k]
      show fol (fin a ps.reverse e0 w'.fo).2 x y ↔ _
      rw [q2, hk]
      simp only [List.mem_reverse, seOne]
      grind
    · show x < (fin a ps.reverse e0 w'.fo).2.length
      rw [q4]
      exact q3 x hx
    · show w.fo.length ≤ (fin a ps.reverse e0 w'.fo).2.length
      rw [q4]
      exact h.g
    · show w'.le.length = (fin a ps.reverse e0 w'.fo).2.length
      rw [q4, hq]
  | none =>
    have hl1 : 1 ≤ cs.length := by
      rw [hl]
      show 1 ≤ max a 1
      omega
    have ne : cs ≠ [] := fun z => by
      rw [z] at hl1
      exact absurd hl1 (by decide)
    obtain ⟨rs, x, rfl⟩ : ∃ rs x, cs = rs ++ [x] := ⟨cs.dropLast, cs.getLast ne, (List.dropLast_concat_getLast ne).symm⟩
    have es : sem (outC a none (rs ++ [x])) = seq (rowS (rs.map sem)) (if a > 0 then plus (sem x) else opt (plus (sem x))) := by
      show semR ((rs ++ [x]).dropLast ++ [if a > 0 then .more ((rs ++ [x]).getLastD (.row [])) else .may (.more ((rs ++ [x]).getLastD (.row [])))]) = _
      rw [List.dropLast_concat, List.getLastD_concat, semR_snoc, semR_map]
      congr 1
      split <;> rfl
    rw [es]
    rw [List.map_append, List.reverse_append] at hp
    have hp : PisL w'.fo.length ps.reverse (sem x :: (rs.map sem).reverse) := hp
    generalize hpr : ps.reverse = pr at hp
    obtain ⟨c, r, rfl⟩ : ∃ c r, pr = c :: r := by
      cases hp with
      | cons => exact ⟨_, _, rfl⟩
    obtain ⟨hc, hcb, hr⟩ : Pis c (sem x) ∧ (∀ i ∈ c.2.2, i < w'.fo.length) ∧ PisL w'.fo.length r (rs.map sem).reverse := by
      cases hp with
      | cons a b d => exact ⟨a, b, d⟩
    have hrl := hr.len
    have et : cntd a none (ps, w') = ((fin r.length r (if a > 0 then c else (true, c.2)) (lnk w'.fo c.2.2 c.2.1)).1, ⟨w'.le, (fin r.length r (if a > 0 then c else (true, c.2)) (lnk w'.fo c.2.2 c.2.1)).2⟩) := by
      show (match ps.reverse with | [] => _ | c :: r => _ : Pt × Wp) = _
      rw [hpr]
    rw [et]
    have ht : Pis (if a > 0 then c else (true, c.2)) (if a > 0 then plus (sem x) else opt (plus (sem x))) := by
      split
      · exact hc.plus
      · exact hc.plus.opt
    have htb : ∀ i ∈ (if a > 0 then c else (true, c.2)).2.2, i < w'.fo.length := by
      split
      · exact hcb
      · exact hcb
    obtain ⟨q1, q2, q3, q4⟩ := fin_is (n := w'.fo.length) (least := r.length) r _ (lnk w'.fo c.2.2 c.2.1) _ _ hr ht htb (lnk_len _ _ _)
    have ef := finS_low r.length (rs.map sem).reverse (if a > 0 then plus (sem x) else opt (plus (sem x))) (Nat.le_of_eq hrl.symm)
    rw [List.reverse_reverse] at ef
    have ek := finS_k r.length (rs.map sem).reverse (if a > 0 then plus (sem x) else opt (plus (sem x)))
    rw [ef] at q1 ek
    refine ⟨⟨q1, fun u v => ?_, fun u hu => ?_, ?_, ?_⟩, rfl⟩
    · show fol (fin r.length r _ (lnk w'.fo c.2.2 c.2.1)).2 u v ↔ _
      rw [q2, fol_lnk _ _ _ _ _ hcb, hk, ek, hc.f, hc.l]
      have e1 : (if a > 0 then plus (sem x) else opt (plus (sem x))).k u v ↔ (sem x).k u v ∨ ((sem x).l u ∧ (sem x).f v) := by split <;> rfl
      rw [e1]
      simp only [List.mem_reverse, List.map_append, List.mem_append, List.map_cons, List.map_nil, List.mem_singleton]
      grind
    · show u < (fin r.length r _ (lnk w'.fo c.2.2 c.2.1)).2.length
      rw [q4]
      exact q3 u hu
    · show w.fo.length ≤ (fin r.length r _ (lnk w'.fo c.2.2 c.2.1)).2.length
      rw [q4]
      exact h.g
    · show w'.le.length = (fin r.length r _ (lnk w'.fo c.2.2 c.2.1)).2.length
      rw [q4, hq]
def altS : List Se → Se
  | [] => seNone
  | x :: r => alt x (altS r)
theorem semW_map : ∀ l : List Nd, semW l = altS (l.map sem)
  | [] => rfl
  | x :: r => by
    show alt (sem x) (semW r) = alt (sem x) (altS (r.map sem))
    rw [semW_map r]
theorem altS_k : ∀ (ss : List Se) (a b : Nat), (altS ss).k a b ↔ ∃ s ∈ ss, s.k a b
  | [], a, b => by simp [altS, seNone]
  | x :: r, a, b => by
    show x.k a b ∨ (altS r).k a b ↔ _
    rw [altS_k r]
    simp
theorem PisL.any {n : Nat} : ∀ {ps : List Pt} {ss : List Se}, PisL n ps ss → Pis (ps.any (·.1), ps.flatMap (·.2.1), ps.flatMap (·.2.2)) (altS ss) ∧ ∀ a ∈ ps.flatMap (·.2.2), a < n
  | _, _, .nil => ⟨⟨rfl, fun b => by simp [altS, seNone], fun b => by simp [altS, seNone]⟩, fun _ z => nomatch z⟩
  | _, _, .cons (p := p) (s := s) (ps := ps) (ss := ss) h k r => by
    obtain ⟨⟨a1, a2, a3⟩, a4⟩ := r.any
    have a1 : ps.any (·.1) = (altS ss).n := a1
    have a2 : ∀ b, b ∈ ps.flatMap (·.2.1) ↔ (altS ss).f b := a2
    have a3 : ∀ b, b ∈ ps.flatMap (·.2.2) ↔ (altS ss).l b := a3
    refine ⟨⟨?_, fun b => ?_, fun b => ?_⟩, fun a ha => ?_⟩
    · show (p.1 || ps.any (·.1)) = (s.n || (altS ss).n)
      rw [a1, h.e]
    · show b ∈ (p :: ps).flatMap (·.2.1) ↔ s.f b ∨ (altS ss).f b
      rw [List.flatMap_cons, List.mem_append, h.f, a2]
    · show b ∈ (p :: ps).flatMap (·.2.2) ↔ s.l b ∨ (altS ss).l b
      rw [List.flatMap_cons, List.mem_append, h.l, a3]
    · rw [List.flatMap_cons] at ha
      rcases List.mem_append.mp ha with z | z
      · exact k a z
      · exact a4 a z
mutual
theorem pO_pos : ∀ (t : Tr) (w : Wp) (n : Nat), wf t → w.le.length = n → w.fo.length = n → Ptw (pO t w).1 w (pO t w).2 (sem (outN t n).1) ∧ (pO t w).2.le.length = (outN t n).2
  | .place s, w, n, _, h1, h2 => by
    refine ⟨⟨⟨rfl, fun b => ?_, fun b => ?_⟩, fun a b => ?_, fun a ha => ?_, ?_, ?_⟩, ?_⟩
    · show b ∈ [w.le.length] ↔ b = n
      rw [h1, List.mem_singleton]
    · show b ∈ [w.le.length] ↔ b = n
      rw [h1, List.mem_singleton]
    · show b ∈ (w.fo ++ [[]]).getD a [] ↔ b ∈ w.fo.getD a [] ∨ False
      rw [or_false, List.getD_eq_getElem?_getD, List.getD_eq_getElem?_getD, List.getElem?_append]
      split
      · exact Iff.rfl
      · rename_i h
        rw [List.getElem?_eq_none_iff.mpr (by omega : w.fo.length ≤ a)]
        cases a - w.fo.length <;> simp
    · have ha : a ∈ [w.le.length] := ha
      show a < (w.fo ++ [[]]).length
      rw [List.length_append, List.length_singleton]
      have := List.mem_singleton.mp ha
      omega
    · show w.fo.length ≤ (w.fo ++ [[]]).length
      rw [List.length_append]
      omega
    · show (w.le ++ [s]).length = (w.fo ++ [[]]).length
      rw [List.length_append, List.length_append, h1, h2] <;> rfl
    · show (w.le ++ [s]).length = n + 1
      rw [List.length_append, h1] <;> rfl
  | .empty, w, n, _, h1, h2 => ⟨⟨pis_e0, fun a b => (Iff.of_eq (or_false _)).symm, (fun _ z => nomatch z), Nat.le_refl _, h1.trans h2.symm⟩, h1⟩
  | .capture _ t, w, n, h, h1, h2 => pO_pos t w n h.2.2.2 h1 h2
  | .chain l, w, n, h, h1, h2 => by
    obtain ⟨a, b⟩ := pCh_pos l e0 seOne w w n h.2 h1 h2 ⟨pis_e0, fun a b => (Iff.of_eq (or_false _)).symm, (fun _ z => nomatch z), Nat.le_refl _, h1.trans h2.symm⟩
    rw [one_seq] at a
    exact ⟨a, b⟩
  | .choice l, w, n, h, h1, h2 => by
    obtain ⟨a, b, c⟩ := pL_pos l w n h.2 h1 h2
    obtain ⟨d, e⟩ := (a.pis (Nat.le_refl _)).any
    refine ⟨⟨?_, fun x y => ?_, e, a.g, b.trans c.symm⟩, b⟩
    · show Pis _ (semW (outL l n).1)
      rw [semW_map]
      exact d
    · show _ ↔ _ ∨ (semW (outL l n).1).k x y
      rw [semW_map, altS_k]
      exact a.k x y
  | .count a b t, w, n, h, h1, h2 => by
    obtain ⟨p, q, r⟩ := rep_pos (f := pO t) (g := outN t) (fun w n => pO_pos t w n h.2.2) (many a b) w n h1 h2
    obtain ⟨u, v⟩ := cntd_pos (a := a) (b := b) (fun c hc => (h.2.1 c hc).1) p (outR_len _ _ _) (q.trans r.symm)
    exact ⟨u, v.trans q⟩
theorem pCh_pos : ∀ (l : List Tr) (p : Pt) (s : Se) (w0 w : Wp) (n : Nat), wfL l → w.le.length = n → w.fo.length = n → Ptw p w0 w s → Ptw (pCh l p w).1 w0 (pCh l p w).2 (seq s (semR (outL l n).1)) ∧ (pCh l p w).2.le.length = (outL l n).2
  | [], p, s, w0, w, n, _, h1, h2, h => by
    refine ⟨?_, h1⟩
    show Ptw p w0 w (seq s seOne)
    rw [seq_one]
    exact h
  | t :: r, p, s, w0, w, n, hw, h1, h2, h => by
    obtain ⟨a, b⟩ := pO_pos t w n hw.1 h1 h2
    have hb : ∀ i ∈ p.2.2, i < (pO t w).2.fo.length := fun i hi => Nat.lt_of_lt_of_le (h.b i hi) a.g
    have hn : Ptw (joinP p (pO t w).1) w0 ⟨(pO t w).2.le, lnk (pO t w).2.fo p.2.2 (pO t w).1.2.1⟩ (seq s (sem (outN t n).1)) := by
      refine ⟨h.i.join a.i, fun x y => ?_, fun i hi => ?_, ?_, ?_⟩
      · show fol (lnk (pO t w).2.fo p.2.2 (pO t w).1.2.1) x y ↔ fol w0.fo x y ∨ (s.k x y ∨ (sem (outN t n).1).k x y ∨ (s.l x ∧ (sem (outN t n).1).f y))
        rw [fol_lnk _ _ _ _ _ hb, a.k, h.k, h.i.l, a.i.f]
        grind
      · show i < (lnk (pO t w).2.fo p.2.2 (pO t w).1.2.1).length
        rw [lnk_len]
        exact joinP_last hb a.b i hi
      · show w0.fo.length ≤ (lnk (pO t w).2.fo p.2.2 (pO t w).1.2.1).length
        rw [lnk_len]
        exact Nat.le_trans h.g a.g
      · show (pO t w).2.le.length = (lnk (pO t w).2.fo p.2.2 (pO t w).1.2.1).length
        rw [lnk_len]
        exact a.q
    obtain ⟨c, d⟩ := pCh_pos r _ _ w0 ⟨(pO t w).2.le, lnk (pO t w).2.fo p.2.2 (pO t w).1.2.1⟩ (outN t n).2 hw.2 b ((lnk_len _ _ _).trans (a.q.symm.trans b)) hn
    rw [seq_assoc] at c
    exact ⟨c, d⟩
theorem pL_pos : ∀ (l : List Tr) (w : Wp) (n : Nat), wfL l → w.le.length = n → w.fo.length = n → PtwL (pL l w).1 w (pL l w).2 ((outL l n).1.map sem) ∧ (pL l w).2.le.length = (outL l n).2 ∧ (pL l w).2.fo.length = (outL l n).2
  | [], w, n, _, h1, h2 => ⟨.nil, h1, h2⟩
  | t :: r, w, n, h, h1, h2 => by
    obtain ⟨a, b⟩ := pO_pos t w n h.1 h1 h2
    obtain ⟨c, d, e⟩ := pL_pos r (pO t w).2 (outN t n).2 h.2 b (a.q.symm.trans b)
    exact ⟨.cons a c, d, e⟩
end
end Sf4
/-! The words of what is read by places, each one linked to the next. -/
namespace Gl
open Sf4
/-- from a on, by the links, to a last place -/
def run (s : Se) : Nat → List Nat → Prop
  | a, [] => s.l a
  | a, b :: r => s.k a b ∧ run s b r
/-- a row of places that is read whole -/
def pth (s : Se) : List Nat → Prop
  | [] => s.n = true
  | a :: r => s.f a ∧ run s a r
/-- all its places lie from lo up to hi -/
structure Inn (s : Se) (lo hi : Nat) : Prop where
  f : ∀ a, s.f a → lo ≤ a ∧ a < hi
  l : ∀ a, s.l a → lo ≤ a ∧ a < hi
  k : ∀ a b, s.k a b → (lo ≤ a ∧ a < hi) ∧ lo ≤ b ∧ b < hi
theorem Inn.wide {s : Se} {lo hi lo' hi' : Nat} (h : Inn s lo hi) (h1 : lo' ≤ lo) (h2 : hi ≤ hi') : Inn s lo' hi' :=
  ⟨fun a z => by have := h.f a z; omega, fun a z => by have := h.l a z; omega, fun a b z => by have := h.k a b z; omega⟩
theorem Inn.seq {s t : Se} {lo m hi : Nat} (h : Inn s lo m) (k : Inn t m hi) (h1 : lo ≤ m) (h2 : m ≤ hi) : Inn (seq s t) lo hi := by
  refine ⟨?_, ?_, ?_⟩
  · rintro a (z | ⟨_, z⟩)
    · have := h.f a z; omega
    · have := k.f a z; omega
  · rintro a (z | ⟨_, z⟩)
    · have := k.l a z; omega
    · have := h.l a z; omega
  · rintro a b (z | z | ⟨z1, z2⟩)
    · have := h.k a b z; omega
    · have := k.k a b z; omega
    · have := h.l a z1
      have := k.f b z2
      omega
theorem Inn.alt {s t : Se} {lo hi : Nat} (h : Inn s lo hi) (k : Inn t lo hi) : Inn (alt s t) lo hi :=
  ⟨fun a z => z.elim (h.f a) (k.f a), fun a z => z.elim (h.l a) (k.l a), fun a b z => z.elim (h.k a b) (k.k a b)⟩
theorem Inn.opt {s : Se} {lo hi : Nat} (h : Inn s lo hi) : Inn (opt s) lo hi := ⟨h.f, h.l, h.k⟩
theorem Inn.plus {s : Se} {lo hi : Nat} (h : Inn s lo hi) : Inn (plus s) lo hi := ⟨h.f, h.l, by
  rintro a b (z | ⟨z1, z2⟩)
  · exact h.k a b z
  · exact ⟨h.l a z1, h.f b z2⟩⟩
theorem inn_one (lo hi : Nat) : Inn seOne lo hi := ⟨fun _ z => z.elim, fun _ z => z.elim, fun _ _ z => z.elim⟩
theorem inn_none (lo hi : Nat) : Inn seNone lo hi := ⟨fun _ z => z.elim, fun _ z => z.elim, fun _ _ z => z.elim⟩
section
variable {s t : Se} {lo m hi : Nat}
/-- the later part is not left -/
theorem run_hi (h : Inn s lo m) (k : Inn t m hi) : ∀ (r : List Nat) (y : Nat), m ≤ y → (run (seq s t) y r ↔ run t y r)
  | [], y, hy => by
    show (t.l y ∨ (t.n = true ∧ s.l y)) ↔ t.l y
    constructor
    · rintro (z | ⟨_, z⟩)
      · exact z
      · have := h.l y z
        omega
    · exact .inl
  | b :: r, y, hy => by
    show ((s.k y b ∨ t.k y b ∨ (s.l y ∧ t.f b)) ∧ run (seq s t) b r) ↔ t.k y b ∧ run t b r
    constructor
    · rintro ⟨z | z | ⟨z, _⟩, q⟩
      · have := h.k y b z
        omega
      · exact ⟨z, (run_hi h k r b (k.k y b z).2.1).mp q⟩
      · have := h.l y z
        omega
    · rintro ⟨z, q⟩
      exact ⟨.inr (.inl z), (run_hi h k r b (k.k y b z).2.1).mpr q⟩
theorem run_lo (h : Inn s lo m) (k : Inn t m hi) : ∀ (r : List Nat) (x : Nat), x < m → (run (seq s t) x r ↔ ∃ u v, r = u ++ v ∧ run s x u ∧ pth t v)
  | [], x, hx => by
    show (t.l x ∨ (t.n = true ∧ s.l x)) ↔ _
    constructor
    · rintro (z | ⟨z1, z2⟩)
      · have := k.l x z
        omega
      · exact ⟨[], [], rfl, z2, z1⟩
    · rintro ⟨u, v, e, q1, q2⟩
      obtain ⟨rfl, rfl⟩ := List.append_eq_nil_iff.mp e.symm
      exact .inr ⟨q2, q1⟩
  | b :: r, x, hx => by
    show ((s.k x b ∨ t.k x b ∨ (s.l x ∧ t.f b)) ∧ run (seq s t) b r) ↔ _
    constructor
    · rintro ⟨z | z | ⟨z1, z2⟩, q⟩
      · obtain ⟨u, v, e, q1, q2⟩ := (run_lo h k r b (h.k x b z).2.2).mp q
        exact ⟨b :: u, v, by rw [e] <;> rfl, ⟨z, q1⟩, q2⟩
      · have := k.k x b z
        omega
      · exact ⟨[], b :: r, rfl, z1, z2, (run_hi h k r b (k.f b z2).1).mp q⟩
    · rintro ⟨u, v, e, q1, q2⟩
      cases u with
      | nil =>
        obtain rfl : b :: r = v := e
        exact ⟨.inr (.inr ⟨q1, q2.1⟩), (run_hi h k r b (k.f b q2.1).1).mpr q2.2⟩
      | cons c u =>
        obtain ⟨rfl, rfl⟩ := List.cons.inj e
        exact ⟨.inl q1.1, (run_lo h k _ b (h.k x b q1.1).2.2).mpr ⟨u, v, rfl, q1.2, q2⟩⟩
theorem pth_seq (h : Inn s lo m) (k : Inn t m hi) (w : List Nat) : pth (seq s t) w ↔ ∃ u v, w = u ++ v ∧ pth s u ∧ pth t v := by
  cases w with
  | nil =>
    show ((s.n && t.n) = true) ↔ _
    rw [Bool.and_eq_true]
    constructor
    · rintro ⟨a, b⟩
      exact ⟨[], [], rfl, a, b⟩
    · rintro ⟨u, v, e, q1, q2⟩
      obtain ⟨rfl, rfl⟩ := List.append_eq_nil_iff.mp e.symm
      exact ⟨q1, q2⟩
  | cons x r =>
    show ((s.f x ∨ (s.n = true ∧ t.f x)) ∧ run (seq s t) x r) ↔ _
    constructor
    · rintro ⟨z | ⟨z1, z2⟩, q⟩
      · obtain ⟨u, v, e, q1, q2⟩ := (run_lo h k r x (h.f x z).2).mp q
        exact ⟨x :: u, v, by rw [e] <;> rfl, ⟨z, q1⟩, q2⟩
      · exact ⟨[], x :: r, rfl, z1, z2, (run_hi h k r x (k.f x z2).1).mp q⟩
    · rintro ⟨u, v, e, q1, q2⟩
      cases u with
      | nil =>
        obtain rfl : x :: r = v := e
        exact ⟨.inr ⟨q1, q2.1⟩, (run_hi h k r x (k.f x q2.1).1).mpr q2.2⟩
      | cons c u =>
        obtain ⟨rfl, rfl⟩ := List.cons.inj e
        exact ⟨.inl q1.1, (run_lo h k _ x (h.f x q1.1).2).mpr ⟨u, v, rfl, q1.2, q2⟩⟩
theorem run_alt1 (h : Inn s lo m) (k : Inn t m hi) : ∀ (r : List Nat) (x : Nat), x < m → (run (alt s t) x r ↔ run s x r)
  | [], x, hx => by
    show (s.l x ∨ t.l x) ↔ s.l x
    constructor
    · rintro (z | z)
      · exact z
      · have := k.l x z
        omega
    · exact .inl
  | b :: r, x, hx => by
    show ((s.k x b ∨ t.k x b) ∧ run (alt s t) b r) ↔ s.k x b ∧ run s b r
    constructor
    · rintro ⟨z | z, q⟩
      · exact ⟨z, (run_alt1 h k r b (h.k x b z).2.2).mp q⟩
      · have := k.k x b z
        omega
    · rintro ⟨z, q⟩
      exact ⟨.inl z, (run_alt1 h k r b (h.k x b z).2.2).mpr q⟩
theorem run_alt2 (h : Inn s lo m) (k : Inn t m hi) : ∀ (r : List Nat) (x : Nat), m ≤ x → (run (alt s t) x r ↔ run t x r)
  | [], x, hx => by
    show (s.l x ∨ t.l x) ↔ t.l x
    constructor
    · rintro (z | z)
      · have := h.l x z
        omega
      · exact z
    · exact .inr
  | b :: r, x, hx => by
    show ((s.k x b ∨ t.k x b) ∧ run (alt s t) b r) ↔ t.k x b ∧ run t b r
    constructor
    · rintro ⟨z | z, q⟩
      · have := h.k x b z
        omega
      · exact ⟨z, (run_alt2 h k r b (k.k x b z).2.1).mp q⟩
    · rintro ⟨z, q⟩
      exact ⟨.inr z, (run_alt2 h k r b (k.k x b z).2.1).mpr q⟩
theorem pth_alt (h : Inn s lo m) (k : Inn t m hi) (w : List Nat) : pth (alt s t) w ↔ pth s w ∨ pth t w := by
  cases w with
  | nil =>
    show ((s.n || t.n) = true) ↔ _
    rw [Bool.or_eq_true]
    exact Iff.rfl
  | cons x r =>
    show ((s.f x ∨ t.f x) ∧ run (alt s t) x r) ↔ (s.f x ∧ run s x r) ∨ (t.f x ∧ run t x r)
    constructor
    · rintro ⟨z | z, q⟩
      · exact .inl ⟨z, (run_alt1 h k r x (h.f x z).2).mp q⟩
      · exact .inr ⟨z, (run_alt2 h k r x (k.f x z).1).mp q⟩
    · rintro (⟨z, q⟩ | ⟨z, q⟩)
      · exact ⟨.inl z, (run_alt1 h k r x (h.f x z).2).mpr q⟩
      · exact ⟨.inr z, (run_alt2 h k r x (k.f x z).1).mpr q⟩
theorem run_opt : ∀ (r : List Nat) (x : Nat), run (opt s) x r ↔ run s x r
  | [], x => Iff.rfl
  | b :: r, x => by
    show (s.k x b ∧ run (opt s) b r) ↔ (s.k x b ∧ run s b r)
    rw [run_opt r b]
theorem pth_opt (w : List Nat) : pth (opt s) w ↔ w = [] ∨ pth s w := by
  cases w with
  | nil => exact ⟨fun _ => .inl rfl, fun _ => rfl⟩
  | cons x r =>
    show (s.f x ∧ run (opt s) x r) ↔ _
    rw [run_opt]
    exact ⟨.inr, fun z => z.elim (fun e => nomatch e) id⟩
theorem run_plus : ∀ (r : List Nat) (x : Nat), run (plus s) x r → ∃ u vs, r = u ++ List.flatten vs ∧ run s x u ∧ ∀ v ∈ vs, pth s v
  | [], x, h => ⟨[], [], rfl, h, fun _ z => nomatch z⟩
  | b :: r, x, h => by
    obtain ⟨z, q⟩ := h
    obtain ⟨u, vs, e, q1, q2⟩ := run_plus r b q
    rcases z with z | ⟨z1, z2⟩
    · exact ⟨b :: u, vs, by rw [e] <;> rfl, ⟨z, q1⟩, q2⟩
    · refine ⟨[], (b :: u) :: vs, by rw [e] <;> rfl, z1, fun v hv => ?_⟩
      rcases List.mem_cons.mp hv with rfl | hv
      · exact ⟨z2, q1⟩
      · exact q2 v hv
theorem plus_app : ∀ (u : List Nat) (x y : Nat) (r : List Nat), run s x u → s.f y → run (plus s) y r → run (plus s) x (u ++ y :: r)
  | [], x, y, r, h, hy, q => ⟨.inr ⟨h, hy⟩, q⟩
  | b :: u, x, y, r, h, hy, q => ⟨.inl h.1, plus_app u b y r h.2 hy q⟩
theorem run_sub : ∀ (u : List Nat) (x : Nat), run s x u → run (plus s) x u
  | [], x, h => h
  | b :: u, x, h => ⟨.inl h.1, run_sub u b h.2⟩
theorem pth_sub {w : List Nat} (h : pth s w) : pth (plus s) w := by
  cases w with
  | nil => exact h
  | cons x r => exact ⟨h.1, run_sub r x h.2⟩
theorem pth_plus_app {u v : List Nat} (h : pth s u) (k : pth (plus s) v) : pth (plus s) (u ++ v) := by
  cases u with
  | nil => exact k
  | cons x u =>
    cases v with
    | nil =>
      rw [List.append_nil]
      exact pth_sub h
    | cons y r => exact ⟨h.1, plus_app u x y r h.2 k.1 k.2⟩
theorem pth_plus (w : List Nat) : pth (plus s) w ↔ ∃ u vs, w = u ++ List.flatten vs ∧ pth s u ∧ ∀ v ∈ vs, pth s v := by
  constructor
  · intro h
    cases w with
    | nil => exact ⟨[], [], rfl, h, fun _ z => nomatch z⟩
    | cons x r =>
      obtain ⟨u, vs, e, q1, q2⟩ := run_plus r x h.2
      exact ⟨x :: u, vs, by rw [e] <;> rfl, ⟨h.1, q1⟩, q2⟩
  · rintro ⟨u, vs, rfl, h, hv⟩
    induction vs generalizing u with
    | nil =>
      rw [List.flatten_nil, List.append_nil]
      exact pth_sub h
    | cons v r ih =>
      rw [List.flatten_cons]
      exact pth_plus_app h (ih v (hv v List.mem_cons_self) fun z hz => hv z (List.mem_cons_of_mem _ hz))
end
/-! ### words -/
/-- each place reads its letter -/
def mat (sg : Nat → List Nat) : List Nat → List Nat → Prop
  | [], [] => True
  | p :: w, c :: u => c ∈ sg p ∧ mat sg w u
  | _, _ => False
theorem mat_len {sg : Nat → List Nat} : ∀ {w u : List Nat}, mat sg w u → w.length = u.length
  | [], [], _ => rfl
  | _ :: _, _ :: _, h => congrArg (· + 1) (mat_len h.2)
theorem mat_app {sg : Nat → List Nat} : ∀ {w1 u1 w2 u2 : List Nat}, mat sg w1 u1 → mat sg w2 u2 → mat sg (w1 ++ w2) (u1 ++ u2)
  | [], [], _, _, _, k => k
  | _ :: _, _ :: _, _, _, h, k => ⟨h.1, mat_app h.2 k⟩
theorem mat_cut {sg : Nat → List Nat} : ∀ {w1 w2 u : List Nat}, mat sg (w1 ++ w2) u → ∃ u1 u2, u = u1 ++ u2 ∧ mat sg w1 u1 ∧ mat sg w2 u2
  | [], _, u, h => ⟨[], u, rfl, True.intro, h⟩
  | _ :: _, _, [], h => h.elim
  | _ :: _, _, c :: u, h => by
    obtain ⟨u1, u2, e, q1, q2⟩ := mat_cut h.2
    exact ⟨c :: u1, u2, by rw [e] <;> rfl, ⟨h.1, q1⟩, q2⟩
def LS (sg : Nat → List Nat) (s : Se) (u : List Nat) : Prop := ∃ w, pth s w ∧ mat sg w u
/-- so many words of a language, one behind the other -/
def pow (L : List Nat → Prop) : Nat → List Nat → Prop
  | 0, u => u = []
  | k + 1, u => ∃ u1 u2, u = u1 ++ u2 ∧ L u1 ∧ pow L k u2
section
variable {sg : Nat → List Nat} {s t : Se} {lo m hi : Nat}
theorem ls_seq (h : Inn s lo m) (k : Inn t m hi) (u : List Nat) : LS sg (seq s t) u ↔ ∃ u1 u2, u = u1 ++ u2 ∧ LS sg s u1 ∧ LS sg t u2 := by
  constructor
  · rintro ⟨w, p, q⟩
    obtain ⟨a, b, rfl, p1, p2⟩ := (pth_seq h k w).mp p
    obtain ⟨u1, u2, rfl, q1, q2⟩ := mat_cut q
    exact ⟨u1, u2, rfl, ⟨a, p1, q1⟩, b, p2, q2⟩
  · rintro ⟨u1, u2, rfl, ⟨a, p1, q1⟩, b, p2, q2⟩
    exact ⟨a ++ b, (pth_seq h k _).mpr ⟨a, b, rfl, p1, p2⟩, mat_app q1 q2⟩
theorem ls_alt (h : Inn s lo m) (k : Inn t m hi) (u : List Nat) : LS sg (alt s t) u ↔ LS sg s u ∨ LS sg t u := by
  constructor
  · rintro ⟨w, p, q⟩
    exact ((pth_alt h k w).mp p).imp (fun z => ⟨w, z, q⟩) fun z => ⟨w, z, q⟩
  · rintro (⟨w, p, q⟩ | ⟨w, p, q⟩)
    · exact ⟨w, (pth_alt h k w).mpr (.inl p), q⟩
    · exact ⟨w, (pth_alt h k w).mpr (.inr p), q⟩
theorem mat_nil {u : List Nat} (h : mat sg [] u) : u = [] := by
  cases u with
  | nil => rfl
  | cons _ _ => exact h.elim
theorem ls_opt (u : List Nat) : LS sg (opt s) u ↔ u = [] ∨ LS sg s u := by
  constructor
  · rintro ⟨w, p, q⟩
    rcases (pth_opt w).mp p with rfl | z
    · exact .inl (mat_nil q)
    · exact .inr ⟨w, z, q⟩
  · rintro (rfl | ⟨w, p, q⟩)
    · exact ⟨[], rfl, True.intro⟩
    · exact ⟨w, (pth_opt w).mpr (.inr p), q⟩
theorem ls_one (u : List Nat) : LS sg seOne u ↔ u = [] := by
  constructor
  · rintro ⟨w, p, q⟩
    cases w with
    | nil => exact mat_nil q
    | cons x r => exact p.1.elim
  · rintro rfl
    exact ⟨[], rfl, True.intro⟩
theorem ls_none (u : List Nat) : ¬ LS sg seNone u := by
  rintro ⟨w, p, q⟩
  cases w with
  | nil => cases p
  | cons x r => exact p.1.elim
theorem ls_flat : ∀ {vs : List (List Nat)} {u : List Nat}, (∀ v ∈ vs, pth s v) → mat sg vs.flatten u → pow (LS sg s) vs.length u
  | [], u, _, q => mat_nil q
  | v :: vs, u, h, q => by
    rw [List.flatten_cons] at q
    obtain ⟨u1, u2, rfl, q1, q2⟩ := mat_cut q
    exact ⟨u1, u2, rfl, ⟨v, h v List.mem_cons_self, q1⟩, ls_flat (fun z hz => h z (List.mem_cons_of_mem _ hz)) q2⟩
theorem flat_ls : ∀ {k : Nat} {u : List Nat}, pow (LS sg s) k u → ∃ vs : List (List Nat), (∀ v ∈ vs, pth s v) ∧ mat sg vs.flatten u
  | 0, _, h => by
    obtain rfl := h
    exact ⟨[], (fun _ z => nomatch z), True.intro⟩
  | k + 1, _, h => by
    obtain ⟨u1, u2, rfl, ⟨v, p, q⟩, r⟩ := h
    obtain ⟨vs, h1, h2⟩ := flat_ls r
    refine ⟨v :: vs, fun z hz => ?_, ?_⟩
    · rcases List.mem_cons.mp hz with rfl | hz
      · exact p
      · exact h1 z hz
    · rw [List.flatten_cons]
      exact mat_app q h2
theorem ls_plus (u : List Nat) : LS sg (plus s) u ↔ ∃ k, 1 ≤ k ∧ pow (LS sg s) k u := by
  constructor
  · rintro ⟨w, p, q⟩
    obtain ⟨a, vs, rfl, h1, h2⟩ := (pth_plus w).mp p
    obtain ⟨u1, u2, rfl, q1, q2⟩ := mat_cut q
    exact ⟨vs.length + 1, Nat.succ_le_succ (Nat.zero_le _), u1, u2, rfl, ⟨a, h1, q1⟩, ls_flat h2 q2⟩
  · rintro ⟨k, h1, h⟩
    cases k with
    | zero => cases h1
    | succ k =>
      obtain ⟨u1, u2, rfl, ⟨v, p, q⟩, r⟩ := h
      obtain ⟨vs, g1, g2⟩ := flat_ls r
      exact ⟨v ++ vs.flatten, (pth_plus _).mpr ⟨v, vs, rfl, p, g1⟩, mat_app q g2⟩
end
theorem pow_congr {L M : List Nat → Prop} (h : ∀ u, L u ↔ M u) : ∀ (k : Nat) (u : List Nat), pow L k u ↔ pow M k u
  | 0, u => Iff.rfl
  | k + 1, u => by
    show (∃ u1 u2, u = u1 ++ u2 ∧ L u1 ∧ pow L k u2) ↔ (∃ u1 u2, u = u1 ++ u2 ∧ M u1 ∧ pow M k u2)
    constructor
    · rintro ⟨a, b, e, x, y⟩
      exact ⟨a, b, e, (h a).mp x, (pow_congr h k b).mp y⟩
    · rintro ⟨a, b, e, x, y⟩
      exact ⟨a, b, e, (h a).mpr x, (pow_congr h k b).mpr y⟩
theorem pow_add {L : List Nat → Prop} : ∀ (j k : Nat) (u : List Nat), pow L (j + k) u ↔ ∃ u1 u2, u = u1 ++ u2 ∧ pow L j u1 ∧ pow L k u2
  | 0, k, u => by
    rw [Nat.zero_add]
    constructor
    · intro h
      exact ⟨[], u, rfl, rfl, h⟩
    · rintro ⟨a, b, rfl, h1, h⟩
      obtain rfl := h1
      exact h
  | j + 1, k, u => by
    rw [Nat.succ_add]
    show (∃ u1 u2, u = u1 ++ u2 ∧ L u1 ∧ pow L (j + k) u2) ↔ _
    constructor
    · rintro ⟨a, b, rfl, x, y⟩
      obtain ⟨c, d, rfl, y1, y2⟩ := (pow_add j k b).mp y
      exact ⟨a ++ c, d, (List.append_assoc _ _ _).symm, ⟨a, c, rfl, x, y1⟩, y2⟩
    · rintro ⟨a, b, rfl, ⟨c, d, rfl, x, y⟩, z⟩
      exact ⟨c, d ++ b, List.append_assoc _ _ _, x, (pow_add j k _).mpr ⟨d, b, rfl, y, z⟩⟩
end Gl
/-! The words of a tree are those that its places read. -/
namespace Gl
open Sf4
mutual
/-- the words of an expression -/
def Lt : Tr → List Nat → Prop
  | .place s, u => ∃ c, c ∈ s ∧ u = [c]
  | .empty, u => u = []
  | .capture _ t, u => Lt t u
  | .chain l, u => LtC l u
  | .choice l, u => LtA l u
  | .count a b t, u => ∃ k, a ≤ k ∧ (∀ c, b = some c → k ≤ c) ∧ pow (Lt t) k u
def LtC : List Tr → List Nat → Prop
  | [], u => u = []
  | t :: r, u => ∃ u1 u2, u = u1 ++ u2 ∧ Lt t u1 ∧ LtC r u2
def LtA : List Tr → List Nat → Prop
  | [], _ => False
  | t :: r, u => Lt t u ∨ LtA r u
end
/-- parts, one range behind the other -/
inductive Rgs : List Se → Nat → Nat → Prop
  | nil {n : Nat} : Rgs [] n n
  | cons {s : Se} {ss : List Se} {lo m hi : Nat} : Inn s lo m → lo ≤ m → Rgs ss m hi → Rgs (s :: ss) lo hi
theorem Rgs.le {ss : List Se} {lo hi : Nat} (h : Rgs ss lo hi) : lo ≤ hi := by
  induction h with
  | nil => exact Nat.le_refl _
  | cons _ a _ ih => exact Nat.le_trans a ih
theorem Rgs.row {ss : List Se} {lo hi : Nat} (h : Rgs ss lo hi) : Inn (rowS ss) lo hi := by
  induction h with
  | nil => exact inn_one _ _
  | cons a b r ih => exact a.seq ih b r.le
theorem Rgs.alt {ss : List Se} {lo hi : Nat} (h : Rgs ss lo hi) : Inn (altS ss) lo hi := by
  induction h with
  | nil => exact inn_none _ _
  | cons a b r ih => exact (a.wide (Nat.le_refl _) r.le).alt (ih.wide b (Nat.le_refl _))
theorem Rgs.app {ss ts : List Se} {lo m hi : Nat} (h : Rgs ss lo m) (k : Rgs ts m hi) : Rgs (ss ++ ts) lo hi := by
  induction h with
  | nil => exact k
  | cons a b _ ih => exact .cons a b (ih k)
theorem Rgs.cut {ss ts : List Se} {lo hi : Nat} (h : Rgs (ss ++ ts) lo hi) : ∃ m, Rgs ss lo m ∧ Rgs ts m hi := by
  induction ss generalizing lo with
  | nil => exact ⟨lo, .nil, h⟩
  | cons s r ih =>
    cases h with
    | cons a b c =>
      obtain ⟨m, h1, h2⟩ := ih c
      exact ⟨m, .cons a b h1, h2⟩
/-- each part has the words L -/
def Alike (sg : Nat → List Nat) (L : List Nat → Prop) (ss : List Se) : Prop := ∀ s ∈ ss, ∀ u, LS sg s u ↔ L u
section
variable {sg : Nat → List Nat} {L : List Nat → Prop}
theorem ls_row {ss : List Se} {lo hi : Nat} (h : Rgs ss lo hi) (a : Alike sg L ss) : ∀ u, LS sg (rowS ss) u ↔ pow L ss.length u := by
  induction h with
  | nil => exact fun u => ls_one u
  | cons x y r ih =>
    intro u
    show LS sg (seq _ _) u ↔ ∃ u1 u2, _
    rw [ls_seq x r.row]
    have ih := ih fun s hs => a s (List.mem_cons_of_mem _ hs)
    constructor
    · rintro ⟨u1, u2, e, q1, q2⟩
      exact ⟨u1, u2, e, (a _ List.mem_cons_self u1).mp q1, (ih u2).mp q2⟩
    · rintro ⟨u1, u2, e, q1, q2⟩
      exact ⟨u1, u2, e, (a _ List.mem_cons_self u1).mpr q1, (ih u2).mpr q2⟩
/-- optional tails: as many as there are, or fewer -/
theorem ls_tail : ∀ (cs : List Se) (s : Se) (j lo m hi : Nat), Rgs cs.reverse lo m → Inn s m hi → m ≤ hi → Alike sg L cs → (∀ u, LS sg s u ↔ ∃ k, k ≤ j ∧ pow L k u) →
    Inn (tailS cs s) lo hi ∧ ∀ u, LS sg (tailS cs s) u ↔ ∃ k, k ≤ j + cs.length ∧ pow L k u
  | [], s, j, lo, m, hi, h, hs, _, _, e => by
    cases h
    exact ⟨hs, e⟩
  | c :: r, s, j, lo, m, hi, h, hs, hm, a, e => by
    rw [List.reverse_cons] at h
    obtain ⟨m1, h1, h2⟩ := h.cut
    cases h2 with
    | cons x y z =>
      cases z
      have q := ls_tail r (opt (seq c s)) (j + 1) lo m1 hi h1 (x.seq hs y hm).opt (Nat.le_trans y hm) (fun t ht => a t (List.mem_cons_of_mem _ ht)) (fun u => ?_)
      · refine ⟨q.1, fun u => ?_⟩
        rw [List.length_cons, show j + (r.length + 1) = j + 1 + r.length by omega]
        exact q.2 u
      · rw [ls_opt, ls_seq x hs]
        constructor
        · rintro (rfl | ⟨u1, u2, rfl, q1, q2⟩)
          · exact ⟨0, Nat.zero_le _, rfl⟩
          · obtain ⟨k, hk, p⟩ := (e u2).mp q2
            exact ⟨k + 1, by omega, u1, u2, rfl, (a c List.mem_cons_self u1).mp q1, p⟩
        · rintro ⟨k, hk, p⟩
          cases k with
          | zero => exact .inl p
          | succ k =>
            obtain ⟨u1, u2, rfl, p1, p2⟩ := p
            exact .inr ⟨u1, u2, rfl, (a c List.mem_cons_self u1).mpr p1, (e u2).mpr ⟨k, by omega, p2⟩⟩
theorem map_drop_rev (cs : List Nd) (a : Nat) : ((cs.drop a).reverse.map sem).reverse = (cs.map sem).drop a := by
  rw [List.map_reverse, List.reverse_reverse, List.map_drop]
/-- a count's copies -/
theorem ls_cnt {a : Nat} {b : Option Nat} {cs : List Nd} {lo hi : Nat} (hb : ∀ c, b = some c → a ≤ c) (hl : cs.length = many a b) (h : Rgs (cs.map sem) lo hi) (al : Alike sg L (cs.map sem)) :
    Inn (sem (outC a b cs)) lo hi ∧ ∀ u, LS sg (sem (outC a b cs)) u ↔ ∃ k, a ≤ k ∧ (∀ c, b = some c → k ≤ c) ∧ pow L k u := by
  cases b with
  | some m =>
    have ham : a ≤ m := hb m rfl
    have hl : cs.length = m := hl
    have e : sem (outC a (some m) cs) = seq (rowS ((cs.map sem).take a)) (tailS ((cs.map sem).drop a).reverse seOne) := by
      show semR (cs.take a ++ [outT (cs.drop a).reverse (.row [])]) = _
      rw [semR_snoc, semR_map, outT_sem, List.map_take, List.map_reverse, List.map_drop] <;> rfl
    have h' : Rgs ((cs.map sem).take a ++ (cs.map sem).drop a) lo hi := by
      rw [List.take_append_drop]
      exact h
    obtain ⟨m1, h1, h2⟩ := h'.cut
    have at1 : Alike sg L ((cs.map sem).take a) := fun s hs => al s (List.mem_of_mem_take hs)
    have q1 := ls_row h1 at1
    have q2 := ls_tail (sg := sg) (L := L) ((cs.map sem).drop a).reverse seOne 0 m1 hi hi (by rw [List.reverse_reverse]; exact h2) (inn_one _ _) (Nat.le_refl _) (fun s hs => al s (List.mem_of_mem_drop (List.mem_reverse.mp hs))) (fun u => by
      rw [ls_one]
      constructor
      · rintro rfl
        exact ⟨0, Nat.le_refl _, rfl⟩
      · rintro ⟨k, hk, p⟩
        obtain rfl : k = 0 := by omega
        exact p)
    have l1 : ((cs.map sem).take a).length = a := by
      rw [List.length_take, List.length_map]
      omega
    have l2 : ((cs.map sem).drop a).reverse.length = m - a := by
      rw [List.length_reverse, List.length_drop, List.length_map, hl]
    rw [l1] at q1
    rw [l2, Nat.zero_add] at q2
    rw [e]
    refine ⟨h1.row.seq q2.1 h1.le h2.le, fun u => ?_⟩
    rw [ls_seq h1.row q2.1]
    constructor
    · rintro ⟨u1, u2, rfl, p1, p2⟩
      obtain ⟨k, hk, p2⟩ := (q2.2 u2).mp p2
      exact ⟨a + k, by omega, fun c hc => by cases hc; omega, (pow_add a k _).mpr ⟨u1, u2, rfl, (q1 u1).mp p1, p2⟩⟩
    · rintro ⟨k, hk, hc, p⟩
      have := hc m rfl
      obtain ⟨j, rfl⟩ : ∃ j, k = a + j := ⟨k - a, by omega⟩
      obtain ⟨u1, u2, rfl, p1, p2⟩ := (pow_add a j u).mp p
      exact ⟨u1, u2, rfl, (q1 u1).mpr p1, (q2.2 u2).mpr ⟨j, by omega, p2⟩⟩
  | none =>
    have hl : cs.length = max a 1 := hl
    have hne : cs ≠ [] := fun z => by
      rw [z, List.length_nil] at hl
      omega
    obtain ⟨ds, d, rfl⟩ : ∃ ds d, cs = ds ++ [d] := ⟨cs.dropLast, cs.getLast hne, (List.dropLast_concat_getLast hne).symm⟩
    rw [List.length_append, List.length_singleton] at hl
    have e : sem (outC a none (ds ++ [d])) = seq (rowS (ds.map sem)) (if a > 0 then plus (sem d) else opt (plus (sem d))) := by
      show semR ((ds ++ [d]).dropLast ++ [if a > 0 then .more ((ds ++ [d]).getLastD (.row [])) else .may (.more ((ds ++ [d]).getLastD (.row [])))]) = _
      have g : (ds ++ [d]).getLastD (.row []) = d := by simp
      rw [List.dropLast_concat, g, semR_snoc, semR_map]
      split <;> rfl
    rw [List.map_append] at h al
    obtain ⟨m1, h1, h2⟩ := h.cut
    have hd : Inn (sem d) m1 hi ∧ m1 ≤ hi := by
      cases h2 with
      | cons x y z =>
        cases z
        exact ⟨x, y⟩
    have q1 := ls_row h1 (fun s hs => al s (List.mem_append.mpr (.inl hs)))
    rw [List.length_map] at q1
    have ad : ∀ u, LS sg (sem d) u ↔ L u := al (sem d) (List.mem_append.mpr (.inr (List.mem_singleton.mpr rfl)))
    have q2 : ∀ u, LS sg (plus (sem d)) u ↔ ∃ k, 1 ≤ k ∧ pow L k u := fun u => by
      rw [ls_plus]
      constructor
      · rintro ⟨k, h1, h2⟩
        exact ⟨k, h1, (pow_congr ad k u).mp h2⟩
      · rintro ⟨k, h1, h2⟩
        exact ⟨k, h1, (pow_congr ad k u).mpr h2⟩
    rw [e]
    have hin : Inn (if a > 0 then plus (sem d) else opt (plus (sem d))) m1 hi := by
      split
      · exact hd.1.plus
      · exact hd.1.plus.opt
    refine ⟨h1.row.seq hin h1.le hd.2, fun u => ?_⟩
    rw [ls_seq h1.row hin]
    by_cases h0 : a > 0
    · rw [if_pos h0]
      constructor
      · rintro ⟨u1, u2, rfl, p1, p2⟩
        obtain ⟨k, hk, p2⟩ := (q2 u2).mp p2
        exact ⟨ds.length + k, by omega, (fun c hc => nomatch hc), (pow_add _ k _).mpr ⟨u1, u2, rfl, (q1 u1).mp p1, p2⟩⟩
      · rintro ⟨k, hk, hc, p⟩
        obtain ⟨j, rfl⟩ : ∃ j, k = ds.length + j := ⟨k - ds.length, by omega⟩
        obtain ⟨u1, u2, rfl, p1, p2⟩ := (pow_add _ j u).mp p
        exact ⟨u1, u2, rfl, (q1 u1).mpr p1, (q2 u2).mpr ⟨j, by omega, p2⟩⟩
    · rw [if_neg h0]
      have hd0 : ds.length = 0 := by omega
      rw [hd0] at q1
      constructor
      · rintro ⟨u1, u2, rfl, p1, p2⟩
        obtain rfl : u1 = [] := (q1 u1).mp p1
        rcases (ls_opt u2).mp p2 with rfl | p2
        · exact ⟨0, by omega, (fun c hc => nomatch hc), rfl⟩
        · obtain ⟨k, hk, p2⟩ := (q2 u2).mp p2
          exact ⟨k, by omega, (fun c hc => nomatch hc), p2⟩
      · rintro ⟨k, hk, hc, p⟩
        refine ⟨[], u, rfl, (q1 []).mpr rfl, (ls_opt u).mpr ?_⟩
        cases k with
        | zero => exact .inl p
        | succ k => exact .inr ((q2 u).mpr ⟨k + 1, Nat.succ_le_succ (Nat.zero_le _), p⟩)
end
/-- the letters of the places from n on -/
def Bd (sg : Nat → List Nat) (n : Nat) (l : List (List Nat)) : Prop := ∀ i, i < l.length → sg (n + i) = l.getD i []
theorem Bd.left {sg : Nat → List Nat} {n : Nat} {l m : List (List Nat)} (h : Bd sg n (l ++ m)) : Bd sg n l := fun i hi => by
  rw [h i (by rw [List.length_append]; omega), List.getD_eq_getElem?_getD, List.getD_eq_getElem?_getD, List.getElem?_append_left hi]
theorem Bd.right {sg : Nat → List Nat} {n : Nat} {l m : List (List Nat)} (h : Bd sg n (l ++ m)) : Bd sg (n + l.length) m := fun i hi => by
  rw [Nat.add_assoc, h (l.length + i) (by rw [List.length_append]; omega), List.getD_eq_getElem?_getD, List.getD_eq_getElem?_getD, List.getElem?_append_right (by omega), Nat.add_sub_cancel_left]
theorem outR_rgs {sg : Nat → List Nat} {L : List Nat → Prop} {g : Nat → Nd × Nat} {ps : List (List Nat)} {z : Nat} (hz : ps.length = z) (h : ∀ n, Bd sg n ps → Inn (sem (g n).1) n (n + z) ∧ (g n).2 = n + z ∧ ∀ u, LS sg (sem (g n).1) u ↔ L u) : ∀ (m n : Nat), Bd sg n (List.replicate m ps).flatten →
    Rgs ((outR g m n).1.map sem) n (n + m * z) ∧ (outR g m n).2 = n + m * z ∧ Alike sg L ((outR g m n).1.map sem)
  | 0, n, _ => by
    rw [Nat.zero_mul]
    exact ⟨.nil, rfl, (fun _ y => nomatch y)⟩
  | m + 1, n, hb => by
    rw [List.replicate_succ, List.flatten_cons] at hb
    obtain ⟨a1, a2, a3⟩ := h n hb.left
    have hb2 := hb.right
    rw [hz] at hb2
    obtain ⟨b1, b2, b3⟩ := outR_rgs hz h m (n + z) hb2
    have e : n + (m + 1) * z = n + z + m * z := by rw [Nat.succ_mul]; omega
    rw [e]
    refine ⟨?_, ?_, ?_⟩
    · show Rgs (sem (g n).1 :: (outR g m (g n).2).1.map sem) _ _
      rw [a2]
      exact .cons a1 (by omega) b1
    · show (outR g m (g n).2).2 = _
      rw [a2]
      exact b2
    · intro s hs
      have hs : s ∈ sem (g n).1 :: (outR g m (g n).2).1.map sem := hs
      rw [a2] at hs
      rcases List.mem_cons.mp hs with rfl | hs
      · exact a3
      · exact b3 s hs
theorem flat_len (ps : List (List Nat)) : ∀ m, (List.replicate m ps).flatten.length = m * ps.length
  | 0 => by simp
  | m + 1 => by
    rw [List.replicate_succ, List.flatten_cons, List.length_append, flat_len ps m, Nat.succ_mul]
    omega
mutual
theorem spts_len : ∀ t : Tr, (spts t).length = sz t
  | .place _ => rfl
  | .empty => rfl
  | .capture _ t => spts_len t
  | .chain l => sptsL_len l
  | .choice l => sptsL_len l
  | .count a b t => by
    show (List.replicate (many a b) (spts t)).flatten.length = many a b * sz t
    rw [flat_len, spts_len t]
theorem sptsL_len : ∀ l : List Tr, (sptsL l).length = szL l
  | [] => rfl
  | t :: r => by
    show (spts t ++ sptsL r).length = sz t + szL r
    rw [List.length_append, spts_len t, sptsL_len r]
end
mutual
theorem glu {sg : Nat → List Nat} : ∀ (t : Tr) (n : Nat), wf t → Bd sg n (spts t) → Inn (sem (outN t n).1) n (n + sz t) ∧ (outN t n).2 = n + sz t ∧ ∀ u, LS sg (sem (outN t n).1) u ↔ Lt t u
  | .place s, n, _, hb => by
    have h0 : sg n = s := hb 0 (Nat.zero_lt_succ 0)
    refine ⟨⟨fun a z => ?_, fun a z => ?_, fun _ _ z => z.elim⟩, rfl, fun u => ?_⟩
    · obtain rfl : a = n := z
      exact ⟨Nat.le_refl _, Nat.lt_succ_self _⟩
    · obtain rfl : a = n := z
      exact ⟨Nat.le_refl _, Nat.lt_succ_self _⟩
    · constructor
      · rintro ⟨w, p, q⟩
        match w, u, p, q with
        | [x], [c], p, q =>
          obtain rfl : x = n := p.1
          exact ⟨c, h0 ▸ q.1, rfl⟩
        | x :: y :: r, _, p, _ => exact p.2.1.elim
        | [x], _ :: _ :: _, _, q => exact q.2.elim
      · rintro ⟨c, hc, rfl⟩
        exact ⟨[n], ⟨rfl, rfl⟩, h0.symm ▸ hc, True.intro⟩
  | .empty, n, _, _ => ⟨inn_one _ _, rfl, fun u => ls_one u⟩
  | .capture _ t, n, h, hb => glu t n h.2.2.2 hb
  | .chain l, n, h, hb => by
    obtain ⟨a1, a2, a3, _⟩ := gluL l n h.2 hb
    refine ⟨?_, a2, fun u => ?_⟩
    · show Inn (semR (outL l n).1) n (n + szL l)
      rw [semR_map]
      exact a1.row
    · show LS sg (semR (outL l n).1) u ↔ LtC l u
      rw [semR_map]
      exact a3 u
  | .choice l, n, h, hb => by
    obtain ⟨a1, a2, _, a4⟩ := gluL l n h.2 hb
    refine ⟨?_, a2, fun u => ?_⟩
    · show Inn (semW (outL l n).1) n (n + szL l)
      rw [semW_map]
      exact a1.alt
    · show LS sg (semW (outL l n).1) u ↔ LtA l u
      rw [semW_map]
      exact a4 u
  | .count a b t, n, h, hb => by
    obtain ⟨b1, b2, b3⟩ := outR_rgs (L := Lt t) (spts_len t) (fun m hm => glu t m h.2.2 hm) (many a b) n hb
    obtain ⟨c1, c2⟩ := ls_cnt (L := Lt t) (fun c hc => (h.2.1 c hc).1) (outR_len _ _ _) b1 b3
    exact ⟨c1, b2, c2⟩
theorem gluL {sg : Nat → List Nat} : ∀ (l : List Tr) (n : Nat), wfL l → Bd sg n (sptsL l) → Rgs ((outL l n).1.map sem) n (n + szL l) ∧ (outL l n).2 = n + szL l ∧ (∀ u, LS sg (rowS ((outL l n).1.map sem)) u ↔ LtC l u) ∧ ∀ u, LS sg (altS ((outL l n).1.map sem)) u ↔ LtA l u
  | [], n, _, _ => ⟨.nil, rfl, fun u => ls_one u, fun u => ⟨fun z => (ls_none u z).elim, fun z => z.elim⟩⟩
  | t :: r, n, h, hb => by
    have hb : Bd sg n (spts t ++ sptsL r) := hb
    obtain ⟨a1, a2, a3⟩ := glu t n h.1 hb.left
    have hb2 := hb.right
    rw [spts_len] at hb2
    obtain ⟨b1, b2, b3, b4⟩ := gluL r (n + sz t) h.2 hb2
    have e : n + szL (t :: r) = n + sz t + szL r := by
      show n + (sz t + szL r) = _
      omega
    have el : (outL (t :: r) n).1.map sem = sem (outN t n).1 :: (outL r (n + sz t)).1.map sem := by
      show sem (outN t n).1 :: (outL r (outN t n).2).1.map sem = _
      rw [a2]
    rw [e, el]
    refine ⟨.cons a1 (by omega) b1, ?_, fun u => ?_, fun u => ?_⟩
    · show (outL r (outN t n).2).2 = _
      rw [a2]
      exact b2
    · show LS sg (seq _ _) u ↔ ∃ u1 u2, _
      rw [ls_seq a1 b1.row]
      constructor
      · rintro ⟨u1, u2, e, p1, p2⟩
        exact ⟨u1, u2, e, (a3 u1).mp p1, (b3 u2).mp p2⟩
      · rintro ⟨u1, u2, e, p1, p2⟩
        exact ⟨u1, u2, e, (a3 u1).mpr p1, (b3 u2).mpr p2⟩
    · show LS sg (alt _ _) u ↔ Lt t u ∨ LtA r u
      rw [ls_alt a1 b1.alt, a3, b4]
end
end Gl
/-! Places reached along a text; matches. -/
namespace Gl
open Sf4
/-- the place that u is read up to, from a first place on -/
inductive Rc (s : Se) (sg : Nat → List Nat) : Nat → List Nat → Prop
  | one {p c : Nat} : s.f p → c ∈ sg p → Rc s sg p [c]
  | snoc {p q c : Nat} {u : List Nat} : Rc s sg p u → s.k p q → c ∈ sg q → Rc s sg q (u ++ [c])
section
variable {s : Se} {sg : Nat → List Nat}
theorem Rc.ne {p : Nat} {u : List Nat} (h : Rc s sg p u) : u ≠ [] := by
  cases h with
  | one _ _ => exact List.cons_ne_nil _ _
  | snoc _ _ _ => exact List.append_ne_nil_of_right_ne_nil _ (List.cons_ne_nil _ _)
theorem rc_inv {q : Nat} {w : List Nat} (h : Rc s sg q w) : ∀ u c, w = u ++ [c] → c ∈ sg q ∧ ((u = [] ∧ s.f q) ∨ ∃ p, Rc s sg p u ∧ s.k p q) := by
  cases h with
  | @one p c' a b =>
    intro u c e
    cases u with
    | nil =>
      obtain rfl := (List.cons.inj e).1
      exact ⟨b, .inl ⟨rfl, a⟩⟩
    | cons x r =>
      have := (List.cons.inj e).2
      exact absurd this.symm (List.append_ne_nil_of_right_ne_nil _ (List.cons_ne_nil _ _))
  | @snoc p q c' u' a b d =>
    intro u c e
    obtain ⟨e1, e2⟩ := List.append_inj' e rfl
    obtain rfl := e1
    obtain rfl := (List.cons.inj e2).1
    exact ⟨d, .inr ⟨p, a, b⟩⟩
theorem rc_one {q c : Nat} : Rc s sg q [c] ↔ s.f q ∧ c ∈ sg q := by
  constructor
  · intro h
    obtain ⟨a, b | ⟨p, b, _⟩⟩ := rc_inv h [] c rfl
    · exact ⟨b.2, a⟩
    · exact absurd rfl b.ne
  · rintro ⟨a, b⟩
    exact .one a b
theorem rc_snoc {q c : Nat} {u : List Nat} (hu : u ≠ []) : Rc s sg q (u ++ [c]) ↔ c ∈ sg q ∧ ∃ p, Rc s sg p u ∧ s.k p q := by
  constructor
  · intro h
    obtain ⟨a, b | b⟩ := rc_inv h u c rfl
    · exact absurd b.1 hu
    · exact ⟨a, b⟩
  · rintro ⟨a, p, b, d⟩
    exact .snoc b d a
theorem run_rc : ∀ (r v : List Nat) (x : Nat) (u : List Nat), Rc s sg x u → run s x r → mat sg r v → ∃ p, Rc s sg p (u ++ v) ∧ s.l p
  | [], [], x, u, h, k, _ => ⟨x, by rw [List.append_nil]; exact h, k⟩
  | b :: r, c :: v, x, u, h, k, q => by
    obtain ⟨p, a, d⟩ := run_rc r v b (u ++ [c]) (.snoc h k.1 q.1) k.2 q.2
    exact ⟨p, by rw [List.append_assoc] at a; exact a, d⟩
  | [], _ :: _, _, _, _, _, q => q.elim
  | _ :: _, [], _, _, _, _, q => q.elim
theorem rc_run {p : Nat} {u : List Nat} (h : Rc s sg p u) : ∀ (r v : List Nat), run s p r → mat sg r v → ∃ w, pth s w ∧ mat sg w (u ++ v) := by
  induction h with
  | @one p c a b => exact fun r v k q => ⟨p :: r, ⟨a, k⟩, b, q⟩
  | @snoc p q c u a b d ih =>
    intro r v k m
    obtain ⟨w, h1, h2⟩ := ih (q :: r) (c :: v) ⟨b, k⟩ ⟨d, m⟩
    exact ⟨w, h1, by rw [List.append_assoc]; exact h2⟩
theorem ls_rc {u : List Nat} (hu : u ≠ []) : LS sg s u ↔ ∃ p, Rc s sg p u ∧ s.l p := by
  constructor
  · rintro ⟨w, p, q⟩
    match w, u, p, q with
    | [], u, _, q => exact absurd (mat_nil q) hu
    | x :: r, c :: v, p, q => exact run_rc r v x [c] (.one p.1 q.1) p.2 q.2
    | _ :: _, [], _, q => exact q.elim
  · rintro ⟨p, h, k⟩
    obtain ⟨w, h1, h2⟩ := rc_run h [] [] k True.intro
    exact ⟨w, h1, by rw [List.append_nil] at h2; exact h2⟩
end
/-- nothing yet -/
def wz : Wp := ⟨[], []⟩
def lnk0 (t : Tr) : Se := sem (outN t 0).1
def sg0 (t : Tr) : Nat → List Nat := fun i => (spts t).getD i []
theorem glu0 {t : Tr} (h : wf t) : Inn (lnk0 t) 0 (sz t) ∧ ∀ u, LS (sg0 t) (lnk0 t) u ↔ Lt t u := by
  obtain ⟨a, _, b⟩ := glu (sg := sg0 t) t 0 h (fun i _ => by rw [Nat.zero_add] <;> rfl)
  rw [Nat.zero_add] at a
  exact ⟨a, b⟩
theorem pos00 {t : Tr} (h : wf t) : Ptw (pO t wz).1 wz (pO t wz).2 (lnk0 t) := (pO_pos t wz 0 h rfl rfl).1
theorem mem_f {t : Tr} (h : wf t) (b : Nat) : b ∈ (pO t wz).1.2.1 ↔ (lnk0 t).f b := (pos00 h).i.f b
theorem mem_l {t : Tr} (h : wf t) (b : Nat) : b ∈ (pO t wz).1.2.2 ↔ (lnk0 t).l b := (pos00 h).i.l b
theorem mem_k {t : Tr} (h : wf t) (j b : Nat) : b ∈ (pO t wz).2.fo.getD j [] ↔ (lnk0 t).k j b := by
  have q := (pos00 h).k j b
  unfold fol at q
  rw [q]
  have e : (wz.fo.getD j []) = [] := by cases j <;> rfl
  rw [e]
  simp
theorem rc_lt {t : Tr} (h : wf t) {p : Nat} {u : List Nat} (r : Rc (lnk0 t) (sg0 t) p u) : p < sz t := by
  obtain ⟨a, _⟩ := glu0 h
  cases r with
  | one x _ => exact (a.f _ x).2
  | snoc _ x _ => exact (a.k _ _ x).2.2
theorem lt_rc {t : Tr} (h : wf t) {u : List Nat} (hu : u ≠ []) : Lt t u ↔ ∃ p, Rc (lnk0 t) (sg0 t) p u ∧ (lnk0 t).l p := by
  rw [← (glu0 h).2 u, ls_rc hu]
/-- the places that the end of T is read up to, from some place on, or from its begin alone -/
def Sof (l : Bool) (t : Tr) (T : List Nat) (p : Nat) : Prop := ∃ i, i < T.length ∧ (i = 0 ∨ l = false) ∧ Rc (lnk0 t) (sg0 t) p (T.drop i)
theorem sof_nil (l : Bool) (t : Tr) (p : Nat) : ¬ Sof l t [] p := by
  rintro ⟨i, h, _⟩
  cases h
theorem sof_snoc {l : Bool} {t : Tr} {T : List Nat} {c q : Nat} : Sof l t (T ++ [c]) q ↔ c ∈ sg0 t q ∧ ((∃ p, Sof l t T p ∧ (lnk0 t).k p q) ∨ ((T = [] ∨ l = false) ∧ (lnk0 t).f q)) := by
  constructor
  · rintro ⟨i, h1, h2, h3⟩
    rw [List.length_append, List.length_singleton] at h1
    by_cases hi : i < T.length
    · rw [List.drop_append_of_le_length (Nat.le_of_lt hi)] at h3
      have hne : T.drop i ≠ [] := fun z => by
        have := List.drop_eq_nil_iff.mp z
        omega
      obtain ⟨a, p, b, d⟩ := (rc_snoc hne).mp h3
      exact ⟨a, .inl ⟨p, ⟨i, hi, h2, b⟩, d⟩⟩
    · obtain rfl : i = T.length := by omega
      rw [List.drop_left] at h3
      obtain ⟨a, b⟩ := rc_one.mp h3
      refine ⟨b, .inr ⟨?_, a⟩⟩
      rcases h2 with h2 | h2
      · exact .inl (List.eq_nil_of_length_eq_zero h2)
      · exact .inr h2
  · rintro ⟨a, ⟨p, ⟨i, h1, h2, h3⟩, h4⟩ | ⟨h1, h2⟩⟩
    · refine ⟨i, by rw [List.length_append, List.length_singleton]; omega, h2, ?_⟩
      rw [List.drop_append_of_le_length (Nat.le_of_lt h1)]
      exact .snoc h3 h4 a
    · refine ⟨T.length, by rw [List.length_append, List.length_singleton]; omega, ?_, ?_⟩
      · rcases h1 with rfl | h1
        · exact .inl rfl
        · exact .inr h1
      · rw [List.drop_left]
        exact .one h2 a
/-- there is a match in T -/
def Mat (l r : Bool) (t : Tr) (T : List Nat) : Prop := ∃ i e, i < e ∧ e ≤ T.length ∧ (i = 0 ∨ l = false) ∧ (e = T.length ∨ r = false) ∧ Lt t ((T.take e).drop i)
theorem mat_empty (l r : Bool) (t : Tr) : ¬ Mat l r t [] := by
  rintro ⟨i, e, h1, h2, _⟩
  rw [List.length_nil] at h2
  omega
/-- a match up to the end -/
theorem end_sof {l : Bool} {t : Tr} {T : List Nat} (h : wf t) : (∃ i, i < T.length ∧ (i = 0 ∨ l = false) ∧ Lt t (T.drop i)) ↔ ∃ p, Sof l t T p ∧ (lnk0 t).l p := by
  constructor
  · rintro ⟨i, h1, h2, h3⟩
    have hne : T.drop i ≠ [] := fun z => by
      have := List.drop_eq_nil_iff.mp z
      omega
    obtain ⟨p, a, b⟩ := (lt_rc h hne).mp h3
    exact ⟨p, ⟨i, h1, h2, a⟩, b⟩
  · rintro ⟨p, ⟨i, h1, h2, a⟩, b⟩
    exact ⟨i, h1, h2, (lt_rc h a.ne).mpr ⟨p, a, b⟩⟩
theorem mat_right {l : Bool} {t : Tr} {T : List Nat} (h : wf t) : Mat l true t T ↔ ∃ p, Sof l t T p ∧ (lnk0 t).l p := by
  rw [← end_sof h]
  constructor
  · rintro ⟨i, e, h1, h2, h3, h4 | h4, h5⟩
    · rw [h4, List.take_length] at h5
      exact ⟨i, by omega, h3, h5⟩
    · cases h4
  · rintro ⟨i, h1, h2, h3⟩
    exact ⟨i, T.length, h1, Nat.le_refl _, h2, .inl rfl, by rw [List.take_length]; exact h3⟩
theorem mat_free {l : Bool} {t : Tr} {T : List Nat} {c : Nat} (h : wf t) : Mat l false t (T ++ [c]) ↔ Mat l false t T ∨ ∃ p, Sof l t (T ++ [c]) p ∧ (lnk0 t).l p := by
  rw [← end_sof h]
  constructor
  · rintro ⟨i, e, h1, h2, h3, _, h5⟩
    rw [List.length_append, List.length_singleton] at h2
    by_cases he : e ≤ T.length
    · rw [List.take_append_of_le_length he] at h5
      exact .inl ⟨i, e, h1, he, h3, .inr rfl, h5⟩
    · obtain rfl : e = T.length + 1 := by omega
      rw [List.take_of_length_le (by rw [List.length_append, List.length_singleton]; omega)] at h5
      exact .inr ⟨i, by rw [List.length_append, List.length_singleton]; omega, h3, h5⟩
  · rintro (⟨i, e, h1, h2, h3, _, h5⟩ | ⟨i, h1, h2, h3⟩)
    · refine ⟨i, e, h1, by rw [List.length_append]; omega, h3, .inr rfl, ?_⟩
      rw [List.take_append_of_le_length h2]
      exact h5
    · exact ⟨i, _, h1, Nat.le_refl _, h2, .inl rfl, by rw [List.take_length]; exact h3⟩
end Gl
/-! Where words end: the law's own matcher. -/
namespace Gl
open Sf4
/-- from i up to e, T reads L -/
def Seg (L : List Nat → Prop) (T : List Nat) (i e : Nat) : Prop := i ≤ e ∧ e ≤ T.length ∧ L ((T.take e).drop i)
theorem seg_cut {T u1 u2 : List Nat} {i e : Nat} (h1 : i ≤ e) (h2 : e ≤ T.length) (h : (T.take e).drop i = u1 ++ u2) : ∃ m, i ≤ m ∧ m ≤ e ∧ u1 = (T.take m).drop i ∧ u2 = (T.take e).drop m := by
  have hl := congrArg List.length h
  rw [List.length_drop, List.length_take, List.length_append] at hl
  refine ⟨i + u1.length, by omega, by omega, ?_, ?_⟩
  · have e1 : u1 = ((T.take e).drop i).take u1.length := by rw [h, List.take_left]
    refine e1.trans ?_
    rw [List.take_drop, List.take_take, Nat.min_eq_left (by omega)]
  · have e2 : u2 = ((T.take e).drop i).drop u1.length := by rw [h, List.drop_left]
    rw [e2, List.drop_drop]
theorem seg_join {T : List Nat} {i m e : Nat} (h1 : i ≤ m) (h2 : m ≤ e) (h3 : e ≤ T.length) : (T.take e).drop i = (T.take m).drop i ++ (T.take e).drop m := by
  have h := List.take_append_drop (m - i) ((T.take e).drop i)
  rw [List.take_drop, List.take_take, List.drop_drop] at h
  rw [← h]
  congr 2
  · congr 1
    omega
  · omega
theorem seg_seq {L M : List Nat → Prop} {T : List Nat} {i e : Nat} : Seg (fun u => ∃ u1 u2, u = u1 ++ u2 ∧ L u1 ∧ M u2) T i e ↔ ∃ m, Seg L T i m ∧ Seg M T m e := by
  constructor
  · rintro ⟨h1, h2, u1, u2, h, p, q⟩
    obtain ⟨m, m1, m2, e1, e2⟩ := seg_cut h1 h2 h
    exact ⟨m, ⟨m1, by omega, e1 ▸ p⟩, m2, h2, e2 ▸ q⟩
  · rintro ⟨m, ⟨h1, h2, p⟩, h3, h4, q⟩
    exact ⟨by omega, h4, _, _, seg_join h1 h3 h4, p, q⟩
theorem seg_nil {T : List Nat} {i e : Nat} (hi : i ≤ T.length) : Seg (fun u => u = []) T i e ↔ e = i := by
  constructor
  · rintro ⟨h1, h2, h⟩
    have hl := congrArg List.length h
    rw [List.length_drop, List.length_take, List.length_nil] at hl
    omega
  · rintro rfl
    refine ⟨Nat.le_refl _, hi, ?_⟩
    refine List.drop_eq_nil_iff.mpr ?_
    rw [List.length_take]
    omega
theorem seg_place {T s : List Nat} {i e : Nat} : Seg (fun u => ∃ c, c ∈ s ∧ u = [c]) T i e ↔ e = i + 1 ∧ ∃ c, T[i]? = some c ∧ c ∈ s := by
  constructor
  · rintro ⟨h1, h2, c, hc, h⟩
    have hl := congrArg List.length h
    rw [List.length_drop, List.length_take] at hl
    have hl : min e T.length - i = 1 := hl
    have he : e = i + 1 := by omega
    refine ⟨he, c, ?_, hc⟩
    have h0 := congrArg (fun l => l[0]?) h
    simp only [List.getElem?_drop, List.getElem?_take] at h0
    rw [if_pos (by omega)] at h0
    exact h0
  · rintro ⟨rfl, c, h, hc⟩
    have hi := (List.getElem?_eq_some_iff.mp h).1
    refine ⟨Nat.le_succ _, hi, c, hc, ?_⟩
    rw [List.take_succ, h, List.drop_append_of_le_length (by rw [List.length_take]; omega), List.drop_eq_nil_iff.mpr (by rw [List.length_take]; omega)]
    rfl
theorem seg_congr {L M : List Nat → Prop} (h : ∀ u, L u ↔ M u) {T : List Nat} {i e : Nat} : Seg L T i e ↔ Seg M T i e := ⟨fun ⟨a, b, c⟩ => ⟨a, b, (h _).mp c⟩, fun ⟨a, b, c⟩ => ⟨a, b, (h _).mpr c⟩⟩
/-- a word of the expression -/
def En (t : Tr) (T : List Nat) (i e : Nat) : Prop := Seg (Lt t) T i e
def Pw (t : Tr) (k : Nat) (T : List Nat) (i e : Nat) : Prop := Seg (pow (Lt t) k) T i e
theorem pw_zero {t : Tr} {T : List Nat} {i e : Nat} (hi : i ≤ T.length) : Pw t 0 T i e ↔ e = i := seg_nil hi
theorem pw_succ {t : Tr} {T : List Nat} {k i e : Nat} : Pw t (k + 1) T i e ↔ ∃ m, Pw t k T i m ∧ En t T m e := by
  have h : ∀ u, pow (Lt t) (k + 1) u ↔ ∃ u1 u2, u = u1 ++ u2 ∧ pow (Lt t) k u1 ∧ Lt t u2 := fun u => by
    rw [pow_add k 1 u]
    constructor
    · rintro ⟨a, b, e, p, c, d, e2, q, r⟩
      obtain rfl := r
      rw [List.append_nil] at e2
      exact ⟨a, b, e, p, e2 ▸ q⟩
    · rintro ⟨a, b, e, p, q⟩
      exact ⟨a, b, e, p, b, [], (List.append_nil _).symm, q, rfl⟩
  unfold Pw
  rw [seg_congr h]
  exact seg_seq
theorem en_cnt {a : Nat} {b : Option Nat} {t : Tr} {T : List Nat} {i e : Nat} : En (.count a b t) T i e ↔ ∃ k, a ≤ k ∧ (∀ c, b = some c → k ≤ c) ∧ Pw t k T i e := by
  constructor
  · rintro ⟨h1, h2, k, p, q, r⟩
    exact ⟨k, p, q, h1, h2, r⟩
  · rintro ⟨k, p, q, h1, h2, r⟩
    exact ⟨h1, h2, k, p, q, r⟩
/-- all that is found so far, what was found last -/
structure Bfs (t : Tr) (T : List Nat) (i a j : Nat) (F N : List Nat) : Prop where
  f : ∀ e, e ∈ F ↔ ∃ k, a ≤ k ∧ k ≤ a + j ∧ Pw t k T i e
  sub : ∀ e ∈ N, e ∈ F
  cl : ∀ s ∈ F, s ∉ N → ∀ e, En t T s e → e ∈ F
  nd : F.Nodup
  nn : N.Nodup
  big : N ≠ [] → j + 1 ≤ F.length
theorem bfs_start {t : Tr} {T : List Nat} {i a : Nat} {N : List Nat} (nd : N.Nodup) (h : ∀ e, e ∈ N ↔ Pw t a T i e) : Bfs t T i a 0 N N := by
  refine ⟨fun e => ?_, fun _ h => h, fun s h1 h2 => absurd h1 h2, nd, nd, fun h => ?_⟩
  · rw [h]
    constructor
    · exact fun p => ⟨a, Nat.le_refl _, by omega, p⟩
    · rintro ⟨k, h1, h2, p⟩
      obtain rfl : k = a := by omega
      exact p
  · cases N with
    | nil => exact absurd rfl h
    | cons _ _ => exact Nat.succ_le_succ (Nat.zero_le _)
theorem bfs_step {t : Tr} {T : List Nat} {i a j : Nat} {F N M : List Nat} (h : Bfs t T i a j F N) (hn : N ≠ []) (nd : M.Nodup) (hm : ∀ e, e ∈ M ↔ (∃ s ∈ N, En t T s e) ∧ e ∉ F) : Bfs t T i a (j + 1) (F ++ M) M := by
  refine ⟨fun e => ?_, fun e he => List.mem_append.mpr (.inr he), fun s hs hM e he => ?_, ?_, nd, fun hM => ?_⟩
  · rw [List.mem_append]
    constructor
    · rintro (z | z)
      · obtain ⟨k, h1, h2, p⟩ := (h.f e).mp z
        exact ⟨k, h1, by omega, p⟩
      · obtain ⟨⟨s, hs, p⟩, _⟩ := (hm e).mp z
        obtain ⟨k, h1, h2, q⟩ := (h.f s).mp (h.sub s hs)
        exact ⟨k + 1, by omega, by omega, pw_succ.mpr ⟨s, q, p⟩⟩
    · rintro ⟨k, h1, h2, p⟩
      by_cases hk : k ≤ a + j
      · exact .inl ((h.f e).mpr ⟨k, h1, hk, p⟩)
      · obtain rfl : k = a + j + 1 := by omega
        obtain ⟨s, q, r⟩ := pw_succ.mp p
        have hs := (h.f s).mpr ⟨a + j, by omega, Nat.le_refl _, q⟩
        by_cases hN : s ∈ N
        · by_cases hF : e ∈ F
          · exact .inl hF
          · exact .inr ((hm e).mpr ⟨⟨s, hN, r⟩, hF⟩)
        · exact .inl (h.cl s hs hN e r)
  · rw [List.mem_append]
    rcases List.mem_append.mp hs with z | z
    · by_cases hN : s ∈ N
      · by_cases hF : e ∈ F
        · exact .inl hF
        · exact .inr ((hm e).mpr ⟨⟨s, hN, he⟩, hF⟩)
      · exact .inl (h.cl s z hN e he)
    · exact absurd z hM
  · refine List.nodup_append.mpr ⟨h.nd, nd, fun x hx y hy e => ?_⟩
    obtain ⟨_, z⟩ := (hm y).mp hy
    exact z (e ▸ hx)
  · rw [List.length_append]
    have := h.big hn
    cases M with
    | nil => exact absurd rfl hM
    | cons _ _ =>
      rw [List.length_cons]
      omega
theorem bfs_closed {t : Tr} {T : List Nat} {i a j : Nat} {F : List Nat} (h : Bfs t T i a j F []) : ∀ k, a ≤ k → ∀ e, Pw t k T i e → e ∈ F := by
  intro k hk
  induction k with
  | zero =>
    intro e p
    exact (h.f e).mpr ⟨0, hk, Nat.zero_le _, p⟩
  | succ k ih =>
    intro e p
    by_cases ha : a ≤ k
    · obtain ⟨s, q, r⟩ := pw_succ.mp p
      exact h.cl s (ih ha s q) List.not_mem_nil e r
    · exact (h.f e).mpr ⟨k + 1, hk, by omega, p⟩
theorem lt_len {l : List Nat} {n : Nat} (nd : l.Nodup) (h : ∀ x ∈ l, x < n) : l.length ≤ n := by
  have := Rg.len (lo := 0) (hi := n) (l := l) ⟨nd, fun x hx => ⟨Nat.zero_le _, h x hx⟩⟩
  omega
/-- the rounds are over: what is found is where a count ends -/
theorem bfs_end {t : Tr} {T : List Nat} {i a j : Nat} {b : Option Nat} {F N : List Nat} (h : Bfs t T i a j F N) (hab : ∀ c, b = some c → a ≤ c) (hj : ∀ c, b = some c → j ≤ c - a) (hz : N = [] ∨ (∀ c, b = some c → j = c - a) ∧ (b = none → j = T.length + 1)) :
    ∀ e, e ∈ F ↔ En (.count a b t) T i e := by
  intro e
  rw [en_cnt]
  have hz2 : N = [] ∨ ∃ c, b = some c ∧ j = c - a := by
    rcases hz with z | ⟨z1, z2⟩
    · exact .inl z
    · cases b with
      | some c => exact .inr ⟨c, rfl, z1 c rfl⟩
      | none =>
        refine .inl (Classical.byContradiction fun hN => ?_)
        have h1 := h.big hN
        have h2 := lt_len (n := T.length + 1) h.nd fun x hx => by
          obtain ⟨k, _, _, p⟩ := (h.f x).mp hx
          exact Nat.lt_succ_of_le p.2.1
        have := z2 rfl
        omega
  constructor
  · intro he
    obtain ⟨k, h1, h2, p⟩ := (h.f e).mp he
    refine ⟨k, h1, fun c hc => ?_, p⟩
    have := hj c hc
    have := hab c hc
    omega
  · rintro ⟨k, h1, h2, p⟩
    rcases hz2 with rfl | ⟨c, hc, hj2⟩
    · exact bfs_closed h k h1 e p
    · have := h2 c hc
      exact (h.f e).mpr ⟨k, h1, by omega, p⟩
end Gl
/-! longest_end. -/
namespace Sq
open PySem PySem.Spec PyProof.Rows L2 Sf Sf4 Gl
/-! ### plain -/
/-- e ends a word from s on, where the pattern lets it end -/
def Hi (p : Pi) (T : List Nat) (s e : Nat) : Prop := s < e ∧ En p.t T s e ∧ (e = T.length ∨ p.r = false)
/-- the places that the word from s up to a is read up to -/
def At (p : Pi) (T : List Nat) (s a : Nat) (ls : List Nat) : Prop := ls.Nodup ∧ ∀ q, q ∈ ls ↔ Rc (lnk0 p.t) (sg0 p.t) q ((T.take a).drop s)
theorem At.lt {p : Pi} {T : List Nat} {s a : Nat} {ls : List Nat} (w : wf p.t) (h : At p T s a ls) : ∀ q ∈ ls, q < sz p.t := fun q hq => rc_lt w ((h.2 q).mp hq)
theorem here_nd {p : Pi} {c : Nat} {l : List Nat} (h : l.Nodup) : (here p c l).Nodup := h.sublist List.filter_sublist
theorem fst_nd (p : Pi) : (fst p).Nodup := List.Pairwise.filter _ List.nodup_range
theorem cut_snoc {T : List Nat} {s a c : Nat} (hs : s ≤ a) (h : T[a]? = some c) : (T.take (a + 1)).drop s = (T.take a).drop s ++ [c] := by
  have h1 := (List.getElem?_eq_some_iff.mp h).1
  rw [take_at h, List.drop_append_of_le_length]
  rw [List.length_take]
  omega
theorem at_one {p : Pi} {T : List Nat} {s c : Nat} (w : wf p.t) (h : T[s]? = some c) : At p T s (s + 1) (here p c (fst p)) := by
  refine ⟨here_nd (fst_nd p), fun q => ?_⟩
  have h1 := (List.getElem?_eq_some_iff.mp h).1
  have e0 : (T.take s).drop s = [] := List.drop_eq_nil_of_le (by rw [List.length_take]; omega)
  rw [cut_snoc (Nat.le_refl s) h, e0, List.nil_append, rc_one, here_mem]
  obtain ⟨inn, _⟩ := glu0 w
  constructor
  · rintro ⟨a, b⟩
    exact ⟨(mem_f w q).mp (asc_mem.mp a).2, b⟩
  · rintro ⟨a, b⟩
    exact ⟨asc_mem.mpr ⟨(inn.f q a).2, (mem_f w q).mpr a⟩, b⟩
theorem at_next {p : Pi} {T : List Nat} {s a c : Nat} {ls : List Nat} (w : wf p.t) (hs : s < a) (h : T[a]? = some c) (hl : At p T s a ls) : At p T s (a + 1) (here p c (insL [] (ls.flatMap (asIs p)))) := by
  refine ⟨here_nd (insL_nd List.nodup_nil), fun q => ?_⟩
  have h1 := (List.getElem?_eq_some_iff.mp h).1
  have hne : (T.take a).drop s ≠ [] := fun z => by
    have := congrArg List.length z
    rw [List.length_drop, List.length_take, List.length_nil] at this
    omega
  rw [cut_snoc (Nat.le_of_lt hs) h, rc_snoc hne, here_mem, insL_mem, List.mem_flatMap]
  obtain ⟨inn, _⟩ := glu0 w
  constructor
  · rintro ⟨z | ⟨j, h2, h3⟩, h4⟩
    · cases z
    · exact ⟨h4, j, (hl.2 j).mp h2, (mem_k w j q).mp (asc_mem.mp h3).2⟩
  · rintro ⟨h4, j, h2, h3⟩
    exact ⟨.inr ⟨j, (hl.2 j).mpr h2, asc_mem.mpr ⟨(inn.k j q h3).2.2, (mem_k w j q).mpr h3⟩⟩, h4⟩
theorem at_last {p : Pi} {T : List Nat} {s a : Nat} {ls : List Nat} (w : wf p.t) (hs : s < a) (ha : a ≤ T.length) (hl : At p T s a ls) : hasLast p ls = true ↔ En p.t T s a := by
  have hne : (T.take a).drop s ≠ [] := fun z => by
    have := congrArg List.length z
    rw [List.length_drop, List.length_take, List.length_nil] at this
    omega
  obtain ⟨inn, _⟩ := glu0 w
  unfold En Gl.Seg hasLast
  rw [List.any_eq_true, lt_rc w hne]
  constructor
  · rintro ⟨q, h1, h2⟩
    exact ⟨Nat.le_of_lt hs, ha, q, (hl.2 q).mp h1, (mem_l w q).mp (asc_mem.mp (of_decide_eq_true h2)).2⟩
  · rintro ⟨_, _, q, h1, h2⟩
    exact ⟨q, (hl.2 q).mpr h1, decide_eq_true (asc_mem.mpr ⟨(inn.l q h2).2, (mem_l w q).mpr h2⟩)⟩
/-- nothing is read any more -/
theorem at_dead {p : Pi} {T : List Nat} {s a : Nat} (w : wf p.t) (hs : s < a) (hl : At p T s a []) : ∀ e, a ≤ e → e ≤ T.length → ¬ En p.t T s e := by
  have key : ∀ n e, e = a + n → e ≤ T.length → At p T s e [] := by
    intro n
    induction n with
    | zero =>
      intro e he _
      rw [he]
      exact hl
    | succ n ih =>
      intro e he hle
      subst he
      have hlt : a + n < T.length := by omega
      have z := at_next (c := T[a + n]) w (by omega) (List.getElem?_eq_getElem hlt) (ih (a + n) rfl (by omega))
      have e0 : here p T[a + n] (insL [] (([] : List Nat).flatMap (asIs p))) = [] := rfl
      rw [e0] at z
      exact z
  intro e h1 h2 h3
  have z := key (e - a) e (by omega) h2
  have := (at_last w (Nat.lt_of_lt_of_le hs h1) h2 z).mpr h3
  cases this
/-- the greatest end below a -/
def Best (p : Pi) (T : List Nat) (s a : Nat) : Option Nat → Prop
  | none => ∀ e, e < a → ¬ Hi p T s e
  | some e => e < a ∧ Hi p T s e ∧ ∀ e', e' < a → Hi p T s e' → e' ≤ e
theorem Best.keep {p : Pi} {T : List Nat} {s a : Nat} {o : Option Nat} (h : Best p T s a o) (n : ¬ Hi p T s a) : Best p T s (a + 1) o := by
  cases o with
  | none =>
    intro e he
    by_cases z : e = a
    · rw [z]
      exact n
    · exact h e (by omega)
  | some b =>
    obtain ⟨h1, h2, h3⟩ := h
    refine ⟨by omega, h2, fun e he hh => ?_⟩
    by_cases z : e = a
    · rw [z] at hh
      exact absurd hh n
    · exact h3 e (by omega) hh
theorem Best.put {p : Pi} {T : List Nat} {s a : Nat} (h : Hi p T s a) : Best p T s (a + 1) (some a) := ⟨Nat.lt_succ_self a, h, fun e he _ => by omega⟩
theorem Best.dead {p : Pi} {T : List Nat} {s a : Nat} {o : Option Nat} (h : Best p T s a o) (n : ∀ e, a ≤ e → e ≤ T.length → ¬ En p.t T s e) : Best p T s (T.length + 1) o := by
  have no : ∀ e, a ≤ e → ¬ Hi p T s e := fun e he hh => n e he hh.2.1.2.1 hh.2.1
  cases o with
  | none =>
    intro e he
    by_cases z : e < a
    · exact h e z
    · exact no e (by omega)
  | some b =>
    obtain ⟨h1, h2, h3⟩ := h
    refine ⟨?_, h2, fun e he hh => ?_⟩
    · have := h2.2.1.2.1
      omega
    · by_cases z : e < a
      · exact h3 e z hh
      · exact absurd hh (no e (by omega))
/-! ### the def -/
theorem inD_dp' {K : PySem.W.Frag} {H : Hp} : ∀ es : List Nat, DpAll K H (nIs es) ((zI es).map PyData.int)
  | [] => .nil
  | n :: r => .cons (.int n) (inD_dp' r)
theorem li_lay : ∀ l : List Int, PyData.canLayAll0 (l.map PyData.int) = true ∧ PyData.depthAll (l.map PyData.int) = 0
  | [] => ⟨rfl, rfl⟩
  | n :: r => by
    obtain ⟨a, b⟩ := li_lay r
    refine ⟨?_, ?_⟩
    · show (PyData.canLay0 (.int n) && PyData.canLayAll0 (r.map PyData.int)) = true
      rw [a] <;> rfl
    · show max 0 (PyData.depthAll (r.map PyData.int)) = 0
      rw [b] <;> rfl
theorem li_shaped (l : List Int) : SeqAt.shaped (.list (l.map PyData.int)) = true := by
  obtain ⟨a, b⟩ := li_lay l
  have h1 : PyData.canLay0 (.list (l.map PyData.int)) = true := by simpa only [PyData.canLay0] using a
  have h2 : PyData.depth (.list (l.map PyData.int)) ≤ 64 := by
    simp only [PyData.depth]
    omega
  unfold SeqAt.shaped
  rw [h1, decide_eq_true h2] <;> rfl
theorem li_eqv (es : List Nat) : PyData.eqv (.list ((zI es).map PyData.int)) (.list []) = es.isEmpty := by
  cases es <;> rfl
abbrev sLon : Stmt := topS 25
def NLon : List Str := ["pattern", "text", "start", "some", "found", "at"]
theorem scLon : FnScope NLon ["pattern", "text", "start"] (defScope sLon) := ⟨rfl, rfl, rfl, by decide +kernel, rfl, by decide +kernel, by decide +kernel⟩
structure LonT (K : PySem.W.Frag) (mg : Str → Option Value) (f : Addr) (fd : FuncData) : Prop where
  lon : Fd K mg "longest_end" sLon ["pattern", "text", "start"] f fd
  zrange : mg "range" = none
def optV : Option Nat → V
  | none => .non
  | some e => .int (e : Nat)
def spLon (C : Addr) : Sp := fun vs H Q _ => ∃ (p : Pi) (T : List Nat) (s : Nat), vs = [.ref p.x, .str (tx T), .int (s : Nat)] ∧ PiO C H p ∧ wf p.t ∧ T.length ≤ 2000 ∧ s < T.length ∧ ∀ o H', Best p T s (T.length + 1) o → Same H H' → Q (optV o) H'
section
variable {P : Program} {w : World} {K : PySem.W.Frag} {mg : Str → Option Value} {base : Heap} {C aF fb : Addr} {f : Nat → Addr} {fd : Nat → FuncData} {nf : Nat → Addr} {nfd : Nat → FuncData} {db : FuncData} {tn : Nat → Tok} {lf : Addr} {ld : FuncData}
variable {pf : Nat → Addr} {pfd : Nat → FuncData} {tk : Nat → Tok} {gR gW : Addr} {dR dW : FuncData}
theorem ok_lon (TL : LonT K mg lf ld) (TM : HmT K mg f fd) (T : NoT K mg C aF nf nfd fb db tn) (TP : PatT K mg C pf pfd tk gR gW dR dW) : FnOk P w K mg base CX0 5 lf ld ["pattern", "text", "start"] (spLon C) := by
  have GB := ok_beg (P := P) (w := w) (base := base) (k := 0) TM TP
  have GG := ok_gon (P := P) (w := w) (base := base) TM T TP
  have GC := ok_can (P := P) (w := w) (base := base) (k := 0) TM T TP
  refine TL.lon.F.ok (k := 4) scLon (fun vs H Q E h => ?_) (fun cdv A outer s H vs Q E hr h => ?_)
  · obtain ⟨p, X, s, rfl, _⟩ := h
    rfl
  · obtain ⟨p, X, s, rfl, po, w0, hX, hs, fin⟩ := h
    have hu := hr.units
    refine ⟨_, pss_cons (ps_par (i := 3) (j := 4) (by rfl) scLon.nd rfl rfl (by decide) rfl rfl (pa_cons (pe_call GB (hr.mono (by decide)) (by rfl) TM.beg.g TM.beg.F.kp TM.beg.b .nil pass0 (pa_cons (pv 0) (pa_cons (pe_ix ix_str (pv 1) (pv 2) (fun _ _ => rfl)) pa_nil))) (pa_cons pe_non pa_nil)) (by rfl))
      (pss_cons (ps_for PassesOwn.never rfl (pi_range2 (by rfl) TL.zrange (pa_cons (pe_op op_add (pv 2) pe_int) (pa_cons (pe_op op_add (pe_callB call_len_str (by rfl) T.zlen PySem.boot_len (pa_cons (pv 1) pa_nil)) pe_int) pa_nil))) (pg_name (i := 5) scLon.nd rfl (Or.inl rfl))
          (pss_cons (ps_if (pt_cmpR (op_eqD hu) (pv 3) (pe_lst pa_nil) (nomark _)) (pss_one (ps_ret (pv 4))) pss_nil)
          (Evl.pss_cut (ps_if (PW.pt (pw_and (pt_val (pe_call GC (hr.mono (by decide)) (by rfl) TM.can.g TM.can.F.kp TM.can.b .nil pass0 (pa_cons (pv 0) (pa_cons (pv 3) pa_nil)))) (pw_and1 (PW.pt (pw_or (pt_cmpR op_eq (pv 5) (pe_callB call_len_str (by rfl) T.zlen PySem.boot_len (pa_cons (pv 1) pa_nil)) (nomark _)) (pw_or1 (pt_not (pt_val (pe_fld (pv 0) rfl)))))))))
              (pss_one (ps_set (i := 4) scLon.nd rfl (.inl rfl) (pv 5))) pss_nil)
          (pss_one (ps_set (i := 3) scLon.nd rfl (.inl rfl) (pe_ifExp (pt_cmpR op_lt (pv 5) (pe_callB call_len_str (by rfl) T.zlen PySem.boot_len (pa_cons (pv 1) pa_nil)) (nomark _))
              (pe_call GG (hr.mono (by decide)) (by rfl) TM.gon.g TM.gon.F.kp TM.gon.b .nil pass0 (pa_cons (pv 0) (pa_cons (pv 3) (pa_cons (pe_ix ix_str (pv 1) (pv 5) (fun _ _ => rfl)) pa_nil)))) (pe_lst pa_nil)))))))
      (pss_one (ps_ret (pv 4)))), ?_⟩
    have h24 := po.2.1
    have hXl : (tx X).length = X.length := tx_len X
    have hXs : (tx X).length ≤ sizeLine := by
      rw [hXl]
      exact Nat.le_trans hX (by decide)
    obtain ⟨c0, hc0⟩ : ∃ c, X[s]? = some c := ⟨X[s], List.getElem?_eq_getElem hs⟩
    obtain ⟨dx, tv, na, pl, fi, la, be, e1, _⟩ := id po.1
    refine ⟨_, rfl, _, rfl, _, rfl, tx X, (s : Int), c0, rfl, rfl, hXs, atI_nat (j := s) hc0, p, c0, rfl, po, fun L H1 nL s1 eL => ⟨_, _, rfl, ?_⟩⟩
    refine ⟨_, rfl, _, 1, rfl, rfl, _, rfl, tx X, rfl, hXs, _, 1, rfl, rfl, ?_⟩
    have hX2 : X.length ≤ 2000 := hX
    refine ⟨(s : Int) + 1, (X.length : Int) + 1, by rw [← hXl], ⟨by omega, by omega, by omega, by omega⟩, ?_⟩
    have hn : ((X.length : Int) + 1 - ((s : Int) + 1)).toNat = X.length - s := by omega
    rw [hn]
    have st0 : (List.set (L2.start NLon [V.ref p.x, V.str (tx X), V.int (s : Nat)]) 3 (some (V.ref L))).set 4 (some V.non) = [some (.ref p.x), some (.str (tx X)), some (.int (s : Nat)), some (.ref L), some (optV none), none] := rfl
    rw [st0]
    refine for_it (walk_range (lo := (s : Int) + 1) (n := X.length - s)) (fun i σ H2 => ∃ L ls o y5, σ = [some (.ref p.x), some (.str (tx X)), some (.int (s : Nat)), some (.ref L), some (optV o), y5] ∧ H2 L = some (.lst (nIs ls)) ∧ Same H H2 ∧ Best p X s (s + 1 + i) o ∧ (s + 1 + i ≤ X.length → At p X s (s + 1 + i) ls))
      ⟨L, here p c0 (fst p), none, none, rfl, eL, s1, fun e he hh => absurd hh.1 (by omega), fun _ => at_one w0 hc0⟩ (fun _ _ _ _ _ => True.intro) (fun i x σ H2 H2' hi hP hy => ?_) (fun σ H2 hP => ?_)
    · obtain ⟨L2, ls, o, y5, rfl, eL2, s2, hB, hA⟩ := hP
      obtain ⟨rfl, hx⟩ := hy
      have hle : s + 1 + i ≤ X.length := by omega
      have hA := hA hle
      have hat : ((s : Int) + 1 + (i : Nat)) = ((s + 1 + i : Nat) : Int) := by omega
      have hx : x = .int ((s + 1 + i : Nat) : Int) := by
        rw [hx, ← hat]
      subst hx
      have hls : ls.length ≤ 24 := Nat.le_trans (nd_len hA.1 (hA.lt w0)) h24
      refine ⟨_, rfl, Nat.zero_le _, fun Z nZ => ⟨.list ((zI ls).map PyData.int), .list [], .lst (.inl (.inl (smU nZ _ _ eL2))) (inD_dp' ls), .lst (.inl (.inl upd_same)) .nil, li_shaped _, li_shaped [], _, rfl, ?_⟩⟩
      rw [li_eqv]
      have s3 := s2.trans (smU (o := HO.lst []) nZ)
      have eL3 := smU (o := HO.lst []) nZ _ _ eL2
      generalize upd H2' Z (.lst []) = H3 at s3 eL3 ⊢
      cases hem : ls.isEmpty with
      | true =>
        obtain rfl := List.isEmpty_iff.mp hem
        exact iteT ⟨_, rfl, fin o _ (hB.dead (at_dead w0 (by omega) hA)) s3⟩
      | false =>
        refine iteF ⟨fun σ H5 => ∃ o', σ = [some (.ref p.x), some (.str (tx X)), some (.int (s : Nat)), some (.ref L2), some (optV o'), some (.int ((s + 1 + i : Nat) : Int))] ∧ Same H3 H5 ∧ Best p X s (s + 1 + i + 1) o', ?_, fun σ H5 hM => ?_⟩
        · refine ⟨_, rfl, _, rfl, p, L2, ls, rfl, po.ki (KI.same s3), eL3, hls, fun H4 s4 => ⟨_, rfl, ?_⟩⟩
          cases hh : hasLast p ls with
          | false =>
            refine iteF (iteF ⟨o, rfl, s4, hB.keep fun z => ?_⟩)
            rw [(at_last w0 (by omega) hle hA).mpr z.2.1] at hh
            cases hh
          | true =>
            have en := (at_last w0 (by omega) hle hA).mp hh
            refine iteT ⟨_, rfl, _, rfl, tx X, rfl, hXs, rfl, _, rfl, ?_⟩
            rw [hXl]
            have put : (s + 1 + i = X.length ∨ p.r = false) → Best p X s (s + 1 + i + 1) (some (s + 1 + i)) := fun z => Best.put ⟨by omega, en, z⟩
            by_cases hend : s + 1 + i = X.length
            · rw [decide_eq_true (show V.int ((s + 1 + i : Nat) : Int) = V.int (X.length : Int) by rw [hend])]
              exact iteT (iteT ⟨_, rfl, some (s + 1 + i), rfl, s4, put (.inl hend)⟩)
            · rw [decide_eq_false (show ¬ (V.int ((s + 1 + i : Nat) : Int) = V.int (X.length : Int)) from fun z => hend (by have := V.int.inj z; omega))]
              refine iteF ⟨_, rfl, p.x, C, dx, _, _, rfl, (s3.trans s4) _ _ e1, TP.cl, TP.n3, rfl, p.r, rfl, ?_⟩
              show if (!p.r) = true then _ else _
              by_cases hr2 : p.r = false
              · rw [show (!p.r) = true by rw [hr2] <;> rfl]
                exact iteT ⟨_, rfl, some (s + 1 + i), rfl, s4, put (.inr hr2)⟩
              · rw [show (!p.r) = false by cases hq : p.r <;> first | rfl | exact absurd hq hr2]
                exact iteF ⟨o, rfl, s4, hB.keep fun z => z.2.2.elim hend hr2⟩
        · obtain ⟨o', rfl, s5, hB2⟩ := hM
          refine ⟨_, rfl, _, rfl, tx X, rfl, hXs, _, _, rfl, rfl, _, rfl, ?_⟩
          rw [hXl]
          by_cases hlt : s + 1 + i < X.length
          · rw [decide_eq_true (show ((s + 1 + i : Nat) : Int) < (X.length : Int) by omega)]
            obtain ⟨c, hc⟩ : ∃ c, X[s + 1 + i]? = some c := ⟨X[s + 1 + i], List.getElem?_eq_getElem hlt⟩
            refine iteT ⟨_, rfl, _, rfl, _, rfl, _, rfl, tx X, ((s + 1 + i : Nat) : Int), c, rfl, rfl, hXs, atI_nat (j := s + 1 + i) hc, p, L2, ls, c, rfl, po.ki (KI.same (s3.trans s5)), s5 _ _ eL3, hls, hA.lt w0, fun L6 H6 nL6 s6 eL6 => ?_⟩
            exact ⟨L6, _, o', _, rfl, eL6, s3.trans (s5.trans s6), hB2, fun _ => at_next w0 (show s < s + 1 + i by omega) hc hA⟩
          · rw [decide_eq_false (show ¬ (((s + 1 + i : Nat) : Int) < (X.length : Int)) by omega)]
            exact iteF ⟨Nat.zero_le _, fun L6 nL6 => ⟨L6, [], o', _, rfl, upd_same, s3.trans (s5.trans (smU nL6)), hB2, fun z => by
              have z' : s + 1 + (i + 1) ≤ X.length := z
              omega⟩⟩
    · obtain ⟨L2, ls, o, y5, rfl, eL2, s2, hB, hA⟩ := hP
      rw [show s + 1 + (X.length - s) = X.length + 1 by omega] at hB
      exact ⟨_, rfl, fin o H2 hB s2⟩
end
end Sq
/-! name = {k: v for .. in ..} on one line. -/
namespace L2
open PySem PySem.Spec PyProof.Rows
section
variable {X : Cx}
theorem ps_setDc {i : Nat} {nm : Str} {pn spos : Pos} {kx vx tg iter : Expr} {ifs : List Expr} {scope : Scope} {own : List (Str × Nat)} {pos : Pos} {wi : TI} {g : TG} {tt : TT} {tk tv : TE} (hc : X.calm = true) (hN : X.N.Nodup) (hy : X.N[i]? = some nm) (hyl : X.env.scope.names.lookup nm = some .local)
    (hw : swapsWith (.DictComp kx vx [⟨tg, iter, ifs, 0⟩] scope pos) (some (.Name nm pn)) spos.line X.env = pure true) (hi : PI X tg iter wi) (ok : BlkOk X.N X.env.scope scope own)
    (hg : ∀ (s : Shared) (H : Hp) (C : Addr) (cl : List (Str × Addr)) (fp : List Addr), PG (X.blk s H scope (compEnvC scope cl C X.env) fp) tg g) (ht : ∀ (s : Shared) (H : Hp) (C : Addr) (cl : List (Str × Addr)) (fp : List Addr), PTs (X.blk s H scope (compEnvC scope cl C X.env) fp) ifs tt)
    (hk : ∀ (s : Shared) (H : Hp) (C : Addr) (cl : List (Str × Addr)) (fp : List Addr), PE (X.blk s H scope (compEnvC scope cl C X.env) fp) kx tk)
    (he : ∀ (s : Shared) (H : Hp) (C : Addr) (cl : List (Str × Addr)) (fp : List Addr), PE (X.blk s H scope (compEnvC scope cl C X.env) fp) vx tv) (hs : ∀ x, foldedSetIterable iter X.env x = pure x := by intro _; rfl) :
    PS X (.Assign [.Name nm pn] (.DictComp kx vx [⟨tg, iter, ifs, 0⟩] scope pos) spos) (tAsg (tDc wi g tt tk tv (own.map (·.2))) (gName i)) := by
  refine ⟨fun pins s σ H D I hq => ?_⟩
  rw [exec_Assign_Name_used _ _ _ _ hw]
  refine wpAny_bind (wpAny_standAt (wpAny_bind ?_))
  show wpAny _ X.A (comprehension (.DictComp kx vx [⟨tg, iter, ifs, 0⟩] scope pos) scope X.env _ newDict false (eval iter X.env) (some (assign (.Name nm pn) X.env)) >>= fun _ => _) _ _ s
  have hq : tDc wi g tt tk tv (own.map (·.2)) σ H (fun x H1 => gName i x σ H1 D.nx) := hq
  refine wpAny_bind (thn (dc_core (Qf := fun _ sz => SP X pins D .next sz) hc hN I hi ok hg ht hk he hs hq fun L C sz mm H' Iz qq ns fo => ?_) fun _ _ z => wpAny_pure (wpAny_pure z))
  show wpAny _ _ (assign (.Name nm pn) X.env (.ref L)) _ _ _
  refine wpAny_assign_Name (store_ok2 (v := V.ref L) Iz hN hy (.inl hyl) rfl (fun sy Iy ⟨a, sub, ha⟩ => ?_) (.inr hyl))
  obtain ⟨g0, g1, _, g3, g4, g5⟩ := fo
  have nCa : C ≠ a := ha.elim (fun z => by rw [z]; exact g1) fun z e => g4 nm a z e.symm
  exact ⟨mm, ns.sameBut sub nCa, fun _ sub3 => ⟨_, H', Iy.turned (t' := sy.toks) (fun b o hm e => (sub3.2 b hm).trans e) g0 g1 g3 g4 g5, qq⟩⟩
end
end L2
/-! Match; match_at of patterns without captures. -/
namespace Sq
open PySem PySem.Spec PyProof.Rows L2 Sf Sf4 Gl
abbrev cMa : Stmt := topS 21
abbrev sMI : Stmt := inClass cMa 0
abbrev sMst : Stmt := inClass cMa 1
abbrev sMen : Stmt := inClass cMa 2
abbrev sMwo : Stmt := inClass cMa 3
abbrev sMat : Stmt := topS 26
abbrev sFC : Stmt := topS 19
def mf (s : Nat) (W : List Nat) (D : Addr) : List (Str × V) := [("own_start", .int (s : Nat)), ("own_word", .str (tx W)), ("spans", .ref D)]
section
variable {s : Nat} {W : List Nat} {D : Addr}
theorem mf_s : (mf s W D).lookup ("own_start" : Str) = some (.int (s : Nat)) := lk_eq
theorem mf_w : (mf s W D).lookup ("own_word" : Str) = some (.str (tx W)) := (lk_ne (by decide +kernel)).trans lk_eq
theorem mf_d : (mf s W D).lookup ("spans" : Str) = some (.ref D) := (lk_ne (by decide +kernel)).trans ((lk_ne (by decide +kernel)).trans lk_eq)
theorem mf_no {k : Str} (h1 : ¬ k = "own_start") (h2 : ¬ k = "own_word") (h3 : ¬ k = "spans") : (mf s W D).lookup k = none := (lk_ne h1).trans ((lk_ne h2).trans ((lk_ne h3).trans rfl))
end
theorem pf9_nm {l r : Bool} {tv : V} {Z : List Nat} {nm pl fi la be : Addr} : (pf9 l r tv Z nm pl fi la be).lookup ("names" : Str) = some (.ref nm) := (lk_ne (by decide +kernel)).trans ((lk_ne (by decide +kernel)).trans ((lk_ne (by decide +kernel)).trans ((lk_ne (by decide +kernel)).trans lk_eq)))
/-- a capture's value -/
def SpV (H : Hp) (v : V) : Option (Nat × Nat) → Prop
  | none => v = .non
  | some ab => ∃ t, v = .ref t ∧ H t = some (.tup [.int (ab.1 : Nat), .int (ab.2 : Nat)])
/-- the captures of a match, by names -/
abbrev Cps : Type := List (List Nat × Option (Nat × Nat))
def SpO (H : Hp) (kvs : List (L2.Key × V)) (cs : Cps) : Prop := kvs.length = cs.length ∧ ∀ (i : Nat) (kv : L2.Key × V) (c : List Nat × Option (Nat × Nat)), kvs[i]? = some kv → cs[i]? = some c → kv.1 = Sum.inr (tx c.1) ∧ SpV H kv.2 c.2
theorem SpO.nil {H : Hp} : SpO H [] [] := ⟨rfl, fun i kv c h => by cases h⟩
/-- a match at m -/
def MatO (CM : Addr) (H : Hp) (v : V) (s : Nat) (W : List Nat) (cs : Cps) : Prop := ∃ m dx D kvs, v = .ref m ∧ H m = some (.ins CM dx (mf s W D)) ∧ H D = some (.dK kvs) ∧ SpO H kvs cs
theorem SpV.mono {H H' : Hp} (k : KT H H') {v : V} : ∀ {o : Option (Nat × Nat)}, SpV H v o → SpV H' v o
  | none, h => h
  | some _, h => by
    obtain ⟨t, e, q⟩ := h
    exact ⟨t, e, k _ _ q⟩
theorem SpO.mono {H H' : Hp} {kvs : List (L2.Key × V)} {cs : Cps} (k : KT H H') (h : SpO H kvs cs) : SpO H' kvs cs := ⟨h.1, fun i kv c a b => ⟨(h.2 i kv c a b).1, (h.2 i kv c a b).2.mono k⟩⟩
theorem MatO.ki {CM : Addr} {H H' : Hp} {v : V} {s : Nat} {W : List Nat} {cs : Cps} (h : MatO CM H v s W cs) (k : KI H H') : MatO CM H' v s W cs := by
  obtain ⟨m, dx, D, kvs, e, e1, e2, q⟩ := h
  exact ⟨m, dx, D, kvs, e, k _ _ e1 (fun _ z => by cases z) (fun _ _ z => by cases z) (fun _ z => by cases z), k _ _ e2 (fun _ z => by cases z) (fun _ _ z => by cases z) (fun _ z => by cases z), q.mono k.kt⟩
structure MaT (K : PySem.W.Frag) (mg : Str → Option Value) (CM : Addr) (f : Nat → Addr) (fd : Nat → FuncData) (q : Nat → Addr) (mf_ : Addr) (md : FuncData) (ff : Addr) (ffd : FuncData) : Prop where
  cl : Cls K CM
  n1 : NoAttr K CM "own_start"
  n2 : NoAttr K CM "own_word"
  n3 : NoAttr K CM "spans"
  mI : Mt K CM "__init__" "Match.__init__" sMI ["self", "start", "word", "spans"] (f 0) (fd 0)
  fS : Fun K "start" "Match.start" sMst (f 1) (fd 1)
  fE : Fun K "end" "Match.end" sMen (f 2) (fd 2)
  fW : Fun K "word" "Match.word" sMwo (f 3) (fd 3)
  bS : Binds K (fd 1) ["self"] []
  bE : Binds K (fd 2) ["self"] []
  bW : Binds K (fd 3) ["self"] []
  pS : PropOf K CM "start" (q 0) (f 1)
  pE : PropOf K CM "end" (q 1) (f 2)
  pW : PropOf K CM "word" (q 2) (f 3)
  mkC : Mk K CM (f 0)
  gC : mg "Match" = some (.ref CM)
  mat : Fd K mg "match_at" sMat ["pattern", "text", "start", "end"] mf_ md
  fc : Fd K mg "first_captures" sFC ["tree", "word"] ff ffd
  zlen : mg "len" = none
theorem scMI : FnScope ["self", "start", "word", "spans"] ["self", "start", "word", "spans"] (defScope sMI) := ⟨rfl, rfl, rfl, by decide +kernel, rfl, by decide +kernel, by decide +kernel⟩
theorem scMst : FnScope ["self"] ["self"] (defScope sMst) := ⟨rfl, rfl, rfl, by decide +kernel, rfl, by decide +kernel, by decide +kernel⟩
theorem scMen : FnScope ["self"] ["self"] (defScope sMen) := ⟨rfl, rfl, rfl, by decide +kernel, rfl, by decide +kernel, by decide +kernel⟩
theorem scMwo : FnScope ["self"] ["self"] (defScope sMwo) := ⟨rfl, rfl, rfl, by decide +kernel, rfl, by decide +kernel, by decide +kernel⟩
def NMat : List Str := ["pattern", "text", "start", "end", "word", "read", "spans", "name", "first", "behind"]
theorem scMat : FnScope NMat ["pattern", "text", "start", "end"] (defScope sMat) := ⟨rfl, rfl, rfl, by decide +kernel, rfl, by decide +kernel, by decide +kernel⟩
def spMI (CM : Addr) : Sp := fun vs H Q _ => ∃ (x dx : Addr) (s : Nat) (W : List Nat) (D : Addr), vs = [.ref x, .int (s : Nat), .str (tx W), .ref D] ∧ H x = some (.ins CM dx []) ∧ ∀ H', H' x = some (.ins CM dx (mf s W D)) → (∀ b o, b ≠ x → H b = some o → H' b = some o) → Q .non H'
/-- start, end, word of a match -/
def spMst (CM : Addr) : Sp := fun vs H Q _ => ∃ (m : Addr) (s : Nat) (W : List Nat) (cs : Cps), vs = [.ref m] ∧ MatO CM H (.ref m) s W cs ∧ Q (.int (s : Nat)) H
def spMen (CM : Addr) : Sp := fun vs H Q _ => ∃ (m : Addr) (s : Nat) (W : List Nat) (cs : Cps), vs = [.ref m] ∧ MatO CM H (.ref m) s W cs ∧ W.length ≤ 2000 ∧ Q (.int ((s + W.length : Nat) : Int)) H
def spMwo (CM : Addr) : Sp := fun vs H Q _ => ∃ (m : Addr) (s : Nat) (W : List Nat) (cs : Cps), vs = [.ref m] ∧ MatO CM H (.ref m) s W cs ∧ Q (.str (tx W)) H
/-- the piece of a text -/
def pc (T : List Nat) (s e : Nat) : List Nat := (T.take e).drop s
def spMa0 (C CM : Addr) : Sp := fun vs H Q _ => ∃ (p : Pi) (T : List Nat) (s e : Nat), vs = [.ref p.x, .str (tx T), .int (s : Nat), .int (e : Nat)] ∧ PiO C H p ∧ p.nm = [] ∧ T.length ≤ 2000 ∧ s ≤ e ∧ e ≤ T.length ∧ ∀ v H', Same H H' → MatO CM H' v s (pc T s e) [] → (∃ m, v = .ref m ∧ H m = none) → Q v H'
section
variable {P : Program} {w : World} {K : PySem.W.Frag} {mg : Str → Option Value} {base : Heap} {C CM mf_ ff : Addr} {f : Nat → Addr} {fd : Nat → FuncData} {q : Nat → Addr} {md ffd : FuncData}
variable {pf : Nat → Addr} {pfd : Nat → FuncData} {tk : Nat → Tok} {gR gW : Addr} {dR dW : FuncData}
theorem ok_mI (T : MaT K mg CM f fd q mf_ md ff ffd) {k : Nat} : FnOk P w K mg base CX0 (k + 1) (f 0) (fd 0) ["self", "start", "word", "spans"] (spMI CM) := by
  refine T.mI.F.ok scMI (fun vs H Q E h => ?_) (fun cdv A outer s H vs Q E hr h => ?_)
  · obtain ⟨x, dx, s, W, D, rfl, _⟩ := h
    rfl
  · obtain ⟨x, dx, s, W, D, rfl, hx, fin⟩ := h
    refine ⟨_, pss_cons (ps_fld (pv 0) (pv 1) rfl) (pss_cons (ps_fld (pv 0) (pv 2) rfl) (pss_one (ps_fld (pv 0) (pv 3) rfl))), ?_⟩
    refine ⟨_, rfl, .ref x, rfl, x, CM, dx, _, rfl, hx, T.cl, T.n1, (show 0 < 1000 by decide), _, rfl, .ref x, rfl, x, CM, dx, _, rfl, upd_same, T.cl, T.n2, (show 1 < 1000 by decide), _, rfl, .ref x, rfl, x, CM, dx, _, rfl, upd_same, T.cl, T.n3, (show 2 < 1000 by decide), ?_⟩
    refine fin _ (upd_same.trans rfl) fun b o n e => ?_
    rw [upd_ne n, upd_ne n, upd_ne n]
    exact e
theorem ok_mst (T : MaT K mg CM f fd q mf_ md ff ffd) {k : Nat} : FnOk P w K mg base CX0 (k + 1) (f 1) (fd 1) ["self"] (spMst CM) := by
  refine T.fS.ok scMst (fun vs H Q E h => ?_) (fun cdv A outer s H vs Q E hr h => ?_)
  · obtain ⟨m, s, W, cs, rfl, _⟩ := h
    rfl
  · obtain ⟨m, s, W, cs, rfl, ⟨m', dx, D, kvs, e0, e1, _⟩, fin⟩ := h
    cases e0
    refine ⟨_, pss_one (ps_ret (pe_fld (pv 0) rfl)), ?_⟩
    exact ⟨_, rfl, m, CM, dx, _, _, rfl, e1, T.cl, T.n1, mf_s, fin⟩
theorem ok_mwo (T : MaT K mg CM f fd q mf_ md ff ffd) {k : Nat} : FnOk P w K mg base CX0 (k + 1) (f 3) (fd 3) ["self"] (spMwo CM) := by
  refine T.fW.ok scMwo (fun vs H Q E h => ?_) (fun cdv A outer s H vs Q E hr h => ?_)
  · obtain ⟨m, s, W, cs, rfl, _⟩ := h
    rfl
  · obtain ⟨m, s, W, cs, rfl, ⟨m', dx, D, kvs, e0, e1, _⟩, fin⟩ := h
    cases e0
    refine ⟨_, pss_one (ps_ret (pe_fld (pv 0) rfl)), ?_⟩
    exact ⟨_, rfl, m, CM, dx, _, _, rfl, e1, T.cl, T.n2, mf_w, fin⟩
theorem ok_men (T : MaT K mg CM f fd q mf_ md ff ffd) {k : Nat} : FnOk P w K mg base CX0 (k + 1) (f 2) (fd 2) ["self"] (spMen CM) := by
  refine T.fE.ok scMen (fun vs H Q E h => ?_) (fun cdv A outer s H vs Q E hr h => ?_)
  · obtain ⟨m, s, W, cs, rfl, _⟩ := h
    rfl
  · obtain ⟨m, s, W, cs, rfl, ⟨m', dx, D, kvs, e0, e1, _⟩, hW, fin⟩ := h
    cases e0
    refine ⟨_, pss_one (ps_ret (pe_op op_add (pe_fld (pv 0) rfl) (pe_callB call_len_str (by rfl) T.zlen PySem.boot_len (pa_cons (pe_fld (pv 0) rfl) pa_nil)))), ?_⟩
    have hl : (tx W).length = W.length := tx_len W
    refine ⟨_, rfl, m, CM, dx, _, _, rfl, e1, T.cl, T.n1, mf_s, _, rfl, m, CM, dx, _, _, rfl, e1, T.cl, T.n2, mf_w, tx W, rfl, by rw [hl]; exact Nat.le_trans hW (by decide), _, _, rfl, rfl, ?_⟩
    show Q (V.int ((s : Int) + ((tx W).length : Int))) H
    rw [hl, show (s : Int) + (W.length : Int) = ((s + W.length : Nat) : Int) by omega]
    exact fin
theorem ok_mat0 (T : MaT K mg CM f fd q mf_ md ff ffd) (TP : PatT K mg C pf pfd tk gR gW dR dW) : FnOk P w K mg base CX0 3 mf_ md ["pattern", "text", "start", "end"] (spMa0 C CM) := by
  have GI := ok_mI (P := P) (w := w) (base := base) T (k := 0)
  refine T.mat.F.ok (k := 2) scMat (fun vs H Q E h => ?_) (fun cdv A outer s H vs Q E hr h => ?_)
  · obtain ⟨p, X, s, e, rfl, _⟩ := h
    rfl
  · obtain ⟨p, X, s, e, rfl, po, hnm, hX, hse, heX, fin⟩ := h
    have hu := hr.units
    refine ⟨_, pss_cons (ps_set (i := 4) scMat.nd rfl (.inl rfl) (pe_slice sl_str (pv 1) (po_some (pv 2)) (po_some (pv 3))))
      (pss_cons (ps_set (i := 5) scMat.nd rfl (.inl rfl) (pe_ifExp (pt_cmpR (op_neD hu) (pe_fld (pv 0) rfl) (pe_tup pa_nil) (nomark _)) (pe_call (ok_no (k := 0) (g := ff) (gd := ffd) (ps := ["tree", "word"])) (hr.mono (by decide)) (by rfl) T.fc.g T.fc.F.kp T.fc.b .nil pass0 (pa_cons (pe_fld (pv 0) rfl) (pa_cons (pv 4) pa_nil))) pe_dnewK))
      (pss_cons (ps_setDc (i := 6) (own := [("name", 7)]) (g := gName 7) (tt := tYes) (tk := tVar 7) (tv := tC .non) rfl scMat.nd rfl rfl (by rfl) (pi_tup (pe_fld (pv 0) rfl)) (blkOk_by (N := NMat) (sc := defScope sMat) (by decide +kernel))
          (fun _ _ _ _ _ => pg_name (i := 7) scMat.nd rfl (Or.inl rfl)) (fun _ _ _ _ _ => pts_nil) (fun _ _ _ _ _ => pv 7) (fun _ _ _ _ _ => pe_non))
      (pss_cons (ps_lock (ps_expr (pe_bm PySem.F.plainAttrs_dict PySem.F.slot_dict_update PySem.F.type_dict_update mt_update (pv 6) (pa_cons (pe_dc (own := [("name", 7), ("first", 8), ("behind", 9)]) (g := gTup K 2 (gCons (gName 7) (gCons (gTup K 2 (gCons (gName 8) (gCons (gName 9) gNil))) gNil))) (tt := tYes) (tk := tVar 7) rfl scMat.nd (pi_items (pv 5)) (blkOk_by (N := NMat) (sc := defScope sMat) (by decide +kernel))
          (fun _ _ _ _ _ => pg_tup rfl (pgs_cons (pg_name (i := 7) scMat.nd rfl (Or.inl rfl)) (pgs_cons (pg_tup rfl (pgs_cons (pg_name (i := 8) scMat.nd rfl (Or.inl rfl)) (pgs_cons (pg_name (i := 9) scMat.nd rfl (Or.inl rfl)) pgs_nil))) pgs_nil))) (fun _ _ _ _ _ => pts_nil) (fun _ _ _ _ _ => pv 7)
          (fun _ _ _ _ _ => pe_tup (pa_cons (pe_op op_add (pv 2) (pv 8)) (pa_cons (pe_op op_add (pv 2) (pv 9)) pa_nil)))) pa_nil))))
      (pss_one (ps_ret (pe_make T.mkC GI (hr.mono (by decide)) rfl T.gC T.mI.b .nil pass0 (pa_cons (pv 2) (pa_cons (pv 4) (pa_cons (pv 6) pa_nil))))))))), ?_⟩
    have hXl : (tx X).length = X.length := tx_len X
    have hXs : (tx X).length ≤ sizeLine := by
      rw [hXl]
      exact Nat.le_trans hX (by decide)
    obtain ⟨dx, tv, na, pl, fi, la, be, e1, _, e2, _⟩ := id po.1
    rw [hnm] at e2
    refine ⟨_, rfl, _, rfl, (s : Int), rfl, _, rfl, (e : Int), rfl, tx X, rfl, hXs, ?_⟩
    rw [cut_sub]
    have hpc : (X.drop s).take (e - s) = pc X s e := by
      unfold pc
      rw [List.drop_take]
    rw [hpc]
    refine ⟨_, rfl, p.x, C, dx, _, _, rfl, e1, TP.cl, TP.n5, pf9_nm, Nat.zero_le _, fun q_ hq_ => ?_⟩
    have s1 := smU (o := HO.tup []) hq_
    refine ⟨.tuple [], .tuple [], .tup (.inl (.inl (s1 _ _ e2))) .nil, .tup (.inl (.inl upd_same)) .nil, rfl, rfl, _, rfl, iteF ?_⟩
    generalize upd H q_ (.tup []) = H1 at s1 ⊢
    intro R5 hR5
    have s2 := s1.trans (smU (o := HO.dK []) hR5)
    have eR : upd H1 R5 (.dK []) R5 = some (.dK []) := upd_same
    generalize upd H1 R5 (.dK []) = H2 at s2 eR ⊢
    refine ⟨_, rfl, p.x, C, dx, _, _, rfl, s2 _ _ e1, TP.cl, TP.n5, pf9_nm, na, rfl, ⟨_, .inl (.inl (s2 _ _ e2))⟩, fun D hD => ?_⟩
    have s3 := s2.trans (smU (o := HO.dK []) hD)
    have nDR : D ≠ R5 := fun z => by rw [z, eR] at hD; cases hD
    refine it_gen (walk_tup (K := K) (a := na) (xs := [])) (fun i H3 => H3 = upd H2 D (.dK [])) rfl (fun i H3 _ hP => by rw [hP]; exact .inl (.inl (s3 _ _ e2))) (fun i x H3 H3' hi hP hy => absurd hi (Nat.not_lt_zero _)) (fun H3 hP => ?_)
    subst hP
    have eR3 : upd H2 D (.dK []) R5 = some (.dK []) := (upd_ne nDR.symm).trans eR
    have eD3 : upd H2 D (.dK []) D = some (.dK []) := upd_same
    generalize upd H2 D (.dK []) = H3 at s3 eR3 eD3 ⊢
    refine ⟨R5, .dK [], eR3, True.intro, fun od => ?_⟩
    refine ⟨.ref D, rfl, Or.inr (.inr (.inl ⟨rfl, .inl ⟨_, (upd_ne nDR).trans eD3⟩⟩)), ?_⟩
    refine ⟨_, rfl, R5, od, [], rfl, upd_same, fun D' hD' => ?_⟩
    have n1 : D' ≠ R5 := fun z => by rw [z, upd_same] at hD'; cases hD'
    have n2 : D' ≠ D := fun z => by rw [z, upd_ne nDR, eD3] at hD'; cases hD'
    have n3 : H3 D' = none := by rw [upd_ne n1] at hD'; exact hD'
    refine it_gen (walk_items (d := R5) (o := od) (kvs := [])) (fun i H4 => H4 = upd (upd H3 R5 (.frz od (.dK []))) D' (.dK [])) rfl (fun i H4 _ hP => by rw [hP]; exact (upd_ne n1.symm).trans upd_same) (fun i x H4 H4' hi hP hy => absurd hi (Nat.not_lt_zero _)) (fun H4 hP => ?_)
    subst hP
    refine ⟨D, D', [], [], rfl, rfl, (upd_ne n2.symm).trans ((upd_ne nDR).trans eD3), upd_same, n2.symm, Nat.zero_le _, (upd_ne nDR.symm).trans ((upd_ne n1.symm).trans upd_same), ?_⟩
    have s4 : Same H (upd (upd (upd (upd H3 R5 (.frz od (.dK []))) D' (.dK [])) D (.dK (mergeK [] []))) R5 (.dK [])) := fun b o hb => by
      have c1 : b ≠ R5 := fun z => by rw [z] at hb; rw [s1 _ _ hb] at hR5; cases hR5
      have c2 : b ≠ D := fun z => by rw [z] at hb; rw [s2 _ _ hb] at hD; cases hD
      have c3 : b ≠ D' := fun z => by rw [z] at hb; rw [s3 _ _ hb] at n3; cases n3
      rw [upd_ne c1, upd_ne c2, upd_ne c3, upd_ne c1]
      exact s3 _ _ hb
    have eD4 : upd (upd (upd (upd H3 R5 (.frz od (.dK []))) D' (.dK [])) D (.dK (mergeK [] []))) R5 (.dK []) D = some (.dK []) := (upd_ne nDR).trans upd_same
    generalize upd (upd (upd (upd H3 R5 (.frz od (.dK []))) D' (.dK [])) D (.dK (mergeK [] []))) R5 (.dK []) = H5 at s4 eD4 ⊢
    refine ⟨_, rfl, _, rfl, _, rfl, fun x dx hx hdx ne => ?_⟩
    refine ⟨x, dx, s, pc X s e, D, rfl, upd_same, fun H6 ex s6 => ?_⟩
    have s7 : ∀ b o, H5 b = some o → H6 b = some o := fun b o hb => by
      have c1 : b ≠ x := fun z => by rw [z, hx] at hb; cases hb
      have c2 : b ≠ dx := fun z => by rw [z, hdx] at hb; cases hb
      exact s6 b o c1 (by rw [upd_ne c1, upd_ne c2]; exact hb)
    exact ⟨rfl, fin _ _ (fun b o hb => s7 _ _ (s4 _ _ hb)) ⟨x, dx, D, [], rfl, ex, s7 _ _ eD4, SpO.nil⟩ ⟨x, rfl, by
      cases hz : H x with
      | none => rfl
      | some o => rw [s4 _ _ hz] at hx; cases hx⟩⟩
end
end Sq
/-! A generator that sleeps stays as it is while other code runs that was shown for any table of generators: where a sleeping generator is replaced by one that cannot go on, the code runs all the same, so it never woke it. -/
namespace Gz
open PySem PySem.Spec PyProof.Rows L2
/-- it looks the same and cannot be woken -/
def stuck : GenState → GenState
  | .suspended _ l c p fs cl => .suspended (fun _ => .unsupported "") l c p fs cl
  | x => x
def sleeping : GenState → Bool
  | .suspended .. => true
  | _ => false
/-- its frames hold no other generator -/
def plainG : GenState → Prop
  | .suspended _ _ _ _ fs _ => splitAtGen fs = none
  | _ => True
theorem stuck_seen (x : GenState) : (stuck x).seen = x.seen := by cases x <;> rfl
theorem stuck_bare (x : GenState) : (stuck x).bare = x.bare := by cases x <;> rfl

abbrev Real := Nat → Option GenState
def thaw (r : Real) (G : Array GenState) : Array GenState := G.mapIdx fun i x => (r i).getD x
theorem thaw_size (r : Real) (G : Array GenState) : (thaw r G).size = G.size := by simp [thaw]
theorem thaw_get (r : Real) (G : Array GenState) (i : Nat) : (thaw r G)[i]? = G[i]?.map fun x => (r i).getD x := by
  simp [thaw]
/-- s with what really sleeps -/
def th (r : Real) (s : Shared) : Shared := { s with gens := thaw r s.gens }
structure Okg (r : Real) (G : Array GenState) : Prop where
  frz : ∀ (i : Nat) (x : GenState), r i = some x → G[i]? = some (stuck x) ∧ sleeping x = true
  pln : ∀ (i : Nat) (x : GenState), r i = none → G[i]? = some x → plainG x

theorem Okg.lt {r : Real} {G : Array GenState} (k : Okg r G) {i : Nat} (h : G.size ≤ i) : r i = none := by
  cases e : r i with
  | none => rfl
  | some x =>
    have := (k.frz i x e).1
    rw [Array.getElem?_eq_none h] at this
    cases this
theorem Okg.set {r : Real} {G : Array GenState} {g : Nat} {x : GenState} (k : Okg r G) (hg : r g = none) (hx : plainG x) : Okg r (G.setIfInBounds g x) where
  frz := fun i y e => by
    have hi : g ≠ i := fun z => by rw [z, e] at hg; cases hg
    rw [Array.getElem?_setIfInBounds_ne hi]
    exact k.frz i y e
  pln := fun i y e h => by
    by_cases hi : g = i
    · subst hi
      rw [Array.getElem?_setIfInBounds_self] at h
      split at h
      · cases h; exact hx
      · cases h
    · rw [Array.getElem?_setIfInBounds_ne hi] at h
      exact k.pln i y e h
theorem Okg.push {r : Real} {G : Array GenState} {x : GenState} (k : Okg r G) (hx : plainG x) : Okg r (G.push x) where
  frz := fun i y e => by
    obtain ⟨h1, h2⟩ := k.frz i y e
    refine ⟨?_, h2⟩
    obtain ⟨hi, _⟩ := Array.getElem?_eq_some_iff.mp h1
    rw [Array.getElem?_push_lt hi, ← Array.getElem?_eq_getElem hi]
    exact h1
  pln := fun i y e h => by
    by_cases hi : i < G.size
    · rw [Array.getElem?_push_lt hi, ← Array.getElem?_eq_getElem hi] at h
      exact k.pln i y e h
    · by_cases hj : i = G.size
      · subst hj
        rw [Array.getElem?_push_size] at h
        cases h
        exact hx
      · rw [Array.getElem?_eq_none (by rw [Array.size_push]; omega)] at h
        cases h
theorem thaw_set {r : Real} {G : Array GenState} {g : Nat} {x : GenState} (hg : r g = none) : thaw r (G.setIfInBounds g x) = (thaw r G).setIfInBounds g x := by
  apply Array.ext_getElem?
  intro i
  rw [thaw_get]
  by_cases hi : g = i
  · subst hi
    rw [Array.getElem?_setIfInBounds_self, Array.getElem?_setIfInBounds_self, thaw_size]
    split <;> simp [hg]
  · rw [Array.getElem?_setIfInBounds_ne hi, Array.getElem?_setIfInBounds_ne hi, thaw_get]
theorem thaw_push {r : Real} {G : Array GenState} {x : GenState} (hg : r G.size = none) : thaw r (G.push x) = (thaw r G).push x := by
  simp [thaw, Array.mapIdx_push, hg]
theorem th_set {r : Real} {s : Shared} {g : Nat} {x : GenState} (hg : r g = none) : th r (s.setGen g x) = (th r s).setGen g x := by
  unfold th Shared.setGen
  rw [thaw_set hg]
theorem th_seen {r : Real} {s : Shared} {g : Nat} {x : GenState} (k : Okg r s.gens) (h : s.gens[g]? = some x) : ∃ y, (th r s).gens[g]? = some y ∧ y.seen = x.seen := by
  show ∃ y, (thaw r s.gens)[g]? = some y ∧ _
  rw [thaw_get, h]
  refine ⟨_, rfl, ?_⟩
  cases e : r g with
  | none => rfl
  | some z =>
    have := (k.frz g z e).1
    rw [h] at this
    cases this
    exact (stuck_seen z).symm
theorem th_get {r : Real} {s : Shared} {g : Nat} {x : GenState} (hg : r g = none) (h : s.gens[g]? = some x) : (th r s).gens[g]? = some x := by
  show (thaw r s.gens)[g]? = some x
  rw [thaw_get, h, hg]
  rfl
/-- what is no sleeping state is no frozen one -/
theorem Okg.awake {r : Real} {G : Array GenState} {g : Nat} {x : GenState} (k : Okg r G) (h : G[g]? = some x) (hs : sleeping x = false) : r g = none := by
  cases e : r g with
  | none => rfl
  | some z =>
    obtain ⟨h1, h2⟩ := k.frz g z e
    rw [h] at h1
    cases h1
    cases z with
    | suspended => exact absurd hs (by simp [stuck, sleeping])
    | _ => cases h2

theorem no_runs {M : Model} {what : String} : ∀ {Γ : PySem.Ctx} {p : Pos} {fs : List Frame} {s s' : Shared} {e : End}, ¬ Runs M Γ p (.unsupported what) fs s e s' := by
  have h0 : ∀ {Γ : PySem.Ctx} {p : Pos} {s s' : Shared} {e : End}, ¬ Runs M Γ p (.unsupported what) [] s e s' := fun h => by cases h
  intro Γ p fs s s' e h
  cases h <;> first | (rename_i a b; exact h0 a) | (rename_i a; exact h0 a) | skip
  all_goals (first | exact h0 ‹_›)

/-- the frames that a run leaves behind hold no generator -/
def plainE : End → Prop
  | .ret _ => True
  | .susp _ _ _ _ _ _ fs => splitAtGen fs = none
theorem plainE_state {e : End} (h : plainE e) : plainG e.genState := by
  cases e with
  | ret r => trivial
  | susp v g l k c p fs => exact h
theorem split_ret {k h g l c p kp} {fs : List Frame} (hs : splitAtGen (.ret k h g l c p kp :: fs) = none) : splitAtGen fs = none := by
  rw [splitAtGen_ret] at hs
  cases e : splitAtGen fs with
  | none => rfl
  | some x => rw [e] at hs; cases hs
theorem split_cat {a b : List Frame} (ha : splitAtGen a = none) (hb : splitAtGen b = none) : splitAtGen (a ++ b) = none := by
  rw [splitAtGen_append_none b ha, hb]
  rfl

theorem runs_thaw {M : Model} {r : Real} {Γ : PySem.Ctx} {p : Pos} {t : Sem PySem.Fin} {fs : List Frame} {s s' : Shared} {e : End} (h : Runs M Γ p t fs s e s') :
    splitAtGen fs = none → Okg r s.gens → Runs M Γ p t fs (th r s) e (th r s') ∧ Okg r s'.gens ∧ plainE e := by
  induction h with
  | done => intro _ k; exact ⟨.done, k, trivial⟩
  | raise => intro _ k; exact ⟨.raise, k, trivial⟩
  | again hq _ ih => intro hf k; obtain ⟨a, b, c⟩ := ih hf k; exact ⟨.again hq a, b, c⟩
  | rule _ ih => intro hf k; obtain ⟨a, b, c⟩ := ih hf k; exact ⟨.rule a, b, c⟩
  | «at» _ ih => intro hf k; obtain ⟨a, b, c⟩ := ih hf k; exact ⟨.at a, b, c⟩
  | load ho _ ih => intro hf k; obtain ⟨a, b, c⟩ := ih hf k; exact ⟨.load ho a, b, c⟩
  | update ha _ ih => intro hf k; obtain ⟨a, b, c⟩ := ih hf k; exact ⟨.update ha a, b, c⟩
  | loadIfAlive _ ih => intro hf k; obtain ⟨a, b, c⟩ := ih hf k; exact ⟨.loadIfAlive a, b, c⟩
  | point _ ih => intro hf k; obtain ⟨a, b, c⟩ := ih hf k; exact ⟨.point a, b, c⟩
  | alloc _ ih => intro hf k; obtain ⟨a, b, c⟩ := ih hf k; exact ⟨.alloc a, b, c⟩
  | fresh _ ih => intro hf k; obtain ⟨a, b, c⟩ := ih hf k; exact ⟨.fresh a, b, c⟩
  | ask _ ih => intro hf k; obtain ⟨a, b, c⟩ := ih hf k; exact ⟨.ask a, b, c⟩
  | choose hn _ ih => intro hf k; obtain ⟨a, b, c⟩ := ih hf k; exact ⟨.choose hn a, b, c⟩
  | os _ ih => intro hf k; obtain ⟨a, b, c⟩ := ih hf k; exact ⟨.os a, b, c⟩
  | handled _ ih => intro hf k; obtain ⟨a, b, c⟩ := ih hf k; exact ⟨.handled a, b, c⟩
  | genState hg _ ih =>
    intro hf k
    obtain ⟨a, b, c⟩ := ih hf k
    obtain ⟨y, hy, hs⟩ := th_seen k hg
    exact ⟨.genState hy (by rw [hs]; exact a), b, c⟩
  | stack _ ih => intro hf k; obtain ⟨a, b, c⟩ := ih hf k; exact ⟨.stack a, b, c⟩
  | thread _ ih => intro hf k; obtain ⟨a, b, c⟩ := ih hf k; exact ⟨.thread a, b, c⟩
  | @newGen Γ p k s c e s' _ ih =>
    intro hf kk
    obtain ⟨a, b, c⟩ := ih hf (kk.push trivial)
    refine ⟨.newGen ?_, b, c⟩
    have e1 : (th r s).gens.size = s.gens.size := thaw_size _ _
    have e2 : th r { s with gens := s.gens.push (.fresh ‹Code›) } = { th r s with gens := (th r s).gens.push (.fresh ‹Code›) } := by
      unfold th
      rw [thaw_push (kk.lt (Nat.le_refl _))]
    rw [e1, ← e2]
    exact a
  | call _ _ ih1 ih2 =>
    intro hf k
    obtain ⟨a, b, _⟩ := ih1 rfl k
    obtain ⟨a2, b2, c2⟩ := ih2 hf b
    exact ⟨.call a a2, b2, c2⟩
  | callSusp _ ih =>
    intro hf k
    obtain ⟨a, b, c⟩ := ih rfl k
    exact ⟨.callSusp a, b, split_cat c rfl⟩
  | yield => intro _ k; exact ⟨.yield, k, rfl⟩
  | resumeFresh hg _ hq _ ih1 ih2 =>
    intro hf k
    have hn := k.awake hg rfl
    obtain ⟨a, b, c⟩ := ih1 rfl (k.set hn trivial)
    obtain ⟨a2, b2, c2⟩ := ih2 hf (b.set hn (plainE_state c))
    rw [th_set hn] at a a2
    exact ⟨.resumeFresh (th_get hn hg) a hq a2, b2, c2⟩
  | @resumeSuspended Γ p g rr l k s k₀ l₀ c₀ p₀ fs cl e₁ s₁ e s' hg hrun hq _ ih1 ih2 =>
    intro hf kk
    cases hn : r g with
    | some z =>
      obtain ⟨h1, h2⟩ := kk.frz g z hn
      rw [hg] at h1
      cases z with
      | suspended k1 l1 c1 p1 fs1 cl1 =>
        have e1 : k₀ = fun _ => .unsupported "" := by
          have := Option.some.inj h1
          unfold stuck at this
          injection this
        subst e1
        exact (no_runs hrun).elim
      | _ => cases h2
    | none =>
      obtain ⟨a, b, c⟩ := ih1 (kk.pln g _ hn hg) (kk.set hn trivial)
      obtain ⟨a2, b2, c2⟩ := ih2 hf (b.set hn (plainE_state c))
      rw [th_set hn] at a a2
      exact ⟨.resumeSuspended (th_get hn hg) a hq a2, b2, c2⟩
  | resumeJustStarted hg hv _ ih =>
    intro hf k
    obtain ⟨a, b, c⟩ := ih hf k
    exact ⟨.resumeJustStarted (th_get (k.awake hg rfl) hg) hv a, b, c⟩
  | resumeThrowFresh hg _ ih =>
    intro hf k
    have hn := k.awake hg rfl
    obtain ⟨a, b, c⟩ := ih hf (k.set hn trivial)
    rw [th_set hn] at a
    exact ⟨.resumeThrowFresh (th_get hn hg) a, b, c⟩
  | resumeRunning hg _ ih => intro hf k; obtain ⟨a, b, c⟩ := ih hf k; exact ⟨.resumeRunning (th_get (k.awake hg rfl) hg) a, b, c⟩
  | resumeFinished hg _ ih => intro hf k; obtain ⟨a, b, c⟩ := ih hf k; exact ⟨.resumeFinished (th_get (k.awake hg rfl) hg) a, b, c⟩
  | segRet _ _ ih1 ih2 =>
    intro hf k
    obtain ⟨a, b, _⟩ := ih1 rfl k
    obtain ⟨a2, b2, c2⟩ := ih2 (split_ret hf) b
    exact ⟨.segRet a a2, b2, c2⟩
  | segGen _ _ _ _ => intro hf _; cases hf
  | segSuspOut hs _ ih =>
    intro hf k
    obtain ⟨a, b, c⟩ := ih rfl k
    exact ⟨.segSuspOut hs a, b, split_cat c hs⟩
  | segSuspGen hs _ _ _ _ _ => intro hf _; rw [hs] at hf; cases hf

theorem wakes_thaw {M : Model} {r : Real} {Γ : PySem.Ctx} {p : Pos} {g : Nat} {rs : Resume} {s s' : Shared} {res : GenResult} (h : Wakes M Γ p g rs s res s') (k : Okg r s.gens) :
    Wakes M Γ p g rs (th r s) res (th r s') ∧ Okg r s'.gens := by
  unfold Wakes at h ⊢
  cases hg : s.gens[g]? with
  | none => rw [hg] at h; exact h.elim
  | some x =>
    rw [hg] at h
    have frozen : r g = none ∨ ∃ z, r g = some z := by cases r g with | none => exact .inl rfl | some z => exact .inr ⟨z, rfl⟩
    rcases frozen with hn | ⟨z, hz⟩
    · rw [th_get hn hg]
      cases x with
      | fresh c =>
        cases rs with
        | send v =>
          cases v with
          | none =>
            obtain ⟨e₁, s₁, hr, hq, h1, rfl⟩ := h
            obtain ⟨a, b, c⟩ := runs_thaw hr rfl (k.set hn trivial)
            refine ⟨⟨e₁, th r s₁, by rw [← th_set hn]; exact a, hq, h1, th_set hn⟩, b.set hn (plainE_state c)⟩
          | _ => obtain ⟨h1, rfl⟩ := h; exact ⟨⟨h1, rfl⟩, k⟩
        | throw v => obtain ⟨h1, rfl⟩ := h; exact ⟨⟨h1, th_set hn⟩, k.set hn trivial⟩
      | suspended k₀ l₀ c₀ p₀ fs cl =>
        obtain ⟨e₁, s₁, hr, hq, h1, rfl⟩ := h
        obtain ⟨a, b, c⟩ := runs_thaw hr (k.pln g _ hn hg) (k.set hn trivial)
        refine ⟨⟨e₁, th r s₁, by rw [← th_set hn]; exact a, hq, h1, th_set hn⟩, b.set hn (plainE_state c)⟩
      | running => obtain ⟨h1, rfl⟩ := h; exact ⟨⟨h1, rfl⟩, k⟩
      | finished => obtain ⟨h1, rfl⟩ := h; exact ⟨⟨h1, rfl⟩, k⟩
    · obtain ⟨h1, h2⟩ := k.frz g z hz
      rw [hg] at h1
      cases z with
      | suspended k1 l1 c1 p1 fs1 cl1 =>
        have e1 : x = .suspended (fun _ => .unsupported "") l1 c1 p1 fs1 cl1 := Option.some.inj h1
        subst e1
        obtain ⟨e₁, s₁, hr, _⟩ := h
        exact (no_runs hr).elim
      | _ => cases h2

theorem wp_thaw {α : Type} {M : Model} {r : Real} {Γ : PySem.Ctx} (t : Sem α) : ∀ {Q : α → Pos → Shared → Prop} {E : Value → Pos → Shared → Prop} {p : Pos} {s : Shared}, Okg r s.gens → Sem.wp M Γ t Q E p s →
    Sem.wp M Γ t (fun a p' s' => ∃ s₁, s' = th r s₁ ∧ Okg r s₁.gens ∧ Q a p' s₁) (fun e p' s' => ∃ s₁, s' = th r s₁ ∧ Okg r s₁.gens ∧ E e p' s₁) p (th r s) := by
  induction t with
  | pure a => intro Q E p s k h; exact ⟨s, rfl, k, h⟩
  | raise e => intro Q E p s k h; exact ⟨s, rfl, k, h⟩
  | unsupported _ => intro Q E p s _ h; exact h.elim
  | finish _ => intro Q E p s _ h; exact h.elim
  | rule _ k ih => intro Q E p s kk h; exact ih () kk h
  | «at» p' k ih => intro Q E p s kk h; exact ih () kk h
  | load a _ k ih => intro Q E p s kk h; obtain ⟨o, ho, h⟩ := h; exact ⟨o, ho, ih o kk h⟩
  | update a _ f k ih => intro Q E p s kk h; exact ⟨h.1, ih () (s := { s with heap := s.heap.update a f }) kk h.2⟩
  | loadIfAlive a k ih => intro Q E p s kk h; exact ih _ kk h
  | point _ k ih => intro Q E p s kk h; exact ih () kk h
  | register _ _ => intro Q E p s _ h; exact h.elim
  | alloc o k ih => intro Q E p s kk h; exact ih _ (s := { s with heap := s.heap.push o }) kk h
  | fresh k ih => intro Q E p s kk h; exact ih _ (s := { s with toks := s.toks + 1 }) kk h
  | ask k ih => intro Q E p s kk h; exact ih _ kk h
  | choose src m k ih => intro Q E p s kk h; exact ⟨h.1, ih _ (s := { s with drawn := s.drawn.bump src }) kk h.2⟩
  | os q _ k ih => intro Q E p s kk h; exact ih _ (s := { s with os := (Os.step s.os q).1 }) kk h
  | call c hd _ _ k ih =>
    intro Q E p s kk h
    obtain ⟨rr, s', hr, h⟩ := h
    obtain ⟨a, b, _⟩ := runs_thaw hr rfl kk
    exact ⟨rr, th r s', a, ih rr b h⟩
  | handled own k ih => intro Q E p s kk h; exact ih _ kk h
  | genState g k ih =>
    intro Q E p s kk h
    obtain ⟨st, hs, h⟩ := h
    obtain ⟨y, hy, he⟩ := th_seen kk hs
    exact ⟨y, hy, by rw [he]; exact ih _ kk h⟩
  | newGen c k ih =>
    intro Q E p s kk h
    have e1 : (th r s).gens.size = s.gens.size := thaw_size _ _
    have e2 : th r { s with gens := s.gens.push (.fresh c) } = { th r s with gens := (th r s).gens.push (.fresh c) } := by
      unfold th
      rw [thaw_push (kk.lt (Nat.le_refl _))]
    show Sem.wp M Γ (k (th r s).gens.size) _ _ p { th r s with gens := (th r s).gens.push (.fresh c) }
    rw [e1, ← e2]
    exact ih _ (s := { s with gens := s.gens.push (.fresh c) }) (kk.push trivial) h
  | resume g rs _ k ih =>
    intro Q E p s kk h
    obtain ⟨res, s', hw, h⟩ := h
    obtain ⟨a, b⟩ := wakes_thaw hw kk
    exact ⟨res, th r s', a, ih res b h⟩
  | yield _ _ _ _ => intro Q E p s _ h; exact h.elim
  | stack k ih => intro Q E p s kk h; exact ih _ kk h
  | fork _ _ => intro Q E p s _ h; exact h.elim
  | thread k ih => intro Q E p s kk h; exact ih _ kk h
  | await _ _ _ _ _ => intro Q E p s _ h; exact h.elim

/-- s' is s where what really sleeps is laid in the place of what cannot be woken; gs is what sleeps at g -/
def Thawed (g : Nat) (gs : GenState) (s s' : Shared) : Prop := ∃ r : Real, Okg r s.gens ∧ r g = some gs ∧ s' = th r s
section
variable {g : Nat} {gs : GenState} {s s' : Shared}
theorem Thawed.heap (x : Thawed g gs s s') : s'.heap = s.heap := by
  obtain ⟨r, _, _, rfl⟩ := x
  rfl
theorem Thawed.as (x : Thawed g gs s s') : s' = { s with gens := s'.gens } := by
  obtain ⟨r, _, _, rfl⟩ := x
  rfl
theorem Thawed.os (x : Thawed g gs s s') : s'.os = s.os := by
  obtain ⟨r, _, _, rfl⟩ := x
  rfl
theorem Thawed.at (x : Thawed g gs s s') : s'.gens[g]? = some gs := by
  obtain ⟨r, k, rg, rfl⟩ := x
  show (thaw r s.gens)[g]? = some gs
  rw [thaw_get, (k.frz g gs rg).1, rg]
  rfl
theorem Thawed.bare (x : Thawed g gs s s') (hb : AllBare s.gens) : AllBare s'.gens := by
  obtain ⟨r, k, _, rfl⟩ := x
  intro y hy
  obtain ⟨i, hi, e⟩ := Array.mem_iff_getElem.mp hy
  have h1 : (thaw r s.gens)[i]? = some y := by rw [← e]; exact Array.getElem?_eq_getElem hi
  rw [thaw_get] at h1
  cases h2 : s.gens[i]? with
  | none => rw [h2] at h1; cases h1
  | some x =>
    rw [h2] at h1
    have hx := hb x (Array.mem_of_getElem? h2)
    simp only [Option.map_some, Option.some.injEq] at h1
    rw [← h1]
    cases e3 : r i with
    | none => exact hx
    | some z =>
      have := (k.frz i z e3).1
      rw [h2] at this
      cases this
      rw [stuck_bare] at hx
      exact hx
theorem Thawed.inv {X : Cx} {pins : List (Addr × Obj)} {σ : L2.St} {H : Hp} (x : Thawed g gs s s') (I : Inv X pins σ H s) : Inv X pins σ H s' := by
  have hb := x.bare I.bare
  rw [x.as]
  exact ⟨I.ok, I.os, hb, I.base, I.loc, I.cell, I.free, I.freeC, I.pin, I.hok, I.len⟩
/-- what runs well from s runs well from s' -/
theorem Thawed.run {α : Type} {M : Model} {A : Around} {t : Sem α} {Q : α → Shared → Prop} {E : Value → Shared → Prop} (x : Thawed g gs s s') (h : wpAny M A t Q E s) :
    wpAny M A t (fun a z' => ∃ z, Thawed g gs z z' ∧ Q a z) (fun e z' => ∃ z, Thawed g gs z z' ∧ E e z) s' := by
  obtain ⟨r, k, rg, rfl⟩ := x
  intro Γ p hΓ
  refine Sem.wp_mono M Γ t (fun a p' z hq => ?_) (fun a p' z hq => ?_) p _ (wp_thaw (r := r) t k (h Γ p hΓ))
  · obtain ⟨s₁, rfl, k', q⟩ := hq
    exact ⟨s₁, ⟨r, k', rg, rfl⟩, q⟩
  · obtain ⟨s₁, rfl, k', q⟩ := hq
    exact ⟨s₁, ⟨r, k', rg, rfl⟩, q⟩
end
/-- where a generator sleeps at g, s is thawed -/
theorem thawed_of {g : Nat} {gs : GenState} {s : Shared} (hg : s.gens[g]? = some gs) (hs : sleeping gs = true) (hb : AllBare s.gens) : ∃ G, AllBare G ∧ Thawed g gs { s with gens := G } s := by
  classical
  let r : Real := fun i => match s.gens[i]? with
    | some x => if i = g ∨ ¬ plainG x then some x else none
    | none => none
  let G : Array GenState := s.gens.mapIdx fun i x => if i = g ∨ ¬ plainG x then stuck x else x
  have hG : ∀ i, G[i]? = s.gens[i]?.map fun x => if i = g ∨ ¬ plainG x then stuck x else x := fun i => by simp [G]
  have slp : ∀ x, ¬ plainG x → sleeping x = true := fun x hx => by cases x <;> first | rfl | exact (hx trivial).elim
  have ok : Okg r G := by
    refine ⟨fun i x e => ?_, fun i x e hx => ?_⟩
    · have e : (match s.gens[i]? with | some x => if i = g ∨ ¬ plainG x then some x else none | none => none) = some x := e
      cases h1 : s.gens[i]? with
      | none => rw [h1] at e; cases e
      | some y =>
        rw [h1] at e
        by_cases hc : i = g ∨ ¬ plainG y
        · have e : (if i = g ∨ ¬ plainG y then some y else none) = some x := e
          rw [if_pos hc] at e
          cases e
          refine ⟨by rw [hG, h1]; simp only [Option.map_some, if_pos hc], ?_⟩
          rcases hc with z | z
          · subst z
            rw [hg] at h1
            cases h1
            exact hs
          · exact slp _ z
        · have e : (if i = g ∨ ¬ plainG y then some y else none) = some x := e
          rw [if_neg hc] at e
          cases e
    · have e : (match s.gens[i]? with | some x => if i = g ∨ ¬ plainG x then some x else none | none => none) = none := e
      rw [hG] at hx
      cases h1 : s.gens[i]? with
      | none => rw [h1] at hx; cases hx
      | some y =>
        rw [h1] at e hx
        by_cases hc : i = g ∨ ¬ plainG y
        · have e : (if i = g ∨ ¬ plainG y then some y else none) = none := e
          rw [if_pos hc] at e
          cases e
        · simp only [Option.map_some, if_neg hc, Option.some.injEq] at hx
          subst hx
          exact Classical.not_not.mp fun z => hc (.inr z)
  have bareG : AllBare G := by
    intro y hy
    obtain ⟨i, hi, e⟩ := Array.mem_iff_getElem.mp hy
    have h1 := hG i
    rw [Array.getElem?_eq_getElem hi, e] at h1
    cases h2 : s.gens[i]? with
    | none => rw [h2] at h1; cases h1
    | some x =>
      rw [h2] at h1
      have hx := hb x (Array.mem_of_getElem? h2)
      simp only [Option.map_some, Option.some.injEq] at h1
      rw [h1]
      split
      · rw [stuck_bare]; exact hx
      · exact hx
  have back : thaw r G = s.gens := by
    apply Array.ext_getElem?
    intro i
    rw [thaw_get, hG]
    cases h1 : s.gens[i]? with
    | none => rfl
    | some x =>
      have e : r i = if i = g ∨ ¬ plainG x then some x else none := by
        show (match s.gens[i]? with | some x => if i = g ∨ ¬ plainG x then some x else none | none => none) = _
        rw [h1]
      rw [e]
      by_cases hc : i = g ∨ ¬ plainG x
      · simp [if_pos hc]
      · simp [if_neg hc]
  have rg : r g = some gs := by
    show (match s.gens[g]? with | some x => if g = g ∨ ¬ plainG x then some x else none | none => none) = _
    rw [hg]
    exact if_pos (.inl rfl)
  refine ⟨G, bareG, r, ok, rg, ?_⟩
  unfold th
  rw [back]
/-- THE RULE: code that runs well whatever generators there are leaves the sleeping one at g as it is -/
theorem wpAny_asleep {α : Type} {M : Model} {A : Around} {t : Sem α} {Q : α → Shared → Prop} {E : Value → Shared → Prop} {s : Shared} {g : Nat} {gs : GenState} (hg : s.gens[g]? = some gs) (hs : sleeping gs = true) (hb : AllBare s.gens)
    (h : ∀ G, AllBare G → wpAny M A t Q E { s with gens := G }) : wpAny M A t (fun a z' => ∃ z, Thawed g gs z z' ∧ Q a z) (fun e z' => ∃ z, Thawed g gs z z' ∧ E e z) s := by
  obtain ⟨G, hG, x⟩ := thawed_of hg hs hb
  exact x.run (h G hG)
/-- an exception's wish that does not look at sleeping generators -/
def Thawy (X : Cx) : Prop := ∀ g gs e s s', Thawed g gs s s' → X.xe e s → X.xe e s'
theorem Thawy.never {X : Cx} (h : ∀ e s, ¬ X.xe e s) : Thawy X := fun _ _ e s _ _ q => (h e s q).elim
theorem Thawy.leaving {X : Cx} {K : Value → Shared → Prop} (hx : X.xe = fun e s' => wpAny (model X.prog X.w) X.A (PySem.leaving X.env e) (fun _ s'' => K e s'') (fun _ _ => False) s') (hK : ∀ g gs e s s', Thawed g gs s s' → K e s → K e s') : Thawy X := by
  intro g gs e s s' x q
  rw [hx] at q ⊢
  refine wpAny_mono (x.run q) (fun _ z hz => ?_) fun _ z hz => ?_
  · obtain ⟨z1, y, k⟩ := hz
    exact hK g gs e z1 z y k
  · obtain ⟨_, _, k⟩ := hz
    exact k
theorem thawy_CX {P : Program} {w : World} {outer : List Env} {H : Hp} {s0 : Shared} {E : XK} {g : Nat} {gs : GenState} {e : Value} {s s' : Shared} (x : Thawed g gs s s') (c : CX P w outer H s0 E e s) : CX P w outer H s0 E e s' := by
  obtain ⟨a, B, H', cls, d, h1, h2, h3, h4, h5, h6, h7, h8⟩ := c
  exact ⟨a, B, H', cls, d, h1, by rw [x.heap]; exact h2, h3, by rw [x.heap]; exact h4, h5, x.os.trans h6, x.bare h7, h8⟩
end Gz
set_option maxHeartbeats 1000000
/-! The machine's runs have one end; a generator that goes well for each of many wishes goes well for all of them together. -/
namespace Gz
open PySem PySem.Spec PyProof.Rows L2
theorem runs_one {M : Model} {Γ : PySem.Ctx} {p : Pos} {t : Sem PySem.Fin} {fs : List Frame} {s s1 : Shared} {e1 : End} (h : Runs M Γ p t fs s e1 s1) :
    ∀ {e2 : End} {s2 : Shared}, Runs M Γ p t fs s e2 s2 → e1 = e2 ∧ s1 = s2 := by
  induction h with
  | done => intro _ _ h; cases h; exact ⟨rfl, rfl⟩
  | raise => intro _ _ h; cases h; exact ⟨rfl, rfl⟩
  | again _ _ ih => intro _ _ h; cases h; exact ih ‹_›
  | rule _ ih => intro _ _ h; cases h; exact ih ‹_›
  | «at» _ ih => intro _ _ h; cases h; exact ih ‹_›
  | load ho _ ih => intro _ _ h; cases h with | load ho2 h => rw [ho] at ho2; cases ho2; exact ih h
  | update _ _ ih => intro _ _ h; cases h; exact ih ‹_›
  | loadIfAlive _ ih => intro _ _ h; cases h; exact ih ‹_›
  | point _ ih => intro _ _ h; cases h; exact ih ‹_›
  | alloc _ ih => intro _ _ h; cases h; exact ih ‹_›
  | fresh _ ih => intro _ _ h; cases h; exact ih ‹_›
  | ask _ ih => intro _ _ h; cases h; exact ih ‹_›
  | choose _ _ ih => intro _ _ h; cases h; exact ih ‹_›
  | os _ ih => intro _ _ h; cases h; exact ih ‹_›
  | handled _ ih => intro _ _ h; cases h; exact ih ‹_›
  | genState hg _ ih => intro _ _ h; cases h with | genState hg2 h => rw [hg] at hg2; cases hg2; exact ih h
  | stack _ ih => intro _ _ h; cases h; exact ih ‹_›
  | thread _ ih => intro _ _ h; cases h; exact ih ‹_›
  | newGen _ ih => intro _ _ h; cases h; exact ih ‹_›
  | call _ _ ih1 ih2 =>
    intro _ _ h
    cases h with
    | call a b =>
      obtain ⟨q1, q2⟩ := ih1 a
      cases q1
      subst q2
      exact ih2 b
    | callSusp a => obtain ⟨q1, _⟩ := ih1 a; cases q1
  | callSusp _ ih =>
    intro _ _ h
    cases h with
    | call a b => obtain ⟨q1, _⟩ := ih a; cases q1
    | callSusp a =>
      obtain ⟨q1, q2⟩ := ih a
      cases q1
      exact ⟨rfl, q2⟩
  | yield => intro _ _ h; cases h; exact ⟨rfl, rfl⟩
  | resumeFresh hg _ _ _ ih1 ih2 =>
    intro _ _ h
    cases h with
    | resumeFresh hg2 a _ b =>
      rw [hg] at hg2; cases hg2
      obtain ⟨rfl, rfl⟩ := ih1 a
      exact ih2 b
    | resumeSuspended hg2 => rw [hg] at hg2; cases hg2
    | resumeJustStarted hg2 hv => exact (hv rfl).elim
    | resumeRunning hg2 => rw [hg] at hg2; cases hg2
    | resumeFinished hg2 => rw [hg] at hg2; cases hg2
  | resumeSuspended hg _ _ _ ih1 ih2 =>
    intro _ _ h
    cases h with
    | resumeFresh hg2 => rw [hg] at hg2; cases hg2
    | resumeSuspended hg2 a _ b =>
      rw [hg] at hg2; cases hg2
      obtain ⟨rfl, rfl⟩ := ih1 a
      exact ih2 b
    | resumeJustStarted hg2 => rw [hg] at hg2; cases hg2
    | resumeThrowFresh hg2 => rw [hg] at hg2; cases hg2
    | resumeRunning hg2 => rw [hg] at hg2; cases hg2
    | resumeFinished hg2 => rw [hg] at hg2; cases hg2
  | resumeJustStarted hg hv _ ih =>
    intro _ _ h
    cases h with
    | resumeFresh hg2 => exact (hv rfl).elim
    | resumeSuspended hg2 => rw [hg] at hg2; cases hg2
    | resumeJustStarted hg2 _ a => exact ih a
    | resumeRunning hg2 => rw [hg] at hg2; cases hg2
    | resumeFinished hg2 => rw [hg] at hg2; cases hg2
  | resumeThrowFresh hg _ ih =>
    intro _ _ h
    cases h with
    | resumeSuspended hg2 => rw [hg] at hg2; cases hg2
    | resumeThrowFresh hg2 a => exact ih a
    | resumeRunning hg2 => rw [hg] at hg2; cases hg2
    | resumeFinished hg2 => rw [hg] at hg2; cases hg2
  | resumeRunning hg _ ih =>
    intro _ _ h
    cases h with
    | resumeFresh hg2 => rw [hg] at hg2; cases hg2
    | resumeSuspended hg2 => rw [hg] at hg2; cases hg2
    | resumeJustStarted hg2 => rw [hg] at hg2; cases hg2
    | resumeThrowFresh hg2 => rw [hg] at hg2; cases hg2
    | resumeRunning hg2 a => exact ih a
    | resumeFinished hg2 => rw [hg] at hg2; cases hg2
  | resumeFinished hg _ ih =>
    intro _ _ h
    cases h with
    | resumeFresh hg2 => rw [hg] at hg2; cases hg2
    | resumeSuspended hg2 => rw [hg] at hg2; cases hg2
    | resumeJustStarted hg2 => rw [hg] at hg2; cases hg2
    | resumeThrowFresh hg2 => rw [hg] at hg2; cases hg2
    | resumeRunning hg2 => rw [hg] at hg2; cases hg2
    | resumeFinished hg2 a => exact ih a
  | segRet _ _ ih1 ih2 =>
    intro _ _ h
    cases h with
    | segRet a b =>
      obtain ⟨q1, q2⟩ := ih1 a
      cases q1
      subst q2
      exact ih2 b
    | segSuspOut _ a => obtain ⟨q1, _⟩ := ih1 a; cases q1
    | segSuspGen _ a => obtain ⟨q1, _⟩ := ih1 a; cases q1
  | segGen _ _ ih1 ih2 =>
    intro _ _ h
    cases h with
    | segGen a b =>
      obtain ⟨q1, q2⟩ := ih1 a
      cases q1
      subst q2
      exact ih2 b
    | segSuspOut _ a => obtain ⟨q1, _⟩ := ih1 a; cases q1
    | segSuspGen _ a => obtain ⟨q1, _⟩ := ih1 a; cases q1
  | segSuspOut hs _ ih =>
    intro _ _ h
    cases h with
    | segRet a => obtain ⟨q1, _⟩ := ih a; cases q1
    | segGen a => obtain ⟨q1, _⟩ := ih a; cases q1
    | segSuspOut _ a =>
      obtain ⟨q1, q2⟩ := ih a
      cases q1
      exact ⟨rfl, q2⟩
    | segSuspGen hs2 => rw [hs] at hs2; cases hs2
  | segSuspGen hs _ _ _ ih1 ih2 =>
    intro _ _ h
    cases h with
    | segRet a => obtain ⟨q1, _⟩ := ih1 a; cases q1
    | segGen a => obtain ⟨q1, _⟩ := ih1 a; cases q1
    | segSuspOut hs2 => rw [hs] at hs2; cases hs2
    | segSuspGen hs2 a _ b =>
      rw [hs] at hs2; cases hs2
      obtain ⟨q1, q2⟩ := ih1 a
      cases q1
      subst q2
      exact ih2 b

/-- wishes of one leg: the leg of fuel m asks for one, all further legs for all of them -/
def mixY {ι : Type} (V : Nat → Shared → ι → Prop) (Y : ι → Protocol) (m : Nat) (i : ι) : Protocol := fun n s₀ v s kap =>
  if n = m then Y i n s₀ v s kap else (∃ j, V n s₀ j) ∧ ∀ j, V n s₀ j → Y j n s₀ v s kap
def mixR {ι : Type} (V : Nat → Shared → ι → Prop) (R : ι → GenEnd) (m : Nat) (i : ι) : GenEnd := fun n s₀ r s =>
  if n = m then R i n s₀ r s else (∃ j, V (n - 1) s₀ j) ∧ ∀ j, V (n - 1) s₀ j → R j n s₀ r s
def allY {ι : Type} (V : Nat → Shared → ι → Prop) (Y : ι → Protocol) : Protocol := fun n s₀ v s kap => (∃ j, V n s₀ j) ∧ ∀ j, V n s₀ j → Y j n s₀ v s kap
def allR {ι : Type} (V : Nat → Shared → ι → Prop) (R : ι → GenEnd) : GenEnd := fun n s₀ r s => (∃ j, V (n - 1) s₀ j) ∧ ∀ j, V (n - 1) s₀ j → R j n s₀ r s
section
variable {ι : Type} {V : Nat → Shared → ι → Prop} {Y : ι → Protocol} {R : ι → GenEnd} {M : Model} {A : Around}
/-- a protocol may be weakened -/
def MonoY (Y : ι → Protocol) : Prop := ∀ i n s₀ v s kap kap', (∀ r s', kap r s' → kap' r s') → Y i n s₀ v s kap → Y i n s₀ v s kap'
theorem seg_upto {R₁ R₂ : GenEnd} {Y₁ Y₂ : Protocol} : ∀ (n : Nat), (∀ j, j ≤ n → ∀ s₀ r s, R₁ j s₀ r s → R₂ j s₀ r s) →
    (∀ j, j ≤ n → ∀ s₀ v s kap kap', (∀ r s', kap r s' → kap' r s') → Y₁ (j - 1) s₀ v s kap → Y₂ (j - 1) s₀ v s kap') →
    ∀ {s₀ : Shared} {c : Code} {t : Sem PySem.Fin} {fs : List Frame} {s : Shared}, Seg M A R₁ Y₁ n s₀ c t fs s → Seg M A R₂ Y₂ n s₀ c t fs s := by
  intro n
  induction n with
  | zero =>
    intro hR hY s₀ c t fs s h
    rw [seg_iff] at h ⊢
    intro Γ p hc hΓ
    obtain ⟨e, s', hr, he⟩ := h Γ p hc hΓ
    refine ⟨e, s', hr, ?_⟩
    cases e with
    | ret r => exact hR 0 (Nat.le_refl _) _ _ _ he
    | susp v g l k' c' p' fs' => exact ⟨he.1, hY 0 (Nat.le_refl _) _ _ _ _ _ (fun _ _ z => z) he.2⟩
  | succ n ih =>
    intro hR hY s₀ c t fs s h
    rw [seg_iff] at h ⊢
    intro Γ p hc hΓ
    obtain ⟨e, s', hr, he⟩ := h Γ p hc hΓ
    refine ⟨e, s', hr, ?_⟩
    cases e with
    | ret r => exact hR _ (Nat.le_refl _) _ _ _ he
    | susp v g l k' c' p' fs' =>
      exact ⟨he.1, hY (n + 1) (Nat.le_refl _) _ _ _ _ _ (fun _ _ z => ih (fun j hj => hR j (Nat.le_succ_of_le hj)) (fun j hj => hY j (Nat.le_succ_of_le hj)) z) he.2⟩
theorem seg_below (hY : MonoY Y) {k : Nat} (hk : 1 ≤ k) {i : ι} (n : Nat) (hn : n ≤ k) {s₀ : Shared} {c : Code} {t : Sem PySem.Fin} {fs : List Frame} {s : Shared}
    (h : Seg M A (mixR V R (k + 1) i) (mixY V Y k i) n s₀ c t fs s) : Seg M A (allR V R) (allY V Y) n s₀ c t fs s := by
  refine seg_upto n (fun j hj s₀ r s he => ?_) (fun j hj s₀ v s kap kap' hkk he => ?_) h
  · unfold mixR at he
    rw [if_neg (by omega)] at he
    exact he
  · unfold mixY at he
    rw [if_neg (by omega)] at he
    exact ⟨he.1, fun j' hj' => hY j' _ _ _ _ _ _ hkk (he.2 j' hj')⟩
theorem seg_above (hY : MonoY Y) {k : Nat} (hk : 1 ≤ k) {i : ι} (n : Nat) (hn : n ≤ k) {s₀ : Shared} {c : Code} {t : Sem PySem.Fin} {fs : List Frame} {s : Shared}
    (h : Seg M A (allR V R) (allY V Y) n s₀ c t fs s) : Seg M A (mixR V R (k + 1) i) (mixY V Y k i) n s₀ c t fs s := by
  refine seg_upto n (fun j hj s₀ r s he => ?_) (fun j hj s₀ v s kap kap' hkk he => ?_) h
  · unfold mixR
    rw [if_neg (by omega)]
    exact he
  · unfold mixY
    rw [if_neg (by omega)]
    exact ⟨he.1, fun j' hj' => hY j' _ _ _ _ _ _ hkk (he.2 j' hj')⟩
/-- THE JOINING of one leg's wishes -/
theorem seg_all (hY : MonoY Y) {k : Nat} (hk : 1 ≤ k) {s₀ : Shared} {c : Code} {t : Sem PySem.Fin} {fs : List Frame} {s : Shared} (h0 : ∃ i, V k s₀ i)
    (h : ∀ i, V k s₀ i → Seg M A (mixR V R (k + 1) i) (mixY V Y k i) (k + 1) s₀ c t fs s) : Seg M A (allR V R) (allY V Y) (k + 1) s₀ c t fs s := by
  obtain ⟨i0, v0⟩ := h0
  rw [seg_iff]
  intro Γ p hc hΓ
  obtain ⟨e, s', hr, he⟩ := seg_iff.mp (h i0 v0) Γ p hc hΓ
  refine ⟨e, s', hr, ?_⟩
  have all : ∀ i, V k s₀ i → SegEnd (mixR V R (k + 1) i) (mixY V Y k i) (k + 1) (Seg.next M A (mixR V R (k + 1) i) (mixY V Y k i) (k + 1)) s₀ e s' := fun i vi => by
    obtain ⟨e2, s2, hr2, he2⟩ := seg_iff.mp (h i vi) Γ p hc hΓ
    obtain ⟨rfl, rfl⟩ := runs_one hr hr2
    exact he2
  cases e with
  | ret r =>
    refine ⟨⟨i0, v0⟩, fun i vi => ?_⟩
    have z : mixR V R (k + 1) i (k + 1) s₀ r s' := all i vi
    unfold mixR at z
    rw [if_pos rfl] at z
    exact z
  | susp v g l k' c' p' fs' =>
    refine ⟨he.1, ⟨i0, v0⟩, fun i vi => ?_⟩
    have z : mixY V Y k i k s₀ v s' (fun r s'' => Seg.next M A (mixR V R (k + 1) i) (mixY V Y k i) (k + 1) c' (k' r) fs' s'') := (all i vi).2
    unfold mixY at z
    rw [if_pos rfl] at z
    exact hY i _ _ _ _ _ _ (fun r s'' q => seg_below hY hk k (Nat.le_refl _) q) z
end
end Gz
set_option maxHeartbeats 1000000
/-! A generator's body, leg by leg: at each waking the heap is what the consumer then knows. -/
namespace Gz
open PySem PySem.Spec PyProof.Rows L2 GenW
/-- so many yields and more are never made -/
def lots : Nat := 1000000
/-- a generator's def -/
structure GDef where
  N : List Str
  qual : Str
  scope : Scope
  f : Addr
  cd : Value
/-- a generator that runs: its def, its frame's object, its wishes -/
structure GPar where
  P : Program
  w : World
  K : PySem.W.Frag
  mg : Str → Option Value
  base : Heap
  d : GDef
  A : Around
  outer : List Env
  L : Addr
  E : XK
  pn : List (Addr × Obj)
  /-- the i-th yield: the heap at the last waking, the value, the heap -/
  yl : Nat → Hp → V → Hp → Prop
  /-- what a heap must know at a waking behind i yields -/
  nd : Nat → Hp → Prop
  /-- the end behind i yields: the heap at the last waking, the heap -/
  fin : Nat → Hp → Hp → Prop
abbrev GPar.env (G : GPar) : Env := envOfC G.d.qual G.d.scope G.L G.d.f G.d.cd
abbrev GPar.cx (G : GPar) (s : Shared) (H : Hp) : Cx where
  prog := G.P
  w := G.w
  K := G.K
  mg := G.mg
  base := G.base
  A := G.A.deeper (envOfC G.d.qual G.d.scope G.L G.d.f G.d.cd)
  N := G.d.N
  s_0 := s
  H_0 := H
  env := envOfC G.d.qual G.d.scope G.L G.d.f G.d.cd
  outer := G.outer
  stack := envOfC G.d.qual G.d.scope G.L G.d.f G.d.cd :: G.outer
  ex := []
  fn := fun _ => true
  calm := true
  pn := G.pn
  xe := fun e s' => wpAny (model G.P G.w) (G.A.deeper (envOfC G.d.qual G.d.scope G.L G.d.f G.d.cd)) (leaving (envOfC G.d.qual G.d.scope G.L G.d.f G.d.cd) e)
    (fun _ z => CX G.P G.w G.outer H s G.E e z ∧ ∀ p ∈ G.pn, z.heap.get? p.1 = some p.2) (fun _ _ => False) s'
/-- what stood below n -/
def cutTo (n : Nat) (s : Shared) : Shared := { s with heap := ⟨s.heap.objs.extract 0 n, s.heap.life⟩ }
theorem cut_get {n : Nat} {s : Shared} {b : Nat} (h : b < n) : (cutTo n s).heap.get? b = s.heap.get? b := by
  unfold cutTo Heap.get?
  have e : (s.heap.objs.extract 0 n)[b]? = s.heap.objs[b]? := by
    rw [Array.getElem?_extract]
    by_cases hs : b < s.heap.objs.size
    · rw [if_pos (by omega)]
      simp
    · rw [if_neg (by omega)]
      exact (Array.getElem?_eq_none (by omega)).symm
  simp only [e]
theorem cut_size {n : Nat} {s : Shared} (h : n ≤ s.heap.objs.size) : (cutTo n s).heap.objs.size = n := by
  show (s.heap.objs.extract 0 n).size = n
  rw [Array.size_extract]
  omega
theorem of_cut {n : Nat} {s : Shared} {b : Addr} {o : Obj} (e : (cutTo n s).heap.get? b = some o) : b < n ∧ s.heap.get? b = some o := by
  by_cases hb : b < n
  · exact ⟨hb, by rw [← cut_get hb]; exact e⟩
  · have := Heap.lt_size e
    have e2 : (cutTo n s).heap.objs.size ≤ n := by
      show (s.heap.objs.extract 0 n).size ≤ n
      rw [Array.size_extract]
      omega
    exact absurd (Nat.lt_of_lt_of_le this e2) hb
abbrev GPar.leg (G : GPar) (s₀ : Shared) (R : Hp) : Cx := G.cx (cutTo G.L s₀) R

/-- from the yield at s to the waking at s' -/
structure Nap (G : GPar) (s s' : Shared) : Prop where
  bare : AllBare s'.gens
  funs : s'.heap.FunFrames G.base G.outer
  own : ∀ o, s.heap.get? G.L = some o → s'.heap.get? G.L = some o
  pn : ∀ p ∈ G.pn, s'.heap.get? p.1 = some p.2
/-- R may be what is known at a waking at s₀ -/
structure Val (G : GPar) (k : Nat) (s₀ : Shared) (R : Hp) : Prop where
  hok : HOk G.P G.w R s₀.heap
  bs : ∀ b o, G.base.get? b = some o → s₀.heap.get? b = some o ∧ R b = none
  frf : ∀ b ∈ frs G.outer, R b = none
  free : R G.L = none
  pn : ∀ p ∈ G.pn, R p.1 = none
  nd : G.nd (lots - k) R

theorem funs_cut {base : Heap} {n : Nat} {s : Shared} {l : List Env} (h : s.heap.FunFrames base l) (hl : ∀ b ∈ frs l, b < n) : (cutTo n s).heap.FunFrames base l := by
  induction l with
  | nil => trivial
  | cons env r ih =>
    obtain ⟨a, ⟨L, o, hf, hn, ho, hd⟩, c⟩ := h
    have hL : L ∈ frs (env :: r) := by
      unfold frs
      rw [List.filterMap_cons, hf]
      exact List.mem_cons_self
    refine ⟨a, ⟨L, o, hf, hn, by rw [cut_get (hl L hL)]; exact ho, hd⟩, ih c fun b hb => hl b ?_⟩
    unfold frs
    rw [List.filterMap_cons, hf]
    exact List.mem_cons_of_mem _ hb
theorem funs_lt {base h : Heap} {l : List Env} (x : h.FunFrames base l) : ∀ b ∈ frs l, b < h.objs.size := fun b hb => by
  obtain ⟨_, o, ho, _⟩ := x.mem hb
  exact Heap.lt_size ho

section
variable {G : GPar} {s s' s₀ : Shared} {R R' H : Hp} {σ : L2.St} {k : Nat}
/-- THE WAKING -/
theorem woken (hc : G.env.cells = []) (hL : G.L ≤ s₀.heap.objs.size) (I : Inv (G.leg s₀ R) [] σ H s) (z : Nap G s s') (v : Val G k s' R') : Inv (G.leg s' R') [] σ R' s' := by
  have o := I.ok
  obtain ⟨m, hm, hl⟩ := I.loc
  obtain ⟨oL, es, ep, hoL, hrest⟩ := id hm
  have hL' : G.L < s'.heap.objs.size := Heap.lt_size (z.own oL hoL)
  have sz : (cutTo G.L s').heap.objs.size = G.L := cut_size (Nat.le_of_lt hL')
  have sz0 : (cutTo G.L s₀).heap.objs.size = G.L := cut_size hL
  have bsz : G.base.objs.size ≤ G.L := by
    have := o.bsz
    rw [← sz0]
    exact this
  have nocell : ∀ x c, G.env.cells.lookup x = some c → False := fun x c e => by rw [hc] at e; cases e
  have ftl : ∀ b ∈ frs G.outer, b < G.L := fun b hb => by
    have := funs_lt o.funs b hb
    rw [← sz0]
    exact this
  refine ⟨⟨o.mod, o.kind, rfl, rfl, ?_, o.inj, o.has, fun x c _ e => (nocell x c e).elim, o.hd, o.frames, o.stk, (fun b hb => absurd (show b ∈ ([] : List Addr) from hb) (by simp)), fun b ob e => ?_, ?_, (fun b ob e hb => absurd (show b ∈ ([] : List Addr) from hb) (by simp)), (fun b hb => absurd (show b ∈ ([] : List Addr) from hb) (by simp)), funs_cut z.funs ftl, v.frf⟩,
    rfl, z.bare, Un.kept fun b u e => (of_cut e).2, ⟨m, ⟨oL, es, ep, z.own oL hoL, hrest⟩, fun i x y h1 h2 h3 => ?_⟩, fun x c e => (nocell x c e).elim, v.free, fun x c e => (nocell x c e).elim, fun p hp => ?_, v.hok, I.len⟩
  · show (cutTo G.L s').heap.objs.size ≤ G.L
    rw [sz]
    exact Nat.le_refl _
  · obtain ⟨h1, h2⟩ := v.bs b ob e
    exact ⟨by rw [cut_get (Nat.lt_of_lt_of_le (Heap.lt_size e) bsz)]; exact h1, h2⟩
  · show G.base.objs.size ≤ (cutTo G.L s').heap.objs.size
    rw [sz]
    exact bsz
  · obtain ⟨u, r, q⟩ := hl i x y h1 h2 h3
    refine ⟨u, r, ?_⟩
    rcases q with q | ⟨_, c, e, _⟩
    · exact .inl q
    · exact (nocell x c e).elim
  · have hp' : p ∈ G.pn := by
      rcases List.mem_append.mp hp with y | y
      · exact y
      · cases y
    obtain ⟨_, _, h3, h4, h5⟩ := I.pin p (List.mem_append_left _ hp')
    exact ⟨z.pn p hp', v.pn p hp', h3, h4, h5⟩
end

/-! ### the wishes of a leg -/
def GY (G : GPar) : Hp → Protocol := fun R n s₀ v s kap =>
  ∃ x σ H, RelV x v ∧ Inv (G.leg s₀ R) [] σ H s ∧ G.yl (lots - n) R x H ∧ ∀ s', Nap G s s' → (∃ R', Val G (n - 1) s' R') → kap (.send .none) s'
def GR (G : GPar) : Hp → GenEnd := fun R n s₀ r s =>
  ((r = .ok (.ret .none) ∨ r = .ok .next) ∧ ∃ σ H, Inv (G.leg s₀ R) [] σ H s ∧ G.fin (lots + 1 - n) R H) ∨
  ∃ e, r = .error e ∧ CX G.P G.w G.outer R (cutTo G.L s₀) G.E e s ∧ ∀ p ∈ G.pn, s.heap.get? p.1 = some p.2
theorem mono_GY (G : GPar) : MonoY (GY G) := fun R n s₀ v s kap kap' h ⟨x, σ, H, a, b, c, d⟩ => ⟨x, σ, H, a, b, c, fun s' z q => h _ _ (d s' z q)⟩
abbrev GSeg (G : GPar) (k : Nat) (R : Hp) : Shared → Code → Sem PySem.Fin → List Frame → Shared → Prop :=
  Seg (model G.P G.w) G.A (mixR (Val G) (GR G) (k + 1) R) (mixY (Val G) (GY G) k R) (k + 1)

/-- what is wanted behind a statement: how many yields there were, the heap at the last waking -/
structure GEs where
  nx : Nat → Hp → L2.St → Hp → Prop
  rt : Nat → Hp → VK
  bk : Nat → Hp → L2.St → Hp → Prop := fun _ _ _ _ => False
  ct : Nat → Hp → L2.St → Hp → Prop := fun _ _ _ _ => False
abbrev TGs := GEs → Nat → Hp → L2.St → Hp → Prop
def GEs.at (D : GEs) (i : Nat) (R : Hp) : Ends := { nx := D.nx i R, rt := D.rt i R, bk := D.bk i R, ct := D.ct i R }
/-- where the code stands -/
structure GCode (G : GPar) (c : Code) (fs : List Frame) (gd : Bool → Bool) : Prop where
  over : G.A.over c fs = G.A.deeper (envOfC G.d.qual G.d.scope G.L G.d.f G.d.cd)
  split : splitAtGen fs = none
  guard : fs.any Frame.guarded = false
  gd : gd false = false
/-- what follows -/
structure GNext (G : GPar) (c : Code) (fs : List Frame) (K : Flow → Sem PySem.Fin) (J : Value → Sem PySem.Fin) (D : GEs) : Prop where
  ok : ∀ (k i : Nat) (s₀ : Shared) (R : Hp) (s : Shared) (f : Flow), k + i = lots → 1 ≤ k → G.L ≤ s₀.heap.objs.size → SP (G.leg s₀ R) [] (D.at i R) f s → GSeg G k R s₀ c (K f) fs s
  exc : ∀ (k : Nat) (s₀ : Shared) (R : Hp) (e : Value) (s : Shared), 1 ≤ k → (G.leg s₀ R).xe e s → GSeg G k R s₀ c (J e) fs s
structure GSt (G : GPar) (st : Stmt) (t : TGs) : Prop where
  run : ∀ (k i : Nat) (s₀ : Shared) (R : Hp) (c : Code) (fs : List Frame) (K : Flow → Sem PySem.Fin) (J : Value → Sem PySem.Fin) (gd : Bool → Bool) (lv : List Value → List Value) (s : Shared) (σ : L2.St) (H : Hp) (D : GEs),
    GCode G c fs gd → k + i = lots → 1 ≤ k → G.L ≤ s₀.heap.objs.size → GNext G c fs K J D → Inv (G.leg s₀ R) [] σ H s → t D i R σ H → GSeg G k R s₀ c ((exec st G.env).wrap K J gd lv) fs s
structure GSts (G : GPar) (st : List Stmt) (t : TGs) : Prop where
  run : ∀ (k i : Nat) (s₀ : Shared) (R : Hp) (c : Code) (fs : List Frame) (K : Flow → Sem PySem.Fin) (J : Value → Sem PySem.Fin) (gd : Bool → Bool) (lv : List Value → List Value) (s : Shared) (σ : L2.St) (H : Hp) (D : GEs),
    GCode G c fs gd → k + i = lots → 1 ≤ k → G.L ≤ s₀.heap.objs.size → GNext G c fs K J D → Inv (G.leg s₀ R) [] σ H s → t D i R σ H → GSeg G k R s₀ c ((execs st G.env).wrap K J gd lv) fs s
section
variable {G : GPar} {st : Stmt} {rest : List Stmt}
def tPl (t : TS) : TGs := fun D i R σ H => t (D.at i R) σ H
theorem gst_ps {t : TS} (h : ∀ s₀ R, PS (G.leg s₀ R) st t) : GSt G st (tPl t) := ⟨fun k i s₀ R c fs K J gd lv s σ H D g hk h1 hL nxt I ht => by
  refine seg_wrap ?_
  rw [g.over]
  exact wpAny_mono ((h s₀ R).run _ s σ H (D.at i R) I ht) (fun f s' hs => nxt.ok k i s₀ R s' f hk h1 hL hs) fun x s' hx => nxt.exc k s₀ R x s' h1 hx⟩
theorem gsts_pss {t : TS} (h : ∀ s₀ R, PSs (G.leg s₀ R) rest t) : GSts G rest (tPl t) := ⟨fun k i s₀ R c fs K J gd lv s σ H D g hk h1 hL nxt I ht => by
  refine seg_wrap ?_
  rw [g.over]
  exact wpAny_mono ((h s₀ R).run _ s σ H (D.at i R) I ht) (fun f s' hs => nxt.ok k i s₀ R s' f hk h1 hL hs) fun x s' hx => nxt.exc k s₀ R x s' h1 hx⟩
def tGNil : TGs := fun D i R σ H => D.nx i R σ H
theorem gsts_nil : GSts G [] tGNil := ⟨fun k i s₀ R c fs K J gd lv s σ H D g hk h1 hL nxt I ht => seg_execs_nil (nxt.ok k i s₀ R s .next hk h1 hL ⟨σ, H, I, ht⟩)⟩
def tGSeq (t u : TGs) : TGs := fun D i R σ H => t { D with nx := fun i' R' σ' H' => u D i' R' σ' H' } i R σ H
theorem gsts_cons {t u : TGs} (a : GSt G st t) (b : GSts G rest u) : GSts G (st :: rest) (tGSeq t u) := ⟨fun k i s₀ R c fs K J gd lv s σ H D g hk h1 hL nxt I ht => by
  refine seg_execs_cons (a.run k i s₀ R c fs _ J gd lv s σ H { D with nx := fun i' R' σ' H' => u D i' R' σ' H' } g hk h1 hL ⟨fun k' i' s₀' R' s' f hk' h1' hL' hs => ?_, nxt.exc⟩ I ht)
  cases f with
  | next =>
    obtain ⟨σ', H', I', q⟩ := hs
    exact b.run k' i' s₀' R' c fs K J gd lv s' σ' H' D g hk' h1' hL' nxt I' q
  | brk => exact nxt.ok k' i' s₀' R' s' .brk hk' h1' hL' hs
  | cont => exact nxt.ok k' i' s₀' R' s' .cont hk' h1' hL' hs
  | ret u => exact nxt.ok k' i' s₀' R' s' (.ret u) hk' h1' hL' hs⟩
theorem gsts_one {t : TGs} (a : GSt G st t) : GSts G [st] (tGSeq t tGNil) := gsts_cons a gsts_nil

/-- if: either block may yield -/
def tGIf (tc : TT) (t u : TGs) : TGs := fun D i R σ H => tc σ H fun b H1 => if b = true then t D i R σ H1 else u D i R σ H1
theorem gst_if {test : Expr} {body orelse : List Stmt} {pos : Pos} {tc : TT} {t u : TGs} (hc : ∀ s₀ R, PT (G.leg s₀ R) test tc) (a : GSts G body t) (b : GSts G orelse u) : GSt G (.If test body orelse pos) (tGIf tc t u) := ⟨fun k i s₀ R c fs K J gd lv s σ H D g hk h1 hL nxt I ht => by
  rw [exec_If]
  show GSeg G k R s₀ c (.at pos fun _ => ((isTrue test G.env (eval test G.env) >>= fun bb => if bb = true then execs body G.env else execs orelse G.env)).wrap K J gd lv) fs s
  refine seg_at ?_
  rw [Sem.bind_eq_wrap', Sem.wrap_wrap]
  refine seg_wrap ?_
  rw [g.over]
  refine wpAny_mono ((hc s₀ R).run _ s σ H _ I ht) (fun bb s' hb => ?_) fun x s' hx => nxt.exc k s₀ R x s' h1 hx
  obtain ⟨H1, I1, q⟩ := hb
  cases bb with
  | true =>
    rw [if_pos rfl] at q
    exact a.run k i s₀ R c fs K J gd lv s' σ H1 D g hk h1 hL nxt I1 q
  | false =>
    rw [if_neg Bool.false_ne_true] at q
    exact b.run k i s₀ R c fs K J gd lv s' σ H1 D g hk h1 hL nxt I1 q⟩

/-- yield -/
def tGYd (yl : Nat → Hp → V → Hp → Prop) (nd : Nat → Hp → Prop) (te : TE) : TGs := fun D i R σ H => i + 2 ≤ lots ∧ te σ H fun x H1 => yl i R x H1 ∧ ∀ R', nd (i + 1) R' → D.nx (i + 1) R' σ R'
theorem gst_yield {e : Expr} {yp pos : Pos} {te : TE} (hcl : G.env.cells = []) (he : ∀ s₀ R, PE (G.leg s₀ R) e te) (hco : G.env.scope.isCoroutine = false := by rfl) (hi : interactive G.env = false := by rfl) :
    GSt G (.Expr (.Yield (some e) yp) pos) (tGYd G.yl G.nd te) := ⟨fun k i s₀ R c fs K J gd lv s σ H D g hk h1 hL nxt I ht => by
  obtain ⟨hlt, ht⟩ := ht
  obtain ⟨k, rfl⟩ : ∃ m, k = m + 1 := ⟨k - 1, by omega⟩
  have hk1 : 1 ≤ k := by omega
  refine seg_Expr_Yield g.split g.gd g.guard ?_ hco hi
  rw [g.over]
  refine wpAny_mono ((he s₀ R).run _ s σ H _ I ht) (fun v s1 hv => ?_) fun x s' hx => nxt.exc _ s₀ R x s' h1 hx
  obtain ⟨x, H1, I1, rv, hy, q⟩ := hv
  have ei : lots - (k + 1) = i := by omega
  have ei2 : lots - k = i + 1 := by omega
  intro kap hkap
  show mixY (Val G) (GY G) (k + 1) R (k + 1) s₀ v s1 kap
  unfold mixY
  rw [if_pos rfl]
  refine ⟨x, σ, H1, rv, I1, by rw [ei]; exact hy, fun s2 z hR' => hkap .none s2 ?_⟩
  refine seg_above (mono_GY G) h1 (k + 1) (Nat.le_refl _) (seg_all (mono_GY G) hk1 hR' fun R2 v2 => ?_)
  have I2 := woken hcl hL I1 z v2
  have hL2 : G.L ≤ s2.heap.objs.size := by
    obtain ⟨m, ⟨oL, _, _, hoL, _⟩, _⟩ := I2.loc
    exact Nat.le_of_lt (Heap.lt_size hoL)
  refine nxt.ok k (i + 1) s2 R2 s2 .next (by omega) hk1 hL2 ⟨σ, R2, I2, q R2 ?_⟩
  rw [← ei2]
  exact v2.nd⟩

/-! ### while -/
def tGWh (tc : TT) (tb : TGs) : TGs := fun D i R σ H => ∃ W : Nat → Nat → Hp → L2.St → Hp → Prop, (∃ m, W m i R σ H) ∧ ∀ m i R σ H, W m i R σ H →
  tc σ H fun b H1 => if b = true then ∃ N : Nat → Hp → L2.St → Hp → Prop, (∀ i' R' σ' H', N i' R' σ' H' → ∃ m', m' < m ∧ W m' i' R' σ' H') ∧ tb { D with nx := N, ct := N, bk := D.nx } i R σ H1 else D.nx i R σ H1
theorem code_loop {c c' : Code} {fs : List Frame} {gd : Bool → Bool} {kk : Result → Sem PySem.Fin} {l : List Value} {p : Pos} (g : GCode G c fs gd) (hw : c'.weight = 0) (hu : c'.cUnits = 0) :
    GCode G c' (.ret kk none (gd false) l c p [] :: fs) id := by
  refine ⟨(GenW.over_loop hw hu).trans g.over, ?_, ?_, rfl⟩
  · rw [splitAtGen_ret, g.split]
    rfl
  · rw [List.any_cons, g.guard]
    show (gd false || false) = false
    rw [g.gd]
    rfl
theorem loop_runs {test : Expr} {body : List Stmt} {tc : TT} {tb : TGs} {c : Code} {fs : List Frame} {gd : Bool → Bool} {kk : Result → Sem PySem.Fin} {l : List Value} {p : Pos} {D : GEs}
    (hp : ∀ s₀ R, PassesOwn (model G.P G.w) (G.leg s₀ R).A G.env (G.leg s₀ R).xe) (hc : ∀ s₀ R, PT (G.leg s₀ R) test tc) (hb : GSts G body tb) (g : GCode G c fs gd)
    (done : ∀ (k i : Nat) (s₀ : Shared) (R : Hp) (s : Shared) (f : Flow), k + i = lots → 1 ≤ k → G.L ≤ s₀.heap.objs.size → (f = .next ∨ ∃ u, f = .ret u) → SP (G.leg s₀ R) [] (D.at i R) f s → GSeg G k R s₀ c (kk (.ok f)) fs s)
    (err : ∀ (k : Nat) (s₀ : Shared) (R : Hp) (e : Value) (s : Shared), 1 ≤ k → cameBackBy (model G.P G.w) (G.leg s₀ R).A G.env (G.leg s₀ R).xe e s → GSeg G k R s₀ c (kk (.error e)) fs s)
    (W : Nat → Nat → Hp → L2.St → Hp → Prop) (turn : ∀ m i R σ H, W m i R σ H →
      tc σ H fun b H1 => if b = true then ∃ N : Nat → Hp → L2.St → Hp → Prop, (∀ i' R' σ' H', N i' R' σ' H' → ∃ m', m' < m ∧ W m' i' R' σ' H') ∧ tb { D with nx := N, ct := N, bk := D.nx } i R σ H1 else D.nx i R σ H1) :
    ∀ (m k i : Nat) (s₀ : Shared) (R : Hp) (s : Shared) (σ : L2.St) (H : Hp), k + i = lots → 1 ≤ k → G.L ≤ s₀.heap.objs.size → W m i R σ H → Inv (G.leg s₀ R) [] σ H s →
      GSeg G k R s₀ (.whileLoop test body [] G.env) ((model G.P G.w).den (.whileLoop test body [] G.env)) (.ret kk none (gd false) l c p [] :: fs) s := by
  have gl : GCode G (.whileLoop test body [] G.env) (.ret kk none (gd false) l c p [] :: fs) id := code_loop g rfl rfl
  -- an exception leaves the loop's code
  have out : ∀ (k : Nat) (s₀ : Shared) (R : Hp) (e : Value) (s : Shared), 1 ≤ k → (G.leg s₀ R).xe e s →
      GSeg G k R s₀ (.whileLoop test body [] G.env) ((noteFrame e G.env >>= fun _ => theTreesLotGoes e : Sem Unit).wrap (fun _ => .raise e) .raise id id) (.ret kk none (gd false) l c p [] :: fs) s := fun k s₀ R e s h1 hx => by
    refine seg_wrap ?_
    rw [gl.over]
    refine wpAny_bind (wpAny_mono (hp s₀ R e s hx) (fun _ z hz => wpAny_theTreesLotGoes ?_) fun y z hz => ?_)
    · exact seg_leaf (.error e) (err k s₀ R e z h1 hz)
    · exact seg_leaf (.error y) (err k s₀ R y z h1 hz)
  intro m
  induction m using Nat.strongRecOn with
  | ind m ih =>
    intro k i s₀ R s σ H hk h1 hL w I
    refine seg_whileLoop ?_
    rw [gl.over]
    refine wpAny_mono ((hc s₀ R).run _ s σ H _ I (turn m i R σ H w)) (fun b s1 hb1 => ?_) fun x s1 hx => out k s₀ R x s1 h1 hx
    obtain ⟨H1, I1, q⟩ := hb1
    cases b with
    | false =>
      rw [if_neg Bool.false_ne_true] at q ⊢
      exact seg_execs_nil (seg_leaf (.ok .next) (done k i s₀ R s1 .next hk h1 hL (.inl rfl) ⟨σ, H1, I1, q⟩))
    | true =>
      rw [if_pos rfl] at q ⊢
      obtain ⟨N, hN, q⟩ := q
      have go : ∀ (k i : Nat) (s₀ : Shared) (R : Hp) (s : Shared), k + i = lots → 1 ≤ k → G.L ≤ s₀.heap.objs.size → (∃ σ H, Inv (G.leg s₀ R) [] σ H s ∧ N i R σ H) →
          GSeg G k R s₀ (.whileLoop test body [] G.env) (.pure (.again (.whileLoop test body [] G.env))) (.ret kk none (gd false) l c p [] :: fs) s := fun k i s₀ R s hk h1 hL hs => by
        obtain ⟨σ2, H2, I2, n2⟩ := hs
        obtain ⟨m', hm, w2⟩ := hN i R σ2 H2 n2
        exact seg_again rfl (ih m' hm k i s₀ R s σ2 H2 hk h1 hL w2 I2)
      refine hb.run k i s₀ R _ _ _ _ id id s1 σ H1 { D with nx := N, ct := N, bk := D.nx } gl hk h1 hL ⟨fun k' i' s₀' R' s2 f hk' h1' hL' hs => ?_, fun k' s₀' R' x s2 h1' hx => out k' s₀' R' x s2 h1' hx⟩ I1 q
      cases f with
      | next => exact go k' i' s₀' R' s2 hk' h1' hL' hs
      | cont => exact go k' i' s₀' R' s2 hk' h1' hL' hs
      | brk => exact seg_leaf (.ok .next) (done k' i' s₀' R' s2 .next hk' h1' hL' (.inl rfl) hs)
      | ret u => exact seg_leaf (.ok (.ret u)) (done k' i' s₀' R' s2 (.ret u) hk' h1' hL' (.inr ⟨u, rfl⟩) hs)
theorem gst_while {test : Expr} {body : List Stmt} {pos : Pos} {tc : TT} {tb : TGs} (hp : ∀ s₀ R, PassesOwn (model G.P G.w) (G.leg s₀ R).A G.env (G.leg s₀ R).xe) (hc : ∀ s₀ R, PT (G.leg s₀ R) test tc) (hb : GSts G body tb) :
    GSt G (.While test body [] pos) (tGWh tc tb) := ⟨fun k i s₀ R c fs K J gd lv s σ H D g hk h1 hL nxt I ht => by
  obtain ⟨W, ⟨m0, w0⟩, turn⟩ := ht
  refine seg_While fun p => ?_
  refine loop_runs hp hc hb g (fun k' i' s₀' R' s' f hk' h1' hL' hf hs => ?_) (fun k' s₀' R' e s' h1' hx => ?_) W turn m0 k i s₀ R s σ H hk h1 hL w0 I
  · rcases hf with hf | ⟨u, hf⟩
    · subst hf
      exact nxt.ok k' i' s₀' R' s' .next hk' h1' hL' hs
    · subst hf
      exact nxt.ok k' i' s₀' R' s' (.ret u) hk' h1' hL' hs
  · show GSeg G k' R' s₀' c (Sem.wrap K J gd lv (((do
        if (← field e 1) == Value.none then unsupported "frame.own-activation:exception-without-traceback"
        setFlight e G.env.frame : Sem Unit)).bind fun _ => (Sem.raise e : Sem Flow))) fs s'
    rw [Sem.bind_eq_wrap, Sem.wrap_wrap]
    refine seg_wrap ?_
    rw [g.over]
    exact wpAny_mono hx (fun _ s2 q => nxt.exc k' s₀' R' e s2 h1' q) fun x s2 q => nxt.exc k' s₀' R' x s2 h1' q⟩
end
end Gz
set_option maxHeartbeats 1000000
/-! A generator def by its body; what a call of it gives. -/
namespace Gz
open PySem PySem.Spec PyProof.Rows L2 GenW
/-- what a generator will hand out -/
structure Strm where
  yl : Nat → Hp → V → Hp → Prop
  nd : Nat → Hp → Prop
  fin : Nat → Hp → Hp → Prop
  E : XK
abbrev Strm.par (S : Strm) (P : Program) (w : World) (K : PySem.W.Frag) (mg : Str → Option Value) (base : Heap) (d : GDef) (A : Around) (outer : List Env) (L : Addr) (pn : List (Addr × Obj)) : GPar :=
  ⟨P, w, K, mg, base, d, A, outer, L, S.E, pn, S.yl, S.nd, S.fin⟩
abbrev GoAll (G : GPar) (n : Nat) (s₀ : Shared) (c : Code) (t : Sem PySem.Fin) (fs : List Frame) (s : Shared) : Prop :=
  Seg (model G.P G.w) G.A (allR (Val G) (GR G)) (allY (Val G) (GY G)) n s₀ c t fs s
/-- the generator's object -/
def GObj (g : Nat) (oa : Obj) : Prop := oa.cls = .type "generator" ∧ oa.slots = #[] ∧ ∃ nm qn, oa.data = .fields #[.int g 0, nm, qn]
theorem GObj.isGen {g : Nat} {oa : Obj} {h : Heap} {a : Addr} (x : GObj g oa) (e : h.get? a = some oa) : h.IsGen a g := by
  obtain ⟨h1, h2, nm, qn, h3⟩ := x
  exact ⟨oa, nm, qn, e, h1, h3, h2⟩
/-- a call's outcome: a generator that has not begun -/
def Made (P : Program) (w : World) (K : PySem.W.Frag) (mg : Str → Option Value) (base : Heap) (k : Nat) (outer : List Env) (S : Strm) (sc : Shared) (u : Value) (s' : Shared) : Prop :=
  ∃ (d : GDef) (a : Addr) (g : Nat) (c : Code) (oa oL : Obj), u = .ref a ∧ sc.heap.objs.size < a ∧ a < s'.heap.objs.size ∧ GObj g oa ∧ s'.heap.get? a = some oa ∧ s'.heap.get? sc.heap.objs.size = some oL ∧ (∀ v, oL.data ≠ .cell v) ∧ s'.gens[g]? = some (.fresh c) ∧
    s'.os = sc.os ∧ AllBare s'.gens ∧ (∀ b o, sc.heap.get? b = some o → s'.heap.get? b = some o) ∧
    ∀ (A : Around) (s2 : Shared), Room k A → A.frames = some outer → AllBare s2.gens → s2.heap.FunFrames base outer → s2.heap.get? sc.heap.objs.size = some oL → s2.heap.get? a = some oa →
      (∃ R, Val (S.par P w K mg base d A outer sc.heap.objs.size [(a, oa)]) lots s2 R) → GoAll (S.par P w K mg base d A outer sc.heap.objs.size [(a, oa)]) (lots + 1) s2 c ((model P w).den c) [] s2
/-- a generator def's promise: the arguments, the heap, a stream that it may be taken for -/
abbrev SpGn := List V → Hp → Strm → Prop
structure GnOk (P : Program) (w : World) (K : PySem.W.Frag) (mg : Str → Option Value) (base : Heap) (k : Nat) (f : Addr) (fd : FuncData) (ps : List Str) (sp : SpGn) : Prop where
  len : ∀ vs H S, sp vs H S → vs.length = ps.length
  run : ∀ (A : Around) (outer : List Env) (s : Shared) (H : Hp) (args : Args) (us : List Value) (vs : List V) (S : Strm), Room k A → Env0 P w K mg base A outer s H → BindsTo s fd args (ps.zip us) → Vals vs us → sp vs H S →
    codeAny (model P w) A (.call (.ref f) args) (fun r s' => match r with | .ok (.ret u) => Made P w K mg base k outer S s u s' | _ => False) s

/-- pins put into the context -/
theorem pin_all {G : GPar} {pn : List (Addr × Obj)} {s₀ s : Shared} {R H : Hp} {σ : L2.St} (I : Inv (GPar.leg { G with pn := [] } s₀ R) [] σ H s)
    (h : ∀ p ∈ pn, s.heap.get? p.1 = some p.2 ∧ H p.1 = none ∧ p.1 ≠ G.L ∧ p.1 ∉ frs G.outer ∧ ∀ v, p.2.data ≠ .cell v) : Inv (GPar.leg { G with pn := pn } s₀ R) [] σ H s := by
  obtain ⟨o, h1, h2, h3, h4, h5, h6, h7, _, h9, h10⟩ := I
  refine ⟨⟨o.mod, o.kind, o.glob, o.blt, o.above, o.inj, o.has, o.cab, o.hd, o.frames, o.stk, o.exf, o.bs, o.bsz, o.noex, o.exfs, o.funs, o.frf⟩, h1, h2, h3, h4, h5, h6, h7, fun p hp => ?_, h9, h10⟩
  rcases List.mem_append.mp hp with z | z
  · exact h p z
  · cases z
theorem cut_all {s : Shared} : cutTo s.heap.objs.size s = s := by
  unfold cutTo
  simp
section
variable {P : Program} {w : World} {K : PySem.W.Frag} {mg : Str → Option Value} {base : Heap} {k : Nat} {f : Addr} {name qual : Str} {params : Arguments} {body : List Stmt} {scope : Scope} {dV kV doc pm cdv ct oc : Value} {an od : Option Addr}
  {osl : Array (Option Value)} {N ps : List Str} {sp : SpGn}
/-- THE RULE: a generator def without cells, by its body -/
theorem gn_of (lk : K.lookup f = some ⟨oc, od, .func (PySem.W.fnOf name qual params body scope dV kV doc pm an cdv ct), osl⟩) (hcd : PySem.W.codeIn K cdv qual = true) (S : GScope N ps scope) (nocell : ∀ y ∈ scope.names, y.2 ≠ .cell)
    (len : ∀ vs H T, sp vs H T → vs.length = ps.length)
    (hbody : ∀ (A : Around) (outer : List Env) (L : Addr) (H : Hp) (vs : List V) (T : Strm) (pn : List (Addr × Obj)), Room k (A.deeper (envOfC qual scope L f cdv)) → sp vs H T →
      ∃ t, GSts (T.par P w K mg base ⟨N, qual, scope, f, cdv⟩ A outer L pn) body t ∧ ∀ R, T.nd 0 R → t { nx := fun i R' _ H' => T.fin i R' H', rt := fun i R' v H' => v = .non ∧ T.fin i R' H' } 0 R (start N vs) R) :
    GnOk P w K mg base (k + 1) f (PySem.W.fnOf name qual params body scope dV kV doc pm an cdv ct) ps sp := by
  refine ⟨len, fun A0 outer s H args us vs T hr0 e0 hb r hsp => ?_⟩
  have hl := len _ _ _ hsp
  have KX : K.In s.heap := e0.mod.kin.keeps fun b o e => (e0.bs b o e).1
  have lim : s.heap.NoLimit := e0.mod.nolimit.keeps fun b o e => (e0.bs b o e).1
  have hkind : ∀ y ∈ ps.zip us, scope.names.lookup y.1 = some .local ∨ (scope.names.lookup y.1 = some .cell ∧ ((cellsFrom (s.heap.objs.size + 1) scope.names []).lookup y.1).isSome = true) := by
    rintro ⟨n, v⟩ hy
    rcases S.par n (List.of_mem_zip hy).1 with q | q
    · exact .inl q
    · exact .inr ⟨q, PySem.W.cellsFrom_some _ _ _ (.inl q)⟩
  refine codeAny_call_generator hr0.depth (KX _ _ lk) rfl S.co S.gen rfl (PySem.W.codeRec_of KX hcd) (hb _ _ _ _ (wpAny_newFunctionEnv_cells S.kind hkind fun env he s1 x => ?_))
  subst he
  have cellsNil : ∀ (l : List (Str × NameKind)), (∀ y ∈ l, y.2 ≠ .cell) → ∀ n, cellsFrom n l [] = [] := by
    intro l
    induction l with
    | nil => intro _ n; rfl
    | cons y l ih =>
      obtain ⟨y1, y2⟩ := y
      intro hy n
      unfold cellsFrom
      rw [if_neg (by
        have z := hy (y1, y2) List.mem_cons_self
        simpa using z)]
      exact ih (fun z hz => hy z (List.mem_cons_of_mem _ hz)) n
  obtain ⟨h1, tk, es1, hk1⟩ := x.done
  have lt1 : s.heap.objs.size < s1.heap.objs.size := x.toInCall.ns.lt
  have kp1 : ∀ b o, s.heap.get? b = some o → s1.heap.get? b = some o := x.toInCall.keep
  refine ⟨lim.keeps kp1, ?_⟩
  obtain ⟨oL, esL, epL, hoL, hdL, _⟩ := id x.toInCall.ns
  have hoL : s1.heap.get? s.heap.objs.size = some oL := hoL
  have notc : ∀ v, oL.data ≠ .cell v := fun v q => by rw [hdL] at q; cases q
  have main : ∀ (go : Obj) (tk2 : Nat), GObj s1.gens.size go → (∀ v, go.data ≠ .cell v) → (∀ h : Heap, (h.push go).get? h.objs.size = some go) →
      Made P w K mg base (k + 1) outer T s (.ref s1.heap.objs.size) { s1 with gens := s1.gens.push (.fresh (.func body (envOfC qual scope s.heap.objs.size f cdv))), toks := tk2, heap := s1.heap.push go } := by
    intro go tk2 hgo hgc hpush
    have at1 : (s1.heap.push go).get? s1.heap.objs.size = some go := hpush _
    refine ⟨⟨N, qual, scope, f, cdv⟩, s1.heap.objs.size, s1.gens.size, _, go, oL, rfl, lt1, ?_, hgo, at1, Heap.get?_push_of_some _ hoL, notc, Array.getElem?_push_size .., by rw [es1], ?_, fun b o e => Heap.get?_push_of_some _ (kp1 b o e), ?_⟩
    · show _ < (s1.heap.push _).objs.size
      rw [Heap.size_push]
      exact Nat.lt_succ_self _
    · refine AllBare.push ?_ rfl
      rw [es1]
      exact e0.bare
    intro A s2 hr hfr hba hfu heL hea hR
    have e0w : Env0 P w K mg base A outer s H := ⟨hfr, e0.mod, e0.bs, e0.bsz, e0.funs, e0.frf, e0.hok, e0.bare⟩
    have I1 := inv_startG (E := T.E) S hr.hd e0w hl r x
    obtain ⟨t, ht, hq⟩ := hbody A outer s.heap.objs.size H vs T [(s1.heap.objs.size, go)] (hr.deeper _) hsp
    generalize hG : T.par P w K mg base ⟨N, qual, scope, f, cdv⟩ A outer s.heap.objs.size [(s1.heap.objs.size, go)] = G at ht hR ⊢
    have hGp : G = { (T.par P w K mg base ⟨N, qual, scope, f, cdv⟩ A outer s.heap.objs.size []) with pn := [(s1.heap.objs.size, go)] } := by rw [← hG]
    have hcl : (envOfC qual scope s.heap.objs.size f cdv).cells = [] := cellsNil scope.names nocell _
    have young : s1.heap.objs.size ≠ s.heap.objs.size ∧ s1.heap.objs.size ∉ frs outer := by
      refine ⟨Nat.ne_of_gt lt1, fun hm => ?_⟩
      exact absurd (Nat.lt_trans lt1 (funs_lt e0.funs _ hm)) (Nat.lt_irrefl _)
    have start2 : ∀ R, Val G lots s2 R → Inv (G.leg s2 R) [] (start N vs) R s2 := by
      intro R v
      subst hG
      have I1' : Inv (GPar.leg (T.par P w K mg base ⟨N, qual, scope, f, cdv⟩ A outer s.heap.objs.size []) s H) [] (start N vs) H s1 := by
        unfold GPar.leg
        rw [show cutTo (T.par P w K mg base ⟨N, qual, scope, f, cdv⟩ A outer s.heap.objs.size []).L s = s from cut_all]
        exact I1
      have I2 := woken (s' := s2) (R' := R) (k := lots) hcl (Nat.le_refl _) I1' ⟨hba, hfu, fun o e => by
          have e' : s1.heap.get? s.heap.objs.size = some o := e
          rw [hoL] at e'
          cases e'
          exact heL, (fun p hp => absurd (show p ∈ ([] : List (Addr × Obj)) from hp) (by simp))⟩ ⟨v.hok, v.bs, v.frf, v.free, (fun p hp => absurd (show p ∈ ([] : List (Addr × Obj)) from hp) (by simp)), v.nd⟩
      refine pin_all (G := T.par P w K mg base ⟨N, qual, scope, f, cdv⟩ A outer s.heap.objs.size []) I2 fun p hp => by
        rw [List.mem_singleton.mp hp]
        exact ⟨hea, v.pn _ (List.mem_singleton.mpr rfl), young.1, young.2, hgc⟩
    refine seg_all (mono_GY G) (by unfold lots; omega) hR fun R v => ?_
    have I2 := start2 R v
    have hL2 : G.L ≤ s2.heap.objs.size := by
      subst hG
      exact Nat.le_of_lt (Heap.lt_size heL)
    have nd0 : T.nd 0 R := by
      have z := v.nd
      subst hG
      simpa using z
    have q0 := hq R nd0
    show GSeg G lots R s2 (.func body (envOfC qual scope s.heap.objs.size f cdv)) ((model G.P G.w).den (.func body (envOfC qual scope s.heap.objs.size f cdv))) [] s2
    subst hG
    refine seg_func ?_
    refine ht.run lots 0 s2 R _ [] _ _ id id s2 (start N vs) R _ ⟨over_func, rfl, rfl, rfl⟩ rfl (by unfold lots; omega) hL2 ⟨fun k' i' s₀' R' s' fl hk' h1' hL' hs => ?_, fun k' s₀' R' e s' h1' hx => ?_⟩ I2 q0
    · have ei : lots + 1 - (k' + 1) = i' := by omega
      cases fl with
      | next =>
        obtain ⟨σ', H', I', hf⟩ := hs
        refine seg_end (.ok (.ret .none)) ?_
        unfold mixR
        rw [if_pos rfl]
        exact .inl ⟨.inl rfl, σ', H', I', by rw [ei]; exact hf⟩
      | brk => obtain ⟨_, _, _, q⟩ := hs; exact False.elim q
      | cont => obtain ⟨_, _, _, q⟩ := hs; exact False.elim q
      | ret u =>
        obtain ⟨v', σ', H', I', rv, ev, hf⟩ := hs
        subst ev
        have eu : u = Value.none := rv
        subst eu
        refine seg_end (.ok (.ret .none)) ?_
        unfold mixR
        rw [if_pos rfl]
        exact .inl ⟨.inl rfl, σ', H', I', by rw [ei]; exact hf⟩
    · refine seg_wrap ?_
      rw [over_func]
      refine wpAny_mono hx (fun _ z q => ?_) fun _ z q => q.elim
      refine seg_end (.error e) ?_
      unfold mixR
      rw [if_pos rfl]
      exact .inr ⟨e, rfl, q⟩
  exact main _ _ ⟨rfl, rfl, _, _, rfl⟩ (fun v q => by cases q) fun h => Heap.get?_push_size _ rfl
end
end Gz
set_option maxHeartbeats 1000000
/-! next(g), for any wishes. -/
namespace Gz
open PySem PySem.Spec PyProof.Rows L2 GenW
theorem end_bare {e : End} (h : e.quiet = true) : e.genState.bare = true := by
  cases e with
  | ret r => rfl
  | susp v g l k c p fs => exact h
/-- it goes on with one yield less -/
def goesLess (M : Model) (A : Around) (R : GenEnd) (Y : Protocol) : Nat → GenState → Resume → Shared → Prop
  | 0 => fun _ _ _ => False
  | m + 1 => fun y r s => y.Goes M A R Y m r s
/-- a generator is woken -/
theorem wake_run {M : Model} {A : Around} {R : GenEnd} {Y : Protocol} {n : Nat} {E : Value → Shared → Prop} {s : Shared} {g : Nat} {gs : GenState} {rs : Resume} {l : List Value} {α : Type} {k : GenResult → Sem α} {Q : α → Shared → Prop}
    (hg : s.gens[g]? = some gs) (hgo : gs.Goes M A R Y n rs (s.setGen g .running))
    (hR : ∀ x z, R n (s.setGen g .running) x z → wpAny M A (k (End.ret x).result) Q E (z.setGen g .finished))
    (hY : ∀ v z y, y.bare = true → sleeping y = true → Y (n - 1) (s.setGen g .running) v z (goesLess M A R Y n y) → wpAny M A (k (.yielded v)) Q E (z.setGen g y)) :
    wpAny M A (.resume g rs l k) Q E s := by
  intro Γ p hΓ
  have key : ∃ e z, SegEnd R Y n (Seg.next M A R Y n) (s.setGen g .running) e z ∧ Wakes M Γ p g rs s e.result (z.setGen g e.genState) ∧ e.quiet = true := by
    have qt : ∀ e z, SegEnd R Y n (Seg.next M A R Y n) (s.setGen g .running) e z → e.quiet = true := fun e z q => by
      cases e with
      | ret x => rfl
      | susp v b l' k' c p' fs => exact q.1
    cases gs with
    | running => exact hgo.elim
    | finished => exact hgo.elim
    | fresh c =>
      obtain ⟨e1, q⟩ := hgo
      subst e1
      obtain ⟨e, z, hr, he⟩ := seg_iff.mp q (Γ.wake c p) p rfl (hΓ.wake c p)
      refine ⟨e, z, he, ?_, qt e z he⟩
      unfold Wakes
      simp only [hg]
      exact ⟨e, z, hr, qt e z he, rfl, rfl⟩
    | suspended k1 l1 c1 p1 fs1 cl1 =>
      obtain ⟨e, z, hr, he⟩ := seg_iff.mp (show Seg M A R Y n (s.setGen g .running) c1 (k1 rs) fs1 (s.setGen g .running) from hgo) (Γ.wake c1 p) p1 rfl (hΓ.wake c1 p)
      refine ⟨e, z, he, ?_, qt e z he⟩
      unfold Wakes
      simp only [hg]
      exact ⟨e, z, hr, qt e z he, rfl, rfl⟩
  obtain ⟨e, z, he, hw, hq⟩ := key
  rw [Sem.wp_resume]
  refine ⟨_, _, hw, ?_⟩
  cases e with
  | ret x => exact hR x z he Γ p hΓ
  | susp v b l' k' c p' fs =>
    refine hY v z _ (end_bare hq) rfl ?_ Γ p hΓ
    cases n with
    | zero => exact he.2
    | succ m => exact he.2
/-- the generator is woken by next: it hands out an item, or it is at its end, or lets out what is no StopIteration -/
theorem next_gn {P : Program} {w : World} {A : Around} {E : Value → Shared → Prop} {s : Shared} {a : Addr} {g n : Nat} {gs : GenState} {R : GenEnd} {Y : Protocol} {Q : Option Value → Shared → Prop} (hh : A.handled = none) (hl : s.heap.NoLimit) (hroom : A.depth < recursionLimit) (hg : s.heap.IsGen a g)
    (hgs : s.gens[g]? = some gs) (hgo : gs.Goes (model P w) A.in1 R Y n (.send .none) (s.setGen g .running))
    (hY : ∀ v z y, y.bare = true → sleeping y = true → Y (n - 1) (s.setGen g .running) v z (goesLess (model P w) A.in1 R Y n y) → Q (some v) (z.setGen g y))
    (hR : ∀ r z, R n (s.setGen g .running) r z →
      ((r = .ok (.ret .none) ∨ r = .ok .next) ∧ ∀ h', (∀ b o, z.heap.get? b = some o → h'.get? b = some o) → Q none { z.setGen g .finished with heap := h' }) ∨
      ∃ e, r = .error e ∧ z.heap.IsGen a g ∧ NotStop (model P w) e z.heap ∧ E e (z.setGen g .finished)) :
    wpAny (model P w) A (pyNext (.ref a)) Q E s := by
  unfold pyNext
  refine wpAny_bind (wpAny_attempt ?_)
  refine wpAny_callSpecial?_slot (name := Str.ofString "__next__") hg.typeIs slot_gen_next ?_
  refine wpAny_call_entry slot_gen_next hg.typeIs entry_gen_next ?_ (args_gen_next _)
  show wpAny (model P w) A.in1 (Builtin.Generator.genWake (.ref a) (.send .none)) _ _ s
  unfold Builtin.Generator.genWake
  refine wpAny_bind (wpAny_holding (wpAny_genNumber hg ?_))
  refine wpAny_bind (wpAny_genState hgs ?_)
  have awake : gs.status = .fresh ∨ gs.status = .suspended := by
    cases gs with
    | fresh c => exact .inl rfl
    | suspended => exact .inr rfl
    | running => exact hgo.elim
    | finished => exact hgo.elim
  rcases awake with hst | hst
  all_goals
    rw [hst]
    refine wpAny_bind (wpAny_roomToWake hl hroom ?_)
    show wpAny (model P w) A.in1 (.resume g (.send .none) [] _) _ _ s
    refine wake_run hgs hgo (fun r z hr => ?_) (fun v z y hb hsl hy => wpAny_pure ⟨v, rfl, wpAny_pure (hY v z y hb hsl hy)⟩)
    rcases hR r z hr with ⟨hr, hp⟩ | ⟨e, rfl, hg1, hns, hq⟩
    · have res : End.result (.ret r) = .returned .none := by rcases hr with h | h <;> (rw [h]; rfl)
      rw [res]
      show wpAny (model P w) A.in1 (newExc (.type "StopIteration") [] >>= fun x => raiseNew x >>= fun _ => _) _ _ _
      simp only [newExc, newTuple]
      refine wpAny_bind (wpAny_bind (wpAny_newObj_type ?_ (by size_fits)))
      refine wpAny_bind (m := firstArgMember _ _) (wpAny_of_eq (a := Value.none) ?_ ?_)
      · first | rfl | (simp only [firstArgMember]; rfl)
      refine wpAny_newObj_type ?_ (by size_fits)
      simp only [raiseNew]
      refine wpAny_bind (wpAny_bind (wpAny_handled ?_))
      first | rw [hh] | rw [show A.in1.handled = none from hh]
      refine wpAny_throw ?_
      refine wpAny_bind (wpAny_isInstance (b := true) (T := "StopIteration") ⟨_, Heap.get?_push_size _ rfl, rfl⟩ isSubtype_stop ?_)
      exact wpAny_pure (hp _ fun b o hb => Heap.get?_push_of_some _ (Heap.get?_push_of_some _ hb))
    · obtain ⟨o, nm, qn, ho, hc, hd, hsl⟩ := hg1
      show wpAny (model P w) A.in1 (Builtin.Generator.genLeft (.ref a) e) _ _ _
      unfold Builtin.Generator.genLeft Builtin.Generator.madeByALambda
      refine wpAny_bind (wpAny_bind (wpAny_load (o := o) ho ?_))
      refine wpAny_pure (wpAny_bind (hns _ _ _ _ rfl ?_))
      rw [Bool.and_false, if_neg Bool.false_ne_true]
      unfold Builtin.Generator.genEscaped
      first
        | refine wpAny_bind (wpAny_pure ?_); refine wpAny_bind (hns _ _ _ _ rfl ?_)
        | refine wpAny_bind (hns _ _ _ _ rfl ?_)
      rw [if_pos (show (!false) = true from rfl)]
      first | refine wpAny_bind (wpAny_throw ?_) | refine wpAny_throw ?_
      refine wpAny_bind (hns _ _ _ _ rfl ?_)
      rw [if_neg Bool.false_ne_true]
      exact wpAny_throw hq
end Gz
set_option maxHeartbeats 1000000
/-! The consumer of a generator: what it knows behind next(g). -/
namespace Gz
open PySem PySem.Spec PyProof.Rows L2 GenW
/-- younger than the generator and not tracked: frozen while the generator runs -/
def ovl (L a : Addr) (h : Heap) (H : Hp) (b : Addr) : Bool := (H b).isNone && (decide (L < b) && (decide (b ≠ a) && (h.get? b).isSome))
theorem ovl_iff {L a : Addr} {h : Heap} {H : Hp} {b : Addr} : ovl L a h H b = true ↔ H b = none ∧ L < b ∧ b ≠ a ∧ ∃ o, h.get? b = some o := by
  unfold ovl
  simp [Option.isSome_iff_exists]
def layH (L a : Addr) (h : Heap) (H : Hp) : Hp := fun b => if ovl L a h H b = true then (h.get? b).map fun o => .frz o (.own 0) else H b
def offH (L a : Addr) (h : Heap) (H H1 : Hp) : Hp := fun b => if ovl L a h H b = true then none else H1 b
section
variable {L a : Addr} {h h1 : Heap} {H H1 : Hp} {b : Addr} {o : HO}
theorem lay_of (e : H b = some o) : layH L a h H b = some o := by
  unfold layH
  rw [if_neg fun z => by rw [(ovl_iff.mp z).1] at e; cases e]
  exact e
theorem lay_frz {ob : Obj} (z : ovl L a h H b = true) (e : h.get? b = some ob) : layH L a h H b = some (.frz ob (.own 0)) := by
  unfold layH
  rw [if_pos z, e]
  rfl
theorem lay_none (z : ¬ ovl L a h H b = true) (e : H b = none) : layH L a h H b = none := by
  unfold layH
  rw [if_neg z]
  exact e
theorem lay_none_old (hb : b ≤ L) (e : H b = none) : layH L a h H b = none := lay_none (fun z => absurd (Nat.lt_of_lt_of_le (ovl_iff.mp z).2.1 hb) (Nat.lt_irrefl _)) e
theorem off_of (e : H b = some o) : offH L a h H H1 b = H1 b := by
  unfold offH
  rw [if_neg fun z => by rw [(ovl_iff.mp z).1] at e; cases e]
theorem lay_hok {P : Program} {w : World} (x : HOk P w H h) : HOk P w (layH L a h H) h := fun b u e => by
  by_cases z : ovl L a h H b = true
  · obtain ⟨_, _, _, ob, eb⟩ := ovl_iff.mp z
    rw [lay_frz z eb] at e
    cases e
    exact ⟨eb, ob, eb⟩
  · unfold layH at e
    rw [if_neg z] at e
    exact (x b u e).stay (fun _ _ _ q => q) (fun _ q => lay_of q) fun _ _ q => lay_of q
theorem off_hok {P : Program} {w : World} (x : HOk P w H1 h1) (hf : ∀ b, ovl L a h H b = true → ∃ ob, H1 b = some (.frz ob (.own 0))) : HOk P w (offH L a h H H1) h1 := fun b u e => by
  by_cases z : ovl L a h H b = true
  · unfold offH at e
    rw [if_pos z] at e
    cases e
  · unfold offH at e
    rw [if_neg z] at e
    refine (x b u e).stay (fun _ _ _ q => q) (fun c q => ?_) fun c xs q => ?_
    · unfold offH
      rw [if_neg fun y => by obtain ⟨ob, eb⟩ := hf c y; rw [eb] at q; cases q]
      exact q
    · unfold offH
      rw [if_neg fun y => by obtain ⟨ob, eb⟩ := hf c y; rw [eb] at q; cases q]
      exact q
theorem obj_there {P : Program} {w : World} {a : Addr} {o : HO} (x : ObjOk P w H h a o) : ∃ ob, h.get? a = some ob := by
  cases o with
  | lst xs => obtain ⟨_, _, _, _, e⟩ := x; exact ⟨_, e⟩
  | tup xs => obtain ⟨_, _, _, ob, e, _⟩ := x; exact ⟨_, e⟩
  | dK kvs => obtain ⟨_, _, _, _, ob, _, _, e, _⟩ := x; exact ⟨_, e⟩
  | dT kvs => obtain ⟨_, _, _, _, ob, _, _, e, _⟩ := x; exact ⟨_, e⟩
  | set S n => obtain ⟨ob, _, _, _, e, _⟩ := x; exact ⟨_, e⟩
  | ins C dx fs => obtain ⟨_, _, _, e, _⟩ := x; exact ⟨_, e⟩
  | own y => exact x
  | xd fs => obtain ⟨_, ⟨_, _, _, e, _⟩, _⟩ := x; exact ⟨_, e⟩
  | rng lo hi => obtain ⟨_, _, _, e⟩ := x; exact ⟨_, e⟩
  | frz ob u => exact ⟨_, x.1⟩
  | tbl ps => exact ⟨_, x⟩
  | met f y => exact ⟨_, x⟩
  | ext φ => exact x.2.1
end
/-- what a stream's wishes bear -/
structure Strm.Ok (S : Strm) : Prop where
  nd : ∀ i R R', (∀ b o, R b = some o → R' b = some o) → S.nd i R → S.nd i R'
  yl : ∀ i H R x H1 H2, (∀ b o, H b = some o → R b = some o) → (∀ b o, H1 b = some o → (∀ ob, o ≠ .frz ob (.own 0)) → H2 b = some o) → (∀ b, H b ≠ none → H2 b = H1 b) → S.yl i R x H1 → S.yl i H x H2
  fin : ∀ i H R H1 H2, (∀ b o, H b = some o → R b = some o) → (∀ b o, H1 b = some o → (∀ ob, o ≠ .frz ob (.own 0)) → H2 b = some o) → (∀ b, H b ≠ none → H2 b = H1 b) → S.fin i R H1 → S.fin i H H2
  thrY : ∀ i R x H1, S.yl i R x H1 → ∀ b o, R b = some o → ∃ o', H1 b = some o'
  few : ∀ i R x H1, S.yl i R x H1 → i + 2 ≤ lots
  thrF : ∀ i R H1, S.fin i R H1 → ∀ b o, R b = some o → ∃ o', H1 b = some o'

section
variable {X : Cx} {S : Strm} {d : GDef} {L a : Addr} {g : Nat} {oa : Obj} {pins : List (Addr × Obj)} {σ : L2.St} {H : Hp} {s : Shared}
abbrev consG (X : Cx) (S : Strm) (d : GDef) (L a : Addr) (oa : Obj) : GPar := S.par X.prog X.w X.K X.mg X.base d X.A.in1 X.stack L [(a, oa)]
/-- where the generator's objects stand -/
structure Seat (X : Cx) (L a : Addr) (g : Nat) (oa : Obj) : Prop where
  lt : L < a
  obj : GObj g oa
  fr : ∀ b ∈ frs X.stack, b < L
  bsz : X.base.objs.size ≤ L
/-- ready to be woken: i items are out -/
def Ready (X : Cx) (S : Strm) (d : GDef) (L a : Addr) (g : Nat) (oa : Obj) (i : Nat) (s : Shared) : Prop :=
  ∃ k gs, k + i = lots ∧ s.gens[g]? = some gs ∧ gs.Goes (model X.prog X.w) X.A.in1 (allR (Val (consG X S d L a oa)) (GR (consG X S d L a oa))) (allY (Val (consG X S d L a oa)) (GY (consG X S d L a oa))) (k + 1) (.send .none) (s.setGen g .running)
/-- asleep since z: i items are out -/
def Sleep (X : Cx) (S : Strm) (d : GDef) (L a : Addr) (g : Nat) (oa : Obj) (i : Nat) (z : Shared) (y : GenState) : Prop :=
  ∃ k, k + i = lots ∧ ∀ s', Nap (consG X S d L a oa) z s' → (∃ R', Val (consG X S d L a oa) k s' R') → y.Goes (model X.prog X.w) X.A.in1 (allR (Val (consG X S d L a oa)) (GR (consG X S d L a oa))) (allY (Val (consG X S d L a oa)) (GY (consG X S d L a oa))) (k + 1) (.send .none) s'
theorem allBare_set {s : Shared} {g : Nat} {x : GenState} (h : AllBare s.gens) (hx : x.bare = true) : AllBare (s.setGen g x).gens := allBare_setGen h hx
theorem inv_gens {G : Array GenState} (I : Inv X pins σ H s) (h : AllBare G) : Inv X pins σ H { s with gens := G } :=
  ⟨I.ok, I.os, h, I.base, I.loc, I.cell, I.free, I.freeC, I.pin, I.hok, I.len⟩
theorem inv_setGen {x : GenState} (I : Inv X pins σ H s) (hx : x.bare = true) : Inv X pins σ H (s.setGen g x) := inv_gens I (allBare_set I.bare hx)
theorem setGen_self {s : Shared} {x : GenState} (h : g < s.gens.size) : (s.setGen g x).gens[g]? = some x := setGen_at h
/-- what the consumer knows is worth a waking -/
theorem val_of {k i : Nat} (seat : Seat X L a g oa) (I : Inv X pins σ H s) (hL : H L = none) (ha : H a = none) (hk : k + i = lots) (nd : S.nd i H) : Val (consG X S d L a oa) k (s.setGen g .running) H :=
  ⟨I.hok, I.bs, I.stkFree, hL, fun p hp => by rw [List.mem_singleton.mp hp]; exact ha, by
    have e : lots - k = i := by omega
    show S.nd (lots - k) H
    rw [e]
    exact nd⟩
theorem val_lay {k i : Nat} (hS : S.Ok) (seat : Seat X L a g oa) (I : Inv X pins σ H s) (hL : H L = none) (ha : H a = none) (hk : k + i = lots) (nd : S.nd i H) :
    Val (consG X S d L a oa) k (s.setGen g .running) (layH L a s.heap H) := by
  refine ⟨lay_hok I.hok, fun b o e => ?_, fun b hb => ?_, lay_none_old (Nat.le_refl _) hL, fun p hp => ?_, ?_⟩
  · obtain ⟨h1, h2⟩ := I.bs b o e
    exact ⟨h1, lay_none_old (Nat.le_of_lt (Nat.lt_of_lt_of_le (Heap.lt_size e) seat.bsz)) h2⟩
  · exact lay_none_old (Nat.le_of_lt (seat.fr b hb)) (I.stkFree b hb)
  · rw [List.mem_singleton.mp hp]
    exact lay_none (fun z => (ovl_iff.mp z).2.2.1 rfl) ha
  · have e : lots - k = i := by omega
    show S.nd (lots - k) _
    rw [e]
    exact hS.nd i H _ (fun b o q => lay_of q) nd
/-- asleep, and the consumer has done its part: ready again -/
theorem ready_of {i : Nat} {z : Shared} {y : GenState} {oL : Obj} (sl : Sleep X S d L a g oa i z y) (seat : Seat X L a g oa) (hz : z.heap.get? L = some oL) (hy : s.gens[g]? = some y)
    (I : Inv X pins σ H s) (eL : s.heap.get? L = some oL) (ea : s.heap.get? a = some oa) (hL : H L = none) (ha : H a = none) (nd : S.nd i H) : Ready X S d L a g oa i s := by
  obtain ⟨k, hk, go⟩ := sl
  refine ⟨k, y, hk, hy, go _ ⟨allBare_set I.bare rfl, I.stack, fun o e => ?_, fun p hp => ?_⟩ ⟨H, val_of seat I hL ha hk nd⟩⟩
  · have e : z.heap.get? L = some o := e
    rw [hz] at e
    cases e
    exact eL
  · rw [List.mem_singleton.mp hp]
    exact ea
/-- what the generator did, as its consumer sees it -/
theorem un_cons {sr : Shared} {s1 : Shared} {σ1 : L2.St} (seat : Seat X L a g oa) (I : Inv X pins σ H s) (es : sr.heap = s.heap) (ea : s.heap.get? a = some oa) (ha : H a = none) (hLt : ∃ oL, s.heap.get? L = some oL)
    (J : Inv (GPar.leg (consG X S d L a oa) sr (layH L a s.heap H)) [] σ1 H1 s1) (thr : ∀ b o, H b = some o → ∃ o', H1 b = some o') :
    Un (frs X.stack) [L] H (offH L a s.heap H H1) s.heap s1.heap ∧ HOk X.prog X.w (offH L a s.heap H H1) s1.heap ∧ (∀ b, ovl L a s.heap H b = true → ∃ ob, H1 b = some (.frz ob (.own 0))) := by
  have U : Un (frs X.stack) [] (layH L a s.heap H) H1 (cutTo L sr).heap s1.heap := J.base
  have cut : ∀ {b : Addr} {o : Obj}, b < L → s.heap.get? b = some o → (cutTo L sr).heap.get? b = some o := fun {b o} hb e => by
    rw [cut_get hb, es]
    exact e
  have pa := J.pin (a, oa) (List.mem_append_left _ (List.mem_singleton.mpr rfl))
  have frz : ∀ b, ovl L a s.heap H b = true → ∃ ob, s.heap.get? b = some ob ∧ H1 b = some (.frz ob (.own 0)) ∧ s1.heap.get? b = some ob := fun b z => by
    obtain ⟨_, _, _, ob, eb⟩ := ovl_iff.mp z
    have q := U.frzs b ob (.own 0) (lay_frz z eb)
    exact ⟨ob, eb, q, (J.hok b _ q).1⟩
  have young : ∀ {b : Addr} {o : Obj}, s.heap.get? b = some o → H b = none → b ∉ ([L] : List Addr) → ¬ b < L → b = a ∨ ovl L a s.heap H b = true := fun {b o} e n hb hl => by
    by_cases z : b = a
    · exact .inl z
    · refine .inr (ovl_iff.mpr ⟨n, ?_, z, o, e⟩)
      have : b ≠ L := fun q => hb (by rw [q]; exact List.mem_singleton.mpr rfl)
      exact Nat.lt_of_le_of_ne (Nat.not_lt.mp hl) (Ne.symm this)
  refine ⟨⟨fun b o e n hf hx => ?_, fun b o e n hf hx => ?_, fun b o e n hx => ?_, fun b o e hx => ?_, fun b xs q => ?_, fun b ob u q => ?_, fun b ps q => ?_⟩, off_hok J.hok (fun b z => let ⟨ob, _, q, _⟩ := frz b z; ⟨ob, q⟩), fun b z => let ⟨ob, _, q, _⟩ := frz b z; ⟨ob, q⟩⟩
  · by_cases hl : b < L
    · exact U.keep b o (cut hl e) (lay_none_old (Nat.le_of_lt hl) n) hf (by simp)
    · rcases young e n hx hl with z | z
      · subst z
        rw [ea] at e
        cases e
        exact pa.1
      · obtain ⟨ob, e1, _, e2⟩ := frz b z
        rw [e] at e1
        cases e1
        exact e2
  · have hl := seat.fr b hf
    exact U.slot b o (cut hl e) (lay_none_old (Nat.le_of_lt hl) n) hf (by simp)
  · by_cases z : ovl L a s.heap H b = true
    · unfold offH
      rw [if_pos z]
    · unfold offH
      rw [if_neg z]
      by_cases hl : b < L
      · exact U.free b o (cut hl e) (lay_none_old (Nat.le_of_lt hl) n) (by simp)
      · rcases young e n hx hl with y | y
        · subst y
          exact pa.2.1
        · exact absurd y z
  · by_cases hl : b < L
    · exact U.there b o (cut hl e) (by simp)
    · cases n : H b with
      | none =>
        rcases young e n hx hl with z | z
        · subst z
          exact ⟨oa, pa.1⟩
        · obtain ⟨ob, _, _, e2⟩ := frz b z
          exact ⟨ob, e2⟩
      | some u =>
        obtain ⟨u', q⟩ := thr b u n
        exact obj_there (J.hok b u' q)
  · rw [off_of q]
    exact U.tups b xs (lay_of q)
  · rw [off_of q]
    exact U.frzs b ob u (lay_of q)
  · rw [off_of q]
    exact U.tbls b ps (lay_of q)
/-- THE RULE: next of a generator that is ready -/
theorem next_cons {i : Nat} {Q : Option Value → Shared → Prop} {E : Value → Shared → Prop} (hS : S.Ok) (hE : ∀ c dd H', ¬ S.E c dd H') (hh : X.A.handled = none) (hroom : X.A.depth < recursionLimit) (seat : Seat X L a g oa) (I : Inv X pins σ H s)
    (fL : FpOk X pins H L) (fa : FpOk X pins H a) (hLt : ∃ oL, s.heap.get? L = some oL) (ea : s.heap.get? a = some oa) (nd : S.nd i H) (rd : Ready X S d L a g oa i s)
    (hY : ∀ x v H' z y oL, RelV x v → Inv X pins σ H' (z.setGen g y) → S.yl i H x H' → H' L = none → H' a = none → z.heap.get? a = some oa → z.heap.get? L = some oL → (∀ q, oL.data ≠ .cell q) → (z.setGen g y).gens[g]? = some y → sleeping y = true → Sleep X S d L a g oa (i + 1) z y →
      Q (some v) (z.setGen g y))
    (hD : ∀ H' z, Inv X pins σ H' z → S.fin i H H' → Q none z) :
    wpAny (model X.prog X.w) X.A (pyNext (.ref a)) Q E s := by
  obtain ⟨k, gs, hk, hgs, go⟩ := rd
  have gl : g < s.gens.size := (Array.getElem?_eq_some_iff.mp hgs).1
  have vl := val_lay (k := k) (d := d) hS seat I fL.1 fa.1 hk nd
  have ei : lots - k = i := by omega
  have hch : ∀ b ∈ ([L] : List Addr), (b ∈ X.ex ∨ X.s_0.heap.objs.size ≤ b) ∧ b ≠ X.env.locals ∧ (∀ x c, X.env.cells.lookup x = some c → c ≠ b) ∧ ∀ p ∈ X.pn ++ pins, p.1 ≠ b := fun b hb => by
    rw [List.mem_singleton.mp hb]
    exact ⟨fL.2.2.2.1, fL.2.1, fL.2.2.2.2.1, fL.2.2.2.2.2⟩
  -- what both ends share
  have back : ∀ {σ1 : L2.St} {H1 : Hp} {z : Shared}, Inv (GPar.leg (consG X S d L a oa) (s.setGen g .running) (layH L a s.heap H)) [] σ1 H1 z → (∀ b o, H b = some o → ∃ o', H1 b = some o') →
      (∀ x : GenState, x.bare = true → Inv X pins σ (offH L a s.heap H H1) (z.setGen g x)) ∧ offH L a s.heap H H1 L = none ∧ offH L a s.heap H H1 a = none ∧ z.heap.get? a = some oa ∧ (∃ oL, z.heap.get? L = some oL ∧ ∀ q, oL.data ≠ .cell q) ∧
      (∀ b o, H1 b = some o → (∀ ob, o ≠ .frz ob (.own 0)) → offH L a s.heap H H1 b = some o) := fun {σ1 H1 z} J thr => by
    obtain ⟨u, hok, frz⟩ := un_cons (sr := s.setGen g .running) seat I rfl ea fa.1 hLt J thr
    have pa := J.pin (a, oa) (List.mem_append_left _ (List.mem_singleton.mpr rfl))
    have nL : offH L a s.heap H H1 L = none := by
      unfold offH
      split
      · rfl
      · exact J.free
    have na : offH L a s.heap H H1 a = none := by
      unfold offH
      split
      · rfl
      · exact pa.2.1
    refine ⟨fun x hx => I.call' (ch := [L]) (s' := z.setGen g x) J.os u hok (allBare_set J.bare hx) hch, nL, na, pa.1, ?_, fun b o e ne => ?_⟩
    · obtain ⟨m, ⟨oL, es, ep, h1, h2, _⟩, _⟩ := J.loc
      exact ⟨oL, h1, fun q hq => by rw [h2] at hq; cases hq⟩
    · unfold offH
      rw [if_neg fun y => by
        obtain ⟨ob, eb⟩ := frz b y
        rw [e] at eb
        cases eb
        exact ne ob rfl]
      exact e
  have same : ∀ {H1 : Hp} b, H b ≠ none → offH L a s.heap H H1 b = H1 b := fun {H1} b hb => by
    unfold offH
    rw [if_neg fun y => hb (ovl_iff.mp y).1]
  refine GenW.wpAny_gsz (n := g + 1) gl ?_
  refine next_gn hh I.nolimit hroom (seat.obj.isGen ea) hgs go (fun v z y hb hsl hy => ?_) (fun r z hr => ?_)
  · obtain ⟨_, hy⟩ := hy
    obtain ⟨x, σ1, H1, rv, J, hy0, kap⟩ := hy _ vl
    have hyl : S.yl i (layH L a s.heap H) x H1 := by
      have q : S.yl (lots - k) (layH L a s.heap H) x H1 := hy0
      rw [ei] at q
      exact q
    obtain ⟨J2, nL, na, pa, ⟨oL, eL, cL⟩, hof⟩ := back J (fun b o e => hS.thrY i _ x H1 hyl b o (lay_of e))
    have few := hS.few i _ x H1 hyl
    obtain ⟨k2, hk2⟩ : ∃ m, k = m + 1 := ⟨k - 1, by omega⟩
    subst hk2
    intro hsz
    have gz : g < z.gens.size := by
      have q : (z.setGen g y).gens.size = z.gens.size := GenW.setGen_size z g y
      omega
    refine hY x v _ z y oL rv (J2 y hb) (hS.yl i H _ x H1 _ (fun b o e => lay_of e) hof same hyl) nL na pa eL cL (setGen_self gz) hsl ⟨k2, by omega, fun s' hn hv => kap s' hn hv⟩
  · obtain ⟨_, hr⟩ := hr
    rcases hr _ vl with ⟨h1, σ1, H1, J, hf⟩ | ⟨e, rfl, c, _⟩
    · refine .inl ⟨h1, fun h' hk' _ => ?_⟩
      have hf : S.fin i (layH L a s.heap H) H1 := by
        have z : S.fin (lots + 1 - (k + 1)) (layH L a s.heap H) H1 := hf
        rw [show lots + 1 - (k + 1) = i by omega] at z
        exact z
      obtain ⟨J2, _, _, _, _, hof⟩ := back J (fun b o e => hS.thrF i _ H1 hf b o (lay_of e))
      have J3 := J2 .finished rfl
      exact hD _ _ (J3.kept (t' := z.toks) hk') (hS.fin i H _ H1 _ (fun b o e => lay_of e) hof same hf)
    · obtain ⟨_, _, _, c, dd, _, _, _, _, _, _, _, hh'⟩ := c
      exact (hE _ _ _ hh').elim
end
end Gz
set_option maxHeartbeats 1000000
/-! Calls of generator defs as expressions; for x in g(..). -/
namespace Gz
open PySem PySem.Spec PyProof.Rows L2 GenW
abbrev TIg := L2.St → Hp → (Strm → Hp → Prop) → Prop
/-- a generator has been made and has not begun -/
def MadeIn (X : Cx) (k : Nat) (pins : List (Addr × Obj)) (σ : L2.St) (R : Strm → Hp → Prop) (u : Value) (s' : Shared) : Prop :=
  ∃ H1 sc S, Inv X pins σ H1 sc ∧ Made X.prog X.w X.K X.mg X.base k X.stack S sc u s' ∧ R S H1
structure PGn (X : Cx) (k : Nat) (e : Expr) (tg : TIg) : Prop where
  run : ∀ (pins : List (Addr × Obj)) (s : Shared) (σ : L2.St) (H : Hp) (R : Strm → Hp → Prop), Inv X pins σ H s → tg σ H R → wpAny (model X.prog X.w) X.A (eval e X.env) (MadeIn X k pins σ R) X.xe s
section
variable {X : Cx} {k : Nat} {f : Addr} {fd : FuncData} {ps : List Str} {sp : SpGn} {dvs : List V} {ds : List Value} {x : Str} {p pos : Pos}
def tCallGn (sp : SpGn) (dvs : List V) (t : TA) : TIg := fun σ H R => t σ H fun vs H1 => ∃ S, sp (vs ++ dvs) H1 S ∧ R S H1
/-- g(e, ..) -/
theorem pgn_call {e : Expr} {es : List Expr} {t : TA} (F : GnOk X.prog X.w X.K X.mg X.base k f fd ps sp) (hr : Room k X.A) (hg : Gl X x) (hm : X.mg x = some (.ref f)) (hk : PySem.W.keepIn X.K (.ref f) = true) (hb : Binds X.K fd ps ds) (hd : Vals dvs ds)
    (ha : PA X (e :: es) t) (hdb : (x == ("__debug__" : Str)) = false := by decide) (he : starEach (e :: es) X.env = (false, eval e X.env) :: starEach es X.env := by rfl) (hpl : (backTo pos (starEach es X.env)).any (·.1) = false := by rfl) :
    PGn X k (.Call (.Name x p) (e :: es) [] pos) (tCallGn sp dvs t) := ⟨fun pins s σ H R I h => by
  refine wpAny_Call_Name_kw (ld_glob I hg hm ?_ hdb)
  refine PySem.W.callWith_K (h₀ := X.base) I.ok.mod.kin hk (thn (ha.run pos pins s σ H _ I h) fun us s1 hu => ?_) he hpl
  obtain ⟨vs, H1, I1, r, S, hsp, q⟩ := hu
  refine ⟨I1.kIn, ?_⟩
  have r2 : Vals (vs ++ dvs) (us ++ ds) := r.append hd
  have hl2 : (us ++ ds).length = ps.length := by
    rw [← r2.length]
    exact F.len _ _ _ hsp
  refine wpAny_call (codeAny_mono (F.run X.A X.stack s1 H1 ⟨us, []⟩ (us ++ ds) (vs ++ dvs) S hr I1.env0 (hb s1 us I1.kIn hl2) r2 hsp) fun r s' hq => ?_)
  cases r with
  | error e => exact False.elim hq
  | ok fl =>
    cases fl with
    | ret u => exact ⟨H1, s1, S, I1, hq, q⟩
    | next => exact False.elim hq
    | brk => exact False.elim hq
    | cont => exact False.elim hq⟩
end
section
variable {X : Cx} {S : Strm} {d : GDef} {L a : Addr} {g : Nat} {oa : Obj} {pins : List (Addr × Obj)} {σ : L2.St} {H : Hp} {s : Shared} {k : Nat}
/-- the generator's place, its first waking -/
theorem made_seat {R : Strm → Hp → Prop} {u : Value} {s' : Shared} (h : MadeIn X k pins σ R u s') (hr : Room (k + 1) X.A) : ∃ (S : Strm) (d : GDef) (L a : Addr) (g : Nat) (oa oL : Obj) (H1 : Hp), u = .ref a ∧ Seat X L a g oa ∧ Inv X pins σ H1 s' ∧ R S H1 ∧
    FpOk X pins H1 L ∧ FpOk X pins H1 a ∧ s'.heap.get? a = some oa ∧ s'.heap.get? L = some oL ∧ (∀ v, oL.data ≠ .cell v) ∧ g < s'.gens.size ∧
    ∀ s2 : Shared, s2.gens[g]? = s'.gens[g]? → AllBare s2.gens → s2.heap.get? L = some oL → s2.heap.get? a = some oa → s2.heap.FunFrames X.base X.stack → (∃ H2, Val (consG X S d L a oa) lots (s2.setGen g .running) H2) → Ready X S d L a g oa 0 s2 := by
  obtain ⟨H1, sc, S, I, ⟨d, a, g, c, oa, oL, hu, h1, h2, h3, h4, h5, h6, h7, h8, h9, h10, go⟩, q⟩ := h
  have I' : Inv X pins σ H1 s' := I.call' (ch := []) h8 (Un.kept h10) (I.hok.kept h10) h9 fun b hb => by cases hb
  refine ⟨S, d, sc.heap.objs.size, a, g, oa, oL, H1, hu, ⟨h1, h3, fun b hb => funs_lt I.stack b hb, Nat.le_trans I.ok.bsz I.sz⟩, I', q, I.fpOk (Nat.le_refl _) (I.hok.fresh (Nat.le_refl _)), I.fpOk (Nat.le_of_lt h1) (I.hok.fresh (Nat.le_of_lt h1)), h4, h5, h6, ?_, fun s2 eg hb eL ea hf hv => ?_⟩
  · exact (Array.getElem?_eq_some_iff.mp h7).1
  · refine ⟨lots, .fresh c, rfl, by rw [eg]; exact h7, rfl, ?_⟩
    exact go X.A.in1 (s2.setGen g .running) hr.in1 I.ok.frames (allBare_set hb rfl) hf eL ea hv
/-- the step ahead of the store is none -/
theorem go_gen {tg : Expr} {M : Model} {A : Around} {E : Value → Shared → Prop} {u : Value} {Q : Unit → Shared → Prop} (hg : GObj g oa) (ea : s.heap.get? a = some oa) (h : Q () s) : wpAny M A (letOwnedTupleGo tg (.ref a) u) Q E s := by
  obtain ⟨h1, _, nm, qn, h3⟩ := hg
  exact go_of ea h1 h3 (by decide) h

def tForG (wi : TIg) (tgt : TG) (tb : TS) : TS := fun D σ H => wi σ H fun S H1 => S.Ok ∧ (∀ c dd H', ¬ S.E c dd H') ∧ ∃ W : Nat → L2.St → Hp → Prop, W 0 σ H1 ∧ ∀ i σ H, W i σ H → S.nd i H ∧ (∀ H', S.fin i H H' → D.nx σ H') ∧
  ∀ x H', S.yl i H x H' → tgt x σ H' fun σ2 H2 => tb { D with nx := W (i + 1), ct := W (i + 1), bk := D.nx } σ2 H2
/-- THE RULE: for x in g(..) -/
theorem ps_forG {tg iter : Expr} {body : List Stmt} {wi : TIg} {tgt : TG} {tb : TS} {pos : Pos} (hp : PassesOwn (model X.prog X.w) X.A X.env X.xe) (hT : Thawy X) (hc : X.A.handled = none) (hr : Room (k + 1) X.A) (hi : PGn X k iter wi) (hg : PG X tg tgt) (hb : PSs X body tb)
    (hs : ∀ x, foldedSetIterable iter X.env x = pure x := by intro _; rfl) : PS X (.For tg iter body [] pos) (tForG wi tgt tb) := ⟨fun pins s σ H D I h => by
  refine wpAny_For (thn (hi.run pins s σ H _ I h) fun v s1 hm => ?_) hs
  obtain ⟨S, d, L, a, g, oa, oL, H1, rfl, seat, I1, ⟨hS, hE, W, w0, turn⟩, fL, fa, ea, eL, cL, gsz, first⟩ := made_seat hm hr
  refine wpAny_pyIter_gen (seat.obj.isGen ea) ?_
  -- between two turns
  refine codeAny_forLoop_any (fun n s' => ∃ i σ' H' oL, n = lots - i ∧ i ≤ lots ∧ Inv X pins σ' H' s' ∧ H' L = none ∧ H' a = none ∧ s'.heap.get? a = some oa ∧ s'.heap.get? L = some oL ∧ Ready X S d L a g oa i s' ∧ W i σ' H') ?_ lots
    ⟨0, σ, H1, oL, rfl, Nat.zero_le _, I1, fL.1, fa.1, ea, eL, ?_, w0⟩
  · rintro n s3 ⟨i, σ3, H3, oL3, hn, hil, I3, nL3, na3, ea3, eL3, rd3, w3⟩
    obtain ⟨nd3, stop, step⟩ := turn i σ3 H3 w3
    refine next_cons hS hE hc (Nat.lt_of_le_of_lt (Nat.le_add_right _ _) (Nat.lt_of_le_of_lt (Nat.le_add_right _ _) hr.dp)) seat I3 ⟨nL3, fL.2⟩ ⟨na3, fa.2⟩ ⟨oL3, eL3⟩ ea3 nd3 rd3 (fun x v H4 z y oL4 rv I4 hy nL4 na4 ea4 eL4 cL4 gy sy sl => ?_) fun H4 z I4 hf => ?_
    · have few := hS.few i H3 x H4 hy
      refine go_gen seat.obj ea4 ?_
      have pinned : Inv X (pins ++ [(L, oL4), (a, oa)]) σ3 H4 (z.setGen g y) := I4.pins_of fun p hp => by
        rcases List.mem_append.mp hp with q | q
        · exact I4.pin p (List.mem_append_right _ q)
        · rcases List.mem_cons.mp q with q | q
          · rw [q]
            exact ⟨eL4, nL4, fL.2.1, fL.2.2.1, cL4⟩
          · rw [List.mem_singleton.mp q]
            obtain ⟨_, _, nm, qn, h3⟩ := seat.obj
            exact ⟨ea4, na4, fa.2.1, fa.2.2.1, fun v q => by rw [h3] at q; cases q⟩
      -- the target, then the body, the generator asleep
      have st1 := wpAny_asleep gy sy I4.bare (fun G hG => hg.run _ _ σ3 H4 x v _ (inv_gens pinned hG) rv (step x H4 hy))
      refine wpAny_passesOwn hp (wpAny_mono st1 (fun _ s6 h6 => ?_) fun e s6 h6 => by obtain ⟨z6, t6, q6⟩ := h6; exact hT g y e z6 s6 t6 q6)
      obtain ⟨z6, t6, σ6, H6, I6, q6⟩ := h6
      have st2 := t6.run (hb.run _ z6 σ6 H6 _ I6 q6)
      refine wpAny_passesOwn hp (wpAny_mono st2 (fun fl s7 h7 => ?_) fun e s7 h7 => by obtain ⟨z7, t7, q7⟩ := h7; exact hT g y e z7 s7 t7 q7)
      obtain ⟨z7, t7, q7⟩ := h7
      have again : (∃ σ7 H7, Inv X (pins ++ [(L, oL4), (a, oa)]) σ7 H7 z7 ∧ W (i + 1) σ7 H7) → ∃ m, m < n ∧ ∃ i σ' H' oL, m = lots - i ∧ i ≤ lots ∧ Inv X pins σ' H' s7 ∧ H' L = none ∧ H' a = none ∧ s7.heap.get? a = some oa ∧ s7.heap.get? L = some oL ∧ Ready X S d L a g oa i s7 ∧ W i σ' H' := fun h => by
        obtain ⟨σ7, H7, I7, w7⟩ := h
        have J7 := t7.inv I7
        have pL := J7.pin (L, oL4) (List.mem_append_right _ (List.mem_append_right _ List.mem_cons_self))
        have pa := J7.pin (a, oa) (List.mem_append_right _ (List.mem_append_right _ (List.mem_cons_of_mem _ List.mem_cons_self)))
        refine ⟨lots - (i + 1), by omega, i + 1, σ7, H7, oL4, rfl, by omega, J7.unpinned, pL.2.1, pa.2.1, pa.1, pL.1, ?_, w7⟩
        exact ready_of sl seat eL4 t7.at J7 pL.1 pa.1 pL.2.1 pa.2.1 (turn (i + 1) σ7 H7 w7).1
      cases fl with
      | next => exact again q7
      | cont => exact again q7
      | brk =>
        obtain ⟨σ7, H7, I7, q⟩ := q7
        exact ⟨σ7, H7, (t7.inv I7).unpinned, q⟩
      | ret u =>
        obtain ⟨x7, σ7, H7, I7, r7, q⟩ := q7
        exact ⟨x7, σ7, H7, (t7.inv I7).unpinned, r7, q⟩
    · exact wpAny_execs_nil ⟨σ3, H4, I4, stop H4 hf⟩
  · exact first s1 rfl I1.bare eL ea I1.stack ⟨H1, val_of seat I1 fL.1 fa.1 rfl (turn 0 σ H1 w0).1⟩⟩
end
end Gz
set_option maxHeartbeats 1000000
/-! [e for x in g(..) if ..]. -/
namespace Gz
open PySem PySem.Spec PyProof.Rows L2 GenW
section
variable {X : Cx} {k : Nat}
/-- D: the new list; W: by the number of items that are out -/
def tLcG (wi : TIg) (tgt : TG) (tt : TT) (te : TE) (vs : List Nat) : TE := fun σ H Q => wi σ H fun S H1 => S.Ok ∧ (∀ c dd H', ¬ S.E c dd H') ∧ ∀ D, H1 D = none → ∃ W : Nat → Hp → Prop, W 0 (upd H1 D (.lst [])) ∧
  ∀ i H, W i H → S.nd i H ∧ (∀ H', S.fin i H H' → Q (.ref D) H') ∧ ∀ x H', S.yl i H x H' → tgt x (wipe σ vs) H' fun σ2 H2 => wipe σ2 vs = wipe σ vs ∧ tt σ2 H2 fun b H3 =>
    if b = true then te σ2 H3 fun y H4 => ∃ acc, H4 D = some (.lst acc) ∧ acc.length < sizeLine ∧ W (i + 1) (upd H4 D (.lst (acc ++ [y]))) else W (i + 1) H3
abbrev AllG (X : Cx) (scope : Scope) (tg : Expr) (g : TG) : Prop := ∀ (s : Shared) (H : Hp) (C : Addr) (cl : List (Str × Addr)) (fp : List Addr), PG (X.blk s H scope (compEnvC scope cl C X.env) fp) tg g
abbrev AllT (X : Cx) (scope : Scope) (ifs : List Expr) (t : TT) : Prop := ∀ (s : Shared) (H : Hp) (C : Addr) (cl : List (Str × Addr)) (fp : List Addr), PTs (X.blk s H scope (compEnvC scope cl C X.env) fp) ifs t
abbrev AllE (X : Cx) (scope : Scope) (e : Expr) (t : TE) : Prop := ∀ (s : Shared) (H : Hp) (C : Addr) (cl : List (Str × Addr)) (fp : List Addr), PE (X.blk s H scope (compEnvC scope cl C X.env) fp) e t
theorem lcG_core {pins : List (Addr × Obj)} {s : Shared} {σ : L2.St} {H : Hp} {Q : VK} {elt tg iter : Expr} {ifs : List Expr} {scope : Scope} {own : List (Str × Nat)} {pos pos' : Pos} {wi : TIg} {tgt : TG} {tt : TT} {te : TE} {use : Option (Value → Sem Unit)} {Qf : Value → Shared → Prop}
    (hc : X.calm = true) (hr : Room (k + 1) X.A) (hN : X.N.Nodup) (I : Inv X pins σ H s) (hi : PGn X k iter wi) (ok : BlkOk X.N X.env.scope scope own) (hg : AllG X scope tg tgt) (ht : AllT X scope ifs tt) (he : AllE X scope elt te) (hs : ∀ x, foldedSetIterable iter X.env x = pure x)
    (h : tLcG wi tgt tt te (own.map (·.2)) σ H Q)
    (hRR : ∀ D C s' m H', Inv X pins σ H' s' → Q (.ref D) H' → s'.heap.Ns C m → FpOk X pins H' C →
      compPost (model X.prog X.w) X.A X.xe use Qf (.ref D) C (.ok .next) s') :
    wpAny (model X.prog X.w) X.A (comprehension (.ListComp elt [⟨tg, iter, ifs, 0⟩] scope pos) scope X.env pos' (newList []) false (eval iter X.env) use) Qf X.xe s := by
  have hfree : ∀ y ∈ scope.names, y.2 = .free → ∃ c, X.env.cells.lookup y.1 = some c := by
    intro y hy e
    rcases ok.free y hy e with q | q
    · exact I.ok.has _ (.inl q)
    · exact I.ok.has _ (.inr q)
  refine wpAny_comprehension_free (use := use) rfl hs (closure_ok hfree) ok.kind (fun y hy e => by rw [ok.uniq y hy, e]) (thn (hi.run pins s σ H _ I h) fun xv s2 hm => ?_)
  obtain ⟨S, d, L, a, g, oa, oL, H2, rfl, seat, I2, ⟨hS, hE, q⟩, fL, fa, ea, eL, cL, gsz, first⟩ := made_seat hm hr
  refine wpAny_pyIter_gen (seat.obj.isGen ea) ?_
  refine wpAny_newObj_type (newEnv_comp ?_) (by show 0 ≤ sizeLine; decide)
  generalize hD : s2.heap.objs.size = D
  have hDn : H2 D = none := I2.hok.fresh (Nat.le_of_eq hD)
  obtain ⟨W, w0, turn⟩ := q D hDn
  generalize hs3 : ({ s2 with heap := s2.heap.push { cls := .type "list", data := .seq ([] : List Value).toArray } } : Shared) = s3
  have keep3 : ∀ b o, s2.heap.get? b = some o → s3.heap.get? b = some o := fun b o e => by
    rw [← hs3]
    exact Heap.get?_push_of_some _ e
  have I3 : Inv X pins σ (upd H2 D (.lst [])) s3 := by
    rw [← hs3]
    refine I2.laid (t' := s2.toks) (fun b o e => Heap.get?_push_of_some _ e) (Nat.le_of_eq hD) ⟨Nat.zero_le _, [], 0, .nil, ?_⟩
    subst hD
    exact Heap.get?_push_size _ rfl
  -- the generator's objects are older than the list
  have old : ∀ {b o}, s2.heap.get? b = some o → b ≠ D := fun {b o} e => by
    rw [← hD]
    exact Nat.ne_of_lt (Heap.lt_size e)
  have n3 : ∀ b ∈ [L, a], FpOk X pins (upd H2 D (.lst [])) b ∧ b < s3.heap.objs.size := fun b hb => by
    rcases List.mem_cons.mp hb with z | z
    · rw [z]
      exact ⟨⟨by rw [upd_ne (old eL)]; exact fL.1, fL.2⟩, Heap.lt_size (keep3 _ _ eL)⟩
    · rw [List.mem_singleton.mp z]
      exact ⟨⟨by rw [upd_ne (old ea)]; exact fa.1, fa.2⟩, Heap.lt_size (keep3 _ _ ea)⟩
  have I4 := block_start I3 ok hN n3
  have pg := hg s3 (upd H2 D (.lst [])) s3.heap.objs.size (cellsFrom (s3.heap.objs.size + 1) scope.names (cloFrom X.env.cells scope.names [])) [L, a]
  have pt := ht s3 (upd H2 D (.lst [])) s3.heap.objs.size (cellsFrom (s3.heap.objs.size + 1) scope.names (cloFrom X.env.cells scope.names [])) [L, a]
  have pe := he s3 (upd H2 D (.lst [])) s3.heap.objs.size (cellsFrom (s3.heap.objs.size + 1) scope.names (cloFrom X.env.cells scope.names [])) [L, a]
  show codeAny _ _ (.compStart (.ListComp elt [⟨tg, iter, ifs, 0⟩] scope pos) 0 (.ref a) (.ref D)
      (compEnvC scope (cellsFrom (s3.heap.objs.size + 1) scope.names (cloFrom X.env.cells scope.names [])) s3.heap.objs.size X.env))
    (compPost (model X.prog X.w) X.A X.xe use Qf (.ref D) s3.heap.objs.size) { s3 with heap := pushCells (s3.heap.push { cls := .type "dict", data := .dict #[] }) scope.names }
  generalize hce : compEnvC scope (cellsFrom (s3.heap.objs.size + 1) scope.names (cloFrom X.env.cells scope.names [])) s3.heap.objs.size X.env = ce at I4 pg pt pe ⊢
  have cLoc : ce.locals = s3.heap.objs.size := by
    subst hce
    rfl
  generalize hH3 : upd H2 D (.lst []) = H3 at I3 I4 pg pt pe w0 n3
  generalize hs4 : ({ s3 with heap := pushCells (s3.heap.push { cls := .type "dict", data := .dict #[] }) scope.names } : Shared) = s4 at I4 ⊢
  have keep4 : ∀ b o, s2.heap.get? b = some o → s4.heap.get? b = some o := fun b o e => by
    rw [← hs4]
    exact pushCells_keeps _ _ _ _ (Heap.get?_push_of_some _ (keep3 b o e))
  have gens4 : s4.gens = s2.gens := by rw [← hs4, ← hs3]
  generalize hB : X.blk s3 H3 scope ce [L, a] = B at I4 pg pt pe
  have seatB : Seat B L a g oa := by
    subst hB
    exact ⟨seat.lt, seat.obj, seat.fr, seat.bsz⟩
  have stat : ∀ {σ' : L2.St} {H' : Hp} {s' : Shared}, Inv B [] σ' H' s' → ∀ b ∈ [L, a], H' b = none → FpOk B [] H' b := fun {σ' H' s'} I' b hb hn => by
    subst hB
    exact ⟨hn, (I'.ok.exf b hb).1, I'.ok.exfs b hb, .inl hb, fun x c e => (I'.ok.exf b hb).2 x c e, fun p hp => absurd (show p ∈ ([] : List (Addr × Obj)) ++ [] from hp) (by simp)⟩
  have mL : L ∈ [L, a] := List.mem_cons_self
  have ma : a ∈ [L, a] := List.mem_cons_of_mem _ (List.mem_singleton.mpr rfl)
  have hcB : B.A.handled = none := by
    subst hB
    exact I.ok.hd hc
  have hrB : B.A.depth < recursionLimit := by
    subst hB
    exact Nat.lt_of_le_of_lt (Nat.le_add_right _ _) (Nat.lt_of_le_of_lt (Nat.le_add_right _ _) hr.dp)
  have envB : B.env = ce := by
    subst hB
    rfl
  have first4 : Ready B S d L a g oa 0 s4 := by
    subst hB
    refine first s4 (by rw [gens4]) I4.bare (keep4 _ _ eL) (keep4 _ _ ea) I4.stack ⟨H3, ?_⟩
    exact val_of (X := X) seat (I3.call' (ch := []) (s' := s4) (by rw [← hs4]) (Un.kept fun b o e => by rw [← hs4]; exact pushCells_keeps _ _ _ _ (Heap.get?_push_of_some _ e)) I4.hok I4.bare fun b hb => by cases hb) (n3 L mL).1.1 (n3 a ma).1.1 rfl (turn 0 H3 w0).1
  have loop : codeAny (model X.prog X.w) X.A (.compLoop (.ListComp elt [⟨tg, iter, ifs, 0⟩] scope pos) 0 (.ref a) (.ref D) ce) (compPost (model X.prog X.w) X.A X.xe use Qf (.ref D) s3.heap.objs.size) s4 := by
    have hpA : B.prog = X.prog ∧ B.w = X.w ∧ B.A = X.A := by
      subst hB
      exact ⟨rfl, rfl, rfl⟩
    obtain ⟨e1, e2, e3⟩ := hpA
    rw [← e1, ← e2, ← e3]
    refine compLoop_any (fun n s' => ∃ i H' oL, n = lots - i ∧ i ≤ lots ∧ Inv B [] (wipe σ (own.map (·.2))) H' s' ∧ H' L = none ∧ H' a = none ∧ s'.heap.get? a = some oa ∧ s'.heap.get? L = some oL ∧ Ready B S d L a g oa i s' ∧ W i H') ?_ lots
      ⟨0, H3, oL, rfl, Nat.zero_le _, I4, (n3 L mL).1.1, (n3 a ma).1.1, keep4 _ _ ea, keep4 _ _ eL, first4, w0⟩
    rintro n s5 ⟨i, H5, oL5, hn, hil, I5, nL5, na5, ea5, eL5, rd5, w5⟩
    obtain ⟨nd5, stop, step⟩ := turn i H5 w5
    refine next_cons hS hE hcB hrB seatB I5 (stat I5 L mL nL5) (stat I5 a ma na5) ⟨oL5, eL5⟩ ea5 nd5 rd5 (fun x v H6 z y oL6 rv I6 hy nL6 na6 ea6 eL6 cL6 gy sy sl => ?_) fun H6 z I6 hf => ?_
    · have few := hS.few i H5 x H6 hy
      refine go_gen seat.obj ea6 ?_
      have fpL := stat I6 L mL nL6
      have fpa := stat I6 a ma na6
      have pinned : Inv B [(L, oL6), (a, oa)] (wipe σ (own.map (·.2))) H6 (z.setGen g y) := I6.pins_of fun p hp => by
        rcases List.mem_cons.mp hp with q | q
        · rw [q]
          exact ⟨eL6, nL6, fpL.2.1, fpL.2.2.1, cL6⟩
        · rw [List.mem_singleton.mp q]
          obtain ⟨_, _, nm, qn, h3⟩ := seat.obj
          exact ⟨ea6, na6, fpa.2.1, fpa.2.2.1, fun v q => by rw [h3] at q; cases q⟩
      have noE : ∀ e s', ¬ B.xe e s' := fun e s' q => by
        subst hB
        exact q
      -- the target, the tests, the element: the generator sleeps
      have st1 := wpAny_asleep gy sy I6.bare (fun G hG => pg.run _ _ (wipe σ (own.map (·.2))) H6 x v _ (inv_gens pinned hG) rv (step x H6 hy))
      rw [envB] at st1
      refine wpAny_mono st1 (fun _ s7 h7 => ?_) fun e s7 h7 => by obtain ⟨z7, _, q7⟩ := h7; exact (noE e z7 q7).elim
      obtain ⟨z7, t7, σ7, H7, I7, hw7, q7⟩ := h7
      have st2 := t7.run (pt.run _ z7 σ7 H7 _ I7 q7)
      rw [envB] at st2
      refine wpAny_mono st2 (fun bb s8 h8 => ?_) fun e s8 h8 => by obtain ⟨z8, _, q8⟩ := h8; exact (noE e z8 q8).elim
      obtain ⟨z8, t8, H8, I8, q8⟩ := h8
      -- the turn's end
      have fin : ∀ {s' : Shared} {H' : Hp}, Inv B [(L, oL6), (a, oa)] σ7 H' s' → s'.gens[g]? = some y → W (i + 1) H' →
          ∃ m, m < n ∧ ∃ i H' oL, m = lots - i ∧ i ≤ lots ∧ Inv B [] (wipe σ (own.map (·.2))) H' s' ∧ H' L = none ∧ H' a = none ∧ s'.heap.get? a = some oa ∧ s'.heap.get? L = some oL ∧ Ready B S d L a g oa i s' ∧ W i H' := fun {s' H'} I' gy' w' => by
        have pL := I'.pin (L, oL6) (List.mem_append_right _ List.mem_cons_self)
        have pa := I'.pin (a, oa) (List.mem_append_right _ (List.mem_cons_of_mem _ (List.mem_singleton.mpr rfl)))
        have hl : (wipe σ (own.map (·.2))).length = σ7.length := by rw [← hw7, wipe_length]
        refine ⟨lots - (i + 1), by omega, i + 1, H', oL6, rfl, by omega, (Inv.pins_of (pins' := []) I' fun p hp => by cases hp).weak hl (fun j v e => ?_), pL.2.1, pa.2.1, pa.1, pL.1, ?_, w'⟩
        · rw [← hw7] at e
          exact (wipe_some e).1
        · exact ready_of sl seatB eL6 gy' I' pL.1 pa.1 pL.2.1 pa.2.1 (turn (i + 1) H' w').1
      cases bb with
      | false =>
        simp only [Bool.false_eq_true, if_false] at q8 ⊢
        exact fin (t8.inv I8) t8.at q8
      | true =>
        simp only [if_true] at q8 ⊢
        have st3 := t8.run (pe.run _ z8 σ7 H8 _ I8 q8)
        rw [envB] at st3
        refine wpAny_mono st3 (fun zz s10 h10 => ?_) fun e s10 h10 => by obtain ⟨z10, _, q10⟩ := h10; exact (noE e z10 q10).elim
        obtain ⟨z10, t10, yv, H10, I10, r10, acc, hD10, hz10, nx⟩ := h10
        have st4 := t10.run (app_ok (E := fun _ _ => False) (Q := fun _ s' => Inv B [(L, oL6), (a, oa)] σ7 (upd H10 D (.lst (acc ++ [yv]))) s') I10 hD10 hz10 r10 fun s' I' => I')
        refine wpAny_mono st4 (fun _ s11 h11 => ?_) fun e s11 h11 => by obtain ⟨_, _, q11⟩ := h11; exact q11.elim
        obtain ⟨z11, t11, I11⟩ := h11
        exact fin (t11.inv I11) t11.at nx
    · -- back in the def's context
      have un := I6.base
      have os6 := I6.os
      obtain ⟨m, hns, _⟩ := I6.loc
      have fr6 := I6.free
      have hok6 := I6.hok
      have bare6 := I6.bare
      subst hB
      have hns : z.heap.Ns ce.locals m := hns
      have fr6 : H6 ce.locals = none := fr6
      rw [cLoc] at hns fr6
      have I7 : Inv X pins σ H6 z := I3.call' (ch := [L, a]) os6 un hok6 bare6 fun b hb => by
        obtain ⟨f1, f2, f3, f4, f5, f6⟩ := (n3 b hb).1
        exact ⟨f4, f2, f5, f6⟩
      exact hRR D s3.heap.objs.size z m H6 I7 (stop H6 hf) hns (I3.fpOk (Nat.le_refl _) fr6)
  have self : wpAny (model X.prog X.w) X.A (pyIter (.ref a)) (fun it s' => codeAny (model X.prog X.w) X.A (.compLoop (.ListComp elt [⟨tg, iter, ifs, 0⟩] scope pos) 0 it (.ref D) ce) (compPost (model X.prog X.w) X.A X.xe use Qf (.ref D) s3.heap.objs.size) s') (fun _ _ => False) s4 :=
    wpAny_pyIter_gen (seat.obj.isGen (keep4 _ _ ea)) loop
  exact codeAny_compStart_list loop (wpAny_pyIter_gen (seat.obj.isGen (keep4 _ _ ea)) loop)
/-- as a value -/
theorem pe_lcG {elt tg iter : Expr} {ifs : List Expr} {scope : Scope} {own : List (Str × Nat)} {pos : Pos} {wi : TIg} {tgt : TG} {tt : TT} {te : TE} (hc : X.calm = true) (hr : Room (k + 1) X.A) (hN : X.N.Nodup) (hi : PGn X k iter wi) (ok : BlkOk X.N X.env.scope scope own)
    (hg : AllG X scope tg tgt) (ht : AllT X scope ifs tt) (he : AllE X scope elt te) (hs : ∀ x, foldedSetIterable iter X.env x = pure x := by intro _; rfl) :
    PE X (.ListComp elt [⟨tg, iter, ifs, 0⟩] scope pos) (tLcG wi tgt tt te (own.map (·.2))) := ⟨fun pins s σ H Q I h => by
  rw [eval_ListComp]
  refine lcG_core hc hr hN I hi ok hg ht he hs h fun D C s' m H' I' q hn f => ⟨m, hn, fun h'' sb => ?_⟩
  obtain ⟨f0, f1, f2, f3, f4, f5⟩ := f
  exact ⟨.ref D, H', I'.turned (t' := s'.toks) (fun b o hb e => (sb.2 b hb).trans e) f0 f1 f3 f4 f5, rfl, q⟩⟩
/-- name = [..], the name a local -/
theorem ps_setLcG {i : Nat} {y : Str} {py : Pos} {elt tg iter : Expr} {ifs : List Expr} {scope : Scope} {own : List (Str × Nat)} {pos spos : Pos} {wi : TIg} {tgt : TG} {tt : TT} {te : TE} (hc : X.calm = true) (hr : Room (k + 1) X.A) (hN : X.N.Nodup) (hy : X.N[i]? = some y) (hyl : X.env.scope.names.lookup y = some .local)
    (hsw : swapsWith (.ListComp elt [⟨tg, iter, ifs, 0⟩] scope pos) (some (.Name y py)) spos.line X.env = pure true) (hi : PGn X k iter wi) (ok : BlkOk X.N X.env.scope scope own)
    (hg : AllG X scope tg tgt) (ht : AllT X scope ifs tt) (he : AllE X scope elt te) (hs : ∀ x, foldedSetIterable iter X.env x = pure x := by intro _; rfl) :
    PS X (.Assign [.Name y py] (.ListComp elt [⟨tg, iter, ifs, 0⟩] scope pos) spos) (tAsg (tLcG wi tgt tt te (own.map (·.2))) (gName i)) := ⟨fun pins s σ H D I h => by
  rw [exec_Assign_Name_used _ _ _ _ hsw]
  refine wpAny_bind (wpAny_standAt (wpAny_bind ?_))
  show wpAny (model X.prog X.w) X.A (comprehension (.ListComp elt [⟨tg, iter, ifs, 0⟩] scope pos) scope X.env (firstIterPos [⟨tg, iter, ifs, 0⟩] pos) (newList []) false (eval iter X.env) (some (assign (.Name y py) X.env)) >>= fun _ => _) _ _ s
  have h : tLcG wi tgt tt te (own.map (·.2)) σ H (fun x H1 => gName i x σ H1 D.nx) := h
  refine wpAny_bind (thn (lcG_core (Qf := fun _ s' => SP X pins D .next s') hc hr hN I hi ok hg ht he hs h fun L C s' m H' I' q hn f => ?_) fun _ s' hq => wpAny_pure (wpAny_pure hq))
  show wpAny (model X.prog X.w) X.A (assign (.Name y py) X.env (.ref L)) _ _ _
  refine wpAny_assign_Name ?_
  refine store_ok2 (v := V.ref L) I' hN hy (.inl hyl) rfl (fun s2 I2 hb => ?_) (.inr hyl)
  obtain ⟨b, sb, hb⟩ := hb
  obtain ⟨f0, f1, f2, f3, f4, f5⟩ := f
  have hbC : C ≠ b := by
    rcases hb with z | z
    · rw [z]
      exact f1
    · exact fun e => f4 y b z e.symm
  exact ⟨m, hn.sameBut sb hbC, fun h3 sb3 => ⟨_, H', I2.turned (t' := s2.toks) (fun b o hb e => (sb3.2 b hb).trans e) f0 f1 f3 f4 f5, q⟩⟩⟩
end
end Gz
/-! matches: a generator. -/
namespace Sq
open PySem PySem.Spec PyProof.Rows L2 Sf Sf4 Gl Gz
/-! ### plain -/
/-- a match from i up to e -/
def Hit (l r : Bool) (t : Tr) (T : List Nat) (i e : Nat) : Prop := i < e ∧ En t T i e ∧ (e = T.length ∨ r = false) ∧ (i = 0 ∨ l = false)
theorem Hit.lt {l r : Bool} {t : Tr} {T : List Nat} {i e : Nat} (h : Hit l r t T i e) : i < e ∧ e ≤ T.length := ⟨h.1, h.2.1.2.1⟩
/-- matches from the left, from a place on -/
inductive Sps (h : Nat → Nat → Prop) (n : Nat) : Nat → List (Nat × Nat) → Prop
  | done {a : Nat} : n ≤ a → Sps h n a []
  | skip {a : Nat} {ps : List (Nat × Nat)} : a < n → (∀ e, ¬ h a e) → Sps h n (a + 1) ps → Sps h n a ps
  | hit {a e : Nat} {ps : List (Nat × Nat)} : a < n → h a e → (∀ e', h a e' → e' ≤ e) → Sps h n e ps → Sps h n a ((a, e) :: ps)
section
variable {h : Nat → Nat → Prop} {n : Nat}
theorem Sps.none : ∀ {m a : Nat}, n ≤ a + m → (∀ i e, a ≤ i → ¬ h i e) → Sps h n a []
  | 0, a, hm, _ => .done (by omega)
  | m + 1, a, hm, no => by
    by_cases z : n ≤ a
    · exact .done z
    · exact .skip (by omega) (fun e => no a e (Nat.le_refl _)) (Sps.none (m := m) (by omega) fun i e hi => no i e (by omega))
theorem Sps.uniq {a : Nat} {ps : List (Nat × Nat)} (s : Sps h n a ps) : ∀ {qs}, Sps h n a qs → ps = qs := by
  induction s with
  | done hn =>
    intro qs t
    cases t with
    | done _ => rfl
    | skip h1 _ _ => omega
    | hit h1 _ _ _ => omega
  | skip h1 no _ ih =>
    intro qs t
    cases t with
    | done _ => omega
    | skip _ _ t => exact ih t
    | hit _ h2 _ _ => exact absurd h2 (no _)
  | hit h1 h2 mx _ ih =>
    intro qs t
    cases t with
    | done _ => omega
    | skip _ no t => exact absurd h2 (no _)
    | hit _ h3 mx3 t =>
      have e1 := mx _ h3
      have e2 := mx3 _ h2
      obtain rfl := Nat.le_antisymm e1 e2
      rw [ih t]
theorem max_of {a : Nat} (hlt : ∀ i e, h i e → i < e ∧ e ≤ n) (hx : ∃ e, h a e) : ∃ e, h a e ∧ ∀ e', h a e' → e' ≤ e := by
  have go : ∀ m e, h a e → n ≤ e + m → ∃ e, h a e ∧ ∀ e', h a e' → e' ≤ e := by
    intro m
    induction m with
    | zero => exact fun e he hm => ⟨e, he, fun e' h' => by have := (hlt _ _ h').2; omega⟩
    | succ m ih =>
      intro e he hm
      by_cases z : ∃ e', h a e' ∧ e < e'
      · obtain ⟨e', h', hl⟩ := z
        exact ih e' h' (by omega)
      · exact ⟨e, he, fun e' h' => Nat.le_of_not_lt fun hl => z ⟨e', h', hl⟩⟩
  obtain ⟨e, he⟩ := hx
  exact go n e he (by omega)
theorem Sps.ex (hlt : ∀ i e, h i e → i < e ∧ e ≤ n) : ∀ m a, n ≤ a + m → ∃ ps, Sps h n a ps
  | 0, a, hm => ⟨[], .done (by omega)⟩
  | m + 1, a, hm => by
    by_cases z : n ≤ a
    · exact ⟨[], .done z⟩
    · by_cases hx : ∃ e, h a e
      · obtain ⟨e, he, mx⟩ := max_of hlt hx
        obtain ⟨ps, s⟩ := Sps.ex hlt m e (by have := hlt _ _ he; omega)
        exact ⟨_, .hit (by omega) he mx s⟩
      · obtain ⟨ps, s⟩ := Sps.ex hlt m (a + 1) (by omega)
        exact ⟨ps, .skip (by omega) (fun e he => hx ⟨e, he⟩) s⟩
theorem Sps.of_skip {a : Nat} {ps : List (Nat × Nat)} (s : Sps h n a ps) (ha : a < n) (no : ∀ e, ¬ h a e) : Sps h n (a + 1) ps := by
  cases s with
  | done z => omega
  | skip _ _ z => exact z
  | hit _ z _ _ => exact absurd z (no _)
theorem Sps.of_hit {a e : Nat} {ps : List (Nat × Nat)} (s : Sps h n a ps) (ha : a < n) (he : h a e) (mx : ∀ e', h a e' → e' ≤ e) : ∃ qs, ps = (a, e) :: qs ∧ Sps h n e qs := by
  cases s with
  | done z => omega
  | skip _ no _ => exact absurd he (no _)
  | @hit _ e2 qs _ h2 mx2 t =>
    obtain rfl := Nat.le_antisymm (mx2 _ he) (mx _ h2)
    exact ⟨qs, rfl, t⟩
theorem Sps.bound (hlt : ∀ i e, h i e → i < e ∧ e ≤ n) {a : Nat} {ps : List (Nat × Nat)} (s : Sps h n a ps) : ps.length + a ≤ n ∨ ps = [] := by
  induction s with
  | done _ => exact .inr rfl
  | skip h1 _ _ ih =>
    rcases ih with z | z
    · exact .inl (by omega)
    · exact .inr z
  | @hit a e ps h1 h2 _ _ ih =>
    have h3 := hlt _ _ h2
    refine .inl ?_
    rcases ih with z | z
    · rw [List.length_cons]
      omega
    · rw [z]
      show 0 + 1 + a ≤ n
      omega
theorem Sps.pairs (hlt : ∀ i e, h i e → i < e ∧ e ≤ n) {a : Nat} {ps : List (Nat × Nat)} (s : Sps h n a ps) : ∀ p ∈ ps, p.1 < p.2 ∧ p.2 ≤ n := by
  induction s with
  | done _ => exact fun p hp => nomatch hp
  | skip _ _ _ ih => exact ih
  | hit h1 h2 _ _ ih =>
    intro p hp
    rcases List.mem_cons.mp hp with rfl | hp
    · exact hlt _ _ h2
    · exact ih p hp
end
/-! ### the stream -/
theorem MatO.off {CM : Addr} {H1 H2 : Hp} {v : V} {s : Nat} {W : List Nat} {cs : Cps} (h : MatO CM H1 v s W cs) (k : ∀ b o, H1 b = some o → (∀ ob, o ≠ .frz ob (.own 0)) → H2 b = some o) : MatO CM H2 v s W cs := by
  obtain ⟨m, dx, D, kvs, e, e1, e2, q1, q2⟩ := h
  refine ⟨m, dx, D, kvs, e, k _ _ e1 (fun _ z => by cases z), k _ _ e2 (fun _ z => by cases z), q1, fun i kv c a b => ⟨(q2 i kv c a b).1, ?_⟩⟩
  have h := (q2 i kv c a b).2
  obtain ⟨c1, c2⟩ := c
  cases c2 with
  | none => exact h
  | some ab =>
    obtain ⟨t, e, q⟩ := h
    exact ⟨t, e, k _ _ q (fun _ z => by cases z)⟩
def mtS (C CM : Addr) (p : Pi) (T : List Nat) (ps : List (Nat × Nat)) : Strm where
  nd := fun _ R => PiO C R p
  yl := fun i R x H' => i + 2 ≤ lots ∧ Same R H' ∧ ∃ se, ps[i]? = some se ∧ MatO CM H' x se.1 (pc T se.1 se.2) [] ∧ ∃ m, x = .ref m ∧ R m = none
  fin := fun i R H' => i = ps.length ∧ Same R H'
  E := fun _ _ _ => False
theorem mtS_ok {C CM : Addr} {p : Pi} {T : List Nat} {ps : List (Nat × Nat)} : (mtS C CM p T ps).Ok where
  nd := fun i R R' k h => PiO.ki h (KI.same k)
  yl := by
    rintro i H R x H1 H2 k k1 k2 ⟨a, b, se, c, d, m, e, f⟩
    refine ⟨a, fun y o hy => ?_, se, c, d.off k1, m, e, ?_⟩
    · rw [k2 y (by rw [hy]; exact fun z => by cases z)]
      exact b _ _ (k _ _ hy)
    · cases z : H m with
      | none => rfl
      | some o => rw [k _ _ z] at f; cases f
  fin := by
    rintro i H R H1 H2 k k1 k2 ⟨a, b⟩
    refine ⟨a, fun y o hy => ?_⟩
    rw [k2 y (by rw [hy]; exact fun z => by cases z)]
    exact b _ _ (k _ _ hy)
  thrY := fun i R x H1 h b o e => ⟨o, h.2.1 _ _ e⟩
  few := fun i R x H1 h => h.1
  thrF := fun i R H1 h b o e => ⟨o, h.2 _ _ e⟩
/-! ### the def -/
abbrev sMts : Stmt := topS 27
def NMts : List Str := ["pattern", "text", "at", "end"]
theorem scMts : GScope NMts ["pattern", "text"] (defScope sMts) := ⟨rfl, rfl, rfl, by decide +kernel, rfl, by decide +kernel, by decide +kernel⟩
theorem ncMts : ∀ y ∈ (defScope sMts).names, y.2 ≠ .cell := by decide +kernel
def spMts (C CM : Addr) : SpGn := fun vs H S => ∃ (p : Pi) (T : List Nat) (ps : List (Nat × Nat)), vs = [.ref p.x, .str (tx T)] ∧ wf p.t ∧ p.nm = [] ∧ T.length ≤ 2000 ∧ (∀ c ∈ T, c ∈ LETc) ∧ Sps (Hit p.l p.r p.t T) T.length 0 ps ∧ S = mtS C CM p T ps
theorem ge_fld {G : GPar} {s₀ : Shared} {R : Hp} {e : Expr} {x : Str} {te : TE} {pos : Pos} (h : PE (G.leg s₀ R) e te) (hb : attributeBase e x (G.leg s₀ R).env (eval e (G.leg s₀ R).env) = eval e (G.leg s₀ R).env) : PE (G.leg s₀ R) (.Attribute e x pos) (tFld G.K te x) := pe_fld h hb
section
variable {P : Program} {w : World} {K : PySem.W.Frag} {mg : Str → Option Value} {base : Heap} {C CM mf_ ff aF fb CQ lf gf : Addr} {f : Nat → Addr} {fd : Nat → FuncData} {q : Nat → Addr} {md ffd db ld gd : FuncData}
variable {pf : Nat → Addr} {pfd : Nat → FuncData} {tk tn : Nat → Tok} {gR gW : Addr} {dR dW : FuncData} {hf cf nf : Nat → Addr} {hfd cfd nfd : Nat → FuncData} {lt : Tok}
theorem gn_mts (F : Fun K "matches" "matches" sMts gf gd) (TA : MaT K mg CM f fd q mf_ md ff ffd) (TL : LonT K mg lf ld) (TM : HmT K mg hf hfd) (T7 : Q7T K mg CQ cf cfd) (T : NoT K mg C aF nf nfd fb db tn) (TP : PatT K mg C pf pfd tk gR gW dR dW) (gL : mg "LETTERS" = some (.str LSs lt)) :
    GnOk P w K mg base 6 gf gd ["pattern", "text"] (spMts C CM) := by
  have GT := ok_isT (P := P) (w := w) (base := base) T7 gL
  have GN := ok_lon (P := P) (w := w) (base := base) TL TM T TP
  have GA := ok_mat0 (P := P) (w := w) (base := base) TA TP
  obtain ⟨oc, od, kV, doc, pm, an, cdv, ct, osl, rfl, lk, hcd⟩ := F.ex
  refine gn_of lk hcd scMts ncMts (fun vs H S h => ?_) (fun A outer L H vs S pn hr h => ?_)
  · obtain ⟨p, X, ps, rfl, _⟩ := h
    rfl
  · obtain ⟨p, X, ps, rfl, w0, hnm, hX, hc, sps, rfl⟩ := h
    refine ⟨_, gsts_cons (gst_ps fun s₀ R => ps_if (pt_not (pt_val (pe_call GT (hr.mono (by decide)) (by rfl) T7.ist.g T7.ist.F.kp T7.ist.b .nil pass0 (pa_cons (pv 1) pa_nil)))) pss_never pss_nil)
      (gsts_cons (gst_ps fun s₀ R => ps_set (i := 2) scMts.nd rfl (.inl rfl) pe_int)
      (gsts_one (gst_while (fun s₀ R => passes_of rfl) (fun s₀ R => PW.pt (pw_and (pt_cmpR op_lt (pv 2) (pe_callB call_len_str (by rfl) T.zlen PySem.boot_len (pa_cons (pv 1) pa_nil)) (nomark _)) (pw_and1 (PW.pt (pw_or (pt_cmpR op_eq (pv 2) pe_int (nomark _)) (pw_or1 (pt_not (pt_val (ge_fld (pv 0) rfl)))))))))
        (gsts_cons (gst_ps fun s₀ R => ps_set (i := 3) scMts.nd rfl (.inl rfl) (pe_call GN (hr.mono (by decide)) (by rfl) TL.lon.g TL.lon.F.kp TL.lon.b .nil pass0 (pa_cons (pv 0) (pa_cons (pv 1) (pa_cons (pv 2) pa_nil)))))
        (gsts_one (gst_if (fun s₀ R => pt_cmpR op_isN1 (pv 3) pe_non (nomark _))
          (gsts_one (gst_ps fun s₀ R => ps_aug (i := 2) scMts.nd rfl (.inl rfl) pe_int ip_add))
          (gsts_cons (gst_yield rfl fun s₀ R => pe_call GA (hr.mono (by decide)) (by rfl) TA.mat.g TA.mat.F.kp TA.mat.b .nil pass0 (pa_cons (pv 0) (pa_cons (pv 1) (pa_cons (pv 2) (pa_cons (pv 3) pa_nil)))))
          (gsts_one (gst_ps fun s₀ R => ps_set (i := 2) scMts.nd rfl (.inl rfl) (pv 3)))))))))), fun R0 po0 => ?_⟩
    have po0 : PiO C R0 p := po0
    have hXl : (tx X).length = X.length := tx_len X
    have hXs : (tx X).length ≤ sizeLine := by
      rw [hXl]
      exact Nat.le_trans hX (by decide)
    have hlt : ∀ i e, Hit p.l p.r p.t X i e → i < e ∧ e ≤ X.length := fun i e h => h.lt
    have hpl : ps.length ≤ 2000 := by
      rcases sps.bound hlt with z | z
      · omega
      · rw [z]
        exact Nat.zero_le _
    refine ⟨_, rfl, X, rfl, hX, hc, fun H1 s1 => ⟨_, rfl, iteF ?_⟩⟩
    refine ⟨fun m i R σ H => ∃ (at_ : Nat) (y : Option V), σ = [some (.ref p.x), some (.str (tx X)), some (.int (at_ : Nat)), y] ∧ m + at_ = X.length ∧ i ≤ ps.length ∧ Sps (Hit p.l p.r p.t X) X.length at_ (ps.drop i) ∧ PiO C R p ∧ Same R H, ⟨X.length, 0, none, rfl, rfl, Nat.zero_le _, sps, po0, s1⟩, ?_⟩
    rintro m i R σ H3 ⟨at_, y, rfl, hm, hi, sp, po, s3⟩
    have tst : ∀ (Q : Bool → Hp → Prop), (∀ b, (b = true ↔ at_ < X.length ∧ (at_ = 0 ∨ p.l = false)) → Q b H3) →
        tAnd (tTest (tOp (rI0 fun i j => V.bl (decide (i < j))) (tVar 2) (tCB (fun xs H Q => ∃ z, xs = [V.str z] ∧ z.length ≤ sizeLine ∧ Q (V.int z.length) H) (tCons (tVar 1) tNil))))
          (tOr (tTest (tOp rEq (tVar 2) (tC (V.int 0)))) (tNot (tB (tFld K (tVar 0) "is_bound_left")))) [some (V.ref p.x), some (V.str (tx X)), some (V.int (at_ : Nat)), y] H3 Q := fun Q h => by
      refine ⟨_, rfl, _, rfl, tx X, rfl, hXs, _, _, rfl, rfl, _, rfl, ?_⟩
      rw [hXl]
      refine ite2 (fun z => ?_) (fun z => h false ⟨fun z9 => Bool.noConfusion z9, fun z2 => absurd (decide_eq_true (show (at_ : Int) < (X.length : Int) from Int.ofNat_lt.mpr z2.1)) z⟩)
      have z := of_decide_eq_true z
      refine ⟨_, rfl, rfl, _, rfl, ?_⟩
      refine ite2 (fun z2 => h true ⟨fun _ => ⟨by omega, .inl ?_⟩, fun _ => rfl⟩) (fun z2 => ?_)
      · have z3 : V.int ((at_ : Nat) : Int) = V.int 0 := of_decide_eq_true z2
        have z4 : ((at_ : Nat) : Int) = 0 := by injection z3
        omega
      obtain ⟨dx, tv, na, pl, fi, la, be, e1, _⟩ := id po.1
      refine ⟨_, rfl, p.x, C, dx, _, _, rfl, s3 _ _ e1, TP.cl, TP.n1, rfl, p.l, rfl, ?_⟩
      refine h (!p.l) ⟨fun z3 => ⟨by omega, .inr (by simpa using z3)⟩, fun z3 => ?_⟩
      rcases z3.2 with z3 | z3
      · exact absurd (decide_eq_true (by rw [z3] <;> rfl)) z2
      · rw [z3] <;> rfl
    refine tst _ fun b hb => ?_
    cases b with
    | false =>
      refine iteF ?_
      have hd : ps.drop i = [] := by
        refine sp.uniq (Sps.none (m := X.length) (by omega) fun j e hj hh => ?_)
        have h1 := hh.lt
        have h2 := hh.2.2.2
        have h3 := hb.mpr ⟨by omega, by
          rcases h2 with z | z
          · exact .inl (by omega)
          · exact .inr z⟩
        cases h3
      have hl : i = ps.length := by
        have := congrArg List.length hd
        rw [List.length_drop, List.length_nil] at this
        omega
      exact ⟨hl, s3⟩
    | true =>
      obtain ⟨hat, hbd⟩ := hb.mp rfl
      have hh : ∀ e, Hi p X at_ e ↔ Hit p.l p.r p.t X at_ e := fun e => ⟨fun z => ⟨z.1, z.2.1, z.2.2, hbd⟩, fun z => ⟨z.1, z.2.1, z.2.2.1⟩⟩
      refine iteT ⟨fun i' R' σ' H' => ∃ (m' : Nat) (at_ : Nat) (y : Option V), m' < m ∧ σ' = [some (.ref p.x), some (.str (tx X)), some (.int (at_ : Nat)), y] ∧ m' + at_ = X.length ∧ i' ≤ ps.length ∧ Sps (Hit p.l p.r p.t X) X.length at_ (ps.drop i') ∧ PiO C R' p ∧ Same R' H', fun i' R' σ' H' ⟨m', a, y, z, h⟩ => ⟨m', z, a, y, h⟩, ?_⟩
      refine ⟨_, rfl, _, rfl, _, rfl, p, X, at_, rfl, po.ki (KI.same s3), w0, hX, hat, fun o H4 hbest s4 => ?_⟩
      have s34 := s3.trans s4
      refine ⟨_, rfl, rfl, _, rfl, ?_⟩
      cases o with
      | none =>
        refine iteT ⟨_, rfl, _, _, rfl, rfl, m - 1, at_ + 1, _, by omega, rfl, by omega, hi, ?_, po, s34⟩
        refine sp.of_skip hat fun e z => ?_
        have := z.lt
        exact absurd ((hh _).mpr z) (hbest _ (by omega))
      | some e =>
        obtain ⟨b1, b2, b3⟩ := hbest
        have b4 := (hh _).mp b2
        have h5 := b4.lt
        have hlo : 2003 ≤ lots := by decide
        obtain ⟨qs, eq, sq⟩ := sp.of_hit hat b4 fun e' he' => b3 e' (by have := he'.lt; omega) ((hh _).mpr he')
        have hat2 : ps[i]? = some (at_, e) := by
          have h6 : (ps.drop i)[0]? = some (at_, e) := by rw [eq] <;> rfl
          rw [List.getElem?_drop] at h6
          exact h6
        have hil := (List.getElem?_eq_some_iff.mp hat2).1
        have eq2 : ps.drop (i + 1) = qs := by
          rw [← List.drop_drop, eq] <;> rfl
        refine iteF ⟨by omega, ?_⟩
        refine ⟨_, rfl, _, rfl, _, rfl, _, rfl, p, X, at_, e, rfl, po.ki (KI.same s34), hnm, hX, by omega, h5.2, fun v H5 s5 mo fr => ?_⟩
        refine ⟨⟨by omega, s34.trans s5, _, hat2, mo, ?_⟩, fun R' po' => ?_⟩
        · obtain ⟨m', e1, e2⟩ := fr
          refine ⟨m', e1, ?_⟩
          cases z : R m' with
          | none => rfl
          | some o => rw [s34 _ _ z] at e2; cases e2
        have po' : PiO C R' p := po'
        exact ⟨_, rfl, X.length - e, e, _, by omega, rfl, by omega, by omega, by rw [eq2]; exact sq, po', Same.refl R'⟩
end
end Sq
/-! A call by keywords alone; repr of what may be a constant of the module; set(tuple of ints). -/
namespace Sf
open PySem PySem.Spec PyProof.Rows L2
def tKwR (n : Nat) (sp : Sp) (E : XK) (tk : TA) : TE := fun σ H Q => tk σ H fun zs H1 => zs.length = n ∧ sp zs.reverse H1 Q E
theorem vals_rev : ∀ {zs : List V} {ws : List Value}, Vals zs ws → Vals zs.reverse ws.reverse
  | _, _, .nil => .nil
  | _, _, .cons a t => by
    rw [List.reverse_cons, List.reverse_cons]
    exact (vals_rev t).append (.cons a .nil)
section
variable {X : Cx}
/-- f(last = .., .., first = ..): all by keyword, in the order from the last to the first -/
theorem pe_kwR {CX : CXT} {E : XK} {k : Nat} {f : Addr} {fd : FuncData} {ps ks : List Str} {sp : Sp} {x : Str} {p pos : Pos} {kws : List Keyword} {tk : TA} (F : FnOk X.prog X.w X.K X.mg X.base CX k f fd ps sp) (room : Room k X.A) (hg : Gl X x) (hm : X.mg x = some (.ref f))
    (kp : PySem.W.keepIn X.K (.ref f) = true) (hb : ∀ (s : Shared) (ws : List Value), ws.length = ks.length → BindsTo s fd ⟨[], ks.zip ws⟩ (ps.zip ws.reverse)) (hx : Passes CX X E) (hkw : PK X kws tk)
    (hall : (backToKw pos (keywordEach kws X.env)).all (·.1.isSome) = true := by rfl) (hks : (backToKw pos (keywordEach kws X.env)).filterMap (·.1) = ks := by rfl) (hdb : (x == ("__debug__" : Str)) = false := by decide)
    (hpl : ((backTo pos (starEach [] X.env)).any (·.1) || (backToKw pos (keywordEach kws X.env)).any (·.1.isNone)) = false := by rfl) : PE X (.Call (.Name x p) [] kws pos) (tKwR ks.length sp E tk) :=
  ⟨fun pins sh σ Hh W I prom => wpAny_Call_Name_kw (ld_glob I hg hm
    (PySem.W.callWith_KW0 (h₀ := X.base) I.ok.mod.kin kp hall (thn (hkw.run pos pins sh σ Hh _ I prom) fun ws s2 ⟨zs, H2, I2, rz, lz, q2⟩ => ⟨I2.kIn, by
      rw [hks]
      refine wpAny_call (codeAny_mono (F.run X.A X.stack s2 H2 ⟨[], ks.zip ws⟩ ws.reverse zs.reverse W E room I2.env0 (hb s2 ws (by rw [← rz.length]; exact lz)) (vals_rev rz) q2) fun r s3 ends => ?_)
      match r, ends with
      | .error ex, z => exact hx pins σ H2 s2 ex s3 I2 z
      | .ok (.ret u), z => exact I2.after z
      | .ok .next, z => exact z.elim
      | .ok .brk, z => exact z.elim
      | .ok .cont, z => exact z.elim⟩) hpl) hdb)⟩
theorem kwr_binds {K : PySem.W.Frag} {x qual : Str} {st : Stmt} {f : Addr} {fd : FuncData} {ps ks : List Str} (F : Fun K x qual st f fd)
    (h : ∀ (kV doc pm : Value) (an : Option Addr) (cdv ct : Value) (ws : List Value), ws.length = ks.length → bindArgs (PySem.W.fnOf x qual (defArgs st) (defBody st) (defScope st) .none kV doc pm an cdv ct) ⟨[], ks.zip ws⟩ = pure (ps.zip ws.reverse)) :
    ∀ (s : Shared) (ws : List Value), ws.length = ks.length → BindsTo s fd ⟨[], ks.zip ws⟩ (ps.zip ws.reverse) := by
  obtain ⟨oc, od, kV, doc, pm, an, cdv, ct, osl, rfl, _⟩ := F.ex
  exact fun s ws hl => .of_eq (h kV doc pm an cdv ct ws hl)
mutual
theorem Dp.weak {K : PySem.W.Frag} {H : Hp} : ∀ {d : PyData} {v : V}, Dp K H v d → d.hasDict = false
  | .none, _, h => by
    cases h
    rfl
  | .bool b, _, h => by
    cases h
    rfl
  | .int i, _, h => by
    cases h
    rfl
  | .str x, _, h => by
    cases h
    rfl
  | .list ds, _, h => by
    cases h with
    | lst e k =>
      unfold PyData.hasDict
      exact DpAll.weak k
  | .tuple ds, _, h => by
    cases h with
    | tup e k =>
      unfold PyData.hasDict
      exact DpAll.weak k
  | .dict es, _, h => by cases h
theorem DpAll.weak {K : PySem.W.Frag} {H : Hp} : ∀ {ds : List PyData} {vs : List V}, DpAll K H vs ds → PyData.hasDictAll ds = false
  | [], _, h => rfl
  | d :: ds, _, h => by
    cases h with
    | cons a t =>
      unfold PyData.hasDictAll
      rw [Dp.weak a, DpAll.weak t] <;> rfl
end
def rReprD (K : PySem.W.Frag) : List V → Hp → VK → Prop := fun vs H Q => ∃ (v : V) (d : PyData) (n m : Nat), vs = [v] ∧ Dp K H v d ∧ Sm n m d ∧ n ≤ 100000 ∧ m ≤ 60 ∧ Q (.str d.shown) H
theorem cr_reprD (hg : X.A.guards = some []) (hu : X.A.units + 64 < cLine) : CallR X (.builtin "repr") (rReprD X.K) := by
  intro pins s σ H vs us Q I r h
  obtain ⟨v, d, n, m, rfl, ho, sm, hn, hm, q⟩ := h
  obtain ⟨u, rfl, r1⟩ := vals1 r
  obtain ⟨as, rd⟩ := Dp.reads I d v u ho r1
  have fit := sm.fits hn
  have dep : d.depth ≤ 60 := Nat.le_trans sm.dp hm
  have big : d.hasDict = true → sysModules ∉ as := fun z => by
    rw [Dp.weak ho] at z
    cases z
  cases rd with
  | none => exact PySem.P.repr_of_none ⟨.str _, H, I.tok _, ⟨_, rfl⟩, q⟩
  | bool b => exact PySem.P.repr_of_bool ⟨.str _, H, I.tok _, ⟨_, rfl⟩, q⟩
  | int i t => exact PySem.P.repr_of_int (by simpa [PyData.showable] using sm.sh) ⟨.str _, H, I.tok _, ⟨_, rfl⟩, q⟩
  | str x t => exact PySem.P.repr_of_str ⟨.str _, H, I.tok _, ⟨_, rfl⟩, q⟩ fit
  | list h1 h2 h3 h4 => exact repr_of_reads' (.list h1 h2 h3 h4) sm.sh big hg (by omega) (fun _ _ e => e) (fun h' u tk k => ⟨.str _, H, I.kept k, ⟨_, rfl⟩, q⟩) fit
  | tuple h1 h2 h3 h4 => exact repr_of_reads' (.tuple h1 h2 h3 h4) sm.sh big hg (by omega) (fun _ _ e => e) (fun h' u tk k => ⟨.str _, H, I.kept k, ⟨_, rfl⟩, q⟩) fit
  | dict h1 h2 h3 h4 h5 => exact repr_of_reads' (.dict h1 h2 h3 h4 h5) sm.sh big hg (by omega) (fun _ _ e => e) (fun h' u tk k => ⟨.str _, H, I.kept k, ⟨_, rfl⟩, q⟩) fit
end
end Sf
/-! has_match and the matches; what may be shown. -/
namespace Sq
open PySem PySem.Spec PyProof.Rows L2 Sf Sf4 Gl Gz
theorem found_mem {p : Pi} {c : Nat} {isb : Bool} {ls : List Nat} {i : Nat} : i ∈ found p c isb ls ↔ (i < sz p.t ∧ i ∈ come p isb ls) ∧ c ∈ (spts p.t).getD i [] := by
  unfold found
  rw [List.mem_filter, asc_mem, decide_eq_true_iff]
/-- the state behind T -/
def StI (p : Pi) (T : List Nat) : Sta → Prop
  | none => p.r = false ∧ Mat p.l false p.t T
  | some ls => (∀ q, q ∈ ls ↔ Sof p.l p.t T q) ∧ (p.r = false → ¬ Mat p.l false p.t T)
theorem stI_nil (p : Pi) : StI p [] (some []) := ⟨fun q => ⟨(fun h => nomatch h), fun h => (sof_nil _ _ _ h).elim⟩, fun _ => mat_empty _ _ _⟩
theorem mem_come {p : Pi} {isb : Bool} {ls : List Nat} {q : Nat} : q ∈ come p isb ls ↔ (∃ j ∈ ls, q < sz p.t ∧ q ∈ (pO p.t w0).2.fo.getD j []) ∨ ((isb || !p.l) = true ∧ q < sz p.t ∧ q ∈ (pO p.t w0).1.2.1) := by
  unfold come
  rw [List.mem_append, List.mem_flatMap]
  constructor
  · rintro (⟨j, h1, h2⟩ | h)
    · exact .inl ⟨j, h1, asc_mem.mp h2⟩
    · split at h
      · rename_i hb
        exact .inr ⟨hb, asc_mem.mp h⟩
      · cases h
  · rintro (⟨j, h1, h2⟩ | ⟨hb, h⟩)
    · exact .inl ⟨j, h1, asc_mem.mpr h2⟩
    · rw [if_pos hb]
      exact .inr (asc_mem.mpr h)
theorem found_sof {p : Pi} {T : List Nat} {c : Nat} {ls : List Nat} (h : wf p.t) (hs : ∀ q, q ∈ ls ↔ Sof p.l p.t T q) (q : Nat) : q ∈ found p c (decide (T = [])) ls ↔ Sof p.l p.t (T ++ [c]) q := by
  obtain ⟨inn, _⟩ := glu0 h
  rw [found_mem, sof_snoc, mem_come]
  constructor
  · rintro ⟨⟨_, ⟨j, h1, _, h2⟩ | ⟨h1, _, h2⟩⟩, h3⟩
    · exact ⟨h3, .inl ⟨j, (hs j).mp h1, (mem_k h j q).mp h2⟩⟩
    · refine ⟨h3, .inr ⟨?_, (mem_f h q).mp h2⟩⟩
      rw [Bool.or_eq_true, decide_eq_true_iff] at h1
      exact h1.imp id fun z => by simpa using z
  · rintro ⟨h3, ⟨j, h1, h2⟩ | ⟨h1, h2⟩⟩
    · have := (inn.k j q h2).2.2
      exact ⟨⟨this, .inl ⟨j, (hs j).mpr h1, this, (mem_k h j q).mpr h2⟩⟩, h3⟩
    · have := (inn.f q h2).2
      refine ⟨⟨this, .inr ⟨?_, this, (mem_f h q).mpr h2⟩⟩, h3⟩
      rw [Bool.or_eq_true, decide_eq_true_iff]
      exact h1.imp id fun z => by rw [z] <;> rfl
theorem hasLast_iff {p : Pi} {T : List Nat} {ls : List Nat} (h : wf p.t) (hs : ∀ q, q ∈ ls ↔ Sof p.l p.t T q) : hasLast p ls = true ↔ ∃ q, Sof p.l p.t T q ∧ (lnk0 p.t).l q := by
  obtain ⟨inn, _⟩ := glu0 h
  unfold hasLast
  rw [List.any_eq_true]
  constructor
  · rintro ⟨q, h1, h2⟩
    exact ⟨q, (hs q).mp h1, (mem_l h q).mp (asc_mem.mp (of_decide_eq_true h2)).2⟩
  · rintro ⟨q, h1, h2⟩
    exact ⟨q, (hs q).mpr h1, decide_eq_true (asc_mem.mpr ⟨(inn.l q h2).2, (mem_l h q).mpr h2⟩)⟩
theorem stI_step {p : Pi} {T : List Nat} {c : Nat} {s : Sta} (h : wf p.t) (hs : StI p T s) : StI p (T ++ [c]) (nxt p c (decide (T = [])) s) := by
  cases s with
  | none => exact ⟨hs.1, (mat_free h).mpr (.inl hs.2)⟩
  | some ls =>
    obtain ⟨h1, h2⟩ := hs
    have hf := found_sof (c := c) h h1
    have hl := hasLast_iff h hf
    show StI p (T ++ [c]) (if (!p.r && hasLast p (found p c (decide (T = [])) ls)) = true then none else some (found p c (decide (T = [])) ls))
    cases hr : p.r with
    | true => exact ⟨hf, fun z => by rw [hr] at z; cases z⟩
    | false =>
      cases hh : hasLast p (found p c (decide (T = [])) ls) with
      | true => exact ⟨hr, (mat_free h).mpr (.inr (hl.mp hh))⟩
      | false =>
        refine ⟨hf, fun _ hm => ?_⟩
        rcases (mat_free h).mp hm with z | z
        · exact h2 hr z
        · rw [hl.mpr z] at hh
          cases hh
theorem stI_end {p : Pi} {T : List Nat} {s : Sta} (h : wf p.t) (hs : StI p T s) : ended p s = true ↔ Mat p.l p.r p.t T := by
  cases s with
  | none =>
    rw [hs.1]
    exact ⟨fun _ => hs.2, fun _ => rfl⟩
  | some ls =>
    obtain ⟨h1, h2⟩ := hs
    have hl := hasLast_iff h h1
    show (p.r && hasLast p ls) = true ↔ _
    cases hr : p.r with
    | true =>
      rw [Bool.true_and, hl]
      exact (mat_right h).symm
    | false => exact ⟨fun z => (nomatch z), fun z => absurd z (h2 hr)⟩
theorem hit_mat {l r : Bool} {t : Tr} {T : List Nat} : Mat l r t T ↔ ∃ i e, Hit l r t T i e := by
  constructor
  · rintro ⟨i, e, h1, h2, h3, h4, h5⟩
    exact ⟨i, e, h1, ⟨Nat.le_of_lt h1, h2, h5⟩, h4, h3⟩
  · rintro ⟨i, e, h1, ⟨_, h2, h5⟩, h4, h3⟩
    exact ⟨i, e, h1, h2, h3, h4, h5⟩
theorem sm_bool (a : Bool) : Sm 10 1 (.bool a) := by
  cases a <;> exact ⟨by decide +kernel, by decide +kernel, by decide +kernel, by decide +kernel⟩
theorem mk_same {C x dx : Addr} {H H' : Hp} (hx : H x = none) (hd : H dx = none) (k : ∀ b o, b ≠ x → (upd (upd H dx (.own x)) x (.ins C dx [])) b = some o → H' b = some o) : Same H H' := fun b o h => by
  have n1 : b ≠ x := ne_of_none h hx
  refine k b o n1 ?_
  rw [upd_ne n1, upd_ne (ne_of_none h hd)]
  exact h
theorem stI_run {p : Pi} (h : wf p.t) (T : List Nat) : StI p T (run1 p T).2 := by
  have go : ∀ R : List Nat, StI p R.reverse (run1 p R.reverse).2 := by
    intro R
    induction R with
    | nil => exact stI_nil p
    | cons d R ih =>
      rw [List.reverse_cons, run1_snoc, run1_fst]
      exact stI_step h ih
  have := go T.reverse
  rwa [List.reverse_reverse] at this
theorem hasM_mat {p : Pi} (h : wf p.t) (T : List Nat) : hasM p T = true ↔ Mat p.l p.r p.t T := stI_end h (stI_run h T)
theorem Sps.nil_no {h : Nat → Nat → Prop} {n : Nat} {a : Nat} {ps : List (Nat × Nat)} (s : Sps h n a ps) : ps = [] → ∀ i e, a ≤ i → i < n → ¬ h i e := by
  induction s with
  | done z => intro _ i e h1 h2; omega
  | @skip a ps z no _ ih =>
    intro hp i e h1 h2 hh
    by_cases e1 : i = a
    · subst e1
      exact no _ hh
    · exact ih hp i e (by omega) h2 hh
  | hit _ _ _ _ _ => intro hp; cases hp
theorem hasM_sps {p : Pi} {T : List Nat} {ps : List (Nat × Nat)} (h : wf p.t) (s : Sps (Hit p.l p.r p.t T) T.length 0 ps) : hasM p T = !ps.isEmpty := by
  rw [Bool.eq_iff_iff, hasM_mat h, hit_mat]
  constructor
  · rintro ⟨i, e, hh⟩
    cases ps with
    | nil => exact absurd hh (s.nil_no rfl i e (Nat.zero_le _) (by have := hh.lt; omega))
    | cons _ _ => rfl
  · intro z
    cases ps with
    | nil => cases z
    | cons x r =>
      by_cases hx : ∃ i e, Hit p.l p.r p.t T i e
      · exact hx
      · have := s.uniq (Sps.none (m := T.length) (by omega) fun i e _ hh => hx ⟨i, e, hh⟩)
        cases this
end Sq
namespace Sf
open PySem PySem.Spec PyProof.Rows L2 Sf4
theorem Sm.all {n m k : Nat} {ds : List PyData} (h : ∀ d ∈ ds, Sm n m d) (l : ds.length ≤ k) : PyData.showableAll ds = true ∧ PyData.leavesShortAll 40 ds = true ∧ PyData.weightAll ds ≤ k * (n + 1) ∧ PyData.depthAll ds ≤ m := by
  induction ds generalizing k with
  | nil => exact ⟨rfl, rfl, Nat.zero_le _, Nat.zero_le _⟩
  | cons d r ih =>
    cases k with
    | zero => cases l
    | succ k =>
      obtain ⟨h1, h2, h3, h4⟩ := h d List.mem_cons_self
      obtain ⟨i1, i2, i3, i4⟩ := ih (fun e he => h e (List.mem_cons_of_mem _ he)) (Nat.le_of_succ_le_succ l)
      refine ⟨by simp [PyData.showableAll, h1, i1], by simp [PyData.leavesShortAll, h2, i2], ?_, ?_⟩
      · simp only [PyData.weightAll]
        rw [Nat.succ_mul]
        omega
      · simp only [PyData.depthAll]
        omega
theorem Sm.tup {n m k : Nat} {ds : List PyData} (h : ∀ d ∈ ds, Sm n m d) (l : ds.length ≤ k) : Sm (k * (n + 1) + 2) (m + 1) (.tuple ds) := by
  obtain ⟨h1, h2, h3, h4⟩ := Sm.all h l
  refine ⟨by simp [PyData.showable, h1], by simp [PyData.leavesShort, h2], ?_, ?_⟩
  · simp only [PyData.weight]
    omega
  · simp only [PyData.depth]
    omega
theorem Sm.lst {n m k : Nat} {ds : List PyData} (h : ∀ d ∈ ds, Sm n m d) (l : ds.length ≤ k) : Sm (k * (n + 1) + 2) (m + 1) (.list ds) := by
  obtain ⟨h1, h2, h3, h4⟩ := Sm.all h l
  refine ⟨by simp [PyData.showable, h1], by simp [PyData.leavesShort, h2], ?_, ?_⟩
  · simp only [PyData.weight]
    omega
  · simp only [PyData.depth]
    omega
theorem lv_str {t : Str} (h : ∀ c ∈ t.cps.toList, c < 128) : (PyData.str t).leavesShort 40 = true := by
  show (t.cps.toList.all fun c => decide (c < 16 ^ 8)) = true
  rw [List.all_eq_true]
  intro c hc
  have := h c hc
  exact decide_eq_true (Nat.lt_of_lt_of_le this (by decide))
theorem sm_str {t : Str} {n : Nat} (h : ∀ c ∈ t.cps.toList, c < 128) (hl : t.length ≤ n) : Sm n 0 (.str t) := ⟨rfl, lv_str h, hl, Nat.le_refl 0⟩
theorem Sm.mono {n m n' m' : Nat} {d : PyData} (h : Sm n m d) (a : n ≤ n') (b : m ≤ m') : Sm n' m' d := ⟨h.sh, h.lv, Nat.le_trans h.wt a, Nat.le_trans h.dp b⟩
theorem strOk8 {l : List Nat} (h : asc l = true) : PyData.strOk (tx l) = true := by
  show (l.toArray).all (· < 0x110000) = true
  rw [List.all_toArray, List.all_eq_true]
  intro c hc
  have := asc_of h hc
  exact decide_eq_true (by omega)
theorem smI : ∀ n < 64, ((PyData.int (n : Nat)).showable && (PyData.int (n : Nat)).leavesShort 40 && decide ((PyData.int (n : Nat)).weight ≤ 8) && decide ((PyData.int (n : Nat)).depth ≤ 0)) = true := by decide +kernel
theorem sm_int {n : Nat} (h : n < 64) : Sm 8 0 (.int (n : Nat)) := by
  have q := smI n h
  simp only [Bool.and_eq_true, decide_eq_true_eq] at q
  exact ⟨q.1.1.1, q.1.1.2, q.1.2, q.2⟩
end Sf
/-! [x for x in list if ..]: what is kept. -/
namespace Sf
open PySem PySem.Spec PyProof.Rows L2
theorem take_atF {α : Type} {l : List α} {i : Nat} {j : α} (h : l[i]? = some j) : l.take (i + 1) = l.take i ++ [j] := by
  obtain ⟨h1, h2⟩ := List.getElem?_eq_some_iff.mp h
  rw [List.take_succ, h] <;> rfl
theorem lc_filt {K : PySem.W.Frag} {L D : Addr} {xs : List V} {H1 : Hp} {j : Nat} {tt : TT} {σ : L2.St} {Qd : Hp → Prop} (g : V → Bool) (hL : H1 L = some (.lst xs)) (hD : H1 D = none) (hj : j < σ.length) (hlen : xs.length ≤ 4000)
    (cond : ∀ x ∈ xs, ∀ H', Same H1 H' → ∀ Q : Bool → Hp → Prop, Q (g x) H' → tt ((wipe σ [j]).set j (some x)) H' Q) (fin : ∀ H', Same H1 H' → H' D = some (.lst (xs.filter g)) → Qd H') :
    ∃ W : Nat → Nat → Hp → Prop, (∃ m, W 0 m (upd H1 D (.lst []))) ∧ ∀ i m H, W i m H →
      ((Itl K L).stop i H ∧ Qd H) ∨ ((Itl K L).go i H ∧ ∃ Nx : Hp → Prop, (∀ H', Nx H' → ∃ m', m' < m ∧ W (i + 1) m' H') ∧ ∀ x H', (Itl K L).yld i H x H' → gName j x (wipe σ [j]) H' fun σ2 H2 => wipe σ2 [j] = wipe σ [j] ∧ tt σ2 H2 fun b H3 =>
        if b = true then tVar j σ2 H3 fun y H4 => ∃ acc, H4 D = some (.lst acc) ∧ acc.length < sizeLine ∧ Nx (upd H4 D (.lst (acc ++ [y]))) else Nx H3) := by
  refine lc_it (walk_list (K := K) (a := L) (xs := xs)) (fun i H => H D = some (.lst ((xs.take i).filter g)) ∧ Same H1 H) ⟨upd_same, fun b u e => by
    rw [upd_ne (ne_of_none e hD)]
    exact e⟩ (fun i H _ hP => .inl (.inl (hP.2 _ _ hL))) (fun i x H H' hi hP hy => ?_) (fun H hP => ?_)
  · obtain ⟨eD, s1⟩ := hP
    obtain ⟨rfl, hx⟩ := hy
    have hw : (wipe σ [j]).length = σ.length := by simp [wipe]
    refine ⟨?_, cond x (List.mem_of_getElem? hx) _ s1 _ ?_⟩
    · simp [wipe]
    have e1 : (xs.take (i + 1)).filter g = (xs.take i).filter g ++ (if g x = true then [x] else []) := by
      rw [take_atF hx, List.filter_append]
      congr 1
      rw [List.filter_cons, List.filter_nil]
    cases hg : g x with
    | true =>
      refine iteT ⟨x, ?_, _, eD, ?_, ?_, fun b o hb => ?_⟩
      · rw [List.getElem?_set_self (by rw [hw]; exact hj)]
      · have h1 := List.length_filter_le g (xs.take i)
        have h2 := List.length_take_le i xs
        exact Nat.lt_of_le_of_lt (show _ ≤ 4000 by omega) (by decide)
      · rw [upd_same, e1, if_pos hg]
      · rw [upd_ne (ne_of_none hb hD)]
        exact s1 _ _ hb
    | false =>
      refine iteF ⟨?_, s1⟩
      rw [e1, if_neg (by rw [hg]; exact Bool.false_ne_true), List.append_nil]
      exact eD
  · obtain ⟨eD, s1⟩ := hP
    rw [List.take_length] at eD
    exact fin H s1 eD
end Sf
/-! x in (a, b, ..) of data. -/
namespace Sf
open PySem PySem.Spec PyProof.Rows L2
section
variable {X : Cx}
def rInDT (K : PySem.W.Frag) : R2 := fun x y H Q => ∃ d ds, Dp K H x d ∧ Dp K H y (.tuple ds) ∧ SeqAt.shaped d = true ∧ SeqAt.shaped (.tuple ds) = true ∧ Q (.bl (ds.any fun z => PyData.eqv z d)) H
def rNotInDT (K : PySem.W.Frag) : R2 := fun x y H Q => ∃ d ds, Dp K H x d ∧ Dp K H y (.tuple ds) ∧ SeqAt.shaped d = true ∧ SeqAt.shaped (.tuple ds) = true ∧ Q (.bl (!ds.any fun z => PyData.eqv z d)) H
theorem op_inDT (hu : X.A.units + 65 < cLine) : OpR X (compareOp .In) (rInDT X.K) := by
  intro pins s σ H x y v u Q I rx ry h
  obtain ⟨d, ds, hd, he, sd, se, q⟩ := h
  obtain ⟨as, r1⟩ := Dp.reads I d x v hd rx
  obtain ⟨bs, r2⟩ := Dp.reads I (.tuple ds) y u he ry
  exact SeqAt.in_tuple_reads r2 r1 (SeqAt.canLay_of_shaped se) (SeqAt.canLay_of_shaped sd) (room_in_shaped sd hu) ⟨.bl _, H, I, rfl, q⟩
theorem op_notInDT (hu : X.A.units + 65 < cLine) : OpR X (compareOp .NotIn) (rNotInDT X.K) := by
  intro pins s σ H x y v u Q I rx ry h
  obtain ⟨d, ds, hd, he, sd, se, q⟩ := h
  obtain ⟨as, r1⟩ := Dp.reads I d x v hd rx
  obtain ⟨bs, r2⟩ := Dp.reads I (.tuple ds) y u he ry
  exact SeqAt.notIn_tuple_reads r2 r1 (SeqAt.canLay_of_shaped se) (SeqAt.canLay_of_shaped sd) (room_in_shaped sd hu) ⟨.bl _, H, I, rfl, q⟩
end
end Sf
/-! list(text). -/
namespace Sf
open PySem PySem.Spec PyProof.Rows L2
section
variable {X : Cx}
def rListS : List V → Hp → VK → Prop := fun xs H Q => ∃ z : Str, xs = [.str z] ∧ z.cps.size ≤ sizeLine ∧ ∀ p, H p = none → Q (.ref p) (upd H p (.lst (z.cps.toList.map fun c => V.str ⟨#[c]⟩)))
theorem cr_listS (hc : X.calm = true) : CallR X (.type "list") rListS := by
  intro pins s σ H xs us Q I r h
  obtain ⟨z, rfl, hz, q⟩ := h
  obtain ⟨u, rfl, ru⟩ := vals1 r
  obtain ⟨t, rfl⟩ := ru
  refine call_list_str (I.ok.hd hc) z t (fun h' tk acc c' hk e hi => ?_) hz
  refine ⟨.ref s.heap.objs.size, upd H s.heap.objs.size (.lst (z.cps.toList.map fun c => V.str ⟨#[c]⟩)), I.laid hk (Nat.le_refl _) ⟨by rw [List.length_map, Array.length_toList]; exact hz, acc.toList, c', ?_, by rw [Array.toArray_toList]; exact e⟩, rfl, q _ (I.hok.fresh (Nat.le_refl _))⟩
  refine vals_of_idx _ _ (by rw [List.length_map, Array.length_toList, Array.length_toList]; exact hi.1) fun j u hj => ?_
  obtain ⟨c, t', hc, rfl⟩ := hi.2 j u (by rw [← Array.getElem?_toList]; exact hj)
  exact ⟨.str ⟨#[c]⟩, by rw [List.getElem?_map, Array.getElem?_toList, hc] <;> rfl, ⟨_, rfl⟩⟩
end
end Sf
/-! The words of a tree over some letters, up to a length. -/
namespace Gl
open Sf4
/-- a word of L, of at most m letters, all of LL -/
def Wd (L : List Nat → Prop) (LL : List Nat) (m : Nat) (u : List Nat) : Prop := L u ∧ u.length ≤ m ∧ ∀ c ∈ u, c ∈ LL
/-- cs is all of us with all of ws behind, up to m -/
def Jo (us ws : List (List Nat)) (m : Nat) (cs : List (List Nat)) : Prop := cs.Nodup ∧ ∀ u, u ∈ cs ↔ ∃ x ∈ us, ∃ y ∈ ws, u = x ++ y ∧ x.length + y.length ≤ m
def WOf (L : List Nat → Prop) (LL : List Nat) (m : Nat) (us : List (List Nat)) : Prop := us.Nodup ∧ ∀ u, u ∈ us ↔ Wd L LL m u
section
variable {L M : List Nat → Prop} {LL : List Nat} {m : Nat}
theorem wd_congr (h : ∀ u, L u ↔ M u) {u : List Nat} : Wd L LL m u ↔ Wd M LL m u := ⟨fun ⟨a, b⟩ => ⟨(h u).mp a, b⟩, fun ⟨a, b⟩ => ⟨(h u).mpr a, b⟩⟩
theorem wd_seq {u : List Nat} : Wd (fun u => ∃ u1 u2, u = u1 ++ u2 ∧ L u1 ∧ M u2) LL m u ↔ ∃ x y, Wd L LL m x ∧ Wd M LL m y ∧ u = x ++ y ∧ x.length + y.length ≤ m := by
  constructor
  · rintro ⟨⟨x, y, rfl, a, b⟩, h1, h2⟩
    rw [List.length_append] at h1
    exact ⟨x, y, ⟨a, by omega, fun c hc => h2 c (List.mem_append_left _ hc)⟩, ⟨b, by omega, fun c hc => h2 c (List.mem_append_right _ hc)⟩, rfl, h1⟩
  · rintro ⟨x, y, ⟨a, a1, a2⟩, ⟨b, b1, b2⟩, rfl, h⟩
    refine ⟨⟨x, y, rfl, a, b⟩, by rw [List.length_append]; exact h, fun c hc => ?_⟩
    rcases List.mem_append.mp hc with z | z
    · exact a2 c z
    · exact b2 c z
theorem WOf.jo {us ws cs : List (List Nat)} (a : WOf L LL m us) (b : WOf M LL m ws) (j : Jo us ws m cs) : WOf (fun u => ∃ u1 u2, u = u1 ++ u2 ∧ L u1 ∧ M u2) LL m cs := by
  refine ⟨j.1, fun u => ?_⟩
  rw [j.2, wd_seq]
  constructor
  · rintro ⟨x, hx, y, hy, h⟩
    exact ⟨x, y, (a.2 x).mp hx, (b.2 y).mp hy, h⟩
  · rintro ⟨x, y, hx, hy, h⟩
    exact ⟨x, (a.2 x).mpr hx, y, (b.2 y).mpr hy, h⟩
theorem WOf.congr (h : ∀ u, L u ↔ M u) {us : List (List Nat)} (a : WOf L LL m us) : WOf M LL m us := ⟨a.1, fun u => (a.2 u).trans (wd_congr h)⟩
theorem wof_nil : WOf (fun u => u = []) LL m [[]] := by
  refine ⟨List.nodup_cons.mpr ⟨List.not_mem_nil, List.nodup_nil⟩, fun u => ?_⟩
  rw [List.mem_singleton]
  constructor
  · rintro rfl
    exact ⟨rfl, Nat.zero_le _, fun c hc => nomatch hc⟩
  · exact fun h => h.1
theorem wof_place {s : List Nat} (nd : LL.Nodup) (hm : 1 ≤ m) : WOf (fun u => ∃ c, c ∈ s ∧ u = [c]) LL m ((LL.filter fun c => decide (c ∈ s)).map fun c => [c]) := by
  refine ⟨List.Pairwise.map _ (fun a b h z => h (List.cons.inj z).1) (nd.filter _), fun u => ?_⟩
  rw [List.mem_map]
  constructor
  · rintro ⟨c, hc, rfl⟩
    obtain ⟨h1, h2⟩ := List.mem_filter.mp hc
    exact ⟨⟨c, of_decide_eq_true h2, rfl⟩, hm, fun d hd => by rw [List.mem_singleton.mp hd]; exact h1⟩
  · rintro ⟨⟨c, hc, rfl⟩, _, h⟩
    exact ⟨c, List.mem_filter.mpr ⟨h c List.mem_cons_self, decide_eq_true hc⟩, rfl⟩
theorem wof_alt {us ws : List (List Nat)} (a : WOf L LL m us) (b : WOf M LL m ws) : WOf (fun u => L u ∨ M u) LL m (us ++ ws.filter fun u => !decide (u ∈ us)) := by
  refine ⟨List.nodup_append.mpr ⟨a.1, b.1.filter _, fun x hx y hy e => ?_⟩, fun u => ?_⟩
  · have := (List.mem_filter.mp hy).2
    rw [← e, decide_eq_true hx] at this
    cases this
  · have h1 := a.2 u
    have h2 := b.2 u
    rw [List.mem_append, List.mem_filter]
    constructor
    · rintro (h | ⟨h, _⟩)
      · exact ⟨.inl (h1.mp h).1, (h1.mp h).2⟩
      · exact ⟨.inr (h2.mp h).1, (h2.mp h).2⟩
    · rintro ⟨h | h, k⟩
      · exact .inl (h1.mpr ⟨h, k⟩)
      · by_cases z : u ∈ us
        · exact .inl z
        · exact .inr ⟨h2.mpr ⟨h, k⟩, by rw [decide_eq_false z] <;> rfl⟩
end
/-! ### counts -/
section
variable {L : List Nat → Prop} {LL : List Nat} {m : Nat}
theorem pow_snoc (k : Nat) (u : List Nat) : pow L (k + 1) u ↔ ∃ u1 u2, u = u1 ++ u2 ∧ pow L k u1 ∧ L u2 := by
  rw [pow_add k 1 u]
  constructor
  · rintro ⟨a, b, e, p, c, d, e2, q, r⟩
    obtain rfl := r
    rw [List.append_nil] at e2
    exact ⟨a, b, e, p, e2 ▸ q⟩
  · rintro ⟨a, b, e, p, q⟩
    exact ⟨a, b, e, p, b, [], (List.append_nil _).symm, q, rfl⟩
theorem wd_pow {k : Nat} {u : List Nat} : Wd (pow L (k + 1)) LL m u ↔ ∃ x y, Wd (pow L k) LL m x ∧ Wd L LL m y ∧ u = x ++ y ∧ x.length + y.length ≤ m :=
  (wd_congr fun u => pow_snoc k u).trans wd_seq
/-- an empty round may be left out -/
theorem pow_short : ∀ {k : Nat} {u : List Nat}, pow L k u → u.length < k → pow L (k - 1) u
  | 0, _, _, h => by omega
  | k + 1, u, ⟨u1, u2, e, p, q⟩, h => by
    cases u1 with
    | nil =>
      rw [List.nil_append] at e
      rw [e]
      exact q
    | cons c u1 =>
      rw [e, List.length_append, List.length_cons] at h
      have r := pow_short q (by omega)
      cases k with
      | zero => omega
      | succ k => exact ⟨c :: u1, u2, e, p, r⟩
theorem pow_fit {u : List Nat} {a : Nat} : ∀ {n k : Nat}, k ≤ n → pow L k u → a ≤ k → ∃ k', a ≤ k' ∧ k' ≤ a + u.length ∧ pow L k' u
  | 0, k, hn, p, h => ⟨k, h, by omega, p⟩
  | n + 1, k, hn, p, h => by
    by_cases z : k ≤ a + u.length
    · exact ⟨k, h, z, p⟩
    · exact pow_fit (n := n) (by omega) (pow_short p (by omega)) (by omega)
structure BfW (L : List Nat → Prop) (LL : List Nat) (m a j : Nat) (F N : List (List Nat)) : Prop where
  f : ∀ u, u ∈ F ↔ ∃ k, a ≤ k ∧ k ≤ a + j ∧ Wd (pow L k) LL m u
  sub : ∀ u ∈ N, u ∈ F
  cl : ∀ x ∈ F, x ∉ N → ∀ y, Wd L LL m y → x.length + y.length ≤ m → x ++ y ∈ F
  nd : F.Nodup
  nn : N.Nodup
theorem bfw_start {a : Nat} {N : List (List Nat)} (h : WOf (pow L a) LL m N) : BfW L LL m a 0 N N := by
  refine ⟨fun u => ?_, fun _ h => h, fun s h1 h2 => absurd h1 h2, h.1, h.1⟩
  rw [h.2]
  constructor
  · exact fun p => ⟨a, Nat.le_refl _, by omega, p⟩
  · rintro ⟨k, h1, h2, p⟩
    obtain rfl : k = a := by omega
    exact p
theorem bfw_step {a j : Nat} {F N M : List (List Nat)} (h : BfW L LL m a j F N) (nd : M.Nodup) (hm : ∀ u, u ∈ M ↔ (∃ x ∈ N, ∃ y, Wd L LL m y ∧ u = x ++ y ∧ x.length + y.length ≤ m) ∧ u ∉ F) : BfW L LL m a (j + 1) (F ++ M) M := by
  refine ⟨fun e => ?_, fun e he => List.mem_append.mpr (.inr he), fun s hs hM y hy hl => ?_, ?_, nd⟩
  · rw [List.mem_append]
    constructor
    · rintro (z | z)
      · obtain ⟨k, h1, h2, p⟩ := (h.f e).mp z
        exact ⟨k, h1, by omega, p⟩
      · obtain ⟨⟨s, hs, y, hy, rfl, hl⟩, _⟩ := (hm e).mp z
        obtain ⟨k, h1, h2, q⟩ := (h.f s).mp (h.sub s hs)
        exact ⟨k + 1, by omega, by omega, wd_pow.mpr ⟨s, y, q, hy, rfl, hl⟩⟩
    · rintro ⟨k, h1, h2, p⟩
      by_cases hk : k ≤ a + j
      · exact .inl ((h.f e).mpr ⟨k, h1, hk, p⟩)
      · obtain rfl : k = a + j + 1 := by omega
        obtain ⟨s, y, q, hy, rfl, hl⟩ := wd_pow.mp p
        have hs := (h.f s).mpr ⟨a + j, by omega, Nat.le_refl _, q⟩
        by_cases hN : s ∈ N
        · by_cases hF : s ++ y ∈ F
          · exact .inl hF
          · exact .inr ((hm _).mpr ⟨⟨s, hN, y, hy, rfl, hl⟩, hF⟩)
        · exact .inl (h.cl s hs hN y hy hl)
  · rw [List.mem_append]
    rcases List.mem_append.mp hs with z | z
    · by_cases hN : s ∈ N
      · by_cases hF : s ++ y ∈ F
        · exact .inl hF
        · exact .inr ((hm _).mpr ⟨⟨s, hN, y, hy, rfl, hl⟩, hF⟩)
      · exact .inl (h.cl s z hN y hy hl)
    · exact absurd z hM
  · refine List.nodup_append.mpr ⟨h.nd, nd, fun x hx y hy e => ?_⟩
    obtain ⟨_, z⟩ := (hm y).mp hy
    exact z (e ▸ hx)
theorem bfw_closed {a j : Nat} {F : List (List Nat)} (h : BfW L LL m a j F []) : ∀ k, a ≤ k → ∀ u, Wd (pow L k) LL m u → u ∈ F := by
  intro k hk
  induction k with
  | zero =>
    intro u p
    exact (h.f u).mpr ⟨0, hk, Nat.zero_le _, p⟩
  | succ k ih =>
    intro u p
    by_cases ha : a ≤ k
    · obtain ⟨s, y, q, hy, rfl, hl⟩ := wd_pow.mp p
      exact h.cl s (ih ha s q) List.not_mem_nil y hy hl
    · exact (h.f u).mpr ⟨k + 1, hk, by omega, p⟩
/-- the rounds are over: what is found are the words of a count -/
theorem bfw_end {t : Tr} {a j : Nat} {b : Option Nat} {F N : List (List Nat)} (h : BfW (Lt t) LL m a j F N) (hab : ∀ c, b = some c → a ≤ c) (hj : ∀ c, b = some c → j ≤ c - a) (hz : N = [] ∨ (∀ c, b = some c → j = c - a) ∧ (b = none → j = m)) : WOf (Lt (.count a b t)) LL m F := by
  refine ⟨h.nd, fun u => ?_⟩
  constructor
  · intro hu
    obtain ⟨k, h1, h2, p, q⟩ := (h.f u).mp hu
    refine ⟨⟨k, h1, fun c hc => ?_, p⟩, q⟩
    have := hj c hc
    have := hab c hc
    omega
  · rintro ⟨⟨k, h1, h2, p⟩, q⟩
    rcases hz with rfl | ⟨z1, z2⟩
    · exact bfw_closed h k h1 u ⟨p, q⟩
    · cases b with
      | some c =>
        have := h2 c rfl
        have := z1 c rfl
        exact (h.f u).mpr ⟨k, h1, by omega, p, q⟩
      | none =>
        obtain ⟨k', a1, a2, a3⟩ := pow_fit (Nat.le_refl k) p h1
        have := z2 rfl
        have := q.1
        exact (h.f u).mpr ⟨k', a1, by omega, a3, q⟩
end
/-! ### how many there can be -/
theorem nd_len : ∀ {l M : List (List Nat)}, l.Nodup → (∀ x ∈ l, x ∈ M) → l.length ≤ M.length
  | [], _, _, _ => Nat.zero_le _
  | x :: r, M, nd, h => by
    obtain ⟨h1, h2⟩ := List.nodup_cons.mp nd
    have hx := h x List.mem_cons_self
    have := nd_len (M := M.erase x) h2 fun y hy => (List.mem_erase_of_ne (fun z => h1 (by rw [← z]; exact hy))).mpr (h y (List.mem_cons_of_mem _ hy))
    have e := List.length_erase_of_mem hx
    have p := List.length_pos_of_mem hx
    rw [List.length_cons]
    omega
def allW (LL : List Nat) : Nat → List (List Nat)
  | 0 => [[]]
  | n + 1 => [] :: LL.flatMap fun c => (allW LL n).map fun u => c :: u
theorem mem_allW {LL : List Nat} : ∀ {n : Nat} {u : List Nat}, u.length ≤ n → (∀ c ∈ u, c ∈ LL) → u ∈ allW LL n
  | 0, u, h, _ => by
    obtain rfl : u = [] := List.eq_nil_of_length_eq_zero (by omega)
    exact List.mem_cons_self
  | n + 1, [], _, _ => List.mem_cons_self
  | n + 1, c :: u, h, k => List.mem_cons_of_mem _ (List.mem_flatMap.mpr ⟨c, k c List.mem_cons_self, List.mem_map.mpr ⟨u, mem_allW (by rw [List.length_cons] at h; omega) (fun d hd => k d (List.mem_cons_of_mem _ hd)), rfl⟩⟩)
theorem allW_len {LL : List Nat} (h : LL.length ≤ 2) : ∀ n, (allW LL n).length ≤ 2 ^ (n + 1) - 1
  | 0 => Nat.le_refl _
  | n + 1 => by
    have ih := allW_len h n
    have e : ∀ l : List Nat, (l.flatMap fun c => (allW LL n).map fun u => c :: u).length = l.length * (allW LL n).length := by
      intro l
      induction l with
      | nil => simp
      | cons c r ih2 =>
        rw [List.flatMap_cons, List.length_append, ih2, List.length_map, List.length_cons, Nat.succ_mul, Nat.add_comm]
    show (_ :: _ : List (List Nat)).length ≤ _
    rw [List.length_cons, e]
    have p : 2 ^ (n + 1 + 1) = 2 * 2 ^ (n + 1) := by rw [Nat.pow_succ, Nat.mul_comm]
    have q : LL.length * (allW LL n).length ≤ 2 * (2 ^ (n + 1) - 1) := Nat.mul_le_mul h ih
    have r : 0 < 2 ^ (n + 1) := Nat.pow_pos (by decide)
    omega
theorem w63 {LL : List Nat} (h : LL.length ≤ 2) {l : List (List Nat)} (nd : l.Nodup) (k : ∀ u ∈ l, u.length ≤ 5 ∧ ∀ c ∈ u, c ∈ LL) : l.length ≤ 63 := by
  have h1 := nd_len (M := allW LL 5) nd fun u hu => mem_allW (k u hu).1 (k u hu).2
  have h2 := allW_len h 5
  exact Nat.le_trans h1 (Nat.le_trans h2 (by decide))
/-! ### words in a text -/
theorem en_word {t : Tr} {LL T : List Nat} {m at_ e : Nat} (hT : T.length ≤ m) (hc : ∀ c ∈ T, c ∈ LL) : (∃ w, Wd (Lt t) LL m w ∧ w ≠ [] ∧ (T.drop at_).take w.length = w ∧ e = at_ + w.length) ↔ at_ < e ∧ En t T at_ e := by
  constructor
  · rintro ⟨w, h1, h2, h3, rfl⟩
    have hl := congrArg List.length h3
    rw [List.length_take, List.length_drop] at hl
    have hp : 0 < w.length := List.length_pos_iff.mpr h2
    refine ⟨by omega, by omega, by omega, ?_⟩
    rw [List.drop_take, show at_ + w.length - at_ = w.length by omega, h3]
    exact h1.1
  · rintro ⟨h1, h2, h3, h4⟩
    have hl : ((T.take e).drop at_).length = e - at_ := by
      rw [List.length_drop, List.length_take]
      omega
    refine ⟨(T.take e).drop at_, ⟨h4, by omega, fun c hc' => hc c (List.mem_of_mem_take (List.mem_of_mem_drop hc'))⟩, fun z => ?_, ?_, by omega⟩
    · rw [z] at hl
      have : 0 = e - at_ := hl
      omega
    · rw [hl, List.drop_take]
end Gl
/-! what is shared. -/
namespace Sq
open PySem PySem.Spec PyProof.Rows L2 Sf Sf4 Gl
/-- the i-th of vs is the i-th of qs -/
def AllO {α : Type} (R : V → α → Prop) (vs : List V) (qs : List α) : Prop := vs.length = qs.length ∧ ∀ (i : Nat) (v : V) (q : α), vs[i]? = some v → qs[i]? = some q → R v q
theorem AllO.nil {α : Type} {R : V → α → Prop} : AllO R [] ([] : List α) := ⟨rfl, fun i v q h => by cases h⟩
theorem AllO.mono {α : Type} {R S : V → α → Prop} {vs : List V} {qs : List α} (h : AllO R vs qs) (k : ∀ v q, R v q → S v q) : AllO S vs qs := ⟨h.1, fun i v q h1 h2 => k v q (h.2 i v q h1 h2)⟩
theorem AllO.snoc {α : Type} {R : V → α → Prop} {vs : List V} {qs : List α} {v : V} {q : α} (h : AllO R vs qs) (r : R v q) : AllO R (vs ++ [v]) (qs ++ [q]) := by
  refine ⟨by rw [List.length_append, List.length_append, h.1] <;> rfl, fun i u k h1 h2 => ?_⟩
  by_cases hi : i < vs.length
  · rw [List.getElem?_append_left hi] at h1
    rw [List.getElem?_append_left (by rw [← h.1]; exact hi)] at h2
    exact h.2 i u k h1 h2
  · rw [List.getElem?_append_right (by omega)] at h1
    rw [List.getElem?_append_right (by rw [← h.1]; omega)] at h2
    have hj0 : i - vs.length = 0 := by
      have := (List.getElem?_eq_some_iff.mp h1).1
      have : i - vs.length < 1 := this
      omega
    rw [← h.1, hj0] at h2
    rw [hj0] at h1
    cases h1
    cases h2
    exact r
theorem inD_dp {K : PySem.W.Frag} {H : Hp} : ∀ ls : List Int, DpAll K H (ls.map V.int) (ls.map PyData.int)
  | [] => .nil
  | n :: r => .cons (.int n) (inD_dp r)
theorem take_atG {α : Type} {l : List α} {i : Nat} {j : α} (h : l[i]? = some j) : l.take (i + 1) = l.take i ++ [j] := by
  obtain ⟨h1, h2⟩ := List.getElem?_eq_some_iff.mp h
  rw [List.take_succ_eq_append_getElem h1, h2]
section
variable {P : Program} {w : World} {K : PySem.W.Frag} {mg : Str → Option Value} {base : Heap}
theorem ok_noQ {k : Nat} {g : Addr} {gd : FuncData} {ps : List Str} : FnOk P w K mg base CX0 k g gd ps (fun _ _ _ _ => False) := ⟨fun _ _ _ _ h => h.elim, fun _ _ _ _ _ _ _ _ _ _ _ _ _ h => h.elim⟩
end
/-- what this law's own defs find -/
structure L9T (K : PySem.W.Frag) (mg : Str → Option Value) (f : Nat → Addr) (fd : Nat → FuncData) : Prop where
  zsorted : mg "sorted" = none
  zset : mg "set" = none
  zlist : mg "list" = none
  zlen : mg "len" = none
  zmax : mg "max" = none
  zenum : mg "enumerate" = none
  zrange : mg "range" = none
  zrepr : mg "repr" = none
  zany : mg "any" = none
  zall : mg "all" = none
  zzip : mg "zip" = none
  ztup : mg "tuple" = none
theorem asc_nd (N : Nat) (l : List Nat) : (ascL N l).Nodup := List.Pairwise.filter _ List.nodup_range
theorem nIs_app (a b : List Nat) : nIs a ++ nIs b = nIs (a ++ b) := by
  unfold nIs
  rw [List.map_append]
theorem li_dp {K : PySem.W.Frag} {H : Hp} (es : List Nat) : DpAll K H (nIs es) ((zI es).map PyData.int) := by
  rw [nIs_z]
  exact inD_dp _
theorem ltC_snoc {t : Tr} : ∀ {l : List Tr} {u : List Nat}, LtC (l ++ [t]) u ↔ ∃ u1 u2, u = u1 ++ u2 ∧ LtC l u1 ∧ Lt t u2
  | [], u => by
    constructor
    · rintro ⟨u1, u2, rfl, p, q⟩
      obtain rfl : u2 = [] := q
      exact ⟨[], u1, List.append_nil _, rfl, p⟩
    · rintro ⟨u1, u2, rfl, p, q⟩
      obtain rfl : u1 = [] := p
      exact ⟨u2, [], (List.append_nil _).symm, q, rfl⟩
  | x :: r, u => by
    constructor
    · rintro ⟨u1, u2, rfl, p, q⟩
      obtain ⟨v1, v2, rfl, q1, q2⟩ := ltC_snoc.mp q
      exact ⟨u1 ++ v1, v2, (List.append_assoc _ _ _).symm, ⟨u1, v1, rfl, p, q1⟩, q2⟩
    · rintro ⟨u1, u2, rfl, ⟨v1, v2, rfl, p, q1⟩, q2⟩
      exact ⟨v1, v2 ++ u2, List.append_assoc _ _ _, p, ltC_snoc.mpr ⟨v2, u2, rfl, q1, q2⟩⟩
theorem ltA_mem : ∀ {l : List Tr} {u : List Nat}, LtA l u ↔ ∃ t ∈ l, Lt t u
  | [], u => by
    show False ↔ _
    simp
  | x :: r, u => by
    show Lt x u ∨ LtA r u ↔ _
    rw [ltA_mem]
    simp
theorem wfL_get : ∀ {l : List Tr} {i : Nat} {t : Tr}, wfL l → l[i]? = some t → wf t
  | _ :: _, 0, _, h, e => by
    cases e
    exact h.1
  | _ :: _, i + 1, _, h, e => wfL_get h.2 e
end Sq
/-! pairs and triples as data. -/
namespace Sq
open PySem PySem.Spec PyProof.Rows L2 Sf Sf4 Gl Gz
/-- a triple start, end, word -/
def TrpO (T : List Nat) (H : Hp) (v : V) (se : Nat × Nat) : Prop := ∃ c, v = .ref c ∧ H c = some (.tup [.int (se.1 : Nat), .int (se.2 : Nat), .str (tx (pc T se.1 se.2))])
def trD (T : List Nat) (se : Nat × Nat) : PyData := .tuple [.int (se.1 : Nat), .int (se.2 : Nat), .str (tx (pc T se.1 se.2))]
theorem trp_dp {K : PySem.W.Frag} {T : List Nat} {H : Hp} : ∀ {xs : List V} {ps : List (Nat × Nat)}, AllO (TrpO T H) xs ps → DpAll K H xs (ps.map (trD T))
  | [], [], _ => .nil
  | [], _ :: _, h => by
    have := h.1
    cases this
  | _ :: _, [], h => by
    have := h.1
    cases this
  | x :: xs, p :: ps, h => by
    obtain ⟨c, rfl, e⟩ := h.2 0 x p rfl rfl
    exact .cons (.tup (.inl (.inl e)) (.cons (.int _) (.cons (.int _) (.cons (.str _) .nil)))) (trp_dp ⟨Nat.succ.inj h.1, fun i v q h1 h2 => h.2 (i + 1) v q h1 h2⟩)
theorem trp_sm {T : List Nat} {ps : List (Nat × Nat)} (hT : T.length ≤ 60) (hc : ∀ c ∈ T, c < 128) (hp : ∀ p ∈ ps, p.1 < p.2 ∧ p.2 ≤ T.length) (hl : ps.length ≤ 60) : Sm 20000 2 (.list (ps.map (trD T))) := by
  refine Sm.mono (Sm.lst (n := 200) (m := 1) (k := 60) (fun d hd => ?_) (by rw [List.length_map]; exact hl)) (by decide) (Nat.le_refl _)
  obtain ⟨se, hse, rfl⟩ := List.mem_map.mp hd
  obtain ⟨h1, h2⟩ := hp _ hse
  refine Sm.mono (Sm.tup (n := 60) (m := 0) (k := 3) (fun d hd => ?_) (Nat.le_refl _)) (by decide) (Nat.le_refl _)
  simp only [List.mem_cons, List.not_mem_nil, or_false] at hd
  rcases hd with rfl | rfl | rfl
  · exact Sm.mono (sm_int (by omega)) (by decide) (Nat.le_refl _)
  · exact Sm.mono (sm_int (by omega)) (by decide) (Nat.le_refl _)
  · refine sm_str (fun c hc' => hc c (List.mem_of_mem_take (List.mem_of_mem_drop hc'))) ?_
    rw [tx_len]
    unfold pc
    rw [List.length_drop, List.length_take]
    omega
theorem strOk_pc {T : List Nat} (hc : ∀ c ∈ T, c < 128) (s e : Nat) : PyData.strOk (tx (pc T s e)) = true := by
  have h : asc (pc T s e) = true := Sf4.asc_mem fun c hc' => by
    have := hc c (List.mem_of_mem_take (List.mem_of_mem_drop hc'))
    omega
  exact strOk8 h
theorem trp_shaped {T : List Nat} (hc : ∀ c ∈ T, c < 128) (ps : List (Nat × Nat)) : SeqAt.shaped (.list (ps.map (trD T))) = true := by
  have go : ∀ ps : List (Nat × Nat), PyData.canLayAll0 (ps.map (trD T)) = true ∧ PyData.depthAll (ps.map (trD T)) ≤ 1 := by
    intro ps
    induction ps with
    | nil => exact ⟨rfl, Nat.zero_le _⟩
    | cons p r ih =>
      refine ⟨?_, ?_⟩
      · show (PyData.canLay0 (trD T p) && PyData.canLayAll0 (r.map (trD T))) = true
        rw [ih.1]
        simp [trD, PyData.canLay0, PyData.canLayAll0, strOk_pc hc]
      · show max (PyData.depth (trD T p)) (PyData.depthAll (r.map (trD T))) ≤ 1
        have h1 : PyData.depth (trD T p) = 1 := rfl
        have h2 := ih.2
        omega
  obtain ⟨a, b⟩ := go ps
  have h1 : PyData.canLay0 (.list (ps.map (trD T))) = true := by simpa only [PyData.canLay0] using a
  have h2 : PyData.depth (.list (ps.map (trD T))) ≤ 64 := by
    simp only [PyData.depth]
    omega
  unfold SeqAt.shaped
  rw [h1, decide_eq_true h2] <;> rfl
theorem trp_eqv (T : List Nat) (ps : List (Nat × Nat)) : PyData.eqv (.list (ps.map (trD T))) (.list []) = ps.isEmpty := by
  cases ps <;> rfl
def PrO (H : Hp) (v : V) (p : Nat × Nat) : Prop := ∃ c, v = .ref c ∧ H c = some (.tup [.int (p.1 : Int), .int (p.2 : Int)])
def prD (p : Nat × Nat) : PyData := .tuple [.int (p.1 : Int), .int (p.2 : Int)]
theorem pr_dp {K : PySem.W.Frag} {H : Hp} : ∀ {xs : List V} {ps : List (Nat × Nat)}, AllO (PrO H) xs ps → DpAll K H xs (ps.map prD)
  | [], [], _ => .nil
  | [], _ :: _, h => by
    have := h.1
    cases this
  | _ :: _, [], h => by
    have := h.1
    cases this
  | x :: xs, p :: ps, h => by
    obtain ⟨c, rfl, e⟩ := h.2 0 x p rfl rfl
    exact .cons (.tup (.inl (.inl e)) (.cons (.int _) (.cons (.int _) .nil))) (pr_dp ⟨Nat.succ.inj h.1, fun i v q h1 h2 => h.2 (i + 1) v q h1 h2⟩)
theorem pr_lay : ∀ ps : List (Nat × Nat), PyData.canLayAll0 (ps.map prD) = true ∧ PyData.depthAll (ps.map prD) ≤ 1
  | [] => ⟨rfl, Nat.zero_le _⟩
  | p :: r => by
    obtain ⟨a, b⟩ := pr_lay r
    refine ⟨?_, ?_⟩
    · show (PyData.canLay0 (prD p) && PyData.canLayAll0 (r.map prD)) = true
      rw [a] <;> rfl
    · show max (PyData.depth (prD p)) (PyData.depthAll (r.map prD)) ≤ 1
      have : PyData.depth (prD p) = 1 := rfl
      omega
theorem pr_shaped (ps : List (Nat × Nat)) : SeqAt.shaped (.list (ps.map prD)) = true := by
  obtain ⟨a, b⟩ := pr_lay ps
  have h1 : PyData.canLay0 (.list (ps.map prD)) = true := by simpa only [PyData.canLay0] using a
  have h2 : PyData.depth (.list (ps.map prD)) ≤ 64 := by
    simp only [PyData.depth]
    omega
  unfold SeqAt.shaped
  rw [h1, decide_eq_true h2] <;> rfl
theorem pr_eqv (ps : List (Nat × Nat)) : PyData.eqv (.list (ps.map prD)) (.list []) = ps.isEmpty := by
  cases ps <;> rfl
theorem filt_nat {g : V → Bool} {g' : Nat → Bool} (h : ∀ n : Nat, g (.int (n : Nat)) = g' n) (es : List Nat) : (nIs es).filter g = nIs (es.filter g') := by
  induction es with
  | nil => rfl
  | cons e r ih =>
    show (V.int (e : Nat) :: nIs r).filter g = nIs ((e :: r).filter g')
    rw [List.filter_cons, List.filter_cons, h, ih]
    cases g' e <;> rfl
theorem AllO.tail {α : Type} {R : V → α → Prop} {v : V} {q : α} {vs : List V} {qs : List α} (h : AllO R (v :: vs) (q :: qs)) : R v q ∧ AllO R vs qs := ⟨h.2 0 v q rfl rfl, Nat.succ.inj h.1, fun i u k h1 h2 => h.2 (i + 1) u k h1 h2⟩
theorem AllO.cons {α : Type} {R : V → α → Prop} {v : V} {q : α} {vs : List V} {qs : List α} (h : R v q) (t : AllO R vs qs) : AllO R (v :: vs) (q :: qs) := by
  refine ⟨by rw [List.length_cons, List.length_cons, t.1], fun i u k h1 h2 => ?_⟩
  cases i with
  | zero =>
    cases h1
    cases h2
    exact h
  | succ i => exact t.2 i u k h1 h2
end Sq
/-! Lists of words; _law_mixed. -/
namespace Sq
open PySem PySem.Spec PyProof.Rows L2 Sf Sf4 Gl
def wV (u : List Nat) : V := .str (tx u)
def wVs (us : List (List Nat)) : List V := us.map wV
theorem wVs_len (us : List (List Nat)) : (wVs us).length = us.length := List.length_map _
theorem wVs_app (a b : List (List Nat)) : wVs a ++ wVs b = wVs (a ++ b) := by
  unfold wVs
  rw [List.map_append]
theorem wVs_at {us : List (List Nat)} {i : Nat} {x : V} (h : (wVs us)[i]? = some x) : ∃ u, us[i]? = some u ∧ x = wV u := by
  unfold wVs at h
  rw [List.getElem?_map] at h
  cases e : us[i]? with
  | none => rw [e] at h; cases h
  | some u => rw [e] at h; cases h; exact ⟨u, rfl, rfl⟩
theorem inW (u : List Nat) : ∀ us : List (List Nat), inV (wV u) (wVs us) = decide (u ∈ us)
  | [] => by simp [inV, wVs]
  | w :: r => by
    have ih := inW u r
    unfold inV wVs at ih ⊢
    rw [List.map_cons, List.any_cons, ih]
    by_cases h : w = u
    · subst h
      rw [show eqV (wV w) (wV w) = true from beq_iff_eq.mpr rfl]
      simp
    · rw [show eqV (wV w) (wV u) = false from Bool.eq_false_iff.mpr fun z => h (by
        have e : (tx w == tx u) = true := z
        exact tx_inj (beq_iff_eq.mp e))]
      have : (u = w) = False := eq_false fun z => h z.symm
      simp [this]
theorem flatW (us : List (List Nat)) : (wVs us).all flatV = true := List.all_eq_true.mpr fun x hx => by
  obtain ⟨u, _, rfl⟩ := List.mem_map.mp hx
  rfl
def wD (us : List (List Nat)) : List PyData := us.map fun u => PyData.str (tx u)
theorem w_dp {K : PySem.W.Frag} {H : Hp} : ∀ us : List (List Nat), DpAll K H (wVs us) (wD us)
  | [] => .nil
  | u :: r => .cons (.str _) (w_dp r)
theorem w_lay : ∀ {us : List (List Nat)}, (∀ u ∈ us, ∀ c ∈ u, c < 128) → PyData.canLayAll0 (wD us) = true ∧ PyData.depthAll (wD us) = 0
  | [], _ => ⟨rfl, rfl⟩
  | n :: r, h => by
    obtain ⟨a, b⟩ := w_lay (us := r) fun m hm => h m (List.mem_cons_of_mem _ hm)
    have hs := h n List.mem_cons_self
    have e : PyData.canLay0 (.str (tx n)) = true := by
      show (n.toArray).all (· < 0x110000) = true
      rw [List.all_toArray, List.all_eq_true]
      intro c hc
      have := hs c hc
      exact decide_eq_true (by omega)
    refine ⟨?_, ?_⟩
    · show (PyData.canLay0 (.str (tx n)) && PyData.canLayAll0 (wD r)) = true
      rw [a, e] <;> rfl
    · show max 0 (PyData.depthAll (wD r)) = 0
      rw [b] <;> rfl
theorem w_shaped {us : List (List Nat)} (h : ∀ u ∈ us, ∀ c ∈ u, c < 128) : SeqAt.shaped (.list (wD us)) = true := by
  obtain ⟨a, b⟩ := w_lay h
  have h1 : PyData.canLay0 (.list (wD us)) = true := by simpa only [PyData.canLay0] using a
  have h2 : PyData.depth (.list (wD us)) ≤ 64 := by
    simp only [PyData.depth]
    omega
  unfold SeqAt.shaped
  rw [h1, decide_eq_true h2] <;> rfl
theorem w_eqv (us : List (List Nat)) : PyData.eqv (.list (wD us)) (.list []) = us.isEmpty := by
  cases us <;> rfl
abbrev tLenV (i : Nat) : TE := tCB (fun vs H Q => ∃ x, vs = [V.str x] ∧ x.length ≤ sizeLine ∧ Q (.int x.length) H) (tCons (tVar i) tNil)
abbrev sMix : Stmt := topS 57
theorem kp_wr {p S : Addr} {H H' : Hp} {o : HO} (k : Kp p H H') (h0 : H S = none) : Kp p H (upd H' S o) := fun b u n e => by
  rw [upd_ne (ne_of_none e h0)]
  exact k b u n e
def NMix : List Str := ["_law_pot_here", "_law_items", "_law_left", "_law_found"]
theorem scMix : FnScope NMix ["_law_pot_here", "_law_items"] (defScope sMix) := ⟨rfl, rfl, rfl, by decide +kernel, rfl, by decide +kernel, by decide +kernel⟩
/-- what is in xs can be told from nothing as data, whatever becomes of the pot -/
def Tell (K : PySem.W.Frag) (p : Addr) (H : Hp) (xs : List V) : Prop := ∀ H', Kp p H H' → ∀ ys : List V, (∀ y ∈ ys, y ∈ xs) → ∃ ds, DpAll K H' ys ds ∧ SeqAt.shaped (.list ds) = true ∧ PyData.eqv (.list ds) (.list []) = ys.isEmpty
def spMix (K : PySem.W.Frag) : Sp := fun vs H Q _ => ∃ (p a : Addr) (n : Int) (xs : List V), vs = [.ref p, .ref a] ∧ Pot H p n ∧ n + xs.length < 1000000 ∧ H a = some (.lst xs) ∧ a ≠ p ∧ xs.length ≤ 1000 ∧ Tell K p H xs ∧
  ∀ b H' ys, Kp p H H' → Pot H' p (n + xs.length) → H' b = some (.lst ys) → H b = none → ys.Perm xs → Q (.ref b) H'
theorem perm_pop {α : Type} {fs ls xs : List α} {k : Nat} {y : α} (h : (fs ++ ls).Perm xs) (hk : ls[k]? = some y) : (fs ++ [y] ++ ls.eraseIdx k).Perm xs := by
  refine List.Perm.trans ?_ h
  rw [List.append_assoc]
  refine List.Perm.append_left fs ?_
  obtain ⟨h1, h2⟩ := List.getElem?_eq_some_iff.mp hk
  have e : ls = ls.take k ++ y :: ls.drop (k + 1) := by
    rw [← h2, ← List.drop_eq_getElem_cons h1, List.take_append_drop]
  rw [List.eraseIdx_eq_take_drop_succ]
  refine List.Perm.trans ?_ (List.Perm.of_eq e.symm)
  exact (List.perm_middle (l₁ := ls.take k) (l₂ := ls.drop (k + 1)) (a := y)).symm
section
variable {P : Program} {w : World} {K : PySem.W.Frag} {mg : Str → Option Value} {base : Heap} {f f9 : Nat → Addr} {fd fd9 : Nat → FuncData} {mf : Addr} {mfd : FuncData}
theorem ok_mix (L0 : LawT K mg f fd) (T9 : L9T K mg f9 fd9) (F : Fun K "_law_mixed" "_law_mixed" sMix mf mfd) : FnOk P w K mg base CX0 2 mf mfd ["_law_pot_here", "_law_items"] (spMix K) := by
  have GD := law_draw (P := P) (w := w) (base := base) L0
  refine F.ok (k := 1) scMix (fun vs H Q E h => ?_) (fun cdv A outer s H vs Q E hr h => ?_)
  · obtain ⟨p, a, n, xs, rfl, _⟩ := h
    rfl
  · obtain ⟨p, a, n, xs, rfl, hp, hn, ea, nap, lx, hT, fin⟩ := h
    have hu := hr.units
    refine ⟨_, pss_cons (ps_par (i := 2) (j := 3) (by rfl) scMix.nd rfl rfl (by decide) rfl rfl (pa_cons (pe_callTy call_list_of (by rfl) T9.zlist PySem.Pv.boot_list (pa_cons (pv 1) pa_nil)) (pa_cons (pe_lst pa_nil) pa_nil)) (by rfl))
      (Evl.pss_cut (ps_while PassesOwn.never (pt_cmpR (op_neD hu) (pv 2) (pe_lst pa_nil) (nomark _))
          (pss_one (ps_expr (pe_bm PySem.F.plainAttrs_list PySem.F.slot_list_append PySem.F.type_list_append mt_append (pv 3) (pa_cons (pe_bm PySem.F.plainAttrs_list PySem.F.slot_list_pop PySem.F.type_list_pop mt_popAt (pv 2) (pa_cons
              (pe_call GD (hr.mono (by decide)) (by rfl) L0.draw.g L0.draw.F.kp L0.draw.b .nil pass0 (pa_cons (pv 0) (pa_cons (pe_callB call_len_seq (by rfl) T9.zlen PySem.boot_len (pa_cons (pv 2) pa_nil)) pa_nil))) pa_nil)) pa_nil)))))
      (pss_one (ps_ret (pv 3)))), ?_⟩
    refine ⟨_, rfl, a, xs, rfl, .inl (.inl (.inl ea)), fun L nL => ⟨Nat.zero_le _, fun F0 nF => ⟨_, _, rfl, ?_⟩⟩⟩
    have s0 := smU (o := HO.lst xs) nL
    have s1 := smU (o := HO.lst []) nF
    have nLF : L ≠ F0 := fun z => by rw [← z, upd_same] at nF; cases nF
    have nLp : L ≠ p := hp.ne nL
    have nFp : F0 ≠ p := (hp.same s0).ne nF
    have nFH : H F0 = none := s0.free nF
    refine ⟨fun σ H3 => ∃ fs ls, σ = [some (.ref p), some (.ref a), some (.ref L), some (.ref F0)] ∧ H3 F0 = some (.lst fs) ∧ ls = [] ∧ (fs ++ ls).Perm xs ∧ Pot H3 p (n + xs.length) ∧ Kp p H H3, ?_, fun σ H3 hM => ?_⟩
    · refine ⟨fun m σ H3 => ∃ fs ls, σ = [some (.ref p), some (.ref a), some (.ref L), some (.ref F0)] ∧ ls.length = m ∧ H3 L = some (.lst ls) ∧ H3 F0 = some (.lst fs) ∧ (fs ++ ls).Perm xs ∧ Pot H3 p (n + fs.length) ∧ Kp p H H3,
        ⟨xs.length, [], xs, rfl, rfl, s1 _ _ upd_same, upd_same, List.Perm.refl _, (((hp.same s0).same s1).mono (by simp)), Kp.same (s0.trans s1)⟩, fun m σ H3 hW => ?_⟩
      obtain ⟨fs, ls, rfl, hm, eL, eF, hpm, hp3, k3⟩ := hW
      have hlen := hpm.length_eq
      rw [List.length_append] at hlen
      refine ⟨_, rfl, Nat.zero_le _, fun Z0 nz => ?_⟩
      have sz := smU (o := HO.lst []) nz
      obtain ⟨ds, d1, d2, d3⟩ := hT _ (k3.trans (Kp.same sz)) ls fun y hy => hpm.subset (List.mem_append_right _ hy)
      refine ⟨.list ds, .list [], .lst (.inl (.inl (sz _ _ eL))) d1, .lst (.inl (.inl upd_same)) .nil, d2, rfl, _, rfl, ?_⟩
      rw [d3]
      cases hls : ls with
      | nil =>
        rw [show (!([] : List V).isEmpty) = false from rfl]
        refine iteF ⟨fs, [], rfl, sz _ _ eF, rfl, by rw [hls] at hpm; exact hpm, (hp3.same sz).mono (by omega), k3.trans (Kp.same sz)⟩
      | cons y0 yr =>
        rw [← hls, show (!ls.isEmpty) = true by rw [hls] <;> rfl]
        have hpos : 0 < ls.length := by
          rw [hls]
          exact Nat.succ_pos _
        have eLz := sz _ _ eL
        have eFz := sz _ _ eF
        have hpz := hp3.same sz
        refine iteT ⟨fun σ' H' => ∃ m', m' < m ∧ ∃ fs ls, σ' = [some (.ref p), some (.ref a), some (.ref L), some (.ref F0)] ∧ ls.length = m' ∧ H' L = some (.lst ls) ∧ H' F0 = some (.lst fs) ∧ (fs ++ ls).Perm xs ∧ Pot H' p (n + fs.length) ∧ Kp p H H', fun _ _ h => h, ?_⟩
        refine ⟨_, rfl, Or.inl ⟨rfl, _, .inl (.inl eFz)⟩, _, rfl, Or.inl ⟨rfl, _, .inl (.inl eLz)⟩, _, rfl, _, rfl, L, ls, rfl, .inl (.inl (.inl eLz)), p, _, (ls.length : Int), rfl, hpz, by omega, by omega, by omega, fun r H4 r0 r1 hp4 k4 => ?_⟩
        have eL4 := k4 L _ nLp eLz
        have eF4 := k4 F0 _ nFp eFz
        obtain ⟨j, rfl⟩ := Int.eq_ofNat_of_zero_le r0
        have hj : j < ls.length := by omega
        obtain ⟨y, hy⟩ : ∃ y, ls[j]? = some y := ⟨_, List.getElem?_eq_getElem hj⟩
        refine ⟨L, ls, (j : Int), j, y, rfl, rfl, eL4, by omega, by omega, seqIndex_of (Int.natCast_nonneg j) r1, hy, ?_⟩
        refine ⟨F0, fs, y, rfl, rfl, (upd_ne nLF.symm).trans eF4, Nat.lt_of_le_of_lt (show fs.length ≤ 1000 by omega) (by decide), ?_⟩
        refine ⟨m - 1, by omega, fs ++ [y], ls.eraseIdx j, rfl, by rw [List.length_eraseIdx_of_lt hj]; omega, (upd_ne nLF).trans upd_same, upd_same, perm_pop hpm hy, ((hp4.wr nLp).wr nFp).mono (by rw [List.length_append, List.length_singleton]; omega), ?_⟩
        exact kp_wr (kp_wr ((k3.trans (Kp.same sz)).trans k4) nL) nFH
    · obtain ⟨fs, ls, rfl, eF, rfl, hpm, hp3, k3⟩ := hM
      rw [List.append_nil] at hpm
      exact ⟨_, rfl, fin F0 H3 fs k3 hp3 eF nFH hpm⟩
end
end Sq
/-! Choices of words; _law_words, _law_long_text. -/
namespace Sq
open PySem PySem.Spec PyProof.Rows L2 Sf Sf4 Gl Gz
/-! ### plain -/
def plc (cs : List Nat) : List Tr := cs.map fun c => Tr.place [c]
def tOne : List Nat → Tr
  | [c] => .place [c]
  | w => .chain (plc w)
def tWs : List (List Nat) → Tr
  | [w] => tOne w
  | l => .choice (l.map tOne)
def jm : List (List Nat) → List Nat
  | [] => []
  | w :: r => 124 :: (w ++ jm r)
def jn : List (List Nat) → List Nat
  | [] => []
  | w :: r => w ++ jm r
def okW (w : List Nat) : Prop := 1 ≤ w.length ∧ w.length ≤ 4 ∧ ∀ c ∈ w, c ∈ LETc
def okWs (ws : List (List Nat)) : Prop := 1 ≤ ws.length ∧ ws.length ≤ 5 ∧ ∀ w ∈ ws, okW w
theorem one_ne : ∀ c : Nat, [c] ≠ LETc := fun c z => by
  have := congrArg List.length z
  have h : LETc.length = 38 := by decide
  rw [h] at this
  cases this
theorem plc_all : ∀ cs : List Nat, (∀ c ∈ cs, c ∈ LETc) → depL (plc cs) = 0 ∧ widL (plc cs) = 0 ∧ lksL (plc cs) = 0 ∧ szL (plc cs) = cs.length ∧ nmsL (plc cs) = [] ∧ opnCh (plc cs) = 0 ∧ wfL (plc cs) ∧ prnCh (plc cs) = cs
  | [], _ => ⟨rfl, rfl, rfl, rfl, rfl, rfl, True.intro, rfl⟩
  | c :: r, h => by
    obtain ⟨h1, h2, h3, h4, h5, h6, h7, h8⟩ := plc_all r fun d hd => h d (List.mem_cons_of_mem _ hd)
    refine ⟨?_, ?_, ?_, ?_, ?_, ?_, ⟨⟨List.cons_ne_nil _ _, one_let c (h c List.mem_cons_self)⟩, h7⟩, ?_⟩
    · show max 0 (depL (plc r)) = 0
      rw [h1] <;> rfl
    · show max 0 (widL (plc r)) = 0
      rw [h2] <;> rfl
    · show 0 + lksL (plc r) = 0
      rw [h3]
    · show 1 + szL (plc r) = r.length + 1
      rw [h4, Nat.add_comm]
    · show [] ++ nmsL (plc r) = []
      rw [h5] <;> rfl
    · show max 0 (opnCh (plc r)) = 0
      rw [h6] <;> rfl
    · show (if [c] = LETc then [46] else if [c].length = 1 then [c] else 91 :: ([c] ++ [93])) ++ prnCh (plc r) = c :: r
      rw [h8, if_neg (one_ne c), if_pos (show [c].length = 1 from rfl)] <;> rfl
theorem plc_lt : ∀ (cs u : List Nat), LtC (plc cs) u ↔ u = cs
  | [], u => Iff.rfl
  | c :: r, u => by
    show (∃ u1 u2, u = u1 ++ u2 ∧ (∃ d, d ∈ [c] ∧ u1 = [d]) ∧ LtC (plc r) u2) ↔ _
    constructor
    · rintro ⟨u1, u2, rfl, ⟨d, hd, rfl⟩, h⟩
      rw [(plc_lt r u2).mp h, List.mem_singleton.mp hd] <;> rfl
    · rintro rfl
      exact ⟨[c], r, rfl, ⟨c, List.mem_cons_self, rfl⟩, (plc_lt r r).mpr rfl⟩
structure Wel (W0 : List Nat) (t : Tr) : Prop where
  d : dep t ≤ 1
  wd : wid t ≤ 4
  l : lks t ≤ 4
  s : sz t ≤ 4
  n : nms t = []
  o : opn t = 0
  f : wf t
  p : prn t = W0
  a : isAl t = false
  t : ∀ u, Lt t u ↔ u = W0
theorem wel_one : ∀ {w : List Nat}, okW w → Wel w (tOne w)
  | [], h => by
    have := h.1
    cases this
  | [c], h => by
    refine ⟨Nat.zero_le _, Nat.zero_le _, Nat.zero_le _, (show 1 ≤ 4 by decide), rfl, rfl, ⟨List.cons_ne_nil _ _, one_let c (h.2.2 c List.mem_cons_self)⟩, ?_, rfl, fun u => ?_⟩
    · show (if [c] = LETc then [46] else if [c].length = 1 then [c] else 91 :: ([c] ++ [93])) = [c]
      rw [if_neg (one_ne c), if_pos (show [c].length = 1 from rfl)]
    · show (∃ d, d ∈ [c] ∧ u = [d]) ↔ _
      constructor
      · rintro ⟨d, hd, rfl⟩
        rw [List.mem_singleton.mp hd]
      · rintro rfl
        exact ⟨c, List.mem_cons_self, rfl⟩
  | c :: d :: r, h => by
    obtain ⟨h1, h2, h3, h4, h5, h6, h7, h8⟩ := plc_all (c :: d :: r) h.2.2
    have hl : (plc (c :: d :: r)).length = (c :: d :: r).length := List.length_map _
    have h42 := h.2.1
    refine ⟨?_, ?_, ?_, ?_, h5, h6, ⟨by rw [hl]; exact Nat.succ_le_succ (Nat.succ_le_succ (Nat.zero_le _)), h7⟩, h8, rfl, plc_lt _⟩
    · show depL (plc (c :: d :: r)) + 1 ≤ 1
      rw [h1]
      exact Nat.le_refl _
    · show max (plc (c :: d :: r)).length (widL (plc (c :: d :: r))) ≤ 4
      omega
    · show lksL (plc (c :: d :: r)) + (plc (c :: d :: r)).length ≤ 4
      omega
    · show szL (plc (c :: d :: r)) ≤ 4
      omega
theorem ones_all : ∀ {ws : List (List Nat)}, (∀ w ∈ ws, okW w) → depL (ws.map tOne) ≤ 1 ∧ widL (ws.map tOne) ≤ 4 ∧ lksL (ws.map tOne) ≤ 4 * ws.length ∧ szL (ws.map tOne) ≤ 4 * ws.length ∧ nmsL (ws.map tOne) = [] ∧ opnAl (ws.map tOne) = 0 ∧ wfL (ws.map tOne) ∧ prnMo (ws.map tOne) = jm ws ∧ (∀ u, LtA (ws.map tOne) u ↔ u ∈ ws)
  | [], _ => ⟨Nat.zero_le _, Nat.zero_le _, Nat.zero_le _, Nat.zero_le _, rfl, rfl, True.intro, rfl, fun u => ⟨fun h => h.elim, fun h => nomatch h⟩⟩
  | w :: r, h => by
    obtain ⟨h1, h2, h3, h4, h5, h6, h7, h8, h9⟩ := ones_all (ws := r) fun v hv => h v (List.mem_cons_of_mem _ hv)
    have e := wel_one (h w List.mem_cons_self)
    have e1 := e.d
    have e2 := e.wd
    have e3 := e.l
    have e4 := e.s
    refine ⟨?_, ?_, ?_, ?_, ?_, ?_, ⟨e.f, h7⟩, ?_, fun u => ?_⟩
    · show max (dep (tOne w)) (depL (r.map tOne)) ≤ 1
      omega
    · show max (wid (tOne w)) (widL (r.map tOne)) ≤ 4
      omega
    · show lks (tOne w) + lksL (r.map tOne) ≤ 4 * (r.length + 1)
      omega
    · show sz (tOne w) + szL (r.map tOne) ≤ 4 * (r.length + 1)
      omega
    · show nms (tOne w) ++ nmsL (r.map tOne) = []
      rw [e.n, h5] <;> rfl
    · show max (opn (tOne w) + (if isAl (tOne w) = true then 1 else 0)) (opnAl (r.map tOne)) = 0
      rw [e.o, e.a, h6] <;> rfl
    · show 124 :: (grp (isAl (tOne w)) (prn (tOne w)) ++ prnMo (r.map tOne)) = 124 :: (w ++ jm r)
      rw [e.a, e.p, h8] <;> rfl
    · show Lt (tOne w) u ∨ LtA (r.map tOne) u ↔ _
      rw [e.t, h9, List.mem_cons]
structure WelS (ws : List (List Nat)) (t : Tr) : Prop where
  d : dep t ≤ 2
  wd : wid t ≤ 5
  l : lks t ≤ 20
  s : sz t ≤ 20
  n : nms t = []
  o : opn t = 0
  f : wf t
  p : prn t = jn ws
  t : ∀ u, Lt t u ↔ u ∈ ws
theorem wel_ws : ∀ {ws : List (List Nat)}, okWs ws → WelS ws (tWs ws)
  | [], h => by
    have := h.1
    cases this
  | [w], h => by
    have e := wel_one (h.2.2 w List.mem_cons_self)
    have e1 := e.d
    have e2 := e.wd
    have e3 := e.l
    have e4 := e.s
    refine ⟨?_, ?_, ?_, ?_, e.n, e.o, e.f, e.p.trans (List.append_nil _).symm, fun u => (e.t u).trans List.mem_singleton.symm⟩
    · show dep (tOne w) ≤ 2
      omega
    · show wid (tOne w) ≤ 5
      omega
    · show lks (tOne w) ≤ 20
      omega
    · show sz (tOne w) ≤ 20
      omega
  | w :: v :: r, h => by
    obtain ⟨h1, h2, h3, h4, h5, h6, h7, h8, h9⟩ := ones_all h.2.2
    have hl : ((w :: v :: r).map tOne).length = (w :: v :: r).length := List.length_map _
    have h52 := h.2.1
    have e := wel_one (h.2.2 w List.mem_cons_self)
    refine ⟨?_, ?_, ?_, ?_, h5, h6, ⟨by rw [hl]; exact Nat.succ_le_succ (Nat.succ_le_succ (Nat.zero_le _)), h7⟩, ?_, h9⟩
    · show depL ((w :: v :: r).map tOne) + 1 ≤ 2
      omega
    · show max ((w :: v :: r).map tOne).length (widL ((w :: v :: r).map tOne)) ≤ 5
      omega
    · show lksL ((w :: v :: r).map tOne) ≤ 20
      omega
    · show szL ((w :: v :: r).map tOne) ≤ 20
      omega
    · show grp (isAl (tOne w)) (prn (tOne w)) ++ prnMo ((v :: r).map tOne) = w ++ jm (v :: r)
      have h10 : jm (w :: v :: r) = 124 :: (w ++ jm (v :: r)) := rfl
      have h11 : prnMo ((w :: v :: r).map tOne) = 124 :: (grp (isAl (tOne w)) (prn (tOne w)) ++ prnMo ((v :: r).map tOne)) := rfl
      rw [h10, h11] at h8
      exact (List.cons.inj h8).2
theorem jm_len : ∀ {ws : List (List Nat)}, (∀ w ∈ ws, okW w) → (jm ws).length ≤ 5 * ws.length
  | [], _ => Nat.zero_le _
  | w :: r, h => by
    have := jm_len (ws := r) fun v hv => h v (List.mem_cons_of_mem _ hv)
    have e := (h w List.mem_cons_self).2.1
    show (124 :: (w ++ jm r)).length ≤ 5 * (r.length + 1)
    rw [List.length_cons, List.length_append]
    omega
theorem jn_len {ws : List (List Nat)} (h : okWs ws) : (jn ws).length ≤ 25 := by
  cases ws with
  | nil => exact Nat.zero_le _
  | cons w r =>
    have := jm_len h.2.2
    have h52 := h.2.1
    have h10 : jm (w :: r) = 124 :: jn (w :: r) := rfl
    rw [h10, List.length_cons] at this
    omega
theorem join_ws {ws : List (List Nat)} : Txt.join (Str.ofString "|") (ws.map tx) = tx (jn ws) := by
  have eb : TL.tl (Str.ofString "|") = [124] := by decide +kernel
  rw [TL.join_eq]
  refine TL.ext_tl ?_
  rw [TL.tl_join, eb, List.map_map]
  have hid : ws.map (TL.tl ∘ tx) = ws := by
    conv => rhs; rw [← List.map_id ws]
    exact List.map_congr_left fun w _ => rfl
  rw [hid]
  show TL.joinL [124] ws = jn ws
  have go : ∀ (w : List Nat) (r : List (List Nat)), TL.joinL [124] (w :: r) = w ++ jm r := by
    intro w r
    induction r generalizing w with
    | nil => exact (List.append_nil w).symm
    | cons v r ih =>
      show w ++ ([124] ++ TL.joinL [124] (v :: r)) = w ++ (124 :: (v ++ jm r))
      rw [ih] <;> rfl
  cases ws with
  | nil => rfl
  | cons w r => exact go w r
theorem sum_tx (ws : List (List Nat)) (h : ∀ w ∈ ws, okW w) : ((ws.map tx).map (·.length)).sum ≤ 4 * ws.length := by
  induction ws with
  | nil => exact Nat.zero_le _
  | cons w r ih =>
    have := ih fun v hv => h v (List.mem_cons_of_mem _ hv)
    have e := (h w List.mem_cons_self).2.1
    rw [List.map_cons, List.map_cons, List.sum_cons, tx_len, List.length_cons]
    omega
theorem okWs.perm {ws vs : List (List Nat)} (h : okWs ws) (p : vs.Perm ws) : okWs vs := ⟨by rw [p.length_eq]; exact h.1, by rw [p.length_eq]; exact h.2.1, fun w hw => h.2.2 w (p.subset hw)⟩
/-! ### the defs -/
abbrev sWds : Stmt := topS 58
abbrev sLong : Stmt := topS 59
def NWds : List Str := ["_law_pot_here", "_law_found", "_law_turn", "_law_word", "_law_letter"]
theorem scWds : FnScope NWds ["_law_pot_here"] (defScope sWds) := ⟨rfl, rfl, rfl, by decide +kernel, rfl, by decide +kernel, by decide +kernel⟩
def NLong : List Str := ["_law_pot_here", "_law_words_here", "_law_most", "_law_found", "_law_word"]
theorem scLong : FnScope NLong ["_law_pot_here", "_law_words_here"] (defScope sLong) := ⟨rfl, rfl, rfl, by decide +kernel, rfl, by decide +kernel, by decide +kernel⟩
def spWds : Sp := fun vs H Q _ => ∃ (p : Addr) (n : Int), vs = [.ref p] ∧ Pot H p n ∧ n + 50 < 1000000 ∧ ∀ a H' ws, H a = none → H' a = some (.lst (wVs ws)) → okWs ws → Pot H' p (n + 50) → Kp p H H' → Q (.ref a) H'
def spLong : Sp := fun vs H Q _ => ∃ (p a : Addr) (n : Int) (ws : List (List Nat)), vs = [.ref p, .ref a] ∧ Pot H p n ∧ n + 1300 < 1000000 ∧ H a = some (.lst (wVs ws)) ∧ a ≠ p ∧ okWs ws ∧ ∀ X H', X.length ≤ 400 → (∀ c ∈ X, c ∈ LETc) → Pot H' p (n + 1300) → Kp p H H' → Q (.str (tx X)) H'
theorem join_ones (cs : List Nat) : Txt.join (Str.ofString "") (cs.map fun c => (⟨#[c]⟩ : Str)) = tx cs := by
  have em : TL.tl (Str.ofString "") = [] := by decide +kernel
  rw [TL.join_eq]
  refine TL.ext_tl ?_
  rw [TL.tl_join, em, List.map_map]
  show TL.joinL [] (cs.map fun c => [c]) = cs
  have go : ∀ (c : Nat) (r : List Nat), TL.joinL [] ((c :: r).map fun c => [c]) = c :: r := by
    intro c r
    induction r generalizing c with
    | nil => rfl
    | cons d r ih =>
      show [c] ++ ([] ++ TL.joinL [] ((d :: r).map fun c => [c])) = _
      rw [ih] <;> rfl
  cases cs with
  | nil => rfl
  | cons c r => exact go c r
theorem sum_ones (cs : List Nat) : ((cs.map fun c => (⟨#[c]⟩ : Str)).map (·.length)).sum = cs.length := by
  induction cs with
  | nil => rfl
  | cons c r ih =>
    rw [List.map_cons, List.map_cons, List.sum_cons, ih, List.length_cons]
    show 1 + r.length = r.length + 1
    omega
section
variable {P : Program} {w : World} {K : PySem.W.Frag} {mg : Str → Option Value} {base : Heap} {f f9 : Nat → Addr} {fd fd9 : Nat → FuncData} {wf_ : Addr} {wfd : FuncData}
theorem ok_wds (L0 : LawT K mg f fd) (T9 : L9T K mg f9 fd9) (F : Fun K "_law_words" "_law_words" sWds wf_ wfd) : FnOk P w K mg base CX0 3 wf_ wfd ["_law_pot_here"] spWds := by
  have GD := law_draw (P := P) (w := w) (base := base) L0
  have GA := law_any (P := P) (w := w) (base := base) L0
  refine F.ok (k := 2) scWds (fun vs H Q E h => ?_) (fun cdv A outer s H vs Q E hr h => ?_)
  · obtain ⟨p, n, rfl, _⟩ := h
    rfl
  · obtain ⟨p, n, rfl, hp, hn, fin⟩ := h
    refine ⟨_, pss_cons (ps_set (i := 1) scWds.nd rfl (.inl rfl) (pe_lst pa_nil))
      (pss_cons (ps_for PassesOwn.never rfl (pi_range1 rfl T9.zrange (pa_cons (pe_op op_add pe_int (pe_call GD (hr.mono (by decide)) (by rfl) L0.draw.g L0.draw.F.kp L0.draw.b .nil pass0 (pa_cons (pv 0) (pa_cons pe_int pa_nil)))) pa_nil)) (pg_name (i := 2) scWds.nd rfl (.inl rfl))
          (pss_cons (ps_set (i := 3) scWds.nd rfl (.inl rfl) (pe_join pe_str (pe_lc (own := [("_law_letter", 4)]) (g := gName 4) (tt := tYes) rfl scWds.nd
              (pi_range1 rfl T9.zrange (pa_cons (pe_op op_add pe_int (pe_call GD (hr.mono (by decide)) (by rfl) L0.draw.g L0.draw.F.kp L0.draw.b .nil pass0 (pa_cons (pv 0) (pa_cons pe_int pa_nil)))) pa_nil))
              (blkOk_by (N := NWds) (sc := defScope sWds) (by decide +kernel)) (fun _ _ _ _ _ => pg_name (i := 4) scWds.nd rfl (Or.inl rfl)) (fun _ _ _ _ _ => pts_nil)
              (fun _ _ _ _ _ => pe_call GA (hr.mono (by decide)) (by rfl) L0.any.g L0.any.F.kp L0.any.b .nil pass0 (pa_cons (pv 0) (pa_cons pe_str pa_nil))))))
          (pss_one (ps_if (pt_cmpR op_notIn_seq (pv 3) (pv 1) rfl) (pss_one (ps_expr (pe_bm PySem.F.plainAttrs_list PySem.F.slot_list_append PySem.F.type_list_append mt_append (pv 1) (pa_cons (pv 3) pa_nil)))) pss_nil))))
      (pss_one (ps_ret (pv 1)))), ?_⟩
    refine ⟨Nat.zero_le _, fun F0 nF => ?_⟩
    have nFp := hp.ne nF
    refine ⟨_, rfl, p, n, 4, rfl, hp.up nF, by omega, by decide, by decide, fun r H1 r0 r1 hp1 k1 => ⟨_, _, rfl, rfl, _, rfl, by omega, by omega, ?_⟩⟩
    obtain ⟨j, rfl⟩ := Int.eq_ofNat_of_zero_le r0
    rw [show ((2 : Int) + (j : Int)).toNat = 2 + j by omega]
    have hj : j < 4 := by omega
    have eF1 := k1 F0 _ nFp upd_same
    have abL : ∀ c ∈ (Str.ofString "ab a").cps.toList, c ∈ LETc := by decide +kernel
    have abl : (Str.ofString "ab a").length = 4 := by decide +kernel
    have em : (Str.ofString "").length = 0 := by decide +kernel
    have sl : ∀ n : Nat, n ≤ 20000 → n ≤ sizeLine := fun n h => Nat.le_trans h (by decide)
    refine for_it (walk_range (lo := 0) (n := 2 + j)) (fun i σ H2 => ∃ y z ws, σ = [some (.ref p), some (.ref F0), y, z, none] ∧ H2 F0 = some (.lst (wVs ws)) ∧ ws.length ≤ i ∧ (0 < i → 1 ≤ ws.length) ∧ (∀ w ∈ ws, okW w) ∧ Pot H2 p (n + 1 + 6 * i) ∧ Kp p H H2)
      ⟨none, none, [], rfl, eF1, Nat.le_refl _, fun h => absurd h (Nat.lt_irrefl 0), (fun _ h => nomatch h), hp1.mono (by omega), (Kp.same (smU nF)).trans k1⟩ (fun _ _ _ _ _ => True.intro) (fun i x σ H2o H2 hi hP hy => ?_) (fun σ H2 hP => ?_)
    · obtain ⟨y, z, ws, rfl, eF, lw, l1, hok, hp2, k2⟩ := hP
      obtain ⟨rfl, rfl⟩ := hy
      have hi6 : i < 6 := by omega
      refine ⟨⟨_, rfl⟩, ?_⟩
      refine ⟨_, rfl, p, _, 4, rfl, hp2, by omega, by decide, by decide, fun r' H3 r0' r1' hp3 k3 => ⟨_, _, rfl, rfl, _, rfl, by omega, by omega, fun D hD => ?_⟩⟩
      obtain ⟨j', rfl⟩ := Int.eq_ofNat_of_zero_le r0'
      rw [show ((1 : Int) + (j' : Int)).toNat = 1 + j' by omega]
      have hj' : j' < 4 := by omega
      have eF3 := k3 F0 _ nFp eF
      have nDF : D ≠ F0 := fun z => by rw [z, eF3] at hD; cases hD
      refine lc_it (walk_range (lo := 0) (n := 1 + j')) (fun q H4 => ∃ cs : List Nat, cs.length = q ∧ (∀ c ∈ cs, c ∈ LETc) ∧ Pot H4 p (n + 1 + 6 * i + 1 + q) ∧ Kp p H3 H4 ∧ H4 D = some (.lst (cs.map fun c => V.str ⟨#[c]⟩)))
        ⟨[], rfl, (fun _ h => nomatch h), (hp3.up hD).mono (by omega), Kp.same (smU hD), upd_same⟩ (fun _ _ _ _ => True.intro) (fun q x H4 H5 hq hP hy => ?_) (fun H4 hP => ?_)
      · obtain ⟨cs, hc1, hc2, hp4, k4, e4⟩ := hP
        obtain ⟨rfl, rfl⟩ := hy
        have nDp := hp3.ne hD
        refine ⟨rfl, .ref p, rfl, p, _, _, rfl, hp4, by omega, .inl ⟨_, rfl, by rw [abl]; decide, by rw [abl]; decide, fun c H6 hc hp6 k6 => ?_⟩⟩
        refine ⟨_, k6 D _ nDp e4, ?_, cs ++ [c], by rw [List.length_append, hc1] <;> rfl, fun d hd => ?_, (hp6.wr nDp).mono (by omega), kp_wr (k4.trans k6) hD, ?_⟩
        · rw [List.length_map, hc1]
          exact Nat.lt_of_lt_of_le (show q < 200 by omega) (by decide)
        · rcases List.mem_append.mp hd with z | z
          · exact hc2 d z
          · exact List.mem_singleton.mp z ▸ abL c hc
        · rw [upd_same, List.map_append] <;> rfl
      · obtain ⟨cs, hc1, hc2, hp4, k4, e4⟩ := hP
        have e5 : H4 D = some (.lst ((cs.map fun c => (⟨#[c]⟩ : Str)).map V.str)) := by
          rw [e4, List.map_map] <;> rfl
        have eF4 := k4 F0 _ nFp eF3
        refine ⟨_, D, _, rfl, rfl, .inl (.inl (.inl e5)), ?_, ?_⟩
        · rw [sum_ones, List.length_map, em]
          omega
        rw [join_ones]
        refine ⟨_, rfl, _, rfl, F0, _, rfl, .inl (.inl (.inl eF4)), rfl, flatW ws, _, rfl, ?_⟩
        have wok : okW cs := ⟨by omega, by omega, hc2⟩
        show if (!inV (wV cs) (wVs ws)) = true then _ else _
        rw [inW]
        by_cases hm : cs ∈ ws
        · rw [decide_eq_true hm]
          refine iteF ⟨_, _, ws, rfl, eF4, by omega, fun _ => List.length_pos_of_mem hm, hok, hp4.mono (by omega), (k2.trans k3).trans k4⟩
        · rw [decide_eq_false hm]
          refine iteT ⟨_, rfl, Or.inl ⟨rfl, _, .inl (.inl eF4)⟩, _, rfl, F0, wVs ws, _, rfl, rfl, eF4, ?_, ?_⟩
          · rw [wVs_len]
            exact Nat.lt_of_le_of_lt (show ws.length ≤ 6 by omega) (by decide)
          refine ⟨_, _, ws ++ [cs], rfl, by rw [upd_same, ← wVs_app] <;> rfl, by rw [List.length_append, List.length_singleton]; omega, fun _ => by rw [List.length_append, List.length_singleton]; omega, fun w hw => ?_, (hp4.wr nFp).mono (by omega), kp_wr ((k2.trans k3).trans k4) nF⟩
          · rcases List.mem_append.mp hw with z | z
            · exact hok w z
            · exact List.mem_singleton.mp z ▸ wok
    · obtain ⟨y, z, ws, rfl, eF, lw, l1, hok, hp2, k2⟩ := hP
      refine ⟨_, rfl, fin F0 H2 ws nF eF ⟨l1 (by omega), by omega, hok⟩ (hp2.mono (by omega)) k2⟩
end
end Sq
/-! _law_long_text, _law_due. -/
namespace Sq
open PySem PySem.Spec PyProof.Rows L2 Sf Sf4 Gl Gz
theorem cut_tx (u : List Nat) (lo hi : Option Int) : ∃ Y : List Nat, cutS (tx u) lo hi = tx Y ∧ Y.length ≤ u.length ∧ ∀ c ∈ Y, c ∈ u := by
  refine ⟨((tx u).cps.toList.drop (HT.sIx (tx u).length 0 lo)).take (HT.sIx (tx u).length (tx u).length hi - HT.sIx (tx u).length 0 lo), rfl, ?_, fun c hc => ?_⟩
  · rw [List.length_take, List.length_drop]
    show min _ (u.length - _) ≤ u.length
    omega
  · exact List.mem_of_mem_drop (List.mem_of_mem_take hc)
theorem cut_to (Z : List Nat) (b : Nat) : cutS (tx Z) none (some (b : Int)) = tx (Z.take b) := by
  have h := cut_sub Z 0 b
  have e : cutS (tx Z) none (some (b : Int)) = cutS (tx Z) (some ((0 : Nat) : Int)) (some (b : Int)) := by
    unfold cutS
    rw [HT.sIx_none, HT.sIx_nat (tx Z).length 0 0, Nat.zero_min]
  rw [e, h] <;> rfl
section
variable {P : Program} {w : World} {K : PySem.W.Frag} {mg : Str → Option Value} {base : Heap} {f f9 : Nat → Addr} {fd fd9 : Nat → FuncData} {wf_ : Addr} {wfd : FuncData}
theorem ok_long (L0 : LawT K mg f fd) (T9 : L9T K mg f9 fd9) (F : Fun K "_law_long_text" "_law_long_text" sLong wf_ wfd) : FnOk P w K mg base CX0 3 wf_ wfd ["_law_pot_here", "_law_words_here"] spLong := by
  have GD := law_draw (P := P) (w := w) (base := base) L0
  have GA := law_any (P := P) (w := w) (base := base) L0
  refine F.ok (k := 2) scLong (fun vs H Q E h => ?_) (fun cdv A outer s H vs Q E hr h => ?_)
  · obtain ⟨p, a, n, ws, rfl, _⟩ := h
    rfl
  · obtain ⟨p, a, n, ws, rfl, hp, hn, ea, nap, hok, fin⟩ := h
    refine ⟨_, pss_cons (ps_par (i := 2) (j := 3) (by rfl) scLong.nd rfl rfl (by decide) rfl rfl (pa_cons (pe_call GA (hr.mono (by decide)) (by rfl) L0.any.g L0.any.F.kp L0.any.b .nil pass0 (pa_cons (pv 0) (pa_cons (pe_lst (pa_cons pe_int (pa_cons pe_int (pa_cons pe_int (pa_cons pe_int (pa_cons pe_int (pa_cons pe_int pa_nil))))))) pa_nil))) (pa_cons pe_str pa_nil)) (by rfl))
      (Evl.pss_cut (ps_while PassesOwn.never (pt_cmpR op_lt (pe_callB call_len_str (by rfl) T9.zlen PySem.boot_len (pa_cons (pv 3) pa_nil)) (pv 2) (nomark _))
          (pss_cons (ps_set (i := 4) scLong.nd rfl (.inl rfl) (pe_call GA (hr.mono (by decide)) (by rfl) L0.any.g L0.any.F.kp L0.any.b .nil pass0 (pa_cons (pv 0) (pa_cons (pv 1) pa_nil))))
          (pss_cons (ps_set (i := 3) scLong.nd rfl (.inl rfl) (pe_op op_add_str (pe_op op_add_str (pv 3) (pe_call GA (hr.mono (by decide)) (by rfl) L0.any.g L0.any.F.kp L0.any.b .nil pass0 (pa_cons (pv 0) (pa_cons
                (pe_lst (pa_cons (pv 4) (pa_cons (pv 4) (pa_cons (pe_slice sl_str (pv 4) po_none (po_some (pe_un un_neg pe_int))) (pa_cons (pe_slice sl_str (pv 4) (po_some pe_int) po_none) (pa_cons pe_str (pa_cons pe_str (pa_cons pe_str pa_nil)))))))) pa_nil))))
              (pe_op op_mul_s pe_str (pe_call GD (hr.mono (by decide)) (by rfl) L0.draw.g L0.draw.F.kp L0.draw.b .nil pass0 (pa_cons (pv 0) (pa_cons pe_int pa_nil))))))
          (pss_one (ps_set (i := 2) scLong.nd rfl (.inl rfl) (pe_op op_sub (pv 2) pe_int))))))
      (pss_one (ps_ret (pe_slice sl_str (pv 3) po_none (po_some pe_int))))), ?_⟩
    have sl : ∀ n : Nat, n ≤ 20000 → n ≤ sizeLine := fun n h => Nat.le_trans h (by decide)
    have e0 : Str.ofString "" = tx [] := by decide +kernel
    refine ⟨.ref p, rfl, sl 6 (by decide), fun l nl => ⟨p, _, .ref l, rfl, hp.up nl, by omega, .inr ⟨l, _, rfl, fun hK => .inl (.inl (hK l _ (hp.ne nl) upd_same)), (show 0 < 6 by decide), (show 6 ≤ 1000 by decide), fun vL H1 hvL hp1 k1 => ?_⟩⟩⟩
    obtain ⟨mo0, rfl, hm0⟩ : ∃ m : Nat, vL = .int (m : Int) ∧ m ≤ 400 := by
      simp only [List.mem_cons, List.not_mem_nil, or_false] at hvL
      rcases hvL with rfl | rfl | rfl | rfl | rfl | rfl
      · exact ⟨0, rfl, by decide⟩
      · exact ⟨3, rfl, by decide⟩
      · exact ⟨12, rfl, by decide⟩
      · exact ⟨40, rfl, by decide⟩
      · exact ⟨150, rfl, by decide⟩
      · exact ⟨400, rfl, by decide⟩
    refine ⟨_, _, rfl, ?_⟩
    have k01 : Kp p H H1 := (Kp.same (smU nl)).trans k1
    refine ⟨fun σ H3 => ∃ y2 y4 X, σ = [some (.ref p), some (.ref a), y2, some (.str (tx X)), y4] ∧ X.length ≤ 2000 ∧ (∀ c ∈ X, c ∈ LETc) ∧ Pot H3 p (n + 1300) ∧ Kp p H H3, ?_, fun σ H3 hM => ?_⟩
    · refine ⟨fun m σ H3 => ∃ k y4 X, σ = [some (.ref p), some (.ref a), some (.int (m : Int)), some (.str (tx X)), y4] ∧ m + k = mo0 ∧ X.length ≤ 5 * k ∧ (∀ c ∈ X, c ∈ LETc) ∧ Pot H3 p (n + 1 + 3 * k) ∧ Kp p H H3,
        ⟨mo0, 0, none, [], by rw [e0] <;> rfl, rfl, Nat.zero_le _, (fun _ h => nomatch h), hp1.mono (by omega), k01⟩, fun m σ H3 hW => ?_⟩
      obtain ⟨k, y4, X, rfl, hmk, hX, hcX, hp3, k3⟩ := hW
      have hXl : (tx X).length = X.length := tx_len X
      refine ⟨_, rfl, tx X, rfl, sl _ (by omega), _, rfl, _, _, rfl, rfl, _, rfl, ?_⟩
      rw [hXl]
      by_cases hlt : X.length < m
      · rw [decide_eq_true (show (X.length : Int) < (m : Int) by omega)]
        refine iteT ⟨fun σ' H' => ∃ m', m' < m ∧ ∃ k y4 X, σ' = [some (.ref p), some (.ref a), some (.int (m' : Int)), some (.str (tx X)), y4] ∧ m' + k = mo0 ∧ X.length ≤ 5 * k ∧ (∀ c ∈ X, c ∈ LETc) ∧ Pot H' p (n + 1 + 3 * k) ∧ Kp p H H', fun _ _ h => h, ?_⟩
        have l5 := hok.2.1
        refine ⟨.ref p, rfl, .ref a, rfl, p, _, .ref a, rfl, hp3, by omega, .inr ⟨a, wVs ws, rfl, fun hK => .inl (.inl (hK a _ nap (k3 a _ nap ea))), by rw [wVs_len]; exact hok.1, by rw [wVs_len]; omega, fun vW H4 hvW hp4 k4 => ?_⟩⟩
        obtain ⟨u, hu, rfl⟩ := List.mem_map.mp hvW
        obtain ⟨u1, u4, uL⟩ := hok.2.2 u hu
        have hul : (tx u).length = u.length := tx_len u
        have huls : (tx u).length ≤ sizeLine := by
          rw [hul]
          exact sl _ (by omega)
        obtain ⟨Y1, eY1, lY1, cY1⟩ := cut_tx u none (some (-1))
        obtain ⟨Y2, eY2, lY2, cY2⟩ := cut_tx u (some 1) none
        refine ⟨_, rfl, .ref p, rfl, _, rfl, _, rfl, _, rfl, 1, rfl, _, rfl, tx u, rfl, huls, _, rfl, 1, rfl, tx u, rfl, huls, sl 7 (by decide), fun l2 nl2 => ⟨p, _, .ref l2, rfl, hp4.up nl2, by omega, .inr ⟨l2, _, rfl, fun hK => .inl (.inl (hK l2 _ (hp4.ne nl2) upd_same)), (show 0 < 7 by decide), (show 7 ≤ 1000 by decide), fun vY H5 hvY hp5 k5 => ?_⟩⟩⟩
        obtain ⟨Y, rfl, lY, cY⟩ : ∃ Y : List Nat, vY = .str (tx Y) ∧ Y.length ≤ 4 ∧ ∀ c ∈ Y, c ∈ LETc := by
          simp only [List.mem_cons, List.not_mem_nil, or_false] at hvY
          rcases hvY with rfl | rfl | rfl | rfl | rfl | rfl | rfl
          · exact ⟨u, rfl, u4, uL⟩
          · exact ⟨u, rfl, u4, uL⟩
          · exact ⟨Y1, congrArg V.str eY1, by omega, fun c hc => uL c (cY1 c hc)⟩
          · exact ⟨Y2, congrArg V.str eY2, by omega, fun c hc => uL c (cY2 c hc)⟩
          · exact ⟨[98], by decide +kernel, by decide, by decide⟩
          · exact ⟨[95], by decide +kernel, by decide, by decide⟩
          · exact ⟨[32], by decide +kernel, by decide, by decide⟩
        have hYl : (tx Y).length = Y.length := tx_len Y
        refine ⟨tx X, tx Y, rfl, rfl, sl _ (by omega), .ref p, rfl, p, _, 2, rfl, hp5, by omega, by decide, by decide, fun r H6 r0 r1 hp6 k6 => ⟨_, r, rfl, rfl, by omega, ?_⟩⟩
        obtain ⟨S, eS, lS, cS⟩ : ∃ S : List Nat, (if r = 0 then Str.empty else Str.ofString "a") = tx S ∧ S.length ≤ 1 ∧ ∀ c ∈ S, c ∈ LETc := by
          by_cases z : r = 0
          · exact ⟨[], by rw [if_pos z] <;> rfl, by decide, by decide⟩
          · exact ⟨[97], by rw [if_neg z]; decide +kernel, by decide, by decide⟩
        rw [eS]
        refine ⟨tx X ++ tx Y, tx S, rfl, rfl, ?_, ?_⟩
        · rw [tx_app, tx_len, tx_len, List.length_append]
          exact sl _ (by omega)
        rw [tx_app, tx_app]
        refine ⟨_, rfl, _, 1, rfl, rfl, m - 1, by omega, k + 1, some (wV u), X ++ Y ++ S, ?_, by omega, ?_, fun c hc => ?_, hp6.mono (by omega), ((k3.trans k4).trans ((Kp.same (smU nl2)).trans k5)).trans k6⟩
        · rw [show ((m - 1 : Nat) : Int) = (m : Int) - 1 by omega] <;> rfl
        · rw [List.length_append, List.length_append]
          omega
        · rcases List.mem_append.mp hc with z | z
          · rcases List.mem_append.mp z with z | z
            · exact hcX c z
            · exact cY c z
          · exact cS c z
      · rw [decide_eq_false (show ¬ ((X.length : Int) < (m : Int)) by omega)]
        exact iteF ⟨_, y4, X, rfl, by omega, hcX, hp3.mono (by omega), k3⟩
    · obtain ⟨y2, y4, X, rfl, lX, cX, hp3, k3⟩ := hM
      refine ⟨_, rfl, (400 : Int), rfl, tx X, rfl, by rw [tx_len]; exact sl _ (by omega), ?_⟩
      rw [show (400 : Int) = ((400 : Nat) : Int) from rfl, cut_to]
      exact fin _ H3 (by rw [List.length_take]; exact Nat.min_le_left _ _) (fun c hc => cX c (List.mem_of_mem_take hc)) hp3 k3
end
/-! ### the matches by a scan -/
theorem hit_ws {ws : List (List Nat)} {T : List Nat} {at_ : Nat} (h : okWs ws) (e : Nat) : Hit false false (tWs ws) T at_ e ↔ ∃ u ∈ ws, (T.drop at_).take u.length = u ∧ e = at_ + u.length := by
  have hl := (wel_ws h).t
  constructor
  · rintro ⟨h1, ⟨h2, h3, h4⟩, _, _⟩
    have hm := (hl _).mp h4
    have hlen : ((T.take e).drop at_).length = e - at_ := by
      rw [List.length_drop, List.length_take]
      omega
    refine ⟨_, hm, ?_, by omega⟩
    rw [hlen, List.drop_take]
  · rintro ⟨u, hu, h1, rfl⟩
    have u1 := (h.2.2 u hu).1
    have hlen := congrArg List.length h1
    rw [List.length_take, List.length_drop] at hlen
    refine ⟨by omega, ⟨by omega, by omega, ?_⟩, .inr rfl, .inr rfl⟩
    rw [List.drop_take, show at_ + u.length - at_ = u.length by omega, h1]
    exact (hl u).mpr hu
abbrev sDue : Stmt := topS 60
def NDue : List Str := ["_law_words_here", "_law_text", "_law_found", "_law_at", "_law_some", "_law_word"]
theorem scDue : FnScope NDue ["_law_words_here", "_law_text"] (defScope sDue) := ⟨rfl, rfl, rfl, by decide +kernel, rfl, by decide +kernel, by decide +kernel⟩
def spDue : Sp := fun vs H Q _ => ∃ (W : Addr) (T : List Nat) (ws : List (List Nat)), vs = [.ref W, .str (tx T)] ∧ H W = some (.lst (wVs ws)) ∧ okWs ws ∧ T.length ≤ 400 ∧
  ∀ a H' xs ps, Same H H' → H' a = some (.lst xs) → AllO (TrpO T H') xs ps → Sps (Hit false false (tWs ws) T) T.length 0 ps → Q (.ref a) H'
section
variable {P : Program} {w : World} {K : PySem.W.Frag} {mg : Str → Option Value} {base : Heap} {f9 : Nat → Addr} {fd9 : Nat → FuncData} {df : Addr} {dd : FuncData}
theorem ok_due (T9 : L9T K mg f9 fd9) (F : Fun K "_law_due" "_law_due" sDue df dd) : FnOk P w K mg base CX0 1 df dd ["_law_words_here", "_law_text"] spDue := by
  refine F.ok (k := 0) scDue (fun vs H Q E h => ?_) (fun cdv A outer s H vs Q E hr h => ?_)
  · obtain ⟨W, T, ws, rfl, _⟩ := h
    rfl
  · obtain ⟨W, T, ws, rfl, eW, hok, hT, fin⟩ := h
    have hu := hr.units
    refine ⟨_, pss_cons (ps_asg (pe_tup (pa_cons (pe_lst pa_nil) (pa_cons pe_int pa_nil))) (pg_tup rfl (pgs_cons (pg_name (i := 2) scDue.nd rfl (.inl rfl)) (pgs_cons (pg_name (i := 3) scDue.nd rfl (.inr rfl)) pgs_nil))))
      (Evl.pss_cut (ps_while PassesOwn.never (pt_cmpR op_lt (pv 3) (pe_callB call_len_str (by rfl) T9.zlen PySem.boot_len (pa_cons (pv 1) pa_nil)) (nomark _))
          (Evl.pss_cut (ps_setLc (i := 4) (own := [("_law_word", 5)]) (g := gName 5)
                (tt := tTest (tOp rEq (tSl rSlS (tVar 1) (tPart (tVar 3)) (tPart (tOp (rI0 fun i j => V.int (i + j)) (tVar 3) (tLenV 5)))) (tVar 5)))
                (te := tLenV 5) rfl scDue.nd rfl rfl (sw_true rfl rfl rfl (by decide +kernel)) (pi_list (pv 0)) (blkOk_by (N := NDue) (sc := defScope sDue) (by decide +kernel))
                (fun _ _ _ _ _ => pg_name (i := 5) scDue.nd rfl (Or.inl rfl))
                (fun _ _ _ _ _ => pts_one (pt_cmpR op_eq (pe_slice sl_str (pv 1) (po_some (pv 3)) (po_some (pe_op op_add (pv 3) (pe_callB call_len_str (by rfl) T9.zlen PySem.boot_len (pa_cons (pv 5) pa_nil))))) (pv 5) (nomark _)))
                (fun _ _ _ _ _ => pe_callB call_len_str (by rfl) T9.zlen PySem.boot_len (pa_cons (pv 5) pa_nil)))
          (Evl.pss_cut (ps_if (pt_cmpR (op_neD hu) (pv 4) (pe_lst pa_nil) (nomark _))
              (pss_one (ps_expr (pe_bm PySem.F.plainAttrs_list PySem.F.slot_list_append PySem.F.type_list_append mt_append (pv 2) (pa_cons (pe_tup (pa_cons (pv 3) (pa_cons (pe_op op_add (pv 3) (pe_callB (cr_max rfl) (by rfl) T9.zmax (by decide +kernel) (pa_cons (pv 4) pa_nil)))
                (pa_cons (pe_slice sl_str (pv 1) (po_some (pv 3)) (po_some (pe_op op_add (pv 3) (pe_callB (cr_max rfl) (by rfl) T9.zmax (by decide +kernel) (pa_cons (pv 4) pa_nil))))) pa_nil)))) pa_nil)))) pss_nil)
          (pss_one (ps_set (i := 3) scDue.nd rfl (.inr rfl) (pe_op op_add (pv 3) (pe_callB (cr_max rfl) (by rfl) T9.zmax (by decide +kernel) (pa_cons (pe_op op_cat (pv 4) (pe_lst (pa_cons pe_int pa_nil))) pa_nil))))))))
      (pss_one (ps_ret (pv 2)))), ?_⟩
    have sl : ∀ n : Nat, n ≤ 20000 → n ≤ sizeLine := fun n h => Nat.le_trans h (by decide)
    have hTl : (tx T).length = T.length := tx_len T
    have hTs : (tx T).length ≤ sizeLine := by
      rw [hTl]
      exact sl _ (by omega)
    have hlt : ∀ i e, Hit false false (tWs ws) T i e → i < e ∧ e ≤ T.length := fun i e h => h.lt
    have l5 := hok.2.1
    obtain ⟨al, sal⟩ := Sps.ex hlt T.length 0 (by omega)
    refine ⟨Nat.zero_le _, fun F nF => ⟨(show 2 ≤ sizeLine by decide), fun T0 n0 => ⟨T0, _, rfl, .inl (.inl upd_same), rfl, _, _, rfl, _, _, rfl, rfl, ?_⟩⟩⟩
    have s0 := smU (o := HO.lst []) nF
    have s1 := smU (o := HO.tup [V.ref F, V.int 0]) n0
    have eF0 := s1 _ _ (upd_same (H := H) (a := F) (o := HO.lst []))
    refine ⟨fun σ H3 => ∃ xs mz y, σ = [some (.ref W), some (.str (tx T)), some (.ref F), mz, y, none] ∧ H3 F = some (.lst xs) ∧ AllO (TrpO T H3) xs al ∧ Same H H3, ?_, fun σ H3 hM => ?_⟩
    · refine ⟨fun m σ H3 => ∃ xs ps rest at_ y, σ = [some (.ref W), some (.str (tx T)), some (.ref F), some (.int (at_ : Nat)), y, none] ∧ at_ + m = T.length ∧ H3 F = some (.lst xs) ∧ AllO (TrpO T H3) xs ps ∧ ps.length ≤ at_ ∧ al = ps ++ rest ∧ Sps (Hit false false (tWs ws) T) T.length at_ rest ∧ Same H H3,
        ⟨T.length, [], [], al, 0, none, rfl, Nat.zero_add _, eF0, .nil, Nat.le_refl _, rfl, sal, s0.trans s1⟩, fun m σ H3 hW => ?_⟩
      obtain ⟨xs, ps, rest, at_, y, rfl, ham, eF, ao, hpl, hal, hsp, s3⟩ := hW
      refine ⟨_, rfl, _, rfl, tx T, rfl, hTs, _, _, rfl, rfl, _, rfl, ?_⟩
      rw [hTl]
      cases m with
      | zero =>
        rw [decide_eq_false (show ¬ ((at_ : Int) < (T.length : Int)) by omega)]
        obtain rfl := hsp.uniq (.done (by omega))
        rw [List.append_nil] at hal
        exact iteF ⟨xs, _, _, rfl, eF, by rw [hal]; exact ao, s3⟩
      | succ m =>
        rw [decide_eq_true (show (at_ : Int) < (T.length : Int) by omega)]
        refine iteT ⟨fun σ' H' => ∃ m', m' < m + 1 ∧ ∃ xs ps rest at_ y, σ' = [some (.ref W), some (.str (tx T)), some (.ref F), some (.int (at_ : Nat)), y, none] ∧ at_ + m' = T.length ∧ H' F = some (.lst xs) ∧ AllO (TrpO T H') xs ps ∧ ps.length ≤ at_ ∧ al = ps ++ rest ∧ Sps (Hit false false (tWs ws) T) T.length at_ rest ∧ Same H H', fun _ _ h => h, ?_⟩
        -- the lengths
        refine ⟨fun σ H5 => ∃ L2 hs, σ = [some (.ref W), some (.str (tx T)), some (.ref F), some (.int (at_ : Nat)), some (.ref L2), none] ∧ H5 L2 = some (.lst (nIs hs)) ∧ hs.length ≤ 5 ∧ (∀ e, e ∈ hs ↔ Hit false false (tWs ws) T at_ (at_ + e)) ∧ Same H3 H5 ∧ L2 ≠ F, ?_, fun σ H5 hM => ?_⟩
        · refine ⟨_, rfl, W, rfl, ⟨_, .inl (.inl (s3 _ _ eW))⟩, fun D hD => ?_⟩
          refine lc_it (walk_list (K := K) (a := W) (xs := wVs ws)) (fun q H7 => ∃ es, H7 D = some (.lst (nIs es)) ∧ es.length ≤ q ∧ (∀ e, e ∈ es ↔ ∃ u ∈ ws.take q, (T.drop at_).take u.length = u ∧ e = u.length) ∧ Same H3 H7) ⟨[], upd_same, Nat.zero_le _, fun e => by simp, smU hD⟩ (fun q H7 _ hP => ?_) (fun q xq H7 H7' hq hP hy => ?_) (fun H7 hP => ?_)
          · obtain ⟨_, _, _, _, s7⟩ := hP
            exact .inl (.inl (s7 _ _ (s3 _ _ eW)))
          · obtain ⟨es, eD, le, hes, s7⟩ := hP
            obtain ⟨rfl, hxq⟩ := hy
            obtain ⟨u, hu, rfl⟩ := wVs_at hxq
            have u5 := (hok.2.2 u (List.mem_of_getElem? hu)).2.1
            have hul : (tx u).length = u.length := tx_len u
            have huls : (tx u).length ≤ sizeLine := by
              rw [hul]
              exact sl _ (by omega)
            have hq5 : q < 5 := by
              have := (List.getElem?_eq_some_iff.mp hu).1
              omega
            refine ⟨rfl, _, rfl, _, rfl, (at_ : Int), rfl, _, rfl, _, rfl, tx u, rfl, huls, _, _, rfl, rfl, _, rfl, tx T, rfl, hTs, _, rfl, rfl, _, rfl, ?_⟩
            rw [hul, show (at_ : Int) + (u.length : Int) = ((at_ + u.length : Nat) : Int) by omega, cut_sub, show at_ + u.length - at_ = u.length by omega]
            by_cases h1 : (T.drop at_).take u.length = u
            · rw [h1, decide_eq_true (show V.str (tx u) = wV u from rfl)]
              refine iteT ⟨_, rfl, tx u, rfl, huls, _, eD, ?_, es ++ [u.length], ?_, ?_, fun e => ?_, fun b' o' hb => ?_⟩
              · rw [nIs_len]
                exact Nat.lt_of_le_of_lt (show es.length ≤ 5 by omega) (by decide)
              · rw [upd_same, hul, ← nIs_app] <;> rfl
              · rw [List.length_append, List.length_singleton]
                omega
              · rw [List.mem_append, List.mem_singleton, hes, take_atG hu]
                simp only [List.mem_append, List.mem_singleton]
                constructor
                · rintro (⟨x, h1, h2⟩ | h)
                  · exact ⟨x, .inl h1, h2⟩
                  · exact ⟨u, .inr rfl, h1, h⟩
                · rintro ⟨x, h1 | rfl, h2⟩
                  · exact .inl ⟨x, h1, h2⟩
                  · exact .inr h2.2
              · rw [upd_ne (ne_of_none hb hD)]
                exact s7 _ _ hb
            · rw [decide_eq_false (show ¬ (V.str (tx ((T.drop at_).take u.length)) = wV u) from fun z => h1 (tx_inj (V.str.inj z)))]
              refine iteF ⟨es, eD, by omega, fun e => ?_, s7⟩
              rw [hes, take_atG hu]
              simp only [List.mem_append, List.mem_singleton]
              constructor
              · rintro ⟨x, h1, h2⟩
                exact ⟨x, .inl h1, h2⟩
              · rintro ⟨x, h3 | rfl, h2⟩
                · exact ⟨x, h3, h2⟩
                · exact absurd h2.1 h1
          · obtain ⟨es, eD, le, hes, s7⟩ := hP
            rw [wVs_len] at le hes
            rw [List.take_length] at hes
            refine ⟨D, es, rfl, eD, by omega, fun e => ?_, s7, fun z => by rw [z, eF] at hD; cases hD⟩
            rw [hes, hit_ws hok]
            constructor
            · rintro ⟨x, h1, h2, h3⟩
              exact ⟨x, h1, h2, by omega⟩
            · rintro ⟨x, h1, h2, h3⟩
              exact ⟨x, h1, h2, by omega⟩
        obtain ⟨L2, hs, rfl, eL2, hl0, hhs, s5, nLF⟩ := hM
        have eF5 := s5 _ _ eF
        have ao5 : AllO (TrpO T H5) xs ps := ao.mono fun v p h => by
          obtain ⟨c, rfl, e⟩ := h
          exact ⟨c, rfl, s5 _ _ e⟩
        have s35 := s3.trans s5
        have hxl := ao.1
        have hpos1 : ∀ e ∈ hs, 1 ≤ e := fun e he => by
          have := ((hhs e).mp he).lt
          omega
        -- appended
        refine ⟨fun σ H7 => ∃ xs' ps' rest' e', σ = [some (.ref W), some (.str (tx T)), some (.ref F), some (.int (at_ : Nat)), some (.ref L2), none] ∧ H7 F = some (.lst xs') ∧ AllO (TrpO T H7) xs' ps' ∧ ps'.length ≤ at_ + e' ∧ al = ps' ++ rest' ∧ Sps (Hit false false (tWs ws) T) T.length (at_ + e') rest' ∧ 1 ≤ e' ∧ at_ + e' ≤ T.length ∧ (∀ e, e ∈ hs ∨ e = 1 → e ≤ e') ∧ (e' ∈ hs ∨ e' = 1) ∧ H7 L2 = some (.lst (nIs hs)) ∧ Same H H7, ?_, fun σ H7 hM => ?_⟩
        · refine ⟨_, rfl, Nat.zero_le _, fun Z0 nz => ?_⟩
          have sz := smU (o := HO.lst []) nz
          refine ⟨.list ((zI hs).map PyData.int), .list [], .lst (.inl (.inl (sz _ _ eL2))) (li_dp hs), .lst (.inl (.inl upd_same)) .nil, li_shaped _, li_shaped [], _, rfl, ?_⟩
          rw [li_eqv]
          have eF7 := sz _ _ eF5
          have eL7 := sz _ _ eL2
          have ao7 : AllO (TrpO T (upd H5 Z0 (.lst []))) xs ps := ao5.mono fun v p h => by
            obtain ⟨c, rfl, e⟩ := h
            exact ⟨c, rfl, sz _ _ e⟩
          cases hem : hs.isEmpty with
          | true =>
            have he : hs = [] := List.isEmpty_iff.mp hem
            refine iteF ⟨xs, ps, rest, 1, rfl, eF7, ao7, by omega, hal, hsp.of_skip (by omega) (fun e h => by
              have h2 := h.lt
              have := (hhs (e - at_)).mpr (by rw [show at_ + (e - at_) = e by omega]; exact h)
              rw [he] at this
              cases this), Nat.le_refl _, by omega, fun e h => ?_, .inr rfl, eL7, s35.trans sz⟩
            rcases h with h | h
            · rw [he] at h
              cases h
            · omega
          | false =>
            have hne : hs ≠ [] := fun z => by
              rw [z] at hem
              cases hem
            have hpos : 0 < (zI hs).length := by
              unfold zI
              rw [List.length_map]
              exact List.length_pos_iff.mpr hne
            refine iteT ⟨_, rfl, Or.inl ⟨rfl, _, .inl (.inl eF7)⟩, _, rfl, _, rfl, _, rfl, L2, zI hs, rfl, .inl (.inl (by rw [← nIs_z]; exact eL7)), hpos, fun M hM mx1 => ?_⟩
            obtain ⟨e1, he1, rfl⟩ := zI_mem.mp hM
            refine ⟨_, _, rfl, rfl, _, rfl, _, rfl, (at_ : Int), rfl, _, rfl, _, rfl, L2, zI hs, rfl, .inl (.inl (by rw [← nIs_z]; exact eL7)), hpos, fun M2 hM2 mx2 => ?_⟩
            obtain ⟨e2, he2, rfl⟩ := zI_mem.mp hM2
            obtain rfl : e2 = e1 := by
              have z1 := mx1 _ hM2
              have z2 := mx2 _ hM
              omega
            refine ⟨_, _, rfl, rfl, _, rfl, tx T, rfl, hTs, (show 3 ≤ sizeLine by decide), fun Tp nTp => ?_⟩
            rw [show (at_ : Int) + (e2 : Int) = ((at_ + e2 : Nat) : Int) by omega, cut_sub]
            have hpc : (T.drop at_).take (at_ + e2 - at_) = pc T at_ (at_ + e2) := by
              unfold pc
              rw [List.drop_take]
            rw [hpc]
            have sp := smU (o := HO.tup [V.int (at_ : Nat), V.int ((at_ + e2 : Nat) : Int), V.str (tx (pc T at_ (at_ + e2)))]) nTp
            refine ⟨F, xs, .ref Tp, rfl, rfl, sp _ _ eF7, Nat.lt_of_le_of_lt (show xs.length ≤ 400 by omega) (by decide), ?_⟩
            have b1 := (hhs e2).mp he1
            have hle := b1.lt
            have nTF : Tp ≠ F := fun z => by
              rw [z, eF7] at nTp
              cases nTp
            have mx : ∀ e, e ∈ hs → e ≤ e2 := fun e h => by
              have := mx1 _ (zI_mem.mpr ⟨e, h, rfl⟩)
              omega
            obtain ⟨qs, rfl, hsq⟩ := hsp.of_hit (by omega) b1 fun e' he' => by
              have h2 := he'.lt
              have := mx (e' - at_) ((hhs (e' - at_)).mpr (by rw [show at_ + (e' - at_) = e' by omega]; exact he'))
              omega
            refine ⟨xs ++ [.ref Tp], ps ++ [(at_, at_ + e2)], qs, e2, rfl, upd_same, (ao7.mono fun v p h => ?_).snoc ⟨Tp, rfl, (upd_ne nTF).trans upd_same⟩, by rw [List.length_append, List.length_singleton]; omega, by rw [hal, List.append_assoc] <;> rfl, hsq, hpos1 _ he1, hle.2, fun e h => ?_, .inl he1, (upd_ne nLF).trans (sp _ _ eL7), fun c o hc' => ?_⟩
            · obtain ⟨c, rfl, e⟩ := h
              refine ⟨c, rfl, ?_⟩
              rw [upd_ne (fun z => by rw [z, eF7] at e; cases e)]
              exact sp _ _ e
            · rcases h with h | h
              · exact mx e h
              · have := hpos1 _ he1
                omega
            · rw [upd_ne (ne_of_none hc' nF)]
              exact sp _ _ (sz _ _ (s35 _ _ hc'))
        obtain ⟨xs', ps', rest', e', rfl, eF7, ao7, hpl7, hal7, hsp7, h17, hle7, mx7, mem7, eL7, s7⟩ := hM
        refine ⟨_, rfl, _, rfl, (show 1 ≤ sizeLine by decide), fun N1 nN1 => ?_⟩
        have u1 := smU (o := HO.lst [V.int 1]) nN1
        refine ⟨L2, N1, _, _, rfl, rfl, u1 _ _ eL7, upd_same, ?_, fun N2 nN2 => ?_⟩
        · rw [nIs_len]
          exact Nat.le_trans (show hs.length + 1 ≤ 6 by omega) (by decide)
        have u2 := smU (o := HO.lst (nIs hs ++ [V.int 1])) nN2
        have e12 : nIs hs ++ [V.int 1] = (zI (hs ++ [1])).map V.int := by
          rw [← nIs_z, ← nIs_app] <;> rfl
        refine ⟨N2, zI (hs ++ [1]), rfl, .inl (.inl (by rw [← e12]; exact upd_same)), ?_, fun M hM mx => ?_⟩
        · unfold zI
          rw [List.length_map, List.length_append, List.length_singleton]
          omega
        obtain ⟨e2, he2, rfl⟩ := zI_mem.mp hM
        obtain rfl : e2 = e' := by
          have h1 := mx7 e2 (by
            rcases List.mem_append.mp he2 with z | z
            · exact .inl z
            · exact .inr (List.mem_singleton.mp z))
          have h2 := mx _ (zI_mem.mpr ⟨e', by
            rcases mem7 with z | z
            · exact List.mem_append_left _ z
            · exact List.mem_append_right _ (List.mem_singleton.mpr z), rfl⟩)
          omega
        refine ⟨_, _, rfl, rfl, T.length - (at_ + e2), by omega, xs', ps', rest', at_ + e2, some (.ref L2), ?_, by omega, u2 _ _ (u1 _ _ eF7), ao7.mono fun v p h => ?_, hpl7, hal7, hsp7, s7.trans (u1.trans u2)⟩
        · rw [show ((at_ + e2 : Nat) : Int) = (at_ : Int) + (e2 : Int) by omega] <;> rfl
        · obtain ⟨c, rfl, e⟩ := h
          exact ⟨c, rfl, u2 _ _ (u1 _ _ e)⟩
    · obtain ⟨xs, mz, y, rfl, eF, ao, s3⟩ := hM
      exact ⟨_, rfl, fin F H3 xs al s3 eF ao sal⟩
end
end Sq
/-! _law_right. -/
namespace Sq
open PySem PySem.Spec PyProof.Rows L2 Sf Sf4 Gl Gz
/-! ### plain -/
def dec : V → List Nat
  | .str z => z.cps.toList
  | _ => []
theorem dec_w (u : List Nat) : dec (wV u) = u := rfl
theorem dec_ws (us : List (List Nat)) : (wVs us).map dec = us := by
  unfold wVs
  rw [List.map_map]
  conv => rhs; rw [← List.map_id us]
  exact List.map_congr_left fun u _ => rfl
theorem of_sub {ws : List (List Nat)} {ys : List V} (h : ∀ y ∈ ys, y ∈ wVs ws) : ys = wVs (ys.map dec) := by
  unfold wVs
  rw [List.map_map]
  conv => lhs; rw [← List.map_id ys]
  refine List.map_congr_left fun y hy => ?_
  obtain ⟨u, _, rfl⟩ := List.mem_map.mp (h y hy)
  rfl
theorem tell_w {K : PySem.W.Frag} {p : Addr} {H : Hp} {ws : List (List Nat)} (h : ∀ u ∈ ws, ∀ c ∈ u, c < 128) : Tell K p H (wVs ws) := fun H' k ys hys => by
  have e := of_sub hys
  refine ⟨wD (ys.map dec), by rw [e, dec_ws]; exact w_dp _, w_shaped fun u hu => ?_, ?_⟩
  · obtain ⟨y, hy, rfl⟩ := List.mem_map.mp hu
    obtain ⟨u, hu2, rfl⟩ := List.mem_map.mp (hys y hy)
    exact h u hu2
  · rw [w_eqv]
    cases ys <;> rfl
theorem smI4 : ∀ n < 512, ((PyData.int (n : Nat)).showable && (PyData.int (n : Nat)).leavesShort 40 && decide ((PyData.int (n : Nat)).weight ≤ 12) && decide ((PyData.int (n : Nat)).depth ≤ 0)) = true := by decide +kernel
theorem sm_int4 {n : Nat} (h : n < 512) : Sm 12 0 (.int (n : Nat)) := by
  have q := smI4 n h
  simp only [Bool.and_eq_true, decide_eq_true_eq] at q
  exact ⟨q.1.1.1, q.1.1.2, q.1.2, q.2⟩
theorem trp_sm4 {T : List Nat} {ps : List (Nat × Nat)} (hT : T.length ≤ 400) (hc : ∀ c ∈ T, c < 128) (hp : ∀ p ∈ ps, p.1 < p.2 ∧ p.2 ≤ T.length ∧ p.2 ≤ p.1 + 4) (hl : ps.length ≤ 400) : Sm 20000 2 (.list (ps.map (trD T))) := by
  refine Sm.mono (Sm.lst (n := 42) (m := 1) (k := 400) (fun d hd => ?_) (by rw [List.length_map]; exact hl)) (by decide) (Nat.le_refl _)
  obtain ⟨se, hse, rfl⟩ := List.mem_map.mp hd
  obtain ⟨h1, h2, h3⟩ := hp _ hse
  refine Sm.mono (Sm.tup (n := 12) (m := 0) (k := 3) (fun d hd => ?_) (Nat.le_refl _)) (by decide) (Nat.le_refl _)
  simp only [List.mem_cons, List.not_mem_nil, or_false] at hd
  rcases hd with rfl | rfl | rfl
  · exact sm_int4 (by omega)
  · exact sm_int4 (by omega)
  · refine sm_str (fun c hc' => hc c (List.mem_of_mem_take (List.mem_of_mem_drop hc'))) ?_
    rw [tx_len]
    unfold pc
    rw [List.length_drop, List.length_take]
    omega
theorem PiO.pot {C : Addr} {q : Pi} {H H' : Hp} {p : Addr} {n : Int} (hp : Pot H p n) (k : Kp p H H') (h : PiO C H q) : PiO C H' q := by
  have kt : KT H H' := hp.kt k
  obtain ⟨a, b, c, e, _⟩ := hp
  obtain ⟨⟨dx, tv, na, pl, fi, la, be, h1, h2, h3, h4, h5, h6, h7⟩, h8⟩ := h
  exact ⟨⟨dx, tv, na, pl, fi, la, be, k _ _ (fun z => by rw [z, e] at h1; cases h1) h1, h2.mono kt, kt _ _ h3, kt _ _ h4, kt _ _ h5, kt _ _ h6, h7.mono kt⟩, h8⟩
theorem sps_four {ws : List (List Nat)} {T : List Nat} (h : okWs ws) {a : Nat} {ps : List (Nat × Nat)} (s : Sps (Hit false false (tWs ws) T) T.length a ps) : ∀ p ∈ ps, p.1 < p.2 ∧ p.2 ≤ T.length ∧ p.2 ≤ p.1 + 4 := by
  induction s with
  | done _ => exact fun p hp => nomatch hp
  | skip _ _ _ ih => exact ih
  | @hit a e ps h1 h2 _ _ ih =>
    intro p hp
    rcases List.mem_cons.mp hp with rfl | hp
    · obtain ⟨u, hu, _, e1⟩ := (hit_ws h e).mp h2
      have := (h.2.2 u hu).2.1
      exact ⟨h2.lt.1, h2.lt.2, by show e ≤ a + 4; omega⟩
    · exact ih p hp
theorem hit_perm {ws vs : List (List Nat)} (h : okWs ws) (p : vs.Perm ws) (T : List Nat) : Hit false false (tWs vs) T = Hit false false (tWs ws) T := by
  funext i e
  refine propext ?_
  rw [hit_ws h, hit_ws (h.perm p)]
  exact ⟨fun ⟨u, a, b⟩ => ⟨u, p.subset a, b⟩, fun ⟨u, a, b⟩ => ⟨u, p.symm.subset a, b⟩⟩
/-- what is read of the words -/
theorem rd_ws {ws : List (List Nat)} (h : okWs ws) : RWhole (jn ws) false (tWs ws) false [] ∧ Sml (tWs ws) ∧ (jn ws).length ≤ 60 ∧ sz (tWs ws) ≤ 24 := by
  have e := wel_ws h
  have e1 := e.d
  have e2 := e.wd
  have e3 := e.l
  have e4 := e.s
  have h25 := jn_len h
  have h0 := rd_whole false false e.f (by rw [e.o]; exact Nat.zero_le _) (by rw [e.n]; exact List.nodup_nil)
  rw [e.n] at h0
  have hw : wstr false (tWs ws) false = jn ws := by
    unfold wstr
    rw [e.p]
    simp
  rw [hw] at h0
  exact ⟨h0, ⟨by omega, by omega, by omega, by omega⟩, by omega, by omega⟩
abbrev sRt : Stmt := topS 61
def NRt : List Str := ["_law_pot_here", "_law_words_here", "_law_one", "_law_other", "_law_turn", "_law_text", "_law_due_here", "_law_pattern", "_law_here"]
theorem scRt : FnScope NRt ["_law_pot_here"] (defScope sRt) := ⟨rfl, rfl, rfl, by decide +kernel, rfl, by decide +kernel, by decide +kernel⟩
def spRt : Sp := fun vs H Q _ => ∃ (p : Addr) (n : Int), vs = [.ref p] ∧ Pot H p n ∧ n + 4500 < 1000000 ∧ ∀ H', Kp p H H' → Pot H' p (n + 4500) → Q (.bl true) H'
section
variable {P : Program} {w : World} {K : PySem.W.Frag} {mg : Str → Option Value} {base : Heap} {C CM mf_ ff aF fb CQ lf gf : Addr} {f : Nat → Addr} {fd : Nat → FuncData} {q : Nat → Addr} {md ffd db ld gd : FuncData}
variable {pf : Nat → Addr} {pfd : Nat → FuncData} {tk tn : Nat → Tok} {gR gW gS : Addr} {dR dW dS : FuncData} {hf cf nf f0 f9 : Nat → Addr} {hfd cfd nfd fd0 fd9 : Nat → FuncData} {lt : Tok} {fr jf wf_ df xf : Addr} {frd jd wfd dd xd : FuncData}
variable {RC WC : Addr} {rf_ wf' : Nat → Addr} {rd wd : Nat → FuncData} {cd : Addr} {ces : Array DictEntry} {cn : Nat} {ct : Nat → Addr}
theorem ok_rt (F : Fun K "_law_right" "_law_right" sRt fr frd) (FM : Fd K mg "matches" sMts ["pattern", "text"] gf gd) (FJ : Fd K mg "_law_mixed" sMix ["_law_pot_here", "_law_items"] jf jd) (FW : Fd K mg "_law_words" sWds ["_law_pot_here"] wf_ wfd) (FX : Fd K mg "_law_long_text" sLong ["_law_pot_here", "_law_words_here"] xf xd) (FD : Fd K mg "_law_due" sDue ["_law_words_here", "_law_text"] df dd)
    (L0 : LawT K mg f0 fd0) (T9 : L9T K mg f9 fd9) (TR : RT K w mg RC rf_ rd tk cd ces cn ct) (TW : WT K mg WC wf' wd tk) (TS : ST K mg tk gS dS)
    (TA : MaT K mg CM f fd q mf_ md ff ffd) (TL : LonT K mg lf ld) (TM : HmT K mg hf hfd) (T7 : Q7T K mg CQ cf cfd) (TN : NoT K mg C aF nf nfd fb db tn) (TP : PatT K mg C pf pfd tk gR gW dR dW) (gL : mg "LETTERS" = some (.str LSs lt)) :
    FnG P w K mg base 97 fr frd ["_law_pot_here"] spRt := by
  have GM := gn_mts (P := P) (w := w) (base := base) FM.F TA TL TM T7 TN TP gL
  have GH := ok_hm (P := P) (w := w) (base := base) TM T7 TN TP gL
  have G1 := ok_mst (P := P) (w := w) (base := base) TA (k := 0)
  have G2 := ok_men (P := P) (w := w) (base := base) TA (k := 0)
  have G3 := ok_mwo (P := P) (w := w) (base := base) TA (k := 0)
  have GV := ok_wds (P := P) (w := w) (base := base) L0 T9 FW.F
  have GJ := ok_mix (P := P) (w := w) (base := base) L0 T9 FJ.F
  have GX := ok_long (P := P) (w := w) (base := base) L0 T9 FX.F
  have GD := ok_due (P := P) (w := w) (base := base) T9 FD.F
  have GI := ok_pi (P := P) (w := w) (base := base) TP TR TW TS
  refine okG (k := 96) F scRt (fun vs H Q E h => ?_) (fun cdv A outer s H vs Q E hr hgd h => ?_)
  · obtain ⟨p, n, rfl, _⟩ := h
    rfl
  · obtain ⟨p, n, rfl, hp, hn, fin⟩ := h
    have hu := hr.units
    refine ⟨_, Evl.pss_cut (ps_set (i := 1) scRt.nd rfl (.inl rfl) (pe_call GV (hr.mono (by decide)) (by rfl) FW.g FW.F.kp FW.b .nil pass0 (pa_cons (pv 0) pa_nil)))
      (Evl.pss_cut (ps_par (i := 2) (j := 3) (by rfl) scRt.nd rfl rfl (by decide) rfl rfl (pa_cons (pe_make TP.mkC GI (hr.mono (by decide)) (by rfl) TP.gC TP.mI.b .nil pass0 (pa_cons (pe_join pe_str (pv 1)) pa_nil))
          (pa_cons (pe_make TP.mkC GI (hr.mono (by decide)) (by rfl) TP.gC TP.mI.b .nil pass0 (pa_cons (pe_join pe_str (pe_call GJ (hr.mono (by decide)) (by rfl) FJ.g FJ.F.kp FJ.b .nil pass0 (pa_cons (pv 0) (pa_cons (pv 1) pa_nil)))) pa_nil)) pa_nil)) (by rfl))
      (Evl.pss_cut (ps_for PassesOwn.never rfl (pi_range1 rfl T9.zrange (pa_cons pe_int pa_nil)) (pg_name (i := 4) scRt.nd rfl (.inl rfl))
          (Evl.pss_cut (ps_set (i := 5) scRt.nd rfl (.inl rfl) (pe_call GX (hr.mono (by decide)) (by rfl) FX.g FX.F.kp FX.b .nil pass0 (pa_cons (pv 0) (pa_cons (pv 1) pa_nil))))
          (Evl.pss_cut (ps_set (i := 6) scRt.nd rfl (.inl rfl) (pe_call GD (hr.mono (by decide)) (by rfl) FD.g FD.F.kp FD.b .nil pass0 (pa_cons (pv 1) (pa_cons (pv 5) pa_nil))))
          (pss_one (ps_for PassesOwn.never rfl (pi_tup (pe_tup (pa_cons (pv 2) (pa_cons (pv 3) pa_nil)))) (pg_name (i := 7) scRt.nd rfl (.inl rfl))
            (pss_cons (ps_if (pt_cmpR op_ne (pe_callB (cr_reprD hgd hu) (by rfl) T9.zrepr (by decide +kernel) (pa_cons (pe_lcG (k := 6) (own := [("_law_here", 8)]) (tgt := gName 8) (tt := tYes) (te := tTup (tCons (tProp CM (spMst CM) [] E0 (tVar 8)) (tCons (tProp CM (spMen CM) [] E0 (tVar 8)) (tCons (tProp CM (spMwo CM) [] E0 (tVar 8)) tNil)))) rfl (hr.mono (by decide)) scRt.nd
                  (pgn_call GM (hr.mono (by decide)) (by rfl) FM.g FM.F.kp FM.b .nil (pa_cons (pv 7) (pa_cons (pv 5) pa_nil))) (blkOk_by (N := NRt) (sc := defScope sRt) (by decide +kernel))
                  (fun _ _ _ _ _ => pg_name (i := 8) scRt.nd rfl (Or.inl rfl)) (fun _ _ _ _ _ => pts_nil)
                  (fun _ _ _ _ _ => pe_tup (pa_cons (pe_prop (pv 8) TA.cl TA.pS G1 (hr.mono (by decide)) TA.bS .nil pass0 rfl) (pa_cons (pe_prop (pv 8) TA.cl TA.pE G2 (hr.mono (by decide)) TA.bE .nil pass0 rfl) (pa_cons (pe_prop (pv 8) TA.cl TA.pW G3 (hr.mono (by decide)) TA.bW .nil pass0 rfl) pa_nil))))) pa_nil))
                (pe_callB (cr_reprD hgd hu) (by rfl) T9.zrepr (by decide +kernel) (pa_cons (pv 6) pa_nil)) (nomark _)) (pss_one (ps_ret pe_bl)) pss_nil)
            (pss_one (ps_if (pt_cmpR op_ne (pe_callB (cr_reprD hgd hu) (by rfl) T9.zrepr (by decide +kernel) (pa_cons (pe_call GH (hr.mono (by decide)) (by rfl) TM.hm.g TM.hm.F.kp TM.hm.b .nil pass0 (pa_cons (pv 7) (pa_cons (pv 5) pa_nil))) pa_nil)) (pe_callB (cr_reprD hgd hu) (by rfl) T9.zrepr (by decide +kernel) (pa_cons (pe_cmpR (op_neD hu) (pv 6) (pe_lst pa_nil) (nomark _)) pa_nil)) (nomark _)) (pss_one (ps_ret pe_bl)) pss_nil))))))))
      (pss_one (ps_ret pe_bl)))), ?_⟩
    have sl : ∀ n : Nat, n ≤ 20000 → n ≤ sizeLine := fun n h => Nat.le_trans h (by decide)
    have bar1 : (Str.ofString "|").length = 1 := by decide +kernel
    -- the words
    refine ⟨fun σ H1 => ∃ W ws, σ = [some (.ref p), some (.ref W), none, none, none, none, none, none, none] ∧ H1 W = some (.lst (wVs ws)) ∧ W ≠ p ∧ okWs ws ∧ Pot H1 p (n + 50) ∧ Kp p H H1, ?_, fun σ H1 hM => ?_⟩
    · exact ⟨_, rfl, p, n, rfl, hp, by omega, fun W H1 ws nW eW hok hp1 k1 => ⟨W, ws, rfl, eW, hp.ne nW, hok, hp1, k1⟩⟩
    obtain ⟨W, ws, rfl, eW, nWp, hok, hp1, k1⟩ := hM
    have l5 := hok.2.1
    have w128 : ∀ u ∈ ws, ∀ c ∈ u, c < 128 := fun u hu c hc => (show ∀ c ∈ LETc, c < 128 by decide) c ((hok.2.2 u hu).2.2 c hc)
    have wm : ∀ us : List (List Nat), (us.map tx).map V.str = wVs us := fun us => by
      rw [List.map_map] <;> rfl
    obtain ⟨rd1, sm1, z1, s1⟩ := rd_ws hok
    have sw := sum_tx ws hok.2.2
    -- the patterns
    refine ⟨fun σ H2 => ∃ x1 x2 vs, σ = [some (.ref p), some (.ref W), some (.ref x1), some (.ref x2), none, none, none, none, none] ∧ vs.Perm ws ∧ PiO C H2 ⟨x1, jn ws, false, tWs ws, false, []⟩ ∧ PiO C H2 ⟨x2, jn vs, false, tWs vs, false, []⟩ ∧ H2 W = some (.lst (wVs ws)) ∧ Pot H2 p (n + 60) ∧ Kp p H H2, ?_, fun σ H2 hM => ?_⟩
    · refine ⟨⟨_, rfl⟩, _, rfl, _, W, ws.map tx, rfl, rfl, .inl (.inl (.inl (by rw [wm]; exact eW))), by rw [List.length_map, bar1]; omega, ?_⟩
      rw [join_ws]
      refine fun x1 dx1 hx1 hd1 nd1 => ⟨jn ws, x1, dx1, false, tWs ws, false, [], rfl, upd_same, z1, rd1, sm1, fun H5 po1 k5 => ⟨rfl, ?_⟩⟩
      have s15 := mk_same hx1 hd1 k5
      have hp5 := hp1.same s15
      have eW5 := s15 _ _ eW
      refine ⟨⟨_, rfl⟩, _, rfl, _, rfl, p, W, _, wVs ws, rfl, hp5, by rw [wVs_len]; omega, eW5, nWp, by rw [wVs_len]; omega, tell_w w128, fun b H6 ys k6 hp6 eb nb pm => ?_⟩
      have hys := of_sub fun y hy => pm.subset hy
      have pm2 : (ys.map dec).Perm ws := by
        have := pm.map dec
        rwa [dec_ws] at this
      rw [hys] at eb
      generalize hvs : ys.map dec = vs at pm2 eb
      obtain ⟨rd2, sm2, z2, s2⟩ := rd_ws (hok.perm pm2)
      have sv := sum_tx vs (hok.perm pm2).2.2
      have lv := pm2.length_eq
      refine ⟨_, b, vs.map tx, rfl, rfl, .inl (.inl (.inl (by rw [wm]; exact eb))), by rw [List.length_map, bar1]; omega, ?_⟩
      rw [join_ws]
      refine fun x2 dx2 hx2 hd2 nd2 => ⟨jn vs, x2, dx2, false, tWs vs, false, [], rfl, upd_same, z2, rd2, sm2, fun H7 po2 k7 => ⟨rfl, _, _, rfl, x1, x2, vs, rfl, pm2, ?_, ⟨po2, s2, z2⟩, ?_, ?_, ?_⟩⟩
      all_goals have s67 := mk_same hx2 hd2 k7
      · exact (PiO.pot hp5 k6 ⟨po1, s1, z1⟩).ki (KI.same s67)
      · exact s67 _ _ (k6 W _ nWp eW5)
      · rw [wVs_len] at hp6
        exact (hp6.same s67).mono (by omega)
      · exact ((k1.trans (Kp.same s15)).trans k6).trans (Kp.same s67)
    obtain ⟨x1, x2, vs, rfl, pm, po1, po2, eW2, hp2, k2⟩ := hM
    -- the texts
    refine ⟨fun σ H3 => ∃ y4 y5 y6 y7, σ = [some (.ref p), some (.ref W), some (.ref x1), some (.ref x2), y4, y5, y6, y7, none] ∧ Pot H3 p (n + 4500) ∧ Kp p H H3, ?_, fun σ H3 hM => ?_⟩
    · refine ⟨_, rfl, by decide, by decide, ?_⟩
      refine for_it (walk_range (lo := 0) (n := 3)) (fun i σ H3 => ∃ y4 y5 y6 y7, σ = [some (.ref p), some (.ref W), some (.ref x1), some (.ref x2), y4, y5, y6, y7, none] ∧ Pot H3 p (n + 60 + 1300 * i) ∧ Kp p H2 H3)
        ⟨_, _, _, _, rfl, hp2.mono (by omega), Kp.same (Same.refl _)⟩ (fun _ _ _ _ _ => True.intro) (fun i xi σ H3o H3 hi hP hy => ?_) (fun σ H3 hP => ?_)
      · obtain ⟨y4, y5, y6, y7, rfl, hp3, k3⟩ := hP
        obtain ⟨rfl, rfl⟩ := hy
        have hi3 : i < 3 := hi
        -- the text
        refine ⟨fun σ H4 => ∃ X, σ = [some (.ref p), some (.ref W), some (.ref x1), some (.ref x2), some (.int (0 + (i : Int))), some (.str (tx X)), y6, y7, none] ∧ X.length ≤ 400 ∧ (∀ c ∈ X, c ∈ LETc) ∧ Pot H4 p (n + 60 + 1300 * (i + 1 : Nat)) ∧ Kp p H2 H4, ?_, fun σ H4 hM => ?_⟩
        · exact ⟨_, rfl, _, rfl, p, W, _, ws, rfl, hp3, by omega, k3 W _ nWp eW2, nWp, hok, fun X H4 hX cX hp4 k4 => ⟨X, rfl, hX, cX, hp4.mono (by omega), k3.trans k4⟩⟩
        obtain ⟨X, rfl, hX, hcX, hp4, k4⟩ := hM
        have hXl : (tx X).length = X.length := tx_len X
        have hc128 : ∀ c ∈ X, c < 128 := fun c hc => (show ∀ c ∈ LETc, c < 128 by decide) c (hcX c hc)
        -- what is due
        refine ⟨fun σ H5 => ∃ D ts ps, σ = [some (.ref p), some (.ref W), some (.ref x1), some (.ref x2), some (.int (0 + (i : Int))), some (.str (tx X)), some (.ref D), y7, none] ∧ H5 D = some (.lst ts) ∧ AllO (TrpO X H5) ts ps ∧ Sps (Hit false false (tWs ws) X) X.length 0 ps ∧ Same H4 H5, ?_, fun σ H5 hM => ?_⟩
        · exact ⟨_, rfl, _, rfl, W, X, ws, rfl, k4 W _ nWp eW2, hok, hX, fun D H5 xs ps s5 eD ao sp => ⟨D, xs, ps, rfl, eD, ao, sp, s5⟩⟩
        obtain ⟨D, ts, ps, rfl, eD, aot, sp, s5⟩ := hM
        have po15 := (PiO.pot hp2 k4 po1).ki (KI.same s5)
        have po25 := (PiO.pot hp2 k4 po2).ki (KI.same s5)
        have hlt : ∀ i e, Hit false false (tWs ws) X i e → i < e ∧ e ≤ X.length := fun i e h => h.lt
        have hpl : ps.length ≤ 400 := by
          rcases sp.bound hlt with z | z
          · omega
          · rw [z]
            exact Nat.zero_le _
        have hp4r := sps_four hok sp
        have smd := trp_sm4 (T := X) (ps := ps) hX hc128 hp4r hpl
        refine ⟨_, rfl, _, rfl, sl 2 (by decide), fun T2 n2 => ⟨T2, rfl, ⟨_, .inl (.inl upd_same)⟩, ?_⟩⟩
        have sT := smU (o := HO.tup [V.ref x1, V.ref x2]) n2
        refine for_it (walk_tup (K := K) (a := T2) (xs := [V.ref x1, V.ref x2])) (fun j σ H6 => ∃ y7, σ = [some (.ref p), some (.ref W), some (.ref x1), some (.ref x2), some (.int (0 + (i : Int))), some (.str (tx X)), some (.ref D), y7, none] ∧ Same (upd H5 T2 (.tup [V.ref x1, V.ref x2])) H6)
          ⟨_, rfl, Same.refl _⟩ (fun j σ H6 _ hP => ?_) (fun j xj σ H6o H6 hj hP hy => ?_) (fun σ H6 hP => ?_)
        · obtain ⟨_, _, s6⟩ := hP
          exact .inl (.inl (s6 _ _ upd_same))
        · obtain ⟨y7, rfl, s6⟩ := hP
          obtain ⟨rfl, hxj⟩ := hy
          have s56 := sT.trans s6
          obtain ⟨q0, rfl, po6, hwf, hnm, sp6⟩ : ∃ q0 : Pi, xj = .ref q0.x ∧ PiO C H6 q0 ∧ wf q0.t ∧ q0.nm = [] ∧ Sps (Hit q0.l q0.r q0.t X) X.length 0 ps := by
            match j, hxj with
            | 0, hxj =>
              cases hxj
              exact ⟨⟨x1, jn ws, false, tWs ws, false, []⟩, rfl, po15.ki (KI.same s56), (wel_ws hok).f, rfl, sp⟩
            | 1, hxj =>
              cases hxj
              exact ⟨⟨x2, jn vs, false, tWs vs, false, []⟩, rfl, po25.ki (KI.same s56), (wel_ws (hok.perm pm)).f, rfl, by rw [hit_perm hok pm]; exact sp⟩
            | j + 2, hxj => cases hxj
          have hpr6 := sp6.pairs (fun i e h => h.lt)
          refine ⟨_, rfl, _, rfl, mtS C CM q0 X ps, ⟨q0, X, ps, rfl, hwf, hnm, by omega, hcX, sp6, rfl⟩, mtS_ok, (fun _ _ _ h => h), fun R hR => ?_⟩
          refine ⟨fun j H7 => ∃ us, H7 R = some (.lst us) ∧ AllO (TrpO X H7) us (ps.take j) ∧ Same H6 H7, ⟨[], upd_same, .nil, smU hR⟩, fun j H7 hW => ?_⟩
          obtain ⟨us', eR, au, s7⟩ := hW
          refine ⟨po6.ki (KI.same s7), fun H8 hf => ?_, fun m H8 hy => ?_⟩
          · obtain ⟨rfl, s8⟩ := hf
            rw [List.take_length] at au
            have s78 := s7.trans s8
            have eD8 := s78 _ _ (s56 _ _ eD)
            have aoD8 : AllO (TrpO X H8) ts ps := aot.mono fun v q h => by
              obtain ⟨c, rfl, e⟩ := h
              exact ⟨c, rfl, s78 _ _ (s56 _ _ e)⟩
            have aoR8 : AllO (TrpO X H8) us' ps := au.mono fun v q h => by
              obtain ⟨c, rfl, e⟩ := h
              exact ⟨c, rfl, s8 _ _ e⟩
            refine ⟨.ref R, _, 20000, 2, rfl, .lst (.inl (.inl (s8 _ _ eR))) (trp_dp aoR8), smd, by decide, by decide, _, rfl, .ref D, _, 20000, 2, rfl, .lst (.inl (.inl eD8)) (trp_dp aoD8), smd, by decide, by decide, rfl, _, rfl, ?_⟩
            rw [decide_eq_true rfl]
            refine iteF ⟨_, rfl, _, rfl, q0, X, rfl, po6.ki (KI.same s78), by omega, hcX, fun H9 s9 => ?_⟩
            rw [hasM_sps hwf sp6]
            refine ⟨_, .bool _, 10, 1, rfl, .bl _, sm_bool _, by decide, by decide, _, rfl, Nat.zero_le _, fun Z0 nz => ?_⟩
            have sz := smU (o := HO.lst []) nz
            have aoD9 : AllO (TrpO X (upd H9 Z0 (.lst []))) ts ps := aoD8.mono fun v q h => by
              obtain ⟨c, rfl, e⟩ := h
              exact ⟨c, rfl, sz _ _ (s9 _ _ e)⟩
            refine ⟨.list (ps.map (trD X)), .list [], .lst (.inl (.inl (sz _ _ (s9 _ _ eD8)))) (trp_dp aoD9), .lst (.inl (.inl upd_same)) .nil, trp_shaped hc128 _, rfl, ?_⟩
            rw [trp_eqv]
            refine ⟨_, .bool _, 10, 1, rfl, .bl _, sm_bool _, by decide, by decide, rfl, _, rfl, ?_⟩
            rw [decide_eq_true rfl]
            exact iteF ⟨_, rfl, ((s6.trans s78).trans s9).trans sz⟩
          · obtain ⟨_, s8, ⟨s, e⟩, hpj, mo, m', rfl, nm'⟩ := hy
            have h1 := hpr6 (s, e) (List.mem_of_getElem? hpj)
            have hwl : (pc X s e).length = e - s := by
              unfold pc
              rw [List.length_drop, List.length_take]
              have := h1.2
              omega
            obtain ⟨m2, dx, Dd, kvs, e0, e1, e2, q2⟩ := id mo
            cases e0
            have hTS : (tx (pc X s e)).length ≤ sizeLine := by
              rw [tx_len, hwl]
              exact sl _ (by have := h1.2; omega)
            refine ⟨rfl, ?_⟩
            refine ⟨_, rfl, m', dx, _, rfl, e1, ?_⟩
            refine ⟨m', s, pc X s e, [], rfl, mo, ?_⟩
            refine ⟨_, rfl, m', dx, _, rfl, e1, ?_⟩
            refine ⟨m', s, pc X s e, [], rfl, mo, by have := h1.2; omega, ?_⟩
            refine ⟨_, rfl, m', dx, _, rfl, e1, ?_⟩
            refine ⟨m', s, pc X s e, [], rfl, mo, sl 3 (by decide), fun T3 n3 => ?_⟩
            have eR8 := s8 _ _ eR
            have nTR : T3 ≠ R := fun z => by rw [z, eR8] at n3; cases n3
            have hul := au.1
            rw [List.length_take] at hul
            refine ⟨us', (upd_ne nTR.symm).trans eR8, Nat.lt_of_le_of_lt (show us'.length ≤ 400 by omega) (by decide), us' ++ [.ref T3], upd_same, ?_, fun b' o' hb => ?_⟩
            · rw [take_atG hpj]
              refine (au.mono fun v q h => ?_).snoc ⟨T3, rfl, (upd_ne nTR).trans (upd_same.trans ?_)⟩
              · obtain ⟨c', rfl, e'⟩ := h
                have e8 := s8 _ _ e'
                exact ⟨c', rfl, by
                  rw [upd_ne (fun z => by rw [z, eR8] at e8; cases e8), upd_ne (ne_of_none e8 n3)]
                  exact e8⟩
              · have h2 := h1.2
                rw [show s + (pc X s e).length = e by omega]
            · rw [upd_ne (ne_of_none hb hR)]
              exact smU n3 _ _ (s8 _ _ (s7 _ _ hb))
        · obtain ⟨y7, rfl, s6⟩ := hP
          have s46 := s5.trans (sT.trans s6)
          exact ⟨_, _, _, _, rfl, hp4.same s46, k4.trans (Kp.same s46)⟩
      · obtain ⟨y4, y5, y6, y7, rfl, hp3, k3⟩ := hP
        exact ⟨_, _, _, _, rfl, hp3.mono (by omega), k2.trans k3⟩
    obtain ⟨y4, y5, y6, y7, rfl, hp3, k3⟩ := hM
    exact fin _ k3 hp3
end
end Sq
/-! law. -/
namespace Sq
open PySem PySem.Spec PyProof.Rows L2 Sf Sf4 Gl
abbrev s9Law : Stmt := topS 62
section
variable {P : Program} {w : World} {K : PySem.W.Frag} {mg : Str → Option Value} {base : Heap} {f f0 : Nat → Addr} {fd fd0 : Nat → FuncData}
theorem sc9Law : FnScope ["_law_script", "_law_k", "_law_pot_here", "_law_turn"] ["_law_script"] (defScope s9Law) := ⟨rfl, rfl, rfl, by decide +kernel, rfl, by decide +kernel, by decide +kernel⟩
def sp9Law (K : PySem.W.Frag) : Sp := fun vs H Q _ => ∃ (a : Addr) (ns : List Int), vs = [.ref a] ∧ SqL K H a (ns.map V.int) ∧ ns.length ≤ 63 ∧ ∀ H', Q (.bl true) H'
theorem turns9 (n : Nat) : ∃ m : Nat, (if (if (n : Int) < 3 then (n : Int) else 3) > 1 then (if (n : Int) < 3 then (n : Int) else 3) else 1) = (m : Int) ∧ m ≤ 3 := by
  by_cases h3 : (n : Int) < 3
  · rw [if_pos h3]
    by_cases h1 : (n : Int) > 1
    · rw [if_pos h1]
      exact ⟨n, rfl, by omega⟩
    · rw [if_neg h1]
      exact ⟨1, rfl, by omega⟩
  · rw [if_neg h3]
    exact ⟨3, rfl, by omega⟩
theorem ok_law9 {fl fr : Addr} {fdl frd : FuncData} (L : LawT K mg f0 fd0) (T9 : L9T K mg f fd) (F : Fun K "law" "law" s9Law fl fdl) (FR : Fd K mg "_law_right" sRt ["_law_pot_here"] fr frd) (GR : FnG P w K mg base 97 fr frd ["_law_pot_here"] spRt) : FnG P w K mg base 98 fl fdl ["_law_script"] (sp9Law K) := by
  refine okG (k := 97) F sc9Law (fun vs H Q E h => ?_) (fun cdv A outer s H vs Q E hr hgd h => ?_)
  · obtain ⟨a, ns, rfl, _⟩ := h
    rfl
  · obtain ⟨a, ns, rfl, hS, hlen, q⟩ := h
    have GP := ok_pot (P := P) (w := w) (base := base) (k := 96) L.pot.F L.zint L.zabs L.zlen
    refine ⟨_, pss_cons (ps_for PassesOwn.never rfl (pi_range1 rfl L.zrange (pa_cons (pe_callB (call_max2 rfl) (by rfl) L.zmax (by decide +kernel) (pa_cons pe_int (pa_cons
          (pe_callB (call_min2 rfl) (by rfl) L.zmin (by decide +kernel) (pa_cons pe_int (pa_cons (pe_callB call_len_seq (by rfl) L.zlen PySem.boot_len (pa_cons (pv 0) pa_nil)) pa_nil))) pa_nil))) pa_nil)) (pg_name (i := 1) sc9Law.nd rfl (.inl rfl))
        (pss_cons (ps_set (i := 2) sc9Law.nd rfl (.inr rfl) (pe_call GP hr (by rfl) L.pot.g L.pot.F.kp L.pot.b .nil pass0 (pa_cons (pv 0) (pa_cons (pv 1) pa_nil))))
        (pss_one (ps_if (pt_not (pt_val (pe_callB (cr_all rfl) (by rfl) T9.zall (by decide +kernel) (pa_cons (pe_lc (own := [("_law_turn", 3)]) (g := gName 3) (tt := tYes) (te := tCall spRt [] E0 (tCons (tVar 2) tNil)) rfl sc9Law.nd (pi_range1 rfl L.zrange (pa_cons pe_int pa_nil)) (blkOk_by (N := ["_law_script", "_law_k", "_law_pot_here", "_law_turn"]) (sc := defScope s9Law) (by decide +kernel))
            (fun _ _ _ _ _ => pg_name (i := 3) sc9Law.nd rfl (Or.inl rfl)) (fun _ _ _ _ _ => pts_nil) (fun _ _ _ _ _ => pe_callG GR hr hgd (by rfl) FR.g FR.F.kp FR.b (pa_cons (pv 2) pa_nil) pass0)) pa_nil)))) (pss_one (ps_ret pe_bl)) pss_nil))))
      (pss_one (ps_ret pe_bl)), ?_⟩
    refine ⟨.ref a, rfl, a, _, rfl, .inl hS, 3, _, rfl, 1, _, rfl, ?_⟩
    rw [List.length_map]
    obtain ⟨m, em, lm⟩ := turns9 ns.length
    rw [em]
    refine ⟨_, rfl, by omega, by omega, ?_⟩
    refine for_it (walk_range (lo := 0) (n := m)) (fun i σ H2 => ∃ y1 y2, σ = [some (.ref a), y1, y2, none] ∧ SqL K H2 a (ns.map V.int)) ⟨none, none, rfl, hS⟩ (fun _ _ _ _ _ => True.intro) (fun i x σ H2 H2' hi hP hy => ?_) (fun σ H2 hP => ?_)
    · obtain ⟨y1, y2, rfl, hS2⟩ := hP
      obtain ⟨rfl, rfl⟩ := hy
      refine ⟨.ref a, rfl, _, rfl, a, ns, i, by
        show [V.ref a, V.int ((0 : Int) + (i : Nat))] = _
        rw [Int.zero_add], hS2, by omega, fun p H3 np s3 hp3 => ?_⟩
      refine ⟨_, rfl, by decide, by decide, fun D hD => ?_⟩
      have nDp := hp3.ne hD
      refine lc_it (walk_range (lo := 0) (n := 5)) (fun j H4 => ∃ bs : List Bool, H4 D = some (.lst (bs.map V.bl)) ∧ bs.length = j ∧ (∀ b ∈ bs, b = true) ∧ Pot H4 p (4500 * (j : Int)) ∧ Kp p H3 H4)
        ⟨[], upd_same, rfl, (fun _ h => nomatch h), (hp3.up hD).mono (by omega), Kp.same (smU hD)⟩ (fun _ _ _ _ => True.intro) (fun j xj H4 H4' hj hP hy => ?_) (fun H4 hP => ?_)
      · obtain ⟨bs, eD, hbl, hb, hp4, k4⟩ := hP
        obtain ⟨rfl, rfl⟩ := hy
        refine ⟨rfl, .ref p, rfl, p, _, rfl, hp4, by omega, fun H5 k5 hp5 => ?_⟩
        have eD5 := k5 D _ nDp eD
        refine ⟨_, eD5, by rw [List.length_map]; exact Nat.lt_of_le_of_lt (show bs.length ≤ 20 by omega) (by decide), bs ++ [true], ?_, by rw [List.length_append, hbl] <;> rfl, fun b hb' => ?_, (hp5.wr nDp).mono (by omega), kp_wr (k4.trans k5) hD⟩
        · rw [upd_same, List.map_append] <;> rfl
        · rcases List.mem_append.mp hb' with h | h
          · exact hb b h
          · exact List.mem_singleton.mp h
      · obtain ⟨bs, eD, hbl, hb, hp4, k4⟩ := hP
        refine ⟨D, bs, rfl, .inl (.inl eD), bs.all id, rfl, ?_⟩
        rw [show bs.all id = true from List.all_eq_true.mpr fun b h => hb b h]
        refine iteF ⟨_, _, rfl, ?_⟩
        have s4 : Same H2' H4 := fun b o hb => k4 b o (fun z => by
          rw [z, np] at hb
          cases hb) (s3 b o hb)
        exact s4.seq hS2
    · exact q H2
end
end Sq
set_option maxHeartbeats 2000000
namespace Sq
open PySem PySem.Spec PyProof.Rows L2 Sf Sf4 Gl Gz
theorem all_mk {l : PySem.W.OpenLaw} {w : World} {K : PySem.W.Frag} {h : Heap} {mg : Str → Option Value} {fa : Addr} (X : K.In h) (G : h.Ns mainGlobals mg) (hfa : mg "law" = some (.ref fa))
    {f0 : Addr} (a0 : PySem.W.nsIn K mainGlobals "read_pattern" = some (some (.ref f0)))
    {od0 an0 : Option Addr} {sl0 : Array (Option Value)} {oc0 kV0 dc0 pm0 cd0 ct0 : Value}
    (l0 : K.lookup f0 = some ⟨oc0, od0, .func (PySem.W.fnOf "read_pattern" "read_pattern" (defArgs sRp) (defBody sRp) (defScope sRp) .none kV0 dc0 pm0 an0 cd0 ct0), sl0⟩) (c0 : PySem.W.codeIn K cd0 "read_pattern" = true) (k0 : PySem.W.keepIn K (.ref f0) = true)
    {f1 : Addr} (a1 : PySem.W.nsIn K mainGlobals "size_of" = some (some (.ref f1)))
    {od1 an1 : Option Addr} {sl1 : Array (Option Value)} {oc1 kV1 dc1 pm1 cd1 ct1 : Value}
    (l1 : K.lookup f1 = some ⟨oc1, od1, .func (PySem.W.fnOf "size_of" "size_of" (defArgs sSize) (defBody sSize) (defScope sSize) .none kV1 dc1 pm1 an1 cd1 ct1), sl1⟩) (c1 : PySem.W.codeIn K cd1 "size_of" = true) (k1 : PySem.W.keepIn K (.ref f1) = true)
    {f2 : Addr} (a2 : PySem.W.nsIn K mainGlobals "written" = some (some (.ref f2)))
    {od2 an2 : Option Addr} {sl2 : Array (Option Value)} {oc2 kV2 dc2 pm2 cd2 ct2 : Value}
    (l2 : K.lookup f2 = some ⟨oc2, od2, .func (PySem.W.fnOf "written" "written" (defArgs sWrt) (defBody sWrt) (defScope sWrt) .none kV2 dc2 pm2 an2 cd2 ct2), sl2⟩) (c2 : PySem.W.codeIn K cd2 "written" = true) (k2 : PySem.W.keepIn K (.ref f2) = true)
    {f3 : Addr} (a3 : PySem.W.nsIn K mainGlobals "is_integer" = some (some (.ref f3)))
    {od3 an3 : Option Addr} {sl3 : Array (Option Value)} {oc3 kV3 dc3 pm3 cd3 ct3 : Value}
    (l3 : K.lookup f3 = some ⟨oc3, od3, .func (PySem.W.fnOf "is_integer" "is_integer" (defArgs sIsI) (defBody sIsI) (defScope sIsI) .none kV3 dc3 pm3 an3 cd3 ct3), sl3⟩) (c3 : PySem.W.codeIn K cd3 "is_integer" = true) (k3 : PySem.W.keepIn K (.ref f3) = true)
    {f4 : Addr} (a4 : PySem.W.nsIn K mainGlobals "is_text" = some (some (.ref f4)))
    {od4 an4 : Option Addr} {sl4 : Array (Option Value)} {oc4 kV4 dc4 pm4 cd4 ct4 : Value}
    (l4 : K.lookup f4 = some ⟨oc4, od4, .func (PySem.W.fnOf "is_text" "is_text" (defArgs sIsT) (defBody sIsT) (defScope sIsT) .none kV4 dc4 pm4 an4 cd4 ct4), sl4⟩) (c4 : PySem.W.codeIn K cd4 "is_text" = true) (k4 : PySem.W.keepIn K (.ref f4) = true)
    {f5 : Addr} (a5 : PySem.W.nsIn K mainGlobals "first_captures" = some (some (.ref f5)))
    {od5 an5 : Option Addr} {sl5 : Array (Option Value)} {oc5 kV5 dc5 pm5 cd5 ct5 : Value}
    (l5 : K.lookup f5 = some ⟨oc5, od5, .func (PySem.W.fnOf "first_captures" "first_captures" (defArgs sFC) (defBody sFC) (defScope sFC) .none kV5 dc5 pm5 an5 cd5 ct5), sl5⟩) (c5 : PySem.W.codeIn K cd5 "first_captures" = true) (k5 : PySem.W.keepIn K (.ref f5) = true)
    {f6 : Addr} (a6 : PySem.W.nsIn K mainGlobals "begun" = some (some (.ref f6)))
    {od6 an6 : Option Addr} {sl6 : Array (Option Value)} {oc6 kV6 dc6 pm6 cd6 ct6 : Value}
    (l6 : K.lookup f6 = some ⟨oc6, od6, .func (PySem.W.fnOf "begun" "begun" (defArgs sBegun) (defBody sBegun) (defScope sBegun) .none kV6 dc6 pm6 an6 cd6 ct6), sl6⟩) (c6 : PySem.W.codeIn K cd6 "begun" = true) (k6 : PySem.W.keepIn K (.ref f6) = true)
    {f7 : Addr} (a7 : PySem.W.nsIn K mainGlobals "gone_on" = some (some (.ref f7)))
    {od7 an7 : Option Addr} {sl7 : Array (Option Value)} {oc7 kV7 dc7 pm7 cd7 ct7 : Value}
    (l7 : K.lookup f7 = some ⟨oc7, od7, .func (PySem.W.fnOf "gone_on" "gone_on" (defArgs sGone) (defBody sGone) (defScope sGone) .none kV7 dc7 pm7 an7 cd7 ct7), sl7⟩) (c7 : PySem.W.codeIn K cd7 "gone_on" = true) (k7 : PySem.W.keepIn K (.ref f7) = true)
    {f8 : Addr} (a8 : PySem.W.nsIn K mainGlobals "can_end" = some (some (.ref f8)))
    {od8 an8 : Option Addr} {sl8 : Array (Option Value)} {oc8 kV8 dc8 pm8 cd8 ct8 : Value}
    (l8 : K.lookup f8 = some ⟨oc8, od8, .func (PySem.W.fnOf "can_end" "can_end" (defArgs sCan) (defBody sCan) (defScope sCan) .none kV8 dc8 pm8 an8 cd8 ct8), sl8⟩) (c8 : PySem.W.codeIn K cd8 "can_end" = true) (k8 : PySem.W.keepIn K (.ref f8) = true)
    {f9 : Addr} (a9 : PySem.W.nsIn K mainGlobals "longest_end" = some (some (.ref f9)))
    {od9 an9 : Option Addr} {sl9 : Array (Option Value)} {oc9 kV9 dc9 pm9 cd9 ct9 : Value}
    (l9 : K.lookup f9 = some ⟨oc9, od9, .func (PySem.W.fnOf "longest_end" "longest_end" (defArgs sLon) (defBody sLon) (defScope sLon) .none kV9 dc9 pm9 an9 cd9 ct9), sl9⟩) (c9 : PySem.W.codeIn K cd9 "longest_end" = true) (k9 : PySem.W.keepIn K (.ref f9) = true)
    {f10 : Addr} (a10 : PySem.W.nsIn K mainGlobals "match_at" = some (some (.ref f10)))
    {od10 an10 : Option Addr} {sl10 : Array (Option Value)} {oc10 kV10 dc10 pm10 cd10 ct10 : Value}
    (l10 : K.lookup f10 = some ⟨oc10, od10, .func (PySem.W.fnOf "match_at" "match_at" (defArgs sMat) (defBody sMat) (defScope sMat) .none kV10 dc10 pm10 an10 cd10 ct10), sl10⟩) (c10 : PySem.W.codeIn K cd10 "match_at" = true) (k10 : PySem.W.keepIn K (.ref f10) = true)
    {f11 : Addr} (a11 : PySem.W.nsIn K mainGlobals "matches" = some (some (.ref f11)))
    {od11 an11 : Option Addr} {sl11 : Array (Option Value)} {oc11 kV11 dc11 pm11 cd11 ct11 : Value}
    (l11 : K.lookup f11 = some ⟨oc11, od11, .func (PySem.W.fnOf "matches" "matches" (defArgs sMts) (defBody sMts) (defScope sMts) .none kV11 dc11 pm11 an11 cd11 ct11), sl11⟩) (c11 : PySem.W.codeIn K cd11 "matches" = true) (k11 : PySem.W.keepIn K (.ref f11) = true)
    {f12 : Addr} (a12 : PySem.W.nsIn K mainGlobals "has_match" = some (some (.ref f12)))
    {od12 an12 : Option Addr} {sl12 : Array (Option Value)} {oc12 kV12 dc12 pm12 cd12 ct12 : Value}
    (l12 : K.lookup f12 = some ⟨oc12, od12, .func (PySem.W.fnOf "has_match" "has_match" (defArgs sHM) (defBody sHM) (defScope sHM) .none kV12 dc12 pm12 an12 cd12 ct12), sl12⟩) (c12 : PySem.W.codeIn K cd12 "has_match" = true) (k12 : PySem.W.keepIn K (.ref f12) = true)
    {f13 : Addr} (a13 : PySem.W.nsIn K mainGlobals "_law_pot" = some (some (.ref f13)))
    {od13 an13 : Option Addr} {sl13 : Array (Option Value)} {oc13 kV13 dc13 pm13 cd13 ct13 : Value}
    (l13 : K.lookup f13 = some ⟨oc13, od13, .func (PySem.W.fnOf "_law_pot" "_law_pot" (defArgs sPot) (defBody sPot) (defScope sPot) .none kV13 dc13 pm13 an13 cd13 ct13), sl13⟩) (c13 : PySem.W.codeIn K cd13 "_law_pot" = true) (k13 : PySem.W.keepIn K (.ref f13) = true)
    {f14 : Addr} (a14 : PySem.W.nsIn K mainGlobals "_law_draw" = some (some (.ref f14)))
    {od14 an14 : Option Addr} {sl14 : Array (Option Value)} {oc14 kV14 dc14 pm14 cd14 ct14 : Value}
    (l14 : K.lookup f14 = some ⟨oc14, od14, .func (PySem.W.fnOf "_law_draw" "_law_draw" (defArgs sDraw) (defBody sDraw) (defScope sDraw) .none kV14 dc14 pm14 an14 cd14 ct14), sl14⟩) (c14 : PySem.W.codeIn K cd14 "_law_draw" = true) (k14 : PySem.W.keepIn K (.ref f14) = true)
    {f15 : Addr} (a15 : PySem.W.nsIn K mainGlobals "_law_any" = some (some (.ref f15)))
    {od15 an15 : Option Addr} {sl15 : Array (Option Value)} {oc15 kV15 dc15 pm15 cd15 ct15 : Value}
    (l15 : K.lookup f15 = some ⟨oc15, od15, .func (PySem.W.fnOf "_law_any" "_law_any" (defArgs sAny) (defBody sAny) (defScope sAny) .none kV15 dc15 pm15 an15 cd15 ct15), sl15⟩) (c15 : PySem.W.codeIn K cd15 "_law_any" = true) (k15 : PySem.W.keepIn K (.ref f15) = true)
    {f16 : Addr} (a16 : PySem.W.nsIn K mainGlobals "_law_mixed" = some (some (.ref f16)))
    {od16 an16 : Option Addr} {sl16 : Array (Option Value)} {oc16 kV16 dc16 pm16 cd16 ct16 : Value}
    (l16 : K.lookup f16 = some ⟨oc16, od16, .func (PySem.W.fnOf "_law_mixed" "_law_mixed" (defArgs sMix) (defBody sMix) (defScope sMix) .none kV16 dc16 pm16 an16 cd16 ct16), sl16⟩) (c16 : PySem.W.codeIn K cd16 "_law_mixed" = true) (k16 : PySem.W.keepIn K (.ref f16) = true)
    {f17 : Addr} (a17 : PySem.W.nsIn K mainGlobals "_law_words" = some (some (.ref f17)))
    {od17 an17 : Option Addr} {sl17 : Array (Option Value)} {oc17 kV17 dc17 pm17 cd17 ct17 : Value}
    (l17 : K.lookup f17 = some ⟨oc17, od17, .func (PySem.W.fnOf "_law_words" "_law_words" (defArgs sWds) (defBody sWds) (defScope sWds) .none kV17 dc17 pm17 an17 cd17 ct17), sl17⟩) (c17 : PySem.W.codeIn K cd17 "_law_words" = true) (k17 : PySem.W.keepIn K (.ref f17) = true)
    {f18 : Addr} (a18 : PySem.W.nsIn K mainGlobals "_law_long_text" = some (some (.ref f18)))
    {od18 an18 : Option Addr} {sl18 : Array (Option Value)} {oc18 kV18 dc18 pm18 cd18 ct18 : Value}
    (l18 : K.lookup f18 = some ⟨oc18, od18, .func (PySem.W.fnOf "_law_long_text" "_law_long_text" (defArgs sLong) (defBody sLong) (defScope sLong) .none kV18 dc18 pm18 an18 cd18 ct18), sl18⟩) (c18 : PySem.W.codeIn K cd18 "_law_long_text" = true) (k18 : PySem.W.keepIn K (.ref f18) = true)
    {f19 : Addr} (a19 : PySem.W.nsIn K mainGlobals "_law_due" = some (some (.ref f19)))
    {od19 an19 : Option Addr} {sl19 : Array (Option Value)} {oc19 kV19 dc19 pm19 cd19 ct19 : Value}
    (l19 : K.lookup f19 = some ⟨oc19, od19, .func (PySem.W.fnOf "_law_due" "_law_due" (defArgs sDue) (defBody sDue) (defScope sDue) .none kV19 dc19 pm19 an19 cd19 ct19), sl19⟩) (c19 : PySem.W.codeIn K cd19 "_law_due" = true) (k19 : PySem.W.keepIn K (.ref f19) = true)
    {f20 : Addr} (a20 : PySem.W.nsIn K mainGlobals "_law_right" = some (some (.ref f20)))
    {od20 an20 : Option Addr} {sl20 : Array (Option Value)} {oc20 kV20 dc20 pm20 cd20 ct20 : Value}
    (l20 : K.lookup f20 = some ⟨oc20, od20, .func (PySem.W.fnOf "_law_right" "_law_right" (defArgs sRt) (defBody sRt) (defScope sRt) .none kV20 dc20 pm20 an20 cd20 ct20), sl20⟩) (c20 : PySem.W.codeIn K cd20 "_law_right" = true) (k20 : PySem.W.keepIn K (.ref f20) = true)
    {f21 : Addr} (a21 : PySem.W.nsIn K mainGlobals "law" = some (some (.ref f21)))
    {od21 an21 : Option Addr} {sl21 : Array (Option Value)} {oc21 kV21 dc21 pm21 cd21 ct21 : Value}
    (l21 : K.lookup f21 = some ⟨oc21, od21, .func (PySem.W.fnOf "law" "law" (defArgs s9Law) (defBody s9Law) (defScope s9Law) .none kV21 dc21 pm21 an21 cd21 ct21), sl21⟩) (c21 : PySem.W.codeIn K cd21 "law" = true) (k21 : PySem.W.keepIn K (.ref f21) = true)
    (z0 : PySem.W.nsIn K mainGlobals "int" = some none)
    (z1 : PySem.W.nsIn K mainGlobals "abs" = some none)
    (z2 : PySem.W.nsIn K mainGlobals "len" = some none)
    (z3 : PySem.W.nsIn K mainGlobals "max" = some none)
    (z4 : PySem.W.nsIn K mainGlobals "min" = some none)
    (z5 : PySem.W.nsIn K mainGlobals "range" = some none)
    (z6 : PySem.W.nsIn K mainGlobals "sum" = some none)
    (z7 : PySem.W.nsIn K mainGlobals "tuple" = some none)
    (z8 : PySem.W.nsIn K mainGlobals "str" = some none)
    (z9 : PySem.W.nsIn K mainGlobals "repr" = some none)
    (z10 : PySem.W.nsIn K mainGlobals "isinstance" = some none)
    (z11 : PySem.W.nsIn K mainGlobals "any" = some none)
    (z12 : PySem.W.nsIn K mainGlobals "sorted" = some none)
    (z13 : PySem.W.nsIn K mainGlobals "set" = some none)
    (z14 : PySem.W.nsIn K mainGlobals "bool" = some none)
    (z15 : PySem.W.nsIn K mainGlobals "all" = some none)
    (z16 : PySem.W.nsIn K mainGlobals "list" = some none)
    (z17 : PySem.W.nsIn K mainGlobals "zip" = some none)
    (z18 : PySem.W.nsIn K mainGlobals "enumerate" = some none)
    (z19 : PySem.W.nsIn K mainGlobals "dict" = some none)
    {tk0 : Tok} (v0 : PySem.W.nsIn K mainGlobals "LETTERS" = some (some (.str (Str.ofString " 0123456789_abcdefghijklmnopqrstuvwxyz") tk0)))
    {tk1 : Tok} (v1 : PySem.W.nsIn K mainGlobals "BEGIN" = some (some (.str (Str.ofString "^") tk1)))
    {tk2 : Tok} (v2 : PySem.W.nsIn K mainGlobals "END" = some (some (.str (Str.ofString "$") tk2)))
    {tk3 : Tok} (v3 : PySem.W.nsIn K mainGlobals "DIGITS" = some (some (.str (Str.ofString "0123456789") tk3)))
    {tk4 : Tok} (v4 : PySem.W.nsIn K mainGlobals "SMALL" = some (some (.str (Str.ofString "abcdefghijklmnopqrstuvwxyz") tk4)))
    {tk5 : Tok} (v5 : PySem.W.nsIn K mainGlobals "MOST_SIGNS" = some (some (.int 60 tk5)))
    {tk6 : Tok} (v6 : PySem.W.nsIn K mainGlobals "MOST_OPEN" = some (some (.int 8 tk6)))
    {tk7 : Tok} (v7 : PySem.W.nsIn K mainGlobals "MOST_NAME" = some (some (.int 8 tk7)))
    {tk8 : Tok} (v8 : PySem.W.nsIn K mainGlobals "MOST_COUNT" = some (some (.int 20 tk8)))
    {tk9 : Tok} (v9 : PySem.W.nsIn K mainGlobals "PLACE_parsing" = some (some (.str (Str.ofString "place") tk9)))
    {tk10 : Tok} (v10 : PySem.W.nsIn K mainGlobals "CHAIN_parsing" = some (some (.str (Str.ofString "chain") tk10)))
    {tk11 : Tok} (v11 : PySem.W.nsIn K mainGlobals "CHOICE_parsing" = some (some (.str (Str.ofString "choice") tk11)))
    {tk12 : Tok} (v12 : PySem.W.nsIn K mainGlobals "COUNT" = some (some (.str (Str.ofString "count") tk12)))
    {tk13 : Tok} (v13 : PySem.W.nsIn K mainGlobals "CAPTURE_parsing" = some (some (.str (Str.ofString "capture") tk13)))
    {tk14 : Tok} (v14 : PySem.W.nsIn K mainGlobals "EMPTY_parsing" = some (some (.str (Str.ofString "empty") tk14)))
    {tk15 : Tok} (v15 : PySem.W.nsIn K mainGlobals "MOST_PLACES" = some (some (.int 24 tk15)))
    {CR : Addr} (aR : PySem.W.nsIn K mainGlobals "PatternReader" = some (some (.ref CR))) (pgR : PySem.W.plainGet K CR Str.empty = true) (hdR : PySem.W.hasDictIn K CR = true) (poR : PySem.W.plainOver K CR = true) (saR : PySem.W.findIn K (.ref CR) "__setattr__" = some (some (.builtin "object.__setattr__"))) (mkR : PySem.W.makesIn K CR = true) (kcR : PySem.W.keepIn K (.ref CR) = true)
    (nR0 : PySem.W.findIn K (.ref CR) "string" = some none)
    (nR1 : PySem.W.findIn K (.ref CR) "spot" = some none)
    (nR2 : PySem.W.findIn K (.ref CR) "names" = some none)
    (nR3 : PySem.W.findIn K (.ref CR) "many_open" = some none)
    {fR0 : Addr} (iR0 : PySem.W.findIn K (.ref CR) "__init__" = some (some (.ref fR0))) (jR0 : PySem.W.isFn K (.ref fR0) = true)
    {odR0 anR0 : Option Addr} {slR0 : Array (Option Value)} {ocR0 kVR0 dcR0 pmR0 cdR0 ctR0 : Value}
    (lR0 : K.lookup fR0 = some ⟨ocR0, odR0, .func (PySem.W.fnOf "__init__" "PatternReader.__init__" (defArgs sRI) (defBody sRI) (defScope sRI) .none kVR0 dcR0 pmR0 anR0 cdR0 ctR0), slR0⟩) (cR0 : PySem.W.codeIn K cdR0 "PatternReader.__init__" = true) (kR0 : PySem.W.keepIn K (.ref fR0) = true)
    {fR1 : Addr} (iR1 : PySem.W.findIn K (.ref CR) "sign" = some (some (.ref fR1))) (jR1 : PySem.W.isFn K (.ref fR1) = true)
    {odR1 anR1 : Option Addr} {slR1 : Array (Option Value)} {ocR1 kVR1 dcR1 pmR1 cdR1 ctR1 : Value}
    (lR1 : K.lookup fR1 = some ⟨ocR1, odR1, .func (PySem.W.fnOf "sign" "PatternReader.sign" (defArgs sSign) (defBody sSign) (defScope sSign) .none kVR1 dcR1 pmR1 anR1 cdR1 ctR1), slR1⟩) (cR1 : PySem.W.codeIn K cdR1 "PatternReader.sign" = true) (kR1 : PySem.W.keepIn K (.ref fR1) = true)
    {fR2 : Addr} (iR2 : PySem.W.findIn K (.ref CR) "skips" = some (some (.ref fR2))) (jR2 : PySem.W.isFn K (.ref fR2) = true)
    {odR2 anR2 : Option Addr} {slR2 : Array (Option Value)} {ocR2 kVR2 dcR2 pmR2 cdR2 ctR2 : Value}
    (lR2 : K.lookup fR2 = some ⟨ocR2, odR2, .func (PySem.W.fnOf "skips" "PatternReader.skips" (defArgs sSkips) (defBody sSkips) (defScope sSkips) .none kVR2 dcR2 pmR2 anR2 cdR2 ctR2), slR2⟩) (cR2 : PySem.W.codeIn K cdR2 "PatternReader.skips" = true) (kR2 : PySem.W.keepIn K (.ref fR2) = true)
    {fR3 : Addr} (iR3 : PySem.W.findIn K (.ref CR) "demand" = some (some (.ref fR3))) (jR3 : PySem.W.isFn K (.ref fR3) = true)
    {odR3 anR3 : Option Addr} {slR3 : Array (Option Value)} {ocR3 kVR3 dcR3 pmR3 cdR3 ctR3 : Value}
    (lR3 : K.lookup fR3 = some ⟨ocR3, odR3, .func (PySem.W.fnOf "demand" "PatternReader.demand" (defArgs sDemand) (defBody sDemand) (defScope sDemand) .none kVR3 dcR3 pmR3 anR3 cdR3 ctR3), slR3⟩) (cR3 : PySem.W.codeIn K cdR3 "PatternReader.demand" = true) (kR3 : PySem.W.keepIn K (.ref fR3) = true)
    {fR4 : Addr} (iR4 : PySem.W.findIn K (.ref CR) "read_whole" = some (some (.ref fR4))) (jR4 : PySem.W.isFn K (.ref fR4) = true)
    {odR4 anR4 : Option Addr} {slR4 : Array (Option Value)} {ocR4 kVR4 dcR4 pmR4 cdR4 ctR4 : Value}
    (lR4 : K.lookup fR4 = some ⟨ocR4, odR4, .func (PySem.W.fnOf "read_whole" "PatternReader.read_whole" (defArgs sWhole) (defBody sWhole) (defScope sWhole) .none kVR4 dcR4 pmR4 anR4 cdR4 ctR4), slR4⟩) (cR4 : PySem.W.codeIn K cdR4 "PatternReader.read_whole" = true) (kR4 : PySem.W.keepIn K (.ref fR4) = true)
    {fR5 : Addr} (iR5 : PySem.W.findIn K (.ref CR) "read_choice" = some (some (.ref fR5))) (jR5 : PySem.W.isFn K (.ref fR5) = true)
    {odR5 anR5 : Option Addr} {slR5 : Array (Option Value)} {ocR5 kVR5 dcR5 pmR5 cdR5 ctR5 : Value}
    (lR5 : K.lookup fR5 = some ⟨ocR5, odR5, .func (PySem.W.fnOf "read_choice" "PatternReader.read_choice" (defArgs sChoice) (defBody sChoice) (defScope sChoice) .none kVR5 dcR5 pmR5 anR5 cdR5 ctR5), slR5⟩) (cR5 : PySem.W.codeIn K cdR5 "PatternReader.read_choice" = true) (kR5 : PySem.W.keepIn K (.ref fR5) = true)
    {fR6 : Addr} (iR6 : PySem.W.findIn K (.ref CR) "read_chain" = some (some (.ref fR6))) (jR6 : PySem.W.isFn K (.ref fR6) = true)
    {odR6 anR6 : Option Addr} {slR6 : Array (Option Value)} {ocR6 kVR6 dcR6 pmR6 cdR6 ctR6 : Value}
    (lR6 : K.lookup fR6 = some ⟨ocR6, odR6, .func (PySem.W.fnOf "read_chain" "PatternReader.read_chain" (defArgs sChain) (defBody sChain) (defScope sChain) .none kVR6 dcR6 pmR6 anR6 cdR6 ctR6), slR6⟩) (cR6 : PySem.W.codeIn K cdR6 "PatternReader.read_chain" = true) (kR6 : PySem.W.keepIn K (.ref fR6) = true)
    {fR7 : Addr} (iR7 : PySem.W.findIn K (.ref CR) "read_item" = some (some (.ref fR7))) (jR7 : PySem.W.isFn K (.ref fR7) = true)
    {odR7 anR7 : Option Addr} {slR7 : Array (Option Value)} {ocR7 kVR7 dcR7 pmR7 cdR7 ctR7 : Value}
    (lR7 : K.lookup fR7 = some ⟨ocR7, odR7, .func (PySem.W.fnOf "read_item" "PatternReader.read_item" (defArgs sItem) (defBody sItem) (defScope sItem) .none kVR7 dcR7 pmR7 anR7 cdR7 ctR7), slR7⟩) (cR7 : PySem.W.codeIn K cdR7 "PatternReader.read_item" = true) (kR7 : PySem.W.keepIn K (.ref fR7) = true)
    {fR8 : Addr} (iR8 : PySem.W.findIn K (.ref CR) "read_number" = some (some (.ref fR8))) (jR8 : PySem.W.isFn K (.ref fR8) = true)
    {odR8 anR8 : Option Addr} {slR8 : Array (Option Value)} {ocR8 kVR8 dcR8 pmR8 cdR8 ctR8 : Value}
    (lR8 : K.lookup fR8 = some ⟨ocR8, odR8, .func (PySem.W.fnOf "read_number" "PatternReader.read_number" (defArgs sNumber) (defBody sNumber) (defScope sNumber) .none kVR8 dcR8 pmR8 anR8 cdR8 ctR8), slR8⟩) (cR8 : PySem.W.codeIn K cdR8 "PatternReader.read_number" = true) (kR8 : PySem.W.keepIn K (.ref fR8) = true)
    {fR9 : Addr} (iR9 : PySem.W.findIn K (.ref CR) "read_unit" = some (some (.ref fR9))) (jR9 : PySem.W.isFn K (.ref fR9) = true)
    {odR9 anR9 : Option Addr} {slR9 : Array (Option Value)} {ocR9 kVR9 dcR9 pmR9 cdR9 ctR9 : Value}
    (lR9 : K.lookup fR9 = some ⟨ocR9, odR9, .func (PySem.W.fnOf "read_unit" "PatternReader.read_unit" (defArgs sUnit) (defBody sUnit) (defScope sUnit) .none kVR9 dcR9 pmR9 anR9 cdR9 ctR9), slR9⟩) (cR9 : PySem.W.codeIn K cdR9 "PatternReader.read_unit" = true) (kR9 : PySem.W.keepIn K (.ref fR9) = true)
    {fR10 : Addr} (iR10 : PySem.W.findIn K (.ref CR) "read_group" = some (some (.ref fR10))) (jR10 : PySem.W.isFn K (.ref fR10) = true)
    {odR10 anR10 : Option Addr} {slR10 : Array (Option Value)} {ocR10 kVR10 dcR10 pmR10 cdR10 ctR10 : Value}
    (lR10 : K.lookup fR10 = some ⟨ocR10, odR10, .func (PySem.W.fnOf "read_group" "PatternReader.read_group" (defArgs sGroup) (defBody sGroup) (defScope sGroup) .none kVR10 dcR10 pmR10 anR10 cdR10 ctR10), slR10⟩) (cR10 : PySem.W.codeIn K cdR10 "PatternReader.read_group" = true) (kR10 : PySem.W.keepIn K (.ref fR10) = true)
    {fR11 : Addr} (iR11 : PySem.W.findIn K (.ref CR) "read_capture" = some (some (.ref fR11))) (jR11 : PySem.W.isFn K (.ref fR11) = true)
    {odR11 anR11 : Option Addr} {slR11 : Array (Option Value)} {ocR11 kVR11 dcR11 pmR11 cdR11 ctR11 : Value}
    (lR11 : K.lookup fR11 = some ⟨ocR11, odR11, .func (PySem.W.fnOf "read_capture" "PatternReader.read_capture" (defArgs sCapture) (defBody sCapture) (defScope sCapture) .none kVR11 dcR11 pmR11 anR11 cdR11 ctR11), slR11⟩) (cR11 : PySem.W.codeIn K cdR11 "PatternReader.read_capture" = true) (kR11 : PySem.W.keepIn K (.ref fR11) = true)
    {fR12 : Addr} (iR12 : PySem.W.findIn K (.ref CR) "read_class" = some (some (.ref fR12))) (jR12 : PySem.W.isFn K (.ref fR12) = true)
    {odR12 anR12 : Option Addr} {slR12 : Array (Option Value)} {ocR12 kVR12 dcR12 pmR12 cdR12 ctR12 : Value}
    (lR12 : K.lookup fR12 = some ⟨ocR12, odR12, .func (PySem.W.fnOf "read_class" "PatternReader.read_class" (defArgs sClass) (defBody sClass) (defScope sClass) .none kVR12 dcR12 pmR12 anR12 cdR12 ctR12), slR12⟩) (cR12 : PySem.W.codeIn K cdR12 "PatternReader.read_class" = true) (kR12 : PySem.W.keepIn K (.ref fR12) = true)
    {fR13 : Addr} (iR13 : PySem.W.findIn K (.ref CR) "read_part" = some (some (.ref fR13))) (jR13 : PySem.W.isFn K (.ref fR13) = true)
    {odR13 anR13 : Option Addr} {slR13 : Array (Option Value)} {ocR13 kVR13 dcR13 pmR13 cdR13 ctR13 : Value}
    (lR13 : K.lookup fR13 = some ⟨ocR13, odR13, .func (PySem.W.fnOf "read_part" "PatternReader.read_part" (defArgs sPart) (defBody sPart) (defScope sPart) .none kVR13 dcR13 pmR13 anR13 cdR13 ctR13), slR13⟩) (cR13 : PySem.W.codeIn K cdR13 "PatternReader.read_part" = true) (kR13 : PySem.W.keepIn K (.ref fR13) = true)
    {CW : Addr} (aW : PySem.W.nsIn K mainGlobals "Written" = some (some (.ref CW))) (pgW : PySem.W.plainGet K CW Str.empty = true) (hdW : PySem.W.hasDictIn K CW = true) (poW : PySem.W.plainOver K CW = true) (saW : PySem.W.findIn K (.ref CW) "__setattr__" = some (some (.builtin "object.__setattr__"))) (mkW : PySem.W.makesIn K CW = true) (kcW : PySem.W.keepIn K (.ref CW) = true)
    (nW0 : PySem.W.findIn K (.ref CW) "letters" = some none)
    (nW1 : PySem.W.findIn K (.ref CW) "followers" = some none)
    {fW0 : Addr} (iW0 : PySem.W.findIn K (.ref CW) "__init__" = some (some (.ref fW0))) (jW0 : PySem.W.isFn K (.ref fW0) = true)
    {odW0 anW0 : Option Addr} {slW0 : Array (Option Value)} {ocW0 kVW0 dcW0 pmW0 cdW0 ctW0 : Value}
    (lW0 : K.lookup fW0 = some ⟨ocW0, odW0, .func (PySem.W.fnOf "__init__" "Written.__init__" (defArgs sWI) (defBody sWI) (defScope sWI) .none kVW0 dcW0 pmW0 anW0 cdW0 ctW0), slW0⟩) (cW0 : PySem.W.codeIn K cdW0 "Written.__init__" = true) (kW0 : PySem.W.keepIn K (.ref fW0) = true)
    {fW1 : Addr} (iW1 : PySem.W.findIn K (.ref CW) "link" = some (some (.ref fW1))) (jW1 : PySem.W.isFn K (.ref fW1) = true)
    {odW1 anW1 : Option Addr} {slW1 : Array (Option Value)} {ocW1 kVW1 dcW1 pmW1 cdW1 ctW1 : Value}
    (lW1 : K.lookup fW1 = some ⟨ocW1, odW1, .func (PySem.W.fnOf "link" "Written.link" (defArgs sLink) (defBody sLink) (defScope sLink) .none kVW1 dcW1 pmW1 anW1 cdW1 ctW1), slW1⟩) (cW1 : PySem.W.codeIn K cdW1 "Written.link" = true) (kW1 : PySem.W.keepIn K (.ref fW1) = true)
    {fW2 : Addr} (iW2 : PySem.W.findIn K (.ref CW) "joined" = some (some (.ref fW2))) (jW2 : PySem.W.isFn K (.ref fW2) = true)
    {odW2 anW2 : Option Addr} {slW2 : Array (Option Value)} {ocW2 kVW2 dcW2 pmW2 cdW2 ctW2 : Value}
    (lW2 : K.lookup fW2 = some ⟨ocW2, odW2, .func (PySem.W.fnOf "joined" "Written.joined" (defArgs sJoined) (defBody sJoined) (defScope sJoined) .none kVW2 dcW2 pmW2 anW2 cdW2 ctW2), slW2⟩) (cW2 : PySem.W.codeIn K cdW2 "Written.joined" = true) (kW2 : PySem.W.keepIn K (.ref fW2) = true)
    {fW3 : Addr} (iW3 : PySem.W.findIn K (.ref CW) "part_of" = some (some (.ref fW3))) (jW3 : PySem.W.isFn K (.ref fW3) = true)
    {odW3 anW3 : Option Addr} {slW3 : Array (Option Value)} {ocW3 kVW3 dcW3 pmW3 cdW3 ctW3 : Value}
    (lW3 : K.lookup fW3 = some ⟨ocW3, odW3, .func (PySem.W.fnOf "part_of" "Written.part_of" (defArgs sPartOf) (defBody sPartOf) (defScope sPartOf) .none kVW3 dcW3 pmW3 anW3 cdW3 ctW3), slW3⟩) (cW3 : PySem.W.codeIn K cdW3 "Written.part_of" = true) (kW3 : PySem.W.keepIn K (.ref fW3) = true)
    {fW4 : Addr} (iW4 : PySem.W.findIn K (.ref CW) "counted" = some (some (.ref fW4))) (jW4 : PySem.W.isFn K (.ref fW4) = true)
    {odW4 anW4 : Option Addr} {slW4 : Array (Option Value)} {ocW4 kVW4 dcW4 pmW4 cdW4 ctW4 : Value}
    (lW4 : K.lookup fW4 = some ⟨ocW4, odW4, .func (PySem.W.fnOf "counted" "Written.counted" (defArgs sCounted) (defBody sCounted) (defScope sCounted) .none kVW4 dcW4 pmW4 anW4 cdW4 ctW4), slW4⟩) (cW4 : PySem.W.codeIn K cdW4 "Written.counted" = true) (kW4 : PySem.W.keepIn K (.ref fW4) = true)
    {CP : Addr} (aP : PySem.W.nsIn K mainGlobals "Pattern" = some (some (.ref CP))) (pgP : PySem.W.plainGet K CP Str.empty = true) (hdP : PySem.W.hasDictIn K CP = true) (poP : PySem.W.plainOver K CP = true) (saP : PySem.W.findIn K (.ref CP) "__setattr__" = some (some (.builtin "object.__setattr__"))) (mkP : PySem.W.makesIn K CP = true) (kcP : PySem.W.keepIn K (.ref CP) = true)
    (nP0 : PySem.W.findIn K (.ref CP) "is_bound_left" = some none)
    (nP1 : PySem.W.findIn K (.ref CP) "tree" = some none)
    (nP2 : PySem.W.findIn K (.ref CP) "is_bound_right" = some none)
    (nP3 : PySem.W.findIn K (.ref CP) "string" = some none)
    (nP4 : PySem.W.findIn K (.ref CP) "names" = some none)
    (nP5 : PySem.W.findIn K (.ref CP) "places" = some none)
    (nP6 : PySem.W.findIn K (.ref CP) "first" = some none)
    (nP7 : PySem.W.findIn K (.ref CP) "last" = some none)
    (nP8 : PySem.W.findIn K (.ref CP) "later_places" = some none)
    {fP0 : Addr} (iP0 : PySem.W.findIn K (.ref CP) "__init__" = some (some (.ref fP0))) (jP0 : PySem.W.isFn K (.ref fP0) = true)
    {odP0 anP0 : Option Addr} {slP0 : Array (Option Value)} {ocP0 kVP0 dcP0 pmP0 cdP0 ctP0 : Value}
    (lP0 : K.lookup fP0 = some ⟨ocP0, odP0, .func (PySem.W.fnOf "__init__" "Pattern.__init__" (defArgs sPI) (defBody sPI) (defScope sPI) .none kVP0 dcP0 pmP0 anP0 cdP0 ctP0), slP0⟩) (cP0 : PySem.W.codeIn K cdP0 "Pattern.__init__" = true) (kP0 : PySem.W.keepIn K (.ref fP0) = true)
    {fP1 : Addr} (iP1 : PySem.W.findIn K (.ref CP) "__eq__" = some (some (.ref fP1))) (jP1 : PySem.W.isFn K (.ref fP1) = true)
    {odP1 anP1 : Option Addr} {slP1 : Array (Option Value)} {ocP1 kVP1 dcP1 pmP1 cdP1 ctP1 : Value}
    (lP1 : K.lookup fP1 = some ⟨ocP1, odP1, .func (PySem.W.fnOf "__eq__" "Pattern.__eq__" (defArgs sPEq) (defBody sPEq) (defScope sPEq) .none kVP1 dcP1 pmP1 anP1 cdP1 ctP1), slP1⟩) (cP1 : PySem.W.codeIn K cdP1 "Pattern.__eq__" = true) (kP1 : PySem.W.keepIn K (.ref fP1) = true)
    {fP2 : Addr} (iP2 : PySem.W.findIn K (.ref CP) "behind" = some (some (.ref fP2))) (jP2 : PySem.W.isFn K (.ref fP2) = true)
    {odP2 anP2 : Option Addr} {slP2 : Array (Option Value)} {ocP2 kVP2 dcP2 pmP2 cdP2 ctP2 : Value}
    (lP2 : K.lookup fP2 = some ⟨ocP2, odP2, .func (PySem.W.fnOf "behind" "Pattern.behind" (defArgs sBeh) (defBody sBeh) (defScope sBeh) .none kVP2 dcP2 pmP2 anP2 cdP2 ctP2), slP2⟩) (cP2 : PySem.W.codeIn K cdP2 "Pattern.behind" = true) (kP2 : PySem.W.keepIn K (.ref fP2) = true)
    {CM : Addr} (aM : PySem.W.nsIn K mainGlobals "Match" = some (some (.ref CM))) (pgM : PySem.W.plainGet K CM Str.empty = true) (hdM : PySem.W.hasDictIn K CM = true) (poM : PySem.W.plainOver K CM = true) (saM : PySem.W.findIn K (.ref CM) "__setattr__" = some (some (.builtin "object.__setattr__"))) (mkM : PySem.W.makesIn K CM = true) (kcM : PySem.W.keepIn K (.ref CM) = true)
    (nM0 : PySem.W.findIn K (.ref CM) "own_start" = some none)
    (nM1 : PySem.W.findIn K (.ref CM) "own_word" = some none)
    (nM2 : PySem.W.findIn K (.ref CM) "spans" = some none)
    {fM0 : Addr} (iM0 : PySem.W.findIn K (.ref CM) "__init__" = some (some (.ref fM0))) (jM0 : PySem.W.isFn K (.ref fM0) = true)
    {odM0 anM0 : Option Addr} {slM0 : Array (Option Value)} {ocM0 kVM0 dcM0 pmM0 cdM0 ctM0 : Value}
    (lM0 : K.lookup fM0 = some ⟨ocM0, odM0, .func (PySem.W.fnOf "__init__" "Match.__init__" (defArgs sMI) (defBody sMI) (defScope sMI) .none kVM0 dcM0 pmM0 anM0 cdM0 ctM0), slM0⟩) (cM0 : PySem.W.codeIn K cdM0 "Match.__init__" = true) (kM0 : PySem.W.keepIn K (.ref fM0) = true)
    {pp0 fM1 : Addr} {rr0 : List Value} (pa0 : PySem.W.findIn K (.ref CM) "start" = some (some (.ref pp0))) (pr0 : PySem.W.recIn K pp0 "property" = some (.ref fM1 :: rr0)) (pt0 : PySem.W.takesIn K (.ref pp0) = some true) (pg0 : PySem.W.specialIn K (.ref pp0) "__get__" = some (some (.builtin "property.__get__")))
    {odM1 anM1 : Option Addr} {slM1 : Array (Option Value)} {ocM1 kVM1 dcM1 pmM1 cdM1 ctM1 : Value}
    (lM1 : K.lookup fM1 = some ⟨ocM1, odM1, .func (PySem.W.fnOf "start" "Match.start" (defArgs sMst) (defBody sMst) (defScope sMst) .none kVM1 dcM1 pmM1 anM1 cdM1 ctM1), slM1⟩) (cM1 : PySem.W.codeIn K cdM1 "Match.start" = true) (kM1 : PySem.W.keepIn K (.ref fM1) = true)
    {pp1 fM2 : Addr} {rr1 : List Value} (pa1 : PySem.W.findIn K (.ref CM) "end" = some (some (.ref pp1))) (pr1 : PySem.W.recIn K pp1 "property" = some (.ref fM2 :: rr1)) (pt1 : PySem.W.takesIn K (.ref pp1) = some true) (pg1 : PySem.W.specialIn K (.ref pp1) "__get__" = some (some (.builtin "property.__get__")))
    {odM2 anM2 : Option Addr} {slM2 : Array (Option Value)} {ocM2 kVM2 dcM2 pmM2 cdM2 ctM2 : Value}
    (lM2 : K.lookup fM2 = some ⟨ocM2, odM2, .func (PySem.W.fnOf "end" "Match.end" (defArgs sMen) (defBody sMen) (defScope sMen) .none kVM2 dcM2 pmM2 anM2 cdM2 ctM2), slM2⟩) (cM2 : PySem.W.codeIn K cdM2 "Match.end" = true) (kM2 : PySem.W.keepIn K (.ref fM2) = true)
    {pp2 fM3 : Addr} {rr2 : List Value} (pa2 : PySem.W.findIn K (.ref CM) "word" = some (some (.ref pp2))) (pr2 : PySem.W.recIn K pp2 "property" = some (.ref fM3 :: rr2)) (pt2 : PySem.W.takesIn K (.ref pp2) = some true) (pg2 : PySem.W.specialIn K (.ref pp2) "__get__" = some (some (.builtin "property.__get__")))
    {odM3 anM3 : Option Addr} {slM3 : Array (Option Value)} {ocM3 kVM3 dcM3 pmM3 cdM3 ctM3 : Value}
    (lM3 : K.lookup fM3 = some ⟨ocM3, odM3, .func (PySem.W.fnOf "word" "Match.word" (defArgs sMwo) (defBody sMwo) (defScope sMwo) .none kVM3 dcM3 pmM3 anM3 cdM3 ctM3), slM3⟩) (cM3 : PySem.W.codeIn K cdM3 "Match.word" = true) (kM3 : PySem.W.keepIn K (.ref fM3) = true)
    (ha : PySem.W.findIn K (.ref CP) "__class__" = some (some (.builtin "object.__class__"))) (hn : PySem.W.specialIn K (.builtin "object.__class__") "__get__" = some (some (.builtin "getset_descriptor.__get__"))) (ht : PySem.W.takesIn K (.builtin "object.__class__") = some true) (hm : PySem.W.mroIn K CP (.type "object") = some true)
    (kk1 : PySem.W.kitOne K (.ref CP) (.ref CP) = some true) (kk2 : PySem.W.kitOne K (.type "str") (.ref CP) = some false) (sb : PySem.W.subIn K (.type "str") (.ref CP) = some false)
    {dd T0 T1 T2 : Addr} {ces : Array DictEntry} {cn n0 n1 n2 : Nat} {d0 d1 d2 : Option Addr} {s0 s1 s2 : Array (Option Value)} {ta tb tc td : Tok}
    (aCs : PySem.W.nsIn K mainGlobals "COUNTS" = some (some (.ref dd))) (lCs : K.lookup dd = some ⟨.type "dict", none, .dict ces cn, #[]⟩) (klCs : PySem.W.KeysLit w.params ces.toList) (loCs : (dd == sysModules) = false)
    (q0 : PySem.W.nsIn K dd "*" = some (some (.ref T0))) (q1 : PySem.W.nsIn K dd "+" = some (some (.ref T1))) (q2 : PySem.W.nsIn K dd "?" = some (some (.ref T2)))
    (qk : ∃ h1 h2 h3 t1 t2 t3 v1 v2 v3, ces.toList = [⟨h1, .str (Str.ofString "*") t1, v1⟩, ⟨h2, .str (Str.ofString "+") t2, v2⟩, ⟨h3, .str (Str.ofString "?") t3, v3⟩])
    (lT0 : K.lookup T0 = some ⟨.type "tuple", d0, .seq [Value.int 0 ta, Value.none].toArray n0, s0⟩) (lT1 : K.lookup T1 = some ⟨.type "tuple", d1, .seq [Value.int 1 tb, Value.none].toArray n1, s1⟩) (lT2 : K.lookup T2 = some ⟨.type "tuple", d2, .seq [Value.int 0 tc, Value.int 1 td].toArray n2, s2⟩)
    : ∃ fd : FuncData, (∀ (s : Shared) (v : Value), BindsTo s fd ⟨[v], []⟩ [("_law_script", v)]) ∧ ∀ base : Heap, K.In base → base.Ns mainGlobals mg → FnG l.prog w K mg base 98 fa fd ["_law_script"] (sp9Law K) := by
  have e := hfa.symm.trans (PySem.W.mg_of X G a21)
  cases e
  have F0 := fun_mk (st := sRp) l0 c0 k0
  have b0 := F0.binds (ps := ["value"]) fun _ _ _ _ _ _ us hl => match us, hl with | [_], _ => rfl
  have g0 := PySem.W.mg_of X G a0
  have F1 := fun_mk (st := sSize) l1 c1 k1
  have b1 := F1.binds (ps := ["tree"]) fun _ _ _ _ _ _ us hl => match us, hl with | [_], _ => rfl
  have g1 := PySem.W.mg_of X G a1
  have F2 := fun_mk (st := sWrt) l2 c2 k2
  have b2 := F2.binds (ps := ["tree"]) fun _ _ _ _ _ _ us hl => match us, hl with | [_], _ => rfl
  have g2 := PySem.W.mg_of X G a2
  have F3 := fun_mk (st := sIsI) l3 c3 k3
  have b3 := F3.binds (ps := ["value", "least", "greatest"]) fun _ _ _ _ _ _ us hl => match us, hl with | [_, _, _], _ => rfl
  have g3 := PySem.W.mg_of X G a3
  have F4 := fun_mk (st := sIsT) l4 c4 k4
  have b4 := F4.binds (ps := ["value"]) fun _ _ _ _ _ _ us hl => match us, hl with | [_], _ => rfl
  have g4 := PySem.W.mg_of X G a4
  have F5 := fun_mk (st := sFC) l5 c5 k5
  have b5 := F5.binds (ps := ["tree", "word"]) fun _ _ _ _ _ _ us hl => match us, hl with | [_, _], _ => rfl
  have g5 := PySem.W.mg_of X G a5
  have F6 := fun_mk (st := sBegun) l6 c6 k6
  have b6 := F6.binds (ps := ["pattern", "letter"]) fun _ _ _ _ _ _ us hl => match us, hl with | [_, _], _ => rfl
  have g6 := PySem.W.mg_of X G a6
  have F7 := fun_mk (st := sGone) l7 c7 k7
  have b7 := F7.binds (ps := ["pattern", "some", "letter"]) fun _ _ _ _ _ _ us hl => match us, hl with | [_, _, _], _ => rfl
  have g7 := PySem.W.mg_of X G a7
  have F8 := fun_mk (st := sCan) l8 c8 k8
  have b8 := F8.binds (ps := ["pattern", "some"]) fun _ _ _ _ _ _ us hl => match us, hl with | [_, _], _ => rfl
  have g8 := PySem.W.mg_of X G a8
  have F9 := fun_mk (st := sLon) l9 c9 k9
  have b9 := F9.binds (ps := ["pattern", "text", "start"]) fun _ _ _ _ _ _ us hl => match us, hl with | [_, _, _], _ => rfl
  have g9 := PySem.W.mg_of X G a9
  have F10 := fun_mk (st := sMat) l10 c10 k10
  have b10 := F10.binds (ps := ["pattern", "text", "start", "end"]) fun _ _ _ _ _ _ us hl => match us, hl with | [_, _, _, _], _ => rfl
  have g10 := PySem.W.mg_of X G a10
  have F11 := fun_mk (st := sMts) l11 c11 k11
  have b11 := F11.binds (ps := ["pattern", "text"]) fun _ _ _ _ _ _ us hl => match us, hl with | [_, _], _ => rfl
  have g11 := PySem.W.mg_of X G a11
  have F12 := fun_mk (st := sHM) l12 c12 k12
  have b12 := F12.binds (ps := ["pattern", "text"]) fun _ _ _ _ _ _ us hl => match us, hl with | [_, _], _ => rfl
  have g12 := PySem.W.mg_of X G a12
  have F13 := fun_mk (st := sPot) l13 c13 k13
  have b13 := F13.binds (ps := ["_law_script", "_law_k"]) fun _ _ _ _ _ _ us hl => match us, hl with | [_, _], _ => rfl
  have g13 := PySem.W.mg_of X G a13
  have F14 := fun_mk (st := sDraw) l14 c14 k14
  have b14 := F14.binds (ps := ["_law_pot_here", "_law_many"]) fun _ _ _ _ _ _ us hl => match us, hl with | [_, _], _ => rfl
  have g14 := PySem.W.mg_of X G a14
  have F15 := fun_mk (st := sAny) l15 c15 k15
  have b15 := F15.binds (ps := ["_law_pot_here", "_law_items"]) fun _ _ _ _ _ _ us hl => match us, hl with | [_, _], _ => rfl
  have g15 := PySem.W.mg_of X G a15
  have F16 := fun_mk (st := sMix) l16 c16 k16
  have b16 := F16.binds (ps := ["_law_pot_here", "_law_items"]) fun _ _ _ _ _ _ us hl => match us, hl with | [_, _], _ => rfl
  have g16 := PySem.W.mg_of X G a16
  have F17 := fun_mk (st := sWds) l17 c17 k17
  have b17 := F17.binds (ps := ["_law_pot_here"]) fun _ _ _ _ _ _ us hl => match us, hl with | [_], _ => rfl
  have g17 := PySem.W.mg_of X G a17
  have F18 := fun_mk (st := sLong) l18 c18 k18
  have b18 := F18.binds (ps := ["_law_pot_here", "_law_words_here"]) fun _ _ _ _ _ _ us hl => match us, hl with | [_, _], _ => rfl
  have g18 := PySem.W.mg_of X G a18
  have F19 := fun_mk (st := sDue) l19 c19 k19
  have b19 := F19.binds (ps := ["_law_words_here", "_law_text"]) fun _ _ _ _ _ _ us hl => match us, hl with | [_, _], _ => rfl
  have g19 := PySem.W.mg_of X G a19
  have F20 := fun_mk (st := sRt) l20 c20 k20
  have b20 := F20.binds (ps := ["_law_pot_here"]) fun _ _ _ _ _ _ us hl => match us, hl with | [_], _ => rfl
  have g20 := PySem.W.mg_of X G a20
  have F21 := fun_mk (st := s9Law) l21 c21 k21
  have g21 := PySem.W.mg_of X G a21
  have m_int := PySem.W.mg_none_of X G z0
  have m_abs := PySem.W.mg_none_of X G z1
  have m_len := PySem.W.mg_none_of X G z2
  have m_max := PySem.W.mg_none_of X G z3
  have m_min := PySem.W.mg_none_of X G z4
  have m_range := PySem.W.mg_none_of X G z5
  have m_sum := PySem.W.mg_none_of X G z6
  have m_tuple := PySem.W.mg_none_of X G z7
  have m_str := PySem.W.mg_none_of X G z8
  have m_repr := PySem.W.mg_none_of X G z9
  have m_isinstance := PySem.W.mg_none_of X G z10
  have m_any := PySem.W.mg_none_of X G z11
  have m_sorted := PySem.W.mg_none_of X G z12
  have m_set := PySem.W.mg_none_of X G z13
  have m_bool := PySem.W.mg_none_of X G z14
  have m_all := PySem.W.mg_none_of X G z15
  have m_list := PySem.W.mg_none_of X G z16
  have m_zip := PySem.W.mg_none_of X G z17
  have m_enumerate := PySem.W.mg_none_of X G z18
  have m_dict := PySem.W.mg_none_of X G z19
  have y0 := PySem.W.mg_of X G v0
  have y1 := PySem.W.mg_of X G v1
  have y2 := PySem.W.mg_of X G v2
  have y3 := PySem.W.mg_of X G v3
  have y4 := PySem.W.mg_of X G v4
  have y5 := PySem.W.mg_of X G v5
  have y6 := PySem.W.mg_of X G v6
  have y7 := PySem.W.mg_of X G v7
  have y8 := PySem.W.mg_of X G v8
  have y9 := PySem.W.mg_of X G v9
  have y10 := PySem.W.mg_of X G v10
  have y11 := PySem.W.mg_of X G v11
  have y12 := PySem.W.mg_of X G v12
  have y13 := PySem.W.mg_of X G v13
  have y14 := PySem.W.mg_of X G v14
  have y15 := PySem.W.mg_of X G v15
  have gR := PySem.W.mg_of X G aR
  have FR0 := fun_mk (st := sRI) lR0 cR0 kR0
  have bR0 := FR0.binds (ps := ["self", "string"]) fun _ _ _ _ _ _ us hl => match us, hl with | [_, _], _ => rfl
  have FR1 := fun_mk (st := sSign) lR1 cR1 kR1
  have bR1 := FR1.binds (ps := ["self"]) fun _ _ _ _ _ _ us hl => match us, hl with | [_], _ => rfl
  have FR2 := fun_mk (st := sSkips) lR2 cR2 kR2
  have bR2 := FR2.binds (ps := ["self", "sign"]) fun _ _ _ _ _ _ us hl => match us, hl with | [_, _], _ => rfl
  have FR3 := fun_mk (st := sDemand) lR3 cR3 kR3
  have bR3 := FR3.binds (ps := ["self", "is_right"]) fun _ _ _ _ _ _ us hl => match us, hl with | [_, _], _ => rfl
  have FR4 := fun_mk (st := sWhole) lR4 cR4 kR4
  have bR4 := FR4.binds (ps := ["self"]) fun _ _ _ _ _ _ us hl => match us, hl with | [_], _ => rfl
  have FR5 := fun_mk (st := sChoice) lR5 cR5 kR5
  have bR5 := FR5.binds (ps := ["self"]) fun _ _ _ _ _ _ us hl => match us, hl with | [_], _ => rfl
  have FR6 := fun_mk (st := sChain) lR6 cR6 kR6
  have bR6 := FR6.binds (ps := ["self"]) fun _ _ _ _ _ _ us hl => match us, hl with | [_], _ => rfl
  have FR7 := fun_mk (st := sItem) lR7 cR7 kR7
  have bR7 := FR7.binds (ps := ["self"]) fun _ _ _ _ _ _ us hl => match us, hl with | [_], _ => rfl
  have FR8 := fun_mk (st := sNumber) lR8 cR8 kR8
  have bR8 := FR8.binds (ps := ["self"]) fun _ _ _ _ _ _ us hl => match us, hl with | [_], _ => rfl
  have FR9 := fun_mk (st := sUnit) lR9 cR9 kR9
  have bR9 := FR9.binds (ps := ["self"]) fun _ _ _ _ _ _ us hl => match us, hl with | [_], _ => rfl
  have FR10 := fun_mk (st := sGroup) lR10 cR10 kR10
  have bR10 := FR10.binds (ps := ["self"]) fun _ _ _ _ _ _ us hl => match us, hl with | [_], _ => rfl
  have FR11 := fun_mk (st := sCapture) lR11 cR11 kR11
  have bR11 := FR11.binds (ps := ["self"]) fun _ _ _ _ _ _ us hl => match us, hl with | [_], _ => rfl
  have FR12 := fun_mk (st := sClass) lR12 cR12 kR12
  have bR12 := FR12.binds (ps := ["self"]) fun _ _ _ _ _ _ us hl => match us, hl with | [_], _ => rfl
  have FR13 := fun_mk (st := sPart) lR13 cR13 kR13
  have bR13 := FR13.binds (ps := ["self"]) fun _ _ _ _ _ _ us hl => match us, hl with | [_], _ => rfl
  have gW := PySem.W.mg_of X G aW
  have FW0 := fun_mk (st := sWI) lW0 cW0 kW0
  have bW0 := FW0.binds (ps := ["self"]) fun _ _ _ _ _ _ us hl => match us, hl with | [_], _ => rfl
  have FW1 := fun_mk (st := sLink) lW1 cW1 kW1
  have bW1 := FW1.binds (ps := ["self", "ahead", "later"]) fun _ _ _ _ _ _ us hl => match us, hl with | [_, _, _], _ => rfl
  have FW2 := fun_mk (st := sJoined) lW2 cW2 kW2
  have bW2 := FW2.binds (ps := ["self", "one", "other"]) fun _ _ _ _ _ _ us hl => match us, hl with | [_, _, _], _ => rfl
  have FW3 := fun_mk (st := sPartOf) lW3 cW3 kW3
  have bW3 := FW3.binds (ps := ["self", "tree"]) fun _ _ _ _ _ _ us hl => match us, hl with | [_, _], _ => rfl
  have FW4 := fun_mk (st := sCounted) lW4 cW4 kW4
  have bW4 := FW4.binds (ps := ["self", "least", "most", "tree"]) fun _ _ _ _ _ _ us hl => match us, hl with | [_, _, _, _], _ => rfl
  have gP := PySem.W.mg_of X G aP
  have FP0 := fun_mk (st := sPI) lP0 cP0 kP0
  have bP0 := FP0.binds (ps := ["self", "string"]) fun _ _ _ _ _ _ us hl => match us, hl with | [_, _], _ => rfl
  have FP1 := fun_mk (st := sPEq) lP1 cP1 kP1
  have bP1 := FP1.binds (ps := ["self", "other"]) fun _ _ _ _ _ _ us hl => match us, hl with | [_, _], _ => rfl
  have FP2 := fun_mk (st := sBeh) lP2 cP2 kP2
  have bP2 := FP2.binds (ps := ["self", "place"]) fun _ _ _ _ _ _ us hl => match us, hl with | [_, _], _ => rfl
  have gM := PySem.W.mg_of X G aM
  have FM0 := fun_mk (st := sMI) lM0 cM0 kM0
  have bM0 := FM0.binds (ps := ["self", "start", "word", "spans"]) fun _ _ _ _ _ _ us hl => match us, hl with | [_, _, _, _], _ => rfl
  have FM1 := fun_mk (st := sMst) lM1 cM1 kM1
  have bM1 := FM1.binds (ps := ["self"]) fun _ _ _ _ _ _ us hl => match us, hl with | [_], _ => rfl
  have FM2 := fun_mk (st := sMen) lM2 cM2 kM2
  have bM2 := FM2.binds (ps := ["self"]) fun _ _ _ _ _ _ us hl => match us, hl with | [_], _ => rfl
  have FM3 := fun_mk (st := sMwo) lM3 cM3 kM3
  have bM3 := FM3.binds (ps := ["self"]) fun _ _ _ _ _ _ us hl => match us, hl with | [_], _ => rfl
  have gCs := PySem.W.mg_of X G aCs
  have cz : ∀ z : Str, z ≠ Str.ofString "*" → z ≠ Str.ofString "+" → z ≠ Str.ofString "?" → PySem.W.nsIn K dd z = some none := fun z z1 z2 z3 => by
    obtain ⟨h1, h2, h3, t1, t2, t3, v1, v2, v3, he⟩ := qk
    have p1 : ∀ (y : Str) (t : Tok), z ≠ y → (Value.str y t).isStr z = false := fun y t n => by
      show (y == z) = false
      exact beq_eq_false_iff_ne.mpr (Ne.symm n)
    unfold PySem.W.nsIn
    rw [lCs]
    dsimp only
    rw [he, List.find?_cons, List.find?_cons, List.find?_cons, List.find?_nil]
    dsimp only
    rw [p1 _ _ z1, p1 _ _ z2, p1 _ _ z3] <;> rfl
  let tk : Nat → Tok := fun i => [tk0, tk1, tk2, tk3, tk4, tk5, tk6, tk7, tk8, tk9, tk10, tk11, tk12, tk13, tk14, tk15].getD i tk0
  let fR : Nat → Addr := fun i => [fR0, fR1, fR2, fR3, fR4, fR5, fR6, fR7, fR8, fR9, fR10, fR11, fR12, fR13].getD i fR0
  let dR : Nat → FuncData := fun i => [(PySem.W.fnOf "__init__" "PatternReader.__init__" (defArgs sRI) (defBody sRI) (defScope sRI) .none kVR0 dcR0 pmR0 anR0 cdR0 ctR0), (PySem.W.fnOf "sign" "PatternReader.sign" (defArgs sSign) (defBody sSign) (defScope sSign) .none kVR1 dcR1 pmR1 anR1 cdR1 ctR1), (PySem.W.fnOf "skips" "PatternReader.skips" (defArgs sSkips) (defBody sSkips) (defScope sSkips) .none kVR2 dcR2 pmR2 anR2 cdR2 ctR2), (PySem.W.fnOf "demand" "PatternReader.demand" (defArgs sDemand) (defBody sDemand) (defScope sDemand) .none kVR3 dcR3 pmR3 anR3 cdR3 ctR3), (PySem.W.fnOf "read_whole" "PatternReader.read_whole" (defArgs sWhole) (defBody sWhole) (defScope sWhole) .none kVR4 dcR4 pmR4 anR4 cdR4 ctR4), (PySem.W.fnOf "read_choice" "PatternReader.read_choice" (defArgs sChoice) (defBody sChoice) (defScope sChoice) .none kVR5 dcR5 pmR5 anR5 cdR5 ctR5), (PySem.W.fnOf "read_chain" "PatternReader.read_chain" (defArgs sChain) (defBody sChain) (defScope sChain) .none kVR6 dcR6 pmR6 anR6 cdR6 ctR6), (PySem.W.fnOf "read_item" "PatternReader.read_item" (defArgs sItem) (defBody sItem) (defScope sItem) .none kVR7 dcR7 pmR7 anR7 cdR7 ctR7), (PySem.W.fnOf "read_number" "PatternReader.read_number" (defArgs sNumber) (defBody sNumber) (defScope sNumber) .none kVR8 dcR8 pmR8 anR8 cdR8 ctR8), (PySem.W.fnOf "read_unit" "PatternReader.read_unit" (defArgs sUnit) (defBody sUnit) (defScope sUnit) .none kVR9 dcR9 pmR9 anR9 cdR9 ctR9), (PySem.W.fnOf "read_group" "PatternReader.read_group" (defArgs sGroup) (defBody sGroup) (defScope sGroup) .none kVR10 dcR10 pmR10 anR10 cdR10 ctR10), (PySem.W.fnOf "read_capture" "PatternReader.read_capture" (defArgs sCapture) (defBody sCapture) (defScope sCapture) .none kVR11 dcR11 pmR11 anR11 cdR11 ctR11), (PySem.W.fnOf "read_class" "PatternReader.read_class" (defArgs sClass) (defBody sClass) (defScope sClass) .none kVR12 dcR12 pmR12 anR12 cdR12 ctR12), (PySem.W.fnOf "read_part" "PatternReader.read_part" (defArgs sPart) (defBody sPart) (defScope sPart) .none kVR13 dcR13 pmR13 anR13 cdR13 ctR13)].getD i (PySem.W.fnOf "__init__" "PatternReader.__init__" (defArgs sRI) (defBody sRI) (defScope sRI) .none kVR0 dcR0 pmR0 anR0 cdR0 ctR0)
  let fW : Nat → Addr := fun i => [fW0, fW1, fW2, fW3, fW4].getD i fW0
  let dW : Nat → FuncData := fun i => [(PySem.W.fnOf "__init__" "Written.__init__" (defArgs sWI) (defBody sWI) (defScope sWI) .none kVW0 dcW0 pmW0 anW0 cdW0 ctW0), (PySem.W.fnOf "link" "Written.link" (defArgs sLink) (defBody sLink) (defScope sLink) .none kVW1 dcW1 pmW1 anW1 cdW1 ctW1), (PySem.W.fnOf "joined" "Written.joined" (defArgs sJoined) (defBody sJoined) (defScope sJoined) .none kVW2 dcW2 pmW2 anW2 cdW2 ctW2), (PySem.W.fnOf "part_of" "Written.part_of" (defArgs sPartOf) (defBody sPartOf) (defScope sPartOf) .none kVW3 dcW3 pmW3 anW3 cdW3 ctW3), (PySem.W.fnOf "counted" "Written.counted" (defArgs sCounted) (defBody sCounted) (defScope sCounted) .none kVW4 dcW4 pmW4 anW4 cdW4 ctW4)].getD i (PySem.W.fnOf "__init__" "Written.__init__" (defArgs sWI) (defBody sWI) (defScope sWI) .none kVW0 dcW0 pmW0 anW0 cdW0 ctW0)
  let fP : Nat → Addr := fun i => [fP0, fP1, fP2].getD i fP0
  let dP : Nat → FuncData := fun i => [(PySem.W.fnOf "__init__" "Pattern.__init__" (defArgs sPI) (defBody sPI) (defScope sPI) .none kVP0 dcP0 pmP0 anP0 cdP0 ctP0), (PySem.W.fnOf "__eq__" "Pattern.__eq__" (defArgs sPEq) (defBody sPEq) (defScope sPEq) .none kVP1 dcP1 pmP1 anP1 cdP1 ctP1), (PySem.W.fnOf "behind" "Pattern.behind" (defArgs sBeh) (defBody sBeh) (defScope sBeh) .none kVP2 dcP2 pmP2 anP2 cdP2 ctP2)].getD i (PySem.W.fnOf "__init__" "Pattern.__init__" (defArgs sPI) (defBody sPI) (defScope sPI) .none kVP0 dcP0 pmP0 anP0 cdP0 ctP0)
  let fL : Nat → Addr := fun i => [f13, f14, f15, f13, f13, f13, f13, f13, f13, f13].getD i f13
  let dL : Nat → FuncData := fun i => [(PySem.W.fnOf "_law_pot" "_law_pot" (defArgs sPot) (defBody sPot) (defScope sPot) .none kV13 dc13 pm13 an13 cd13 ct13), (PySem.W.fnOf "_law_draw" "_law_draw" (defArgs sDraw) (defBody sDraw) (defScope sDraw) .none kV14 dc14 pm14 an14 cd14 ct14), (PySem.W.fnOf "_law_any" "_law_any" (defArgs sAny) (defBody sAny) (defScope sAny) .none kV15 dc15 pm15 an15 cd15 ct15), (PySem.W.fnOf "_law_pot" "_law_pot" (defArgs sPot) (defBody sPot) (defScope sPot) .none kV13 dc13 pm13 an13 cd13 ct13), (PySem.W.fnOf "_law_pot" "_law_pot" (defArgs sPot) (defBody sPot) (defScope sPot) .none kV13 dc13 pm13 an13 cd13 ct13), (PySem.W.fnOf "_law_pot" "_law_pot" (defArgs sPot) (defBody sPot) (defScope sPot) .none kV13 dc13 pm13 an13 cd13 ct13), (PySem.W.fnOf "_law_pot" "_law_pot" (defArgs sPot) (defBody sPot) (defScope sPot) .none kV13 dc13 pm13 an13 cd13 ct13), (PySem.W.fnOf "_law_pot" "_law_pot" (defArgs sPot) (defBody sPot) (defScope sPot) .none kV13 dc13 pm13 an13 cd13 ct13), (PySem.W.fnOf "_law_pot" "_law_pot" (defArgs sPot) (defBody sPot) (defScope sPot) .none kV13 dc13 pm13 an13 cd13 ct13), (PySem.W.fnOf "_law_pot" "_law_pot" (defArgs sPot) (defBody sPot) (defScope sPot) .none kV13 dc13 pm13 an13 cd13 ct13)].getD i (PySem.W.fnOf "_law_pot" "_law_pot" (defArgs sPot) (defBody sPot) (defScope sPot) .none kV13 dc13 pm13 an13 cd13 ct13)
  let cT : Nat → Addr := fun i => [T0, T1, T2].getD i T0
  have TR : RT K w mg CR fR dR tk dd ces cn cT := { cl := ⟨pgR, hdR, poR, saR⟩, nStr := nR0, nSp := nR1, nNm := nR2, nMo := nR3, mI := ⟨FR0, bR0, ⟨iR0, jR0, kR0⟩⟩, mSign := ⟨FR1, bR1, ⟨iR1, jR1, kR1⟩⟩, mSkips := ⟨FR2, bR2, ⟨iR2, jR2, kR2⟩⟩, mDemand := ⟨FR3, bR3, ⟨iR3, jR3, kR3⟩⟩, mWhole := ⟨FR4, bR4, ⟨iR4, jR4, kR4⟩⟩, mChoice := ⟨FR5, bR5, ⟨iR5, jR5, kR5⟩⟩, mChain := ⟨FR6, bR6, ⟨iR6, jR6, kR6⟩⟩, mItem := ⟨FR7, bR7, ⟨iR7, jR7, kR7⟩⟩, mNumber := ⟨FR8, bR8, ⟨iR8, jR8, kR8⟩⟩, mUnit := ⟨FR9, bR9, ⟨iR9, jR9, kR9⟩⟩, mGroup := ⟨FR10, bR10, ⟨iR10, jR10, kR10⟩⟩, mCapture := ⟨FR11, bR11, ⟨iR11, jR11, kR11⟩⟩, mClass := ⟨FR12, bR12, ⟨iR12, jR12, kR12⟩⟩, mPart := ⟨FR13, bR13, ⟨iR13, jR13, kR13⟩⟩, gLet := y0, gBeg := y1, gEnd := y2, gDig := y3, gSma := y4, gMS := y5, gMO := y6, gMN := y7, gMC := y8, gPl := y9, gCh := y10, gAl := y11, gCo := y12, gCa := y13, gEm := y14, gCs := gCs, kd := ⟨lCs, klCs, loCs⟩, c1 := q0, c2 := q1, c3 := q2, c0 := cz, t1 := fun H => .inr ⟨_, _, _, lT0, rfl, rfl, (show 2 ≤ sizeLine by decide), .cons ⟨_, rfl⟩ (.cons rfl .nil)⟩, t2 := fun H => .inr ⟨_, _, _, lT1, rfl, rfl, (show 2 ≤ sizeLine by decide), .cons ⟨_, rfl⟩ (.cons rfl .nil)⟩, t3 := fun H => .inr ⟨_, _, _, lT2, rfl, rfl, (show 2 ≤ sizeLine by decide), .cons ⟨_, rfl⟩ (.cons ⟨_, rfl⟩ .nil)⟩, mkC := ⟨mkR, iR0, jR0, kcR⟩, gC := gR, zisi := m_isinstance, zlen := m_len, zint := m_int, zstr := m_str, ztup := m_tuple }
  have TW : WT K mg CW fW dW tk := { cl := ⟨pgW, hdW, poW, saW⟩, nLe := nW0, nFo := nW1, mI := ⟨FW0, bW0, ⟨iW0, jW0, kW0⟩⟩, mLink := ⟨FW1, bW1, ⟨iW1, jW1, kW1⟩⟩, mJoin := ⟨FW2, bW2, ⟨iW2, jW2, kW2⟩⟩, mPart := ⟨FW3, bW3, ⟨iW3, jW3, kW3⟩⟩, mCount := ⟨FW4, bW4, ⟨iW4, jW4, kW4⟩⟩, mkC := ⟨mkW, iW0, jW0, kcW⟩, gC := gW, gPl := y9, gCh := y10, gAl := y11, gCo := y12, gCa := y13, zlen := m_len, zany := m_any, zmax := m_max, zrange := m_range, ztup := m_tuple, zsorted := m_sorted, zset := m_set }
  have TS : ST K mg tk f1 _ := { F := F1, b := b1, gg := g1, gPl := y9, gCh := y10, gAl := y11, gCo := y12, gCa := y13, zsum := m_sum, zmax := m_max }
  have TP : PatT K mg CP fP dP tk f0 f2 _ _ := { cl := ⟨pgP, hdP, poP, saP⟩, n1 := nP0, n2 := nP1, n3 := nP2, n4 := nP3, n5 := nP4, n6 := nP5, n7 := nP6, n8 := nP7, n9 := nP8, mI := ⟨FP0, bP0, ⟨iP0, jP0, kP0⟩⟩, mE := ⟨FP1, bP1, ⟨iP1, jP1, kP1⟩⟩, mkC := ⟨mkP, iP0, jP0, kcP⟩, gC := gP, FR := F0, bR := b0, gR_ := g0, FW := F2, bW := b2, gW_ := g2, gMP := y15, ztup := m_tuple, zisi := m_isinstance, ha := ha, hn := hn, ht := ht, hm := hm, k1 := kk1, k2 := kk2, sb := sb }
  have TL : LawT K mg fL dL := { pot := ⟨F13, b13, g13⟩, draw := ⟨F14, b14, g14⟩, any := ⟨F15, b15, g15⟩, zint := m_int, zabs := m_abs, zlen := m_len, zmax := m_max, zmin := m_min, zrange := m_range, zsum := m_sum, ztup := m_tuple, zstr := m_str, zrepr := m_repr }
  let fM : Nat → Addr := fun i => [fM0, fM1, fM2, fM3].getD i fM0
  let dM : Nat → FuncData := fun i => [(PySem.W.fnOf "__init__" "Match.__init__" (defArgs sMI) (defBody sMI) (defScope sMI) .none kVM0 dcM0 pmM0 anM0 cdM0 ctM0), (PySem.W.fnOf "start" "Match.start" (defArgs sMst) (defBody sMst) (defScope sMst) .none kVM1 dcM1 pmM1 anM1 cdM1 ctM1), (PySem.W.fnOf "end" "Match.end" (defArgs sMen) (defBody sMen) (defScope sMen) .none kVM2 dcM2 pmM2 anM2 cdM2 ctM2), (PySem.W.fnOf "word" "Match.word" (defArgs sMwo) (defBody sMwo) (defScope sMwo) .none kVM3 dcM3 pmM3 anM3 cdM3 ctM3)].getD i (PySem.W.fnOf "__init__" "Match.__init__" (defArgs sMI) (defBody sMI) (defScope sMI) .none kVM0 dcM0 pmM0 anM0 cdM0 ctM0)
  let qM : Nat → Addr := fun i => [pp0, pp1, pp2].getD i pp0
  have TA : MaT K mg CM fM dM qM f10 _ f5 _ := { cl := ⟨pgM, hdM, poM, saM⟩, n1 := nM0, n2 := nM1, n3 := nM2, mI := ⟨FM0, bM0, ⟨iM0, jM0, kM0⟩⟩, fS := FM1, fE := FM2, fW := FM3, bS := bM1, bE := bM2, bW := bM3, pS := ⟨pa0, pg0, pt0, ⟨_, pr0⟩⟩, pE := ⟨pa1, pg1, pt1, ⟨_, pr1⟩⟩, pW := ⟨pa2, pg2, pt2, ⟨_, pr2⟩⟩, mkC := ⟨mkM, iM0, jM0, kcM⟩, gC := gM, mat := ⟨F10, b10, g10⟩, fc := ⟨F5, b5, g5⟩, zlen := m_len }
  have TLo : LonT K mg f9 _ := { lon := ⟨F9, b9, g9⟩, zrange := m_range }
  let fN : Nat → Addr := fun i => [f3, f3, f3, f3, f3, f3, f3, f3].getD i f3
  let dN : Nat → FuncData := fun i => [(PySem.W.fnOf "is_integer" "is_integer" (defArgs sIsI) (defBody sIsI) (defScope sIsI) .none kV3 dc3 pm3 an3 cd3 ct3), (PySem.W.fnOf "is_integer" "is_integer" (defArgs sIsI) (defBody sIsI) (defScope sIsI) .none kV3 dc3 pm3 an3 cd3 ct3), (PySem.W.fnOf "is_integer" "is_integer" (defArgs sIsI) (defBody sIsI) (defScope sIsI) .none kV3 dc3 pm3 an3 cd3 ct3), (PySem.W.fnOf "is_integer" "is_integer" (defArgs sIsI) (defBody sIsI) (defScope sIsI) .none kV3 dc3 pm3 an3 cd3 ct3), (PySem.W.fnOf "is_integer" "is_integer" (defArgs sIsI) (defBody sIsI) (defScope sIsI) .none kV3 dc3 pm3 an3 cd3 ct3), (PySem.W.fnOf "is_integer" "is_integer" (defArgs sIsI) (defBody sIsI) (defScope sIsI) .none kV3 dc3 pm3 an3 cd3 ct3), (PySem.W.fnOf "is_integer" "is_integer" (defArgs sIsI) (defBody sIsI) (defScope sIsI) .none kV3 dc3 pm3 an3 cd3 ct3), (PySem.W.fnOf "is_integer" "is_integer" (defArgs sIsI) (defBody sIsI) (defScope sIsI) .none kV3 dc3 pm3 an3 cd3 ct3)].getD i (PySem.W.fnOf "is_integer" "is_integer" (defArgs sIsI) (defBody sIsI) (defScope sIsI) .none kV3 dc3 pm3 an3 cd3 ct3)
  have TN : NoT K mg CP CP fN dN fP2 _ tk := { isi := ⟨F3, b3, g3⟩, mB := ⟨FP2, bP2, ⟨iP2, jP2, kP2⟩⟩, zany := m_any, zlen := m_len, zisi := m_isinstance, zint := m_int, zbool := m_bool }
  let fC : Nat → Addr := fun i => [f4, f4, f4, f4].getD i f4
  let dC : Nat → FuncData := fun i => [(PySem.W.fnOf "is_text" "is_text" (defArgs sIsT) (defBody sIsT) (defScope sIsT) .none kV4 dc4 pm4 an4 cd4 ct4), (PySem.W.fnOf "is_text" "is_text" (defArgs sIsT) (defBody sIsT) (defScope sIsT) .none kV4 dc4 pm4 an4 cd4 ct4), (PySem.W.fnOf "is_text" "is_text" (defArgs sIsT) (defBody sIsT) (defScope sIsT) .none kV4 dc4 pm4 an4 cd4 ct4), (PySem.W.fnOf "is_text" "is_text" (defArgs sIsT) (defBody sIsT) (defScope sIsT) .none kV4 dc4 pm4 an4 cd4 ct4)].getD i (PySem.W.fnOf "is_text" "is_text" (defArgs sIsT) (defBody sIsT) (defScope sIsT) .none kV4 dc4 pm4 an4 cd4 ct4)
  have T7 : Q7T K mg CP fC dC := { ist := ⟨F4, b4, g4⟩, zall := m_all, zisi := m_isinstance, zstr := m_str }
  let f9 : Nat → Addr := fun i => [f4, f4, f4, f4, f4].getD i f4
  let d9 : Nat → FuncData := fun i => [(PySem.W.fnOf "is_text" "is_text" (defArgs sIsT) (defBody sIsT) (defScope sIsT) .none kV4 dc4 pm4 an4 cd4 ct4), (PySem.W.fnOf "is_text" "is_text" (defArgs sIsT) (defBody sIsT) (defScope sIsT) .none kV4 dc4 pm4 an4 cd4 ct4), (PySem.W.fnOf "is_text" "is_text" (defArgs sIsT) (defBody sIsT) (defScope sIsT) .none kV4 dc4 pm4 an4 cd4 ct4), (PySem.W.fnOf "is_text" "is_text" (defArgs sIsT) (defBody sIsT) (defScope sIsT) .none kV4 dc4 pm4 an4 cd4 ct4), (PySem.W.fnOf "is_text" "is_text" (defArgs sIsT) (defBody sIsT) (defScope sIsT) .none kV4 dc4 pm4 an4 cd4 ct4)].getD i (PySem.W.fnOf "is_text" "is_text" (defArgs sIsT) (defBody sIsT) (defScope sIsT) .none kV4 dc4 pm4 an4 cd4 ct4)
  have T9 : L9T K mg f9 d9 := { zsorted := m_sorted, zset := m_set, zlist := m_list, zlen := m_len, zmax := m_max, zenum := m_enumerate, zrange := m_range, zrepr := m_repr, zany := m_any, zall := m_all, zzip := m_zip, ztup := m_tuple }
  let fH : Nat → Addr := fun i => [f6, f7, f8, f12].getD i f6
  let dH : Nat → FuncData := fun i => [(PySem.W.fnOf "begun" "begun" (defArgs sBegun) (defBody sBegun) (defScope sBegun) .none kV6 dc6 pm6 an6 cd6 ct6), (PySem.W.fnOf "gone_on" "gone_on" (defArgs sGone) (defBody sGone) (defScope sGone) .none kV7 dc7 pm7 an7 cd7 ct7), (PySem.W.fnOf "can_end" "can_end" (defArgs sCan) (defBody sCan) (defScope sCan) .none kV8 dc8 pm8 an8 cd8 ct8), (PySem.W.fnOf "has_match" "has_match" (defArgs sHM) (defBody sHM) (defScope sHM) .none kV12 dc12 pm12 an12 cd12 ct12)].getD i (PySem.W.fnOf "begun" "begun" (defArgs sBegun) (defBody sBegun) (defScope sBegun) .none kV6 dc6 pm6 an6 cd6 ct6)
  have TM : HmT K mg fH dH := { beg := ⟨F6, b6, g6⟩, gon := ⟨F7, b7, g7⟩, can := ⟨F8, b8, g8⟩, hm := ⟨F12, b12, g12⟩, zlist := m_list, zenum := m_enumerate }
  exact ⟨_, fun s v => .of_eq rfl, fun base _ _ => (ok_law9 TL T9 F21 ⟨F20, b20, g20⟩ (ok_rt (P := l.prog) (w := w) (base := base) F20 ⟨F11, b11, g11⟩ ⟨F16, b16, g16⟩ ⟨F17, b17, g17⟩ ⟨F18, b18, g18⟩ ⟨F19, b19, g19⟩ TL T9 TR TW TS TA TLo TM T7 TN TP y0))⟩
end Sq
set_option maxHeartbeats 0
/-! The top, run by the kernel once; what of it the law reads. -/
noncomputable section
namespace SqHd
open PySem PySem.W PySem.Calls PyProof.Rows L2 Sf4
abbrev k (P : Params) (x : PySem.Str) : Int := PyData.keyHash P x
abbrev KT : Type := Nat × Obj
def KK : Params → PySem.W.Frag := fun P =>
  (nat_lit 2, (⟨.none, none, .dict (List.toArray []) 0, #[]⟩ : Obj)) ::
  (nat_lit 3, (⟨.type "dict", none, .dict (List.toArray [⟨PyData.keyHash P (.ofString "__name__"), .str (.ofString "__name__") 165, .str (.ofString "law_siftstore_k16_longest_words_of_choices") 913⟩, ⟨PyData.keyHash P (.ofString "__doc__"), .str (.ofString "__doc__") 166, .none⟩, ⟨PyData.keyHash P (.ofString "__package__"), .str (.ofString "__package__") 167, .none⟩, ⟨PyData.keyHash P (.ofString "__loader__"), .str (.ofString "__loader__") 168, .builtin "__main__.__loader__#opaque"⟩, ⟨PyData.keyHash P (.ofString "__spec__"), .str (.ofString "__spec__") 169, .none⟩, ⟨PyData.keyHash P (.ofString "__annotations__"), .str (.ofString "__annotations__") 170, .ref 6⟩, ⟨PyData.keyHash P (.ofString "__builtins__"), .str (.ofString "__builtins__") 171, .ref 4⟩, ⟨PyData.keyHash P (.ofString "__file__"), .str (.ofString "__file__") 173, .str (.ofString "/claim/cut.py") 172⟩, ⟨PyData.keyHash P (.ofString "__cached__"), .str (.ofString "__cached__") 174, .none⟩, ⟨PyData.keyHash P (.ofString "SiftError"), .str (.ofString "SiftError") 206, .ref 24⟩, ⟨PyData.keyHash P (.ofString "BadText"), .str (.ofString "BadText") 233, .ref 46⟩, ⟨PyData.keyHash P (.ofString "BadPattern"), .str (.ofString "BadPattern") 260, .ref 67⟩, ⟨PyData.keyHash P (.ofString "NoPlace"), .str (.ofString "NoPlace") 287, .ref 88⟩, ⟨PyData.keyHash P (.ofString "NoName"), .str (.ofString "NoName") 314, .ref 109⟩, ⟨PyData.keyHash P (.ofString "LETTERS"), .str (.ofString "LETTERS") 318, .str (.ofString " 0123456789_abcdefghijklmnopqrstuvwxyz") 317⟩, ⟨PyData.keyHash P (.ofString "BEGIN"), .str (.ofString "BEGIN") 320, .str (.ofString "^") 319⟩, ⟨PyData.keyHash P (.ofString "END"), .str (.ofString "END") 322, .str (.ofString "$") 321⟩, ⟨PyData.keyHash P (.ofString "is_text"), .str (.ofString "is_text") 328, .ref 116⟩, ⟨PyData.keyHash P (.ofString "PLACE_readings"), .str (.ofString "PLACE_readings") 332, .str (.ofString "place") 331⟩, ⟨PyData.keyHash P (.ofString "EMPTY_readings"), .str (.ofString "EMPTY_readings") 334, .str (.ofString "empty") 333⟩, ⟨PyData.keyHash P (.ofString "CHAIN_readings"), .str (.ofString "CHAIN_readings") 336, .str (.ofString "chain") 335⟩, ⟨PyData.keyHash P (.ofString "CHOICE_readings"), .str (.ofString "CHOICE_readings") 338, .str (.ofString "choice") 337⟩, ⟨PyData.keyHash P (.ofString "CAPTURE_readings"), .str (.ofString "CAPTURE_readings") 340, .str (.ofString "capture") 339⟩, ⟨PyData.keyHash P (.ofString "once"), .str (.ofString "once") 350, .ref 123⟩, ⟨PyData.keyHash P (.ofString "Readings"), .str (.ofString "Readings") 439, .ref 184⟩, ⟨PyData.keyHash P (.ofString "first_captures"), .str (.ofString "first_captures") 445, .ref 193⟩, ⟨PyData.keyHash P (.ofString "Match"), .str (.ofString "Match") 528, .ref 255⟩, ⟨PyData.keyHash P (.ofString "begun"), .str (.ofString "begun") 534, .ref 264⟩, ⟨PyData.keyHash P (.ofString "gone_on"), .str (.ofString "gone_on") 540, .ref 269⟩, ⟨PyData.keyHash P (.ofString "can_end"), .str (.ofString "can_end") 546, .ref 274⟩, ⟨PyData.keyHash P (.ofString "longest_end"), .str (.ofString "longest_end") 558, .ref 281⟩, ⟨PyData.keyHash P (.ofString "match_at"), .str (.ofString "match_at") 564, .ref 286⟩, ⟨PyData.keyHash P (.ofString "matches"), .str (.ofString "matches") 574, .ref 293⟩, ⟨PyData.keyHash P (.ofString "has_match"), .str (.ofString "has_match") 580, .ref 298⟩, ⟨PyData.keyHash P (.ofString "DIGITS"), .str (.ofString "DIGITS") 584, .str (.ofString "0123456789") 583⟩, ⟨PyData.keyHash P (.ofString "SMALL"), .str (.ofString "SMALL") 586, .str (.ofString "abcdefghijklmnopqrstuvwxyz") 585⟩, ⟨PyData.keyHash P (.ofString "MOST_SIGNS"), .str (.ofString "MOST_SIGNS") 588, .int (60) 587⟩, ⟨PyData.keyHash P (.ofString "MOST_OPEN"), .str (.ofString "MOST_OPEN") 590, .int (8) 589⟩, ⟨PyData.keyHash P (.ofString "MOST_NAME"), .str (.ofString "MOST_NAME") 592, .int (8) 591⟩, ⟨PyData.keyHash P (.ofString "MOST_COUNT"), .str (.ofString "MOST_COUNT") 594, .int (20) 593⟩, ⟨PyData.keyHash P (.ofString "COUNTS"), .str (.ofString "COUNTS") 605, .ref 299⟩, ⟨PyData.keyHash P (.ofString "PLACE_parsing"), .str (.ofString "PLACE_parsing") 607, .str (.ofString "place") 606⟩, ⟨PyData.keyHash P (.ofString "CHAIN_parsing"), .str (.ofString "CHAIN_parsing") 609, .str (.ofString "chain") 608⟩, ⟨PyData.keyHash P (.ofString "CHOICE_parsing"), .str (.ofString "CHOICE_parsing") 611, .str (.ofString "choice") 610⟩, ⟨PyData.keyHash P (.ofString "COUNT"), .str (.ofString "COUNT") 613, .str (.ofString "count") 612⟩, ⟨PyData.keyHash P (.ofString "CAPTURE_parsing"), .str (.ofString "CAPTURE_parsing") 615, .str (.ofString "capture") 614⟩, ⟨PyData.keyHash P (.ofString "EMPTY_parsing"), .str (.ofString "EMPTY_parsing") 617, .str (.ofString "empty") 616⟩, ⟨PyData.keyHash P (.ofString "PatternReader"), .str (.ofString "PatternReader") 759, .ref 408⟩, ⟨PyData.keyHash P (.ofString "read_pattern"), .str (.ofString "read_pattern") 767, .ref 419⟩, ⟨PyData.keyHash P (.ofString "size_of"), .str (.ofString "size_of") 775, .ref 424⟩, ⟨PyData.keyHash P (.ofString "Written"), .str (.ofString "Written") 837, .ref 465⟩, ⟨PyData.keyHash P (.ofString "written"), .str (.ofString "written") 843, .ref 474⟩, ⟨PyData.keyHash P (.ofString "MOST_PLACES"), .str (.ofString "MOST_PLACES") 847, .int (24) 846⟩, ⟨PyData.keyHash P (.ofString "is_integer"), .str (.ofString "is_integer") 856, .ref 481⟩, ⟨PyData.keyHash P (.ofString "Pattern"), .str (.ofString "Pattern") 912, .ref 512⟩, ⟨PyData.keyHash P (.ofString "_law_pot"), .str (.ofString "_law_pot") 924, .ref 523⟩, ⟨PyData.keyHash P (.ofString "_law_draw"), .str (.ofString "_law_draw") 935, .ref 530⟩, ⟨PyData.keyHash P (.ofString "_law_any"), .str (.ofString "_law_any") 943, .ref 537⟩, ⟨PyData.keyHash P (.ofString "_law_mixed"), .str (.ofString "_law_mixed") 953, .ref 544⟩, ⟨PyData.keyHash P (.ofString "_law_words"), .str (.ofString "_law_words") 959, .ref 549⟩, ⟨PyData.keyHash P (.ofString "_law_long_text"), .str (.ofString "_law_long_text") 970, .ref 556⟩, ⟨PyData.keyHash P (.ofString "_law_due"), .str (.ofString "_law_due") 976, .ref 561⟩, ⟨PyData.keyHash P (.ofString "_law_right"), .str (.ofString "_law_right") 982, .ref 566⟩, ⟨PyData.keyHash P (.ofString "law"), .str (.ofString "law") 988, .ref 571⟩]) 64, #[]⟩ : Obj)) ::
  (nat_lit 15, (⟨.type "tuple", none, .seq #[.type "ValueError"] 0, #[]⟩ : Obj)) ::
  (nat_lit 22, (⟨.type "tuple", none, .seq #[] 0, #[]⟩ : Obj)) ::
  (nat_lit 23, (⟨.type "dict", none, .dict (List.toArray [⟨PyData.keyHash P (.ofString "__module__"), .str (.ofString "__module__") 196, .str (.ofString "siftstore.errors") 187⟩, ⟨PyData.keyHash P (.ofString "__firstlineno__"), .str (.ofString "__firstlineno__") 200, .int (2) 199⟩, ⟨PyData.keyHash P (.ofString "__static_attributes__"), .str (.ofString "__static_attributes__") 201, .ref 22⟩, ⟨PyData.keyHash P (.ofString "__weakref__"), .str (.ofString "__weakref__") 203, .ref 25⟩, ⟨PyData.keyHash P (.ofString "__doc__"), .str (.ofString "__doc__") 204, .none⟩]) 3, #[]⟩ : Obj)) ::
  (nat_lit 24, (⟨.type "type", none, .cls ⟨(.ofString "SiftError"), [.type "ValueError"], [.ref 24, .type "ValueError", .type "Exception", .type "BaseException", .type "object"], 23, (.ofString "SiftError"), true, [], [.ref 46, .ref 67, .ref 88, .ref 109], false, none, false⟩, #[some (.ref 15), none, some (.str (.ofString "SiftError") 189), some (.str (.ofString "SiftError") 197), some (.builtin "ValueError.__new__"), some (.bool true)]⟩ : Obj)) ::
  (nat_lit 25, (⟨.type "getset_descriptor", none, .fields #[.str (.ofString "__weakref__") 202, .ref 24, .builtin "ExceptionGroup.__weakref__", .none], #[]⟩ : Obj)) ::
  (nat_lit 28, (⟨.type "tuple", none, .seq #[.ref 24] 0, #[]⟩ : Obj)) ::
  (nat_lit 31, (⟨.type "cell", none, .cell (some (.ref 46)), #[]⟩ : Obj)) ::
  (nat_lit 36, (⟨.type "tuple", none, .seq #[.ref 31] 0, #[]⟩ : Obj)) ::
  (nat_lit 37, (⟨.type "tuple", none, .seq #[.str (.ofString "__class__") 222] 0, #[]⟩ : Obj)) ::
  (nat_lit 39, (⟨.type "tuple", none, .seq #[.str (.ofString "self") 223, .str (.ofString "value") 224] 0, #[]⟩ : Obj)) ::
  (nat_lit 40, (⟨.type "tuple", none, .seq #[] 0, #[]⟩ : Obj)) ::
  (nat_lit 42, (⟨.type "code", none, .fields #[.str (.ofString "__init__") 219, .str (.ofString "BadText.__init__") 220, .str (.ofString "/claim/cut.py") 221, .int (6) 0, .int (2) 0, .int (0) 0, .int (0) 0, .int (3) 0, .ref 37, .bool true, .int (181) 0, .ref 38, .none, .ref 39, .ref 40, .ref 41, .int (225) 0, .int (6) 0, .str (.ofString "/claim/cut.py") 226], #[]⟩ : Obj)) ::
  (nat_lit 43, (⟨.type "function", none, .func ⟨(.ofString "__init__"), (.ofString "BadText.__init__"), defArgs (inClass (topS 2) 0), .stmts (defBody (inClass (topS 2) 0)), defScope (inClass (topS 2) 0), 3, [((.ofString "__class__"), 31)], .none, .none, .none, .str (.ofString "siftstore.errors") 187, none, .ref 42, .ref 36, 0⟩, #[]⟩ : Obj)) ::
  (nat_lit 44, (⟨.type "tuple", none, .seq #[.str (.ofString "value") 228] 0, #[]⟩ : Obj)) ::
  (nat_lit 45, (⟨.type "dict", none, .dict (List.toArray [⟨PyData.keyHash P (.ofString "__module__"), .str (.ofString "__module__") 214, .str (.ofString "siftstore.errors") 187⟩, ⟨PyData.keyHash P (.ofString "__firstlineno__"), .str (.ofString "__firstlineno__") 218, .int (4) 217⟩, ⟨PyData.keyHash P (.ofString "__init__"), .str (.ofString "__init__") 227, .ref 43⟩, ⟨PyData.keyHash P (.ofString "__static_attributes__"), .str (.ofString "__static_attributes__") 229, .ref 44⟩, ⟨PyData.keyHash P (.ofString "__doc__"), .str (.ofString "__doc__") 231, .none⟩]) 3, #[]⟩ : Obj)) ::
  (nat_lit 46, (⟨.type "type", none, .cls ⟨(.ofString "BadText"), [.ref 24], [.ref 46, .ref 24, .type "ValueError", .type "Exception", .type "BaseException", .type "object"], 45, (.ofString "BadText"), true, [], [], false, none, false⟩, #[some (.ref 28), none, some (.str (.ofString "BadText") 207), some (.str (.ofString "BadText") 215), some (.builtin "ValueError.__new__"), some (.bool true)]⟩ : Obj)) ::
  (nat_lit 49, (⟨.type "tuple", none, .seq #[.ref 24] 0, #[]⟩ : Obj)) ::
  (nat_lit 52, (⟨.type "cell", none, .cell (some (.ref 67)), #[]⟩ : Obj)) ::
  (nat_lit 57, (⟨.type "tuple", none, .seq #[.ref 52] 0, #[]⟩ : Obj)) ::
  (nat_lit 58, (⟨.type "tuple", none, .seq #[.str (.ofString "__class__") 249] 0, #[]⟩ : Obj)) ::
  (nat_lit 60, (⟨.type "tuple", none, .seq #[.str (.ofString "self") 250, .str (.ofString "value") 251] 0, #[]⟩ : Obj)) ::
  (nat_lit 61, (⟨.type "tuple", none, .seq #[] 0, #[]⟩ : Obj)) ::
  (nat_lit 63, (⟨.type "code", none, .fields #[.str (.ofString "__init__") 246, .str (.ofString "BadPattern.__init__") 247, .str (.ofString "/claim/cut.py") 248, .int (11) 0, .int (2) 0, .int (0) 0, .int (0) 0, .int (3) 0, .ref 58, .bool true, .int (181) 0, .ref 59, .none, .ref 60, .ref 61, .ref 62, .int (252) 0, .int (11) 0, .str (.ofString "/claim/cut.py") 253], #[]⟩ : Obj)) ::
  (nat_lit 64, (⟨.type "function", none, .func ⟨(.ofString "__init__"), (.ofString "BadPattern.__init__"), defArgs (inClass (topS 3) 0), .stmts (defBody (inClass (topS 3) 0)), defScope (inClass (topS 3) 0), 3, [((.ofString "__class__"), 52)], .none, .none, .none, .str (.ofString "siftstore.errors") 187, none, .ref 63, .ref 57, 0⟩, #[]⟩ : Obj)) ::
  (nat_lit 65, (⟨.type "tuple", none, .seq #[.str (.ofString "value") 255] 0, #[]⟩ : Obj)) ::
  (nat_lit 66, (⟨.type "dict", none, .dict (List.toArray [⟨PyData.keyHash P (.ofString "__module__"), .str (.ofString "__module__") 241, .str (.ofString "siftstore.errors") 187⟩, ⟨PyData.keyHash P (.ofString "__firstlineno__"), .str (.ofString "__firstlineno__") 245, .int (9) 244⟩, ⟨PyData.keyHash P (.ofString "__init__"), .str (.ofString "__init__") 254, .ref 64⟩, ⟨PyData.keyHash P (.ofString "__static_attributes__"), .str (.ofString "__static_attributes__") 256, .ref 65⟩, ⟨PyData.keyHash P (.ofString "__doc__"), .str (.ofString "__doc__") 258, .none⟩]) 3, #[]⟩ : Obj)) ::
  (nat_lit 67, (⟨.type "type", none, .cls ⟨(.ofString "BadPattern"), [.ref 24], [.ref 67, .ref 24, .type "ValueError", .type "Exception", .type "BaseException", .type "object"], 66, (.ofString "BadPattern"), true, [], [], false, none, false⟩, #[some (.ref 49), none, some (.str (.ofString "BadPattern") 234), some (.str (.ofString "BadPattern") 242), some (.builtin "ValueError.__new__"), some (.bool true)]⟩ : Obj)) ::
  (nat_lit 70, (⟨.type "tuple", none, .seq #[.ref 24] 0, #[]⟩ : Obj)) ::
  (nat_lit 73, (⟨.type "cell", none, .cell (some (.ref 88)), #[]⟩ : Obj)) ::
  (nat_lit 78, (⟨.type "tuple", none, .seq #[.ref 73] 0, #[]⟩ : Obj)) ::
  (nat_lit 79, (⟨.type "tuple", none, .seq #[.str (.ofString "__class__") 276] 0, #[]⟩ : Obj)) ::
  (nat_lit 81, (⟨.type "tuple", none, .seq #[.str (.ofString "self") 277, .str (.ofString "value") 278] 0, #[]⟩ : Obj)) ::
  (nat_lit 82, (⟨.type "tuple", none, .seq #[] 0, #[]⟩ : Obj)) ::
  (nat_lit 84, (⟨.type "code", none, .fields #[.str (.ofString "__init__") 273, .str (.ofString "NoPlace.__init__") 274, .str (.ofString "/claim/cut.py") 275, .int (16) 0, .int (2) 0, .int (0) 0, .int (0) 0, .int (3) 0, .ref 79, .bool true, .int (181) 0, .ref 80, .none, .ref 81, .ref 82, .ref 83, .int (279) 0, .int (16) 0, .str (.ofString "/claim/cut.py") 280], #[]⟩ : Obj)) ::
  (nat_lit 85, (⟨.type "function", none, .func ⟨(.ofString "__init__"), (.ofString "NoPlace.__init__"), defArgs (inClass (topS 4) 0), .stmts (defBody (inClass (topS 4) 0)), defScope (inClass (topS 4) 0), 3, [((.ofString "__class__"), 73)], .none, .none, .none, .str (.ofString "siftstore.errors") 187, none, .ref 84, .ref 78, 0⟩, #[]⟩ : Obj)) ::
  (nat_lit 86, (⟨.type "tuple", none, .seq #[.str (.ofString "value") 282] 0, #[]⟩ : Obj)) ::
  (nat_lit 87, (⟨.type "dict", none, .dict (List.toArray [⟨PyData.keyHash P (.ofString "__module__"), .str (.ofString "__module__") 268, .str (.ofString "siftstore.errors") 187⟩, ⟨PyData.keyHash P (.ofString "__firstlineno__"), .str (.ofString "__firstlineno__") 272, .int (14) 271⟩, ⟨PyData.keyHash P (.ofString "__init__"), .str (.ofString "__init__") 281, .ref 85⟩, ⟨PyData.keyHash P (.ofString "__static_attributes__"), .str (.ofString "__static_attributes__") 283, .ref 86⟩, ⟨PyData.keyHash P (.ofString "__doc__"), .str (.ofString "__doc__") 285, .none⟩]) 3, #[]⟩ : Obj)) ::
  (nat_lit 88, (⟨.type "type", none, .cls ⟨(.ofString "NoPlace"), [.ref 24], [.ref 88, .ref 24, .type "ValueError", .type "Exception", .type "BaseException", .type "object"], 87, (.ofString "NoPlace"), true, [], [], false, none, false⟩, #[some (.ref 70), none, some (.str (.ofString "NoPlace") 261), some (.str (.ofString "NoPlace") 269), some (.builtin "ValueError.__new__"), some (.bool true)]⟩ : Obj)) ::
  (nat_lit 91, (⟨.type "tuple", none, .seq #[.ref 24] 0, #[]⟩ : Obj)) ::
  (nat_lit 94, (⟨.type "cell", none, .cell (some (.ref 109)), #[]⟩ : Obj)) ::
  (nat_lit 99, (⟨.type "tuple", none, .seq #[.ref 94] 0, #[]⟩ : Obj)) ::
  (nat_lit 100, (⟨.type "tuple", none, .seq #[.str (.ofString "__class__") 303] 0, #[]⟩ : Obj)) ::
  (nat_lit 102, (⟨.type "tuple", none, .seq #[.str (.ofString "self") 304, .str (.ofString "value") 305] 0, #[]⟩ : Obj)) ::
  (nat_lit 103, (⟨.type "tuple", none, .seq #[] 0, #[]⟩ : Obj)) ::
  (nat_lit 105, (⟨.type "code", none, .fields #[.str (.ofString "__init__") 300, .str (.ofString "NoName.__init__") 301, .str (.ofString "/claim/cut.py") 302, .int (21) 0, .int (2) 0, .int (0) 0, .int (0) 0, .int (3) 0, .ref 100, .bool true, .int (181) 0, .ref 101, .none, .ref 102, .ref 103, .ref 104, .int (306) 0, .int (21) 0, .str (.ofString "/claim/cut.py") 307], #[]⟩ : Obj)) ::
  (nat_lit 106, (⟨.type "function", none, .func ⟨(.ofString "__init__"), (.ofString "NoName.__init__"), defArgs (inClass (topS 5) 0), .stmts (defBody (inClass (topS 5) 0)), defScope (inClass (topS 5) 0), 3, [((.ofString "__class__"), 94)], .none, .none, .none, .str (.ofString "siftstore.errors") 187, none, .ref 105, .ref 99, 0⟩, #[]⟩ : Obj)) ::
  (nat_lit 107, (⟨.type "tuple", none, .seq #[.str (.ofString "value") 309] 0, #[]⟩ : Obj)) ::
  (nat_lit 108, (⟨.type "dict", none, .dict (List.toArray [⟨PyData.keyHash P (.ofString "__module__"), .str (.ofString "__module__") 295, .str (.ofString "siftstore.errors") 187⟩, ⟨PyData.keyHash P (.ofString "__firstlineno__"), .str (.ofString "__firstlineno__") 299, .int (19) 298⟩, ⟨PyData.keyHash P (.ofString "__init__"), .str (.ofString "__init__") 308, .ref 106⟩, ⟨PyData.keyHash P (.ofString "__static_attributes__"), .str (.ofString "__static_attributes__") 310, .ref 107⟩, ⟨PyData.keyHash P (.ofString "__doc__"), .str (.ofString "__doc__") 312, .none⟩]) 3, #[]⟩ : Obj)) ::
  (nat_lit 109, (⟨.type "type", none, .cls ⟨(.ofString "NoName"), [.ref 24], [.ref 109, .ref 24, .type "ValueError", .type "Exception", .type "BaseException", .type "object"], 108, (.ofString "NoName"), true, [], [], false, none, false⟩, #[some (.ref 91), none, some (.str (.ofString "NoName") 288), some (.str (.ofString "NoName") 296), some (.builtin "ValueError.__new__"), some (.bool true)]⟩ : Obj)) ::
  (nat_lit 112, (⟨.type "tuple", none, .seq #[] 0, #[]⟩ : Obj)) ::
  (nat_lit 115, (⟨.type "code", none, .fields #[.str (.ofString "is_text") 323, .str (.ofString "is_text") 324, .str (.ofString "/claim/cut.py") 325, .int (28) 0, .int (1) 0, .int (0) 0, .int (0) 0, .int (3) 0, .ref 112, .bool true, .int (181) 0, .ref 113, .none, .none, .none, .ref 114, .int (326) 0, .int (28) 0, .str (.ofString "/claim/cut.py") 327], #[]⟩ : Obj)) ::
  (nat_lit 116, (⟨.type "function", none, .func ⟨(.ofString "is_text"), (.ofString "is_text"), defArgs (topS 10), .stmts (defBody (topS 10)), defScope (topS 10), 3, [], .none, .none, .none, .str (.ofString "siftstore.letters") 315, none, .ref 115, .none, 0⟩, #[]⟩ : Obj)) ::
  (nat_lit 117, (⟨.type "tuple", none, .seq #[] 0, #[]⟩ : Obj)) ::
  (nat_lit 119, (⟨.type "tuple", none, .seq #[.str (.ofString "pairs") 344, .str (.ofString "kept") 345, .str (.ofString "end") 346, .str (.ofString "captures") 347] 0, #[]⟩ : Obj)) ::
  (nat_lit 120, (⟨.type "tuple", none, .seq #[] 0, #[]⟩ : Obj)) ::
  (nat_lit 122, (⟨.type "code", none, .fields #[.str (.ofString "once") 341, .str (.ofString "once") 342, .str (.ofString "/claim/cut.py") 343, .int (36) 0, .int (1) 0, .int (0) 0, .int (0) 0, .int (3) 0, .ref 117, .bool true, .int (181) 0, .ref 118, .none, .ref 119, .ref 120, .ref 121, .int (348) 0, .int (36) 0, .str (.ofString "/claim/cut.py") 349], #[]⟩ : Obj)) ::
  (nat_lit 123, (⟨.type "function", none, .func ⟨(.ofString "once"), (.ofString "once"), defArgs (topS 17), .stmts (defBody (topS 17)), defScope (topS 17), 3, [], .none, .none, .none, .str (.ofString "siftstore.readings") 329, none, .ref 122, .none, 0⟩, #[]⟩ : Obj)) ::
  (nat_lit 131, (⟨.type "tuple", none, .seq #[] 0, #[]⟩ : Obj)) ::
  (nat_lit 133, (⟨.type "tuple", none, .seq #[.str (.ofString "self") 366, .str (.ofString "word") 367] 0, #[]⟩ : Obj)) ::
  (nat_lit 134, (⟨.type "tuple", none, .seq #[] 0, #[]⟩ : Obj)) ::
  (nat_lit 136, (⟨.type "code", none, .fields #[.str (.ofString "__init__") 363, .str (.ofString "Readings.__init__") 364, .str (.ofString "/claim/cut.py") 365, .int (43) 0, .int (2) 0, .int (0) 0, .int (0) 0, .int (3) 0, .ref 131, .bool true, .int (181) 0, .ref 132, .none, .ref 133, .ref 134, .ref 135, .int (368) 0, .int (43) 0, .str (.ofString "/claim/cut.py") 369], #[]⟩ : Obj)) ::
  (nat_lit 137, (⟨.type "function", none, .func ⟨(.ofString "__init__"), (.ofString "Readings.__init__"), defArgs (inClass (topS 18) 0), .stmts (defBody (inClass (topS 18) 0)), defScope (inClass (topS 18) 0), 3, [], .none, .none, .none, .str (.ofString "siftstore.readings") 329, none, .ref 136, .none, 0⟩, #[]⟩ : Obj)) ::
  (nat_lit 138, (⟨.type "tuple", none, .seq #[] 0, #[]⟩ : Obj)) ::
  (nat_lit 140, (⟨.type "tuple", none, .seq #[.str (.ofString "self") 374, .str (.ofString "unit") 375, .str (.ofString "path") 376, .str (.ofString "at") 377] 0, #[]⟩ : Obj)) ::
  (nat_lit 141, (⟨.type "tuple", none, .seq #[] 0, #[]⟩ : Obj)) ::
  (nat_lit 143, (⟨.type "code", none, .fields #[.str (.ofString "ends") 371, .str (.ofString "Readings.ends") 372, .str (.ofString "/claim/cut.py") 373, .int (47) 0, .int (4) 0, .int (0) 0, .int (0) 0, .int (3) 0, .ref 138, .bool true, .int (181) 0, .ref 139, .none, .ref 140, .ref 141, .ref 142, .int (378) 0, .int (47) 0, .str (.ofString "/claim/cut.py") 379], #[]⟩ : Obj)) ::
  (nat_lit 144, (⟨.type "function", none, .func ⟨(.ofString "ends"), (.ofString "Readings.ends"), defArgs (inClass (topS 18) 1), .stmts (defBody (inClass (topS 18) 1)), defScope (inClass (topS 18) 1), 3, [], .none, .none, .none, .str (.ofString "siftstore.readings") 329, none, .ref 143, .none, 0⟩, #[]⟩ : Obj)) ::
  (nat_lit 145, (⟨.type "tuple", none, .seq #[] 0, #[]⟩ : Obj)) ::
  (nat_lit 148, (⟨.type "code", none, .fields #[.str (.ofString "pairs_at") 381, .str (.ofString "Readings.pairs_at") 382, .str (.ofString "/claim/cut.py") 383, .int (52) 0, .int (4) 0, .int (0) 0, .int (0) 0, .int (3) 0, .ref 145, .bool true, .int (181) 0, .ref 146, .none, .none, .none, .ref 147, .int (384) 0, .int (52) 0, .str (.ofString "/claim/cut.py") 385], #[]⟩ : Obj)) ::
  (nat_lit 149, (⟨.type "function", none, .func ⟨(.ofString "pairs_at"), (.ofString "Readings.pairs_at"), defArgs (inClass (topS 18) 2), .stmts (defBody (inClass (topS 18) 2)), defScope (inClass (topS 18) 2), 3, [], .none, .none, .none, .str (.ofString "siftstore.readings") 329, none, .ref 148, .none, 0⟩, #[]⟩ : Obj)) ::
  (nat_lit 150, (⟨.type "tuple", none, .seq #[] 0, #[]⟩ : Obj)) ::
  (nat_lit 153, (⟨.type "code", none, .fields #[.str (.ofString "followed") 387, .str (.ofString "Readings.followed") 388, .str (.ofString "/claim/cut.py") 389, .int (69) 0, .int (4) 0, .int (0) 0, .int (0) 0, .int (3) 0, .ref 150, .bool true, .int (181) 0, .ref 151, .none, .none, .none, .ref 152, .int (390) 0, .int (69) 0, .str (.ofString "/claim/cut.py") 391], #[]⟩ : Obj)) ::
  (nat_lit 154, (⟨.type "function", none, .func ⟨(.ofString "followed"), (.ofString "Readings.followed"), defArgs (inClass (topS 18) 3), .stmts (defBody (inClass (topS 18) 3)), defScope (inClass (topS 18) 3), 3, [], .none, .none, .none, .str (.ofString "siftstore.readings") 329, none, .ref 153, .none, 0⟩, #[]⟩ : Obj)) ::
  (nat_lit 155, (⟨.type "tuple", none, .seq #[] 0, #[]⟩ : Obj)) ::
  (nat_lit 158, (⟨.type "code", none, .fields #[.str (.ofString "counted") 393, .str (.ofString "Readings.counted") 394, .str (.ofString "/claim/cut.py") 395, .int (75) 0, .int (4) 0, .int (0) 0, .int (0) 0, .int (3) 0, .ref 155, .bool true, .int (181) 0, .ref 156, .none, .none, .none, .ref 157, .int (396) 0, .int (75) 0, .str (.ofString "/claim/cut.py") 397], #[]⟩ : Obj)) ::
  (nat_lit 159, (⟨.type "function", none, .func ⟨(.ofString "counted"), (.ofString "Readings.counted"), defArgs (inClass (topS 18) 4), .stmts (defBody (inClass (topS 18) 4)), defScope (inClass (topS 18) 4), 3, [], .none, .none, .none, .str (.ofString "siftstore.readings") 329, none, .ref 158, .none, 0⟩, #[]⟩ : Obj)) ::
  (nat_lit 160, (⟨.type "tuple", none, .seq #[] 0, #[]⟩ : Obj)) ::
  (nat_lit 162, (⟨.type "tuple", none, .seq #[.str (.ofString "self") 402, .str (.ofString "part") 403, .str (.ofString "path") 404, .str (.ofString "left") 405, .str (.ofString "at") 406, .str (.ofString "here") 407, .str (.ofString "pairs") 408] 0, #[]⟩ : Obj)) ::
  (nat_lit 163, (⟨.type "tuple", none, .seq #[] 0, #[]⟩ : Obj)) ::
  (nat_lit 165, (⟨.type "code", none, .fields #[.str (.ofString "further") 399, .str (.ofString "Readings.further") 400, .str (.ofString "/claim/cut.py") 401, .int (85) 0, .int (5) 0, .int (0) 0, .int (0) 0, .int (3) 0, .ref 160, .bool true, .int (181) 0, .ref 161, .none, .ref 162, .ref 163, .ref 164, .int (409) 0, .int (85) 0, .str (.ofString "/claim/cut.py") 410], #[]⟩ : Obj)) ::
  (nat_lit 166, (⟨.type "function", none, .func ⟨(.ofString "further"), (.ofString "Readings.further"), defArgs (inClass (topS 18) 5), .stmts (defBody (inClass (topS 18) 5)), defScope (inClass (topS 18) 5), 3, [], .none, .none, .none, .str (.ofString "siftstore.readings") 329, none, .ref 165, .none, 0⟩, #[]⟩ : Obj)) ::
  (nat_lit 167, (⟨.type "tuple", none, .seq #[] 0, #[]⟩ : Obj)) ::
  (nat_lit 170, (⟨.type "code", none, .fields #[.str (.ofString "rounds") 412, .str (.ofString "Readings.rounds") 413, .str (.ofString "/claim/cut.py") 414, .int (91) 0, .int (5) 0, .int (0) 0, .int (0) 0, .int (3) 0, .ref 167, .bool true, .int (181) 0, .ref 168, .none, .none, .none, .ref 169, .int (415) 0, .int (91) 0, .str (.ofString "/claim/cut.py") 416], #[]⟩ : Obj)) ::
  (nat_lit 171, (⟨.type "function", none, .func ⟨(.ofString "rounds"), (.ofString "Readings.rounds"), defArgs (inClass (topS 18) 6), .stmts (defBody (inClass (topS 18) 6)), defScope (inClass (topS 18) 6), 3, [], .none, .none, .none, .str (.ofString "siftstore.readings") 329, none, .ref 170, .none, 0⟩, #[]⟩ : Obj)) ::
  (nat_lit 172, (⟨.type "tuple", none, .seq #[] 0, #[]⟩ : Obj)) ::
  (nat_lit 175, (⟨.type "code", none, .fields #[.str (.ofString "reached") 418, .str (.ofString "Readings.reached") 419, .str (.ofString "/claim/cut.py") 420, .int (103) 0, .int (4) 0, .int (0) 0, .int (0) 0, .int (3) 0, .ref 172, .bool true, .int (181) 0, .ref 173, .none, .none, .none, .ref 174, .int (421) 0, .int (103) 0, .str (.ofString "/claim/cut.py") 422], #[]⟩ : Obj)) ::
  (nat_lit 176, (⟨.type "function", none, .func ⟨(.ofString "reached"), (.ofString "Readings.reached"), defArgs (inClass (topS 18) 7), .stmts (defBody (inClass (topS 18) 7)), defScope (inClass (topS 18) 7), 3, [], .none, .none, .none, .str (.ofString "siftstore.readings") 329, none, .ref 175, .none, 0⟩, #[]⟩ : Obj)) ::
  (nat_lit 177, (⟨.type "tuple", none, .seq #[] 0, #[]⟩ : Obj)) ::
  (nat_lit 180, (⟨.type "code", none, .fields #[.str (.ofString "one_more") 424, .str (.ofString "Readings.one_more") 425, .str (.ofString "/claim/cut.py") 426, .int (110) 0, .int (5) 0, .int (0) 0, .int (0) 0, .int (3) 0, .ref 177, .bool true, .int (181) 0, .ref 178, .none, .none, .none, .ref 179, .int (427) 0, .int (110) 0, .str (.ofString "/claim/cut.py") 428], #[]⟩ : Obj)) ::
  (nat_lit 181, (⟨.type "function", none, .func ⟨(.ofString "one_more"), (.ofString "Readings.one_more"), defArgs (inClass (topS 18) 8), .stmts (defBody (inClass (topS 18) 8)), defScope (inClass (topS 18) 8), 3, [], .none, .none, .none, .str (.ofString "siftstore.readings") 329, none, .ref 180, .none, 0⟩, #[]⟩ : Obj)) ::
  (nat_lit 182, (⟨.type "tuple", none, .seq #[.str (.ofString "known") 430, .str (.ofString "own_word") 431] 0, #[]⟩ : Obj)) ::
  (nat_lit 183, (⟨.type "dict", none, .dict (List.toArray [⟨PyData.keyHash P (.ofString "__module__"), .str (.ofString "__module__") 358, .str (.ofString "siftstore.readings") 329⟩, ⟨PyData.keyHash P (.ofString "__firstlineno__"), .str (.ofString "__firstlineno__") 362, .int (41) 361⟩, ⟨PyData.keyHash P (.ofString "__init__"), .str (.ofString "__init__") 370, .ref 137⟩, ⟨PyData.keyHash P (.ofString "ends"), .str (.ofString "ends") 380, .ref 144⟩, ⟨PyData.keyHash P (.ofString "pairs_at"), .str (.ofString "pairs_at") 386, .ref 149⟩, ⟨PyData.keyHash P (.ofString "followed"), .str (.ofString "followed") 392, .ref 154⟩, ⟨PyData.keyHash P (.ofString "counted"), .str (.ofString "counted") 398, .ref 159⟩, ⟨PyData.keyHash P (.ofString "further"), .str (.ofString "further") 411, .ref 166⟩, ⟨PyData.keyHash P (.ofString "rounds"), .str (.ofString "rounds") 417, .ref 171⟩, ⟨PyData.keyHash P (.ofString "reached"), .str (.ofString "reached") 423, .ref 176⟩, ⟨PyData.keyHash P (.ofString "one_more"), .str (.ofString "one_more") 429, .ref 181⟩, ⟨PyData.keyHash P (.ofString "__static_attributes__"), .str (.ofString "__static_attributes__") 432, .ref 182⟩, ⟨PyData.keyHash P (.ofString "__dict__"), .str (.ofString "__dict__") 434, .ref 185⟩, ⟨PyData.keyHash P (.ofString "__weakref__"), .str (.ofString "__weakref__") 436, .ref 186⟩, ⟨PyData.keyHash P (.ofString "__doc__"), .str (.ofString "__doc__") 437, .none⟩]) 4, #[]⟩ : Obj)) ::
  (nat_lit 184, (⟨.type "type", none, .cls ⟨(.ofString "Readings"), [.type "object"], [.ref 184, .type "object"], 183, (.ofString "Readings"), true, [], [], false, none, false⟩, #[none, none, some (.str (.ofString "Readings") 351), some (.str (.ofString "Readings") 359), some (.builtin "object.__new__"), some (.bool true)]⟩ : Obj)) ::
  (nat_lit 185, (⟨.type "getset_descriptor", none, .fields #[.str (.ofString "__dict__") 433, .ref 184, .builtin "function.__dict__", .builtin "function.__dict__#set"], #[]⟩ : Obj)) ::
  (nat_lit 186, (⟨.type "getset_descriptor", none, .fields #[.str (.ofString "__weakref__") 435, .ref 184, .builtin "ExceptionGroup.__weakref__", .none], #[]⟩ : Obj)) ::
  (nat_lit 189, (⟨.type "tuple", none, .seq #[] 0, #[]⟩ : Obj)) ::
  (nat_lit 192, (⟨.type "code", none, .fields #[.str (.ofString "first_captures") 440, .str (.ofString "first_captures") 441, .str (.ofString "/claim/cut.py") 442, .int (116) 0, .int (2) 0, .int (0) 0, .int (0) 0, .int (3) 0, .ref 189, .bool true, .int (181) 0, .ref 190, .none, .none, .none, .ref 191, .int (443) 0, .int (116) 0, .str (.ofString "/claim/cut.py") 444], #[]⟩ : Obj)) ::
  (nat_lit 193, (⟨.type "function", none, .func ⟨(.ofString "first_captures"), (.ofString "first_captures"), defArgs (topS 19), .stmts (defBody (topS 19)), defScope (topS 19), 3, [], .none, .none, .none, .str (.ofString "siftstore.readings") 329, none, .ref 192, .none, 0⟩, #[]⟩ : Obj)) ::
  (nat_lit 201, (⟨.type "tuple", none, .seq #[] 0, #[]⟩ : Obj)) ::
  (nat_lit 203, (⟨.type "tuple", none, .seq #[.str (.ofString "self") 463, .str (.ofString "start") 464, .str (.ofString "word") 465, .str (.ofString "spans") 466] 0, #[]⟩ : Obj)) ::
  (nat_lit 204, (⟨.type "tuple", none, .seq #[] 0, #[]⟩ : Obj)) ::
  (nat_lit 206, (⟨.type "code", none, .fields #[.str (.ofString "__init__") 460, .str (.ofString "Match.__init__") 461, .str (.ofString "/claim/cut.py") 462, .int (122) 0, .int (4) 0, .int (0) 0, .int (0) 0, .int (3) 0, .ref 201, .bool true, .int (181) 0, .ref 202, .none, .ref 203, .ref 204, .ref 205, .int (467) 0, .int (122) 0, .str (.ofString "/claim/cut.py") 468], #[]⟩ : Obj)) ::
  (nat_lit 207, (⟨.type "function", none, .func ⟨(.ofString "__init__"), (.ofString "Match.__init__"), defArgs (inClass (topS 21) 0), .stmts (defBody (inClass (topS 21) 0)), defScope (inClass (topS 21) 0), 3, [], .none, .none, .none, .str (.ofString "siftstore.matching") 446, none, .ref 206, .none, 0⟩, #[]⟩ : Obj)) ::
  (nat_lit 208, (⟨.type "tuple", none, .seq #[] 0, #[]⟩ : Obj)) ::
  (nat_lit 210, (⟨.type "tuple", none, .seq #[.str (.ofString "self") 473] 0, #[]⟩ : Obj)) ::
  (nat_lit 211, (⟨.type "tuple", none, .seq #[] 0, #[]⟩ : Obj)) ::
  (nat_lit 213, (⟨.type "code", none, .fields #[.str (.ofString "start") 470, .str (.ofString "Match.start") 471, .str (.ofString "/claim/cut.py") 472, .int (127) 0, .int (1) 0, .int (0) 0, .int (0) 0, .int (3) 0, .ref 208, .bool true, .int (181) 0, .ref 209, .none, .ref 210, .ref 211, .ref 212, .int (474) 0, .int (127) 0, .str (.ofString "/claim/cut.py") 475], #[]⟩ : Obj)) ::
  (nat_lit 214, (⟨.type "function", none, .func ⟨(.ofString "start"), (.ofString "Match.start"), defArgs (inClass (topS 21) 1), .stmts (defBody (inClass (topS 21) 1)), defScope (inClass (topS 21) 1), 3, [], .none, .none, .none, .str (.ofString "siftstore.matching") 446, none, .ref 213, .none, 0⟩, #[]⟩ : Obj)) ::
  (nat_lit 215, (⟨.type "property", none, .fields #[.ref 214, .none, .none, .none, .str (.ofString "start") 477, .bool false], #[]⟩ : Obj)) ::
  (nat_lit 216, (⟨.type "tuple", none, .seq #[] 0, #[]⟩ : Obj)) ::
  (nat_lit 218, (⟨.type "tuple", none, .seq #[.str (.ofString "self") 481] 0, #[]⟩ : Obj)) ::
  (nat_lit 219, (⟨.type "tuple", none, .seq #[] 0, #[]⟩ : Obj)) ::
  (nat_lit 221, (⟨.type "code", none, .fields #[.str (.ofString "end") 478, .str (.ofString "Match.end") 479, .str (.ofString "/claim/cut.py") 480, .int (131) 0, .int (1) 0, .int (0) 0, .int (0) 0, .int (3) 0, .ref 216, .bool true, .int (181) 0, .ref 217, .none, .ref 218, .ref 219, .ref 220, .int (482) 0, .int (131) 0, .str (.ofString "/claim/cut.py") 483], #[]⟩ : Obj)) ::
  (nat_lit 222, (⟨.type "function", none, .func ⟨(.ofString "end"), (.ofString "Match.end"), defArgs (inClass (topS 21) 2), .stmts (defBody (inClass (topS 21) 2)), defScope (inClass (topS 21) 2), 3, [], .none, .none, .none, .str (.ofString "siftstore.matching") 446, none, .ref 221, .none, 0⟩, #[]⟩ : Obj)) ::
  (nat_lit 223, (⟨.type "property", none, .fields #[.ref 222, .none, .none, .none, .str (.ofString "end") 485, .bool false], #[]⟩ : Obj)) ::
  (nat_lit 224, (⟨.type "tuple", none, .seq #[] 0, #[]⟩ : Obj)) ::
  (nat_lit 226, (⟨.type "tuple", none, .seq #[.str (.ofString "self") 489] 0, #[]⟩ : Obj)) ::
  (nat_lit 227, (⟨.type "tuple", none, .seq #[] 0, #[]⟩ : Obj)) ::
  (nat_lit 229, (⟨.type "code", none, .fields #[.str (.ofString "word") 486, .str (.ofString "Match.word") 487, .str (.ofString "/claim/cut.py") 488, .int (135) 0, .int (1) 0, .int (0) 0, .int (0) 0, .int (3) 0, .ref 224, .bool true, .int (181) 0, .ref 225, .none, .ref 226, .ref 227, .ref 228, .int (490) 0, .int (135) 0, .str (.ofString "/claim/cut.py") 491], #[]⟩ : Obj)) ::
  (nat_lit 230, (⟨.type "function", none, .func ⟨(.ofString "word"), (.ofString "Match.word"), defArgs (inClass (topS 21) 3), .stmts (defBody (inClass (topS 21) 3)), defScope (inClass (topS 21) 3), 3, [], .none, .none, .none, .str (.ofString "siftstore.matching") 446, none, .ref 229, .none, 0⟩, #[]⟩ : Obj)) ::
  (nat_lit 231, (⟨.type "property", none, .fields #[.ref 230, .none, .none, .none, .str (.ofString "word") 493, .bool false], #[]⟩ : Obj)) ::
  (nat_lit 232, (⟨.type "tuple", none, .seq #[] 0, #[]⟩ : Obj)) ::
  (nat_lit 234, (⟨.type "tuple", none, .seq #[.str (.ofString "self") 497, .str (.ofString "name") 498] 0, #[]⟩ : Obj)) ::
  (nat_lit 235, (⟨.type "tuple", none, .seq #[] 0, #[]⟩ : Obj)) ::
  (nat_lit 237, (⟨.type "code", none, .fields #[.str (.ofString "__getitem__") 494, .str (.ofString "Match.__getitem__") 495, .str (.ofString "/claim/cut.py") 496, .int (139) 0, .int (2) 0, .int (0) 0, .int (0) 0, .int (3) 0, .ref 232, .bool true, .int (181) 0, .ref 233, .none, .ref 234, .ref 235, .ref 236, .int (499) 0, .int (139) 0, .str (.ofString "/claim/cut.py") 500], #[]⟩ : Obj)) ::
  (nat_lit 238, (⟨.type "function", none, .func ⟨(.ofString "__getitem__"), (.ofString "Match.__getitem__"), defArgs (inClass (topS 21) 4), .stmts (defBody (inClass (topS 21) 4)), defScope (inClass (topS 21) 4), 3, [], .none, .none, .none, .str (.ofString "siftstore.matching") 446, none, .ref 237, .none, 0⟩, #[]⟩ : Obj)) ::
  (nat_lit 239, (⟨.type "tuple", none, .seq #[] 0, #[]⟩ : Obj)) ::
  (nat_lit 241, (⟨.type "tuple", none, .seq #[.str (.ofString "self") 505] 0, #[]⟩ : Obj)) ::
  (nat_lit 242, (⟨.type "tuple", none, .seq #[] 0, #[]⟩ : Obj)) ::
  (nat_lit 244, (⟨.type "code", none, .fields #[.str (.ofString "__iter__") 502, .str (.ofString "Match.__iter__") 503, .str (.ofString "/claim/cut.py") 504, .int (144) 0, .int (1) 0, .int (0) 0, .int (0) 0, .int (3) 0, .ref 239, .bool true, .int (181) 0, .ref 240, .none, .ref 241, .ref 242, .ref 243, .int (506) 0, .int (144) 0, .str (.ofString "/claim/cut.py") 507], #[]⟩ : Obj)) ::
  (nat_lit 245, (⟨.type "function", none, .func ⟨(.ofString "__iter__"), (.ofString "Match.__iter__"), defArgs (inClass (topS 21) 5), .stmts (defBody (inClass (topS 21) 5)), defScope (inClass (topS 21) 5), 3, [], .none, .none, .none, .str (.ofString "siftstore.matching") 446, none, .ref 244, .none, 0⟩, #[]⟩ : Obj)) ::
  (nat_lit 246, (⟨.type "tuple", none, .seq #[] 0, #[]⟩ : Obj)) ::
  (nat_lit 248, (⟨.type "tuple", none, .seq #[.str (.ofString "self") 512, .str (.ofString "other") 513] 0, #[]⟩ : Obj)) ::
  (nat_lit 249, (⟨.type "tuple", none, .seq #[] 0, #[]⟩ : Obj)) ::
  (nat_lit 251, (⟨.type "code", none, .fields #[.str (.ofString "__eq__") 509, .str (.ofString "Match.__eq__") 510, .str (.ofString "/claim/cut.py") 511, .int (147) 0, .int (2) 0, .int (0) 0, .int (0) 0, .int (3) 0, .ref 246, .bool true, .int (181) 0, .ref 247, .none, .ref 248, .ref 249, .ref 250, .int (514) 0, .int (147) 0, .str (.ofString "/claim/cut.py") 515], #[]⟩ : Obj)) ::
  (nat_lit 252, (⟨.type "function", none, .func ⟨(.ofString "__eq__"), (.ofString "Match.__eq__"), defArgs (inClass (topS 21) 6), .stmts (defBody (inClass (topS 21) 6)), defScope (inClass (topS 21) 6), 3, [], .none, .none, .none, .str (.ofString "siftstore.matching") 446, none, .ref 251, .none, 0⟩, #[]⟩ : Obj)) ::
  (nat_lit 253, (⟨.type "tuple", none, .seq #[.str (.ofString "own_start") 517, .str (.ofString "own_word") 518, .str (.ofString "spans") 519] 0, #[]⟩ : Obj)) ::
  (nat_lit 254, (⟨.type "dict", none, .dict (List.toArray [⟨PyData.keyHash P (.ofString "__module__"), .str (.ofString "__module__") 455, .str (.ofString "siftstore.matching") 446⟩, ⟨PyData.keyHash P (.ofString "__firstlineno__"), .str (.ofString "__firstlineno__") 459, .int (120) 458⟩, ⟨PyData.keyHash P (.ofString "__init__"), .str (.ofString "__init__") 469, .ref 207⟩, ⟨PyData.keyHash P (.ofString "start"), .str (.ofString "start") 477, .ref 215⟩, ⟨PyData.keyHash P (.ofString "end"), .str (.ofString "end") 485, .ref 223⟩, ⟨PyData.keyHash P (.ofString "word"), .str (.ofString "word") 493, .ref 231⟩, ⟨PyData.keyHash P (.ofString "__getitem__"), .str (.ofString "__getitem__") 501, .ref 238⟩, ⟨PyData.keyHash P (.ofString "__iter__"), .str (.ofString "__iter__") 508, .ref 245⟩, ⟨PyData.keyHash P (.ofString "__eq__"), .str (.ofString "__eq__") 516, .ref 252⟩, ⟨PyData.keyHash P (.ofString "__static_attributes__"), .str (.ofString "__static_attributes__") 520, .ref 253⟩, ⟨PyData.keyHash P (.ofString "__dict__"), .str (.ofString "__dict__") 522, .ref 256⟩, ⟨PyData.keyHash P (.ofString "__weakref__"), .str (.ofString "__weakref__") 524, .ref 257⟩, ⟨PyData.keyHash P (.ofString "__doc__"), .str (.ofString "__doc__") 525, .none⟩, ⟨PyData.keyHash P (.ofString "__hash__"), .str (.ofString "__hash__") 526, .none⟩]) 5, #[]⟩ : Obj)) ::
  (nat_lit 255, (⟨.type "type", none, .cls ⟨(.ofString "Match"), [.type "object"], [.ref 255, .type "object"], 254, (.ofString "Match"), true, [], [], false, none, false⟩, #[none, none, some (.str (.ofString "Match") 448), some (.str (.ofString "Match") 456), some (.builtin "object.__new__"), some (.bool true)]⟩ : Obj)) ::
  (nat_lit 256, (⟨.type "getset_descriptor", none, .fields #[.str (.ofString "__dict__") 521, .ref 255, .builtin "function.__dict__", .builtin "function.__dict__#set"], #[]⟩ : Obj)) ::
  (nat_lit 257, (⟨.type "getset_descriptor", none, .fields #[.str (.ofString "__weakref__") 523, .ref 255, .builtin "ExceptionGroup.__weakref__", .none], #[]⟩ : Obj)) ::
  (nat_lit 260, (⟨.type "tuple", none, .seq #[] 0, #[]⟩ : Obj)) ::
  (nat_lit 263, (⟨.type "code", none, .fields #[.str (.ofString "begun") 529, .str (.ofString "begun") 530, .str (.ofString "/claim/cut.py") 531, .int (151) 0, .int (2) 0, .int (0) 0, .int (0) 0, .int (3) 0, .ref 260, .bool true, .int (181) 0, .ref 261, .none, .none, .none, .ref 262, .int (532) 0, .int (151) 0, .str (.ofString "/claim/cut.py") 533], #[]⟩ : Obj)) ::
  (nat_lit 264, (⟨.type "function", none, .func ⟨(.ofString "begun"), (.ofString "begun"), defArgs (topS 22), .stmts (defBody (topS 22)), defScope (topS 22), 3, [], .none, .none, .none, .str (.ofString "siftstore.matching") 446, none, .ref 263, .none, 0⟩, #[]⟩ : Obj)) ::
  (nat_lit 265, (⟨.type "tuple", none, .seq #[] 0, #[]⟩ : Obj)) ::
  (nat_lit 268, (⟨.type "code", none, .fields #[.str (.ofString "gone_on") 535, .str (.ofString "gone_on") 536, .str (.ofString "/claim/cut.py") 537, .int (153) 0, .int (3) 0, .int (0) 0, .int (0) 0, .int (3) 0, .ref 265, .bool true, .int (181) 0, .ref 266, .none, .none, .none, .ref 267, .int (538) 0, .int (153) 0, .str (.ofString "/claim/cut.py") 539], #[]⟩ : Obj)) ::
  (nat_lit 269, (⟨.type "function", none, .func ⟨(.ofString "gone_on"), (.ofString "gone_on"), defArgs (topS 23), .stmts (defBody (topS 23)), defScope (topS 23), 3, [], .none, .none, .none, .str (.ofString "siftstore.matching") 446, none, .ref 268, .none, 0⟩, #[]⟩ : Obj)) ::
  (nat_lit 270, (⟨.type "tuple", none, .seq #[] 0, #[]⟩ : Obj)) ::
  (nat_lit 273, (⟨.type "code", none, .fields #[.str (.ofString "can_end") 541, .str (.ofString "can_end") 542, .str (.ofString "/claim/cut.py") 543, .int (156) 0, .int (2) 0, .int (0) 0, .int (0) 0, .int (3) 0, .ref 270, .bool true, .int (181) 0, .ref 271, .none, .none, .none, .ref 272, .int (544) 0, .int (156) 0, .str (.ofString "/claim/cut.py") 545], #[]⟩ : Obj)) ::
  (nat_lit 274, (⟨.type "function", none, .func ⟨(.ofString "can_end"), (.ofString "can_end"), defArgs (topS 24), .stmts (defBody (topS 24)), defScope (topS 24), 3, [], .none, .none, .none, .str (.ofString "siftstore.matching") 446, none, .ref 273, .none, 0⟩, #[]⟩ : Obj)) ::
  (nat_lit 275, (⟨.type "tuple", none, .seq #[] 0, #[]⟩ : Obj)) ::
  (nat_lit 277, (⟨.type "tuple", none, .seq #[.str (.ofString "pattern") 550, .str (.ofString "text") 551, .str (.ofString "start") 552, .str (.ofString "some") 553, .str (.ofString "found") 554, .str (.ofString "at") 555] 0, #[]⟩ : Obj)) ::
  (nat_lit 278, (⟨.type "tuple", none, .seq #[] 0, #[]⟩ : Obj)) ::
  (nat_lit 280, (⟨.type "code", none, .fields #[.str (.ofString "longest_end") 547, .str (.ofString "longest_end") 548, .str (.ofString "/claim/cut.py") 549, .int (158) 0, .int (3) 0, .int (0) 0, .int (0) 0, .int (3) 0, .ref 275, .bool true, .int (181) 0, .ref 276, .none, .ref 277, .ref 278, .ref 279, .int (556) 0, .int (158) 0, .str (.ofString "/claim/cut.py") 557], #[]⟩ : Obj)) ::
  (nat_lit 281, (⟨.type "function", none, .func ⟨(.ofString "longest_end"), (.ofString "longest_end"), defArgs (topS 25), .stmts (defBody (topS 25)), defScope (topS 25), 3, [], .none, .none, .none, .str (.ofString "siftstore.matching") 446, none, .ref 280, .none, 0⟩, #[]⟩ : Obj)) ::
  (nat_lit 282, (⟨.type "tuple", none, .seq #[] 0, #[]⟩ : Obj)) ::
  (nat_lit 285, (⟨.type "code", none, .fields #[.str (.ofString "match_at") 559, .str (.ofString "match_at") 560, .str (.ofString "/claim/cut.py") 561, .int (167) 0, .int (4) 0, .int (0) 0, .int (0) 0, .int (3) 0, .ref 282, .bool true, .int (181) 0, .ref 283, .none, .none, .none, .ref 284, .int (562) 0, .int (167) 0, .str (.ofString "/claim/cut.py") 563], #[]⟩ : Obj)) ::
  (nat_lit 286, (⟨.type "function", none, .func ⟨(.ofString "match_at"), (.ofString "match_at"), defArgs (topS 26), .stmts (defBody (topS 26)), defScope (topS 26), 3, [], .none, .none, .none, .str (.ofString "siftstore.matching") 446, none, .ref 285, .none, 0⟩, #[]⟩ : Obj)) ::
  (nat_lit 287, (⟨.type "tuple", none, .seq #[] 0, #[]⟩ : Obj)) ::
  (nat_lit 289, (⟨.type "tuple", none, .seq #[.str (.ofString "pattern") 568, .str (.ofString "text") 569, .str (.ofString "at") 570, .str (.ofString "end") 571] 0, #[]⟩ : Obj)) ::
  (nat_lit 290, (⟨.type "tuple", none, .seq #[] 0, #[]⟩ : Obj)) ::
  (nat_lit 292, (⟨.type "code", none, .fields #[.str (.ofString "matches") 565, .str (.ofString "matches") 566, .str (.ofString "/claim/cut.py") 567, .int (173) 0, .int (2) 0, .int (0) 0, .int (0) 0, .int (35) 0, .ref 287, .bool true, .int (181) 0, .ref 288, .none, .ref 289, .ref 290, .ref 291, .int (572) 0, .int (173) 0, .str (.ofString "/claim/cut.py") 573], #[]⟩ : Obj)) ::
  (nat_lit 293, (⟨.type "function", none, .func ⟨(.ofString "matches"), (.ofString "matches"), defArgs (topS 27), .stmts (defBody (topS 27)), defScope (topS 27), 3, [], .none, .none, .none, .str (.ofString "siftstore.matching") 446, none, .ref 292, .none, 0⟩, #[]⟩ : Obj)) ::
  (nat_lit 294, (⟨.type "tuple", none, .seq #[] 0, #[]⟩ : Obj)) ::
  (nat_lit 297, (⟨.type "code", none, .fields #[.str (.ofString "has_match") 575, .str (.ofString "has_match") 576, .str (.ofString "/claim/cut.py") 577, .int (184) 0, .int (2) 0, .int (0) 0, .int (0) 0, .int (3) 0, .ref 294, .bool true, .int (181) 0, .ref 295, .none, .none, .none, .ref 296, .int (578) 0, .int (184) 0, .str (.ofString "/claim/cut.py") 579], #[]⟩ : Obj)) ::
  (nat_lit 298, (⟨.type "function", none, .func ⟨(.ofString "has_match"), (.ofString "has_match"), defArgs (topS 28), .stmts (defBody (topS 28)), defScope (topS 28), 3, [], .none, .none, .none, .str (.ofString "siftstore.matching") 446, none, .ref 297, .none, 0⟩, #[]⟩ : Obj)) ::
  (nat_lit 299, (⟨.type "dict", none, .dict (List.toArray [⟨PyData.keyHash P (.ofString "*"), .str (.ofString "*") 595, .ref 300⟩, ⟨PyData.keyHash P (.ofString "+"), .str (.ofString "+") 597, .ref 301⟩, ⟨PyData.keyHash P (.ofString "?"), .str (.ofString "?") 599, .ref 302⟩]) 3, #[]⟩ : Obj)) ::
  (nat_lit 300, (⟨.type "tuple", none, .seq #[.int (0) 596, .none] 0, #[]⟩ : Obj)) ::
  (nat_lit 301, (⟨.type "tuple", none, .seq #[.int (1) 598, .none] 0, #[]⟩ : Obj)) ::
  (nat_lit 302, (⟨.type "tuple", none, .seq #[.int (0) 600, .int (1) 601] 0, #[]⟩ : Obj)) ::
  (nat_lit 310, (⟨.type "tuple", none, .seq #[] 0, #[]⟩ : Obj)) ::
  (nat_lit 312, (⟨.type "tuple", none, .seq #[.str (.ofString "self") 633, .str (.ofString "string") 634] 0, #[]⟩ : Obj)) ::
  (nat_lit 313, (⟨.type "tuple", none, .seq #[] 0, #[]⟩ : Obj)) ::
  (nat_lit 315, (⟨.type "code", none, .fields #[.str (.ofString "__init__") 630, .str (.ofString "PatternReader.__init__") 631, .str (.ofString "/claim/cut.py") 632, .int (210) 0, .int (2) 0, .int (0) 0, .int (0) 0, .int (3) 0, .ref 310, .bool true, .int (181) 0, .ref 311, .none, .ref 312, .ref 313, .ref 314, .int (635) 0, .int (210) 0, .str (.ofString "/claim/cut.py") 636], #[]⟩ : Obj)) ::
  (nat_lit 316, (⟨.type "function", none, .func ⟨(.ofString "__init__"), (.ofString "PatternReader.__init__"), defArgs (inClass (topS 43) 0), .stmts (defBody (inClass (topS 43) 0)), defScope (inClass (topS 43) 0), 3, [], .none, .none, .none, .str (.ofString "siftstore.parsing") 581, none, .ref 315, .none, 0⟩, #[]⟩ : Obj)) ::
  (nat_lit 317, (⟨.type "tuple", none, .seq #[] 0, #[]⟩ : Obj)) ::
  (nat_lit 319, (⟨.type "tuple", none, .seq #[.str (.ofString "self") 641] 0, #[]⟩ : Obj)) ::
  (nat_lit 320, (⟨.type "tuple", none, .seq #[] 0, #[]⟩ : Obj)) ::
  (nat_lit 322, (⟨.type "code", none, .fields #[.str (.ofString "sign") 638, .str (.ofString "PatternReader.sign") 639, .str (.ofString "/claim/cut.py") 640, .int (216) 0, .int (1) 0, .int (0) 0, .int (0) 0, .int (3) 0, .ref 317, .bool true, .int (181) 0, .ref 318, .none, .ref 319, .ref 320, .ref 321, .int (642) 0, .int (216) 0, .str (.ofString "/claim/cut.py") 643], #[]⟩ : Obj)) ::
  (nat_lit 323, (⟨.type "function", none, .func ⟨(.ofString "sign"), (.ofString "PatternReader.sign"), defArgs (inClass (topS 43) 1), .stmts (defBody (inClass (topS 43) 1)), defScope (inClass (topS 43) 1), 3, [], .none, .none, .none, .str (.ofString "siftstore.parsing") 581, none, .ref 322, .none, 0⟩, #[]⟩ : Obj)) ::
  (nat_lit 324, (⟨.type "tuple", none, .seq #[] 0, #[]⟩ : Obj)) ::
  (nat_lit 326, (⟨.type "tuple", none, .seq #[.str (.ofString "self") 648, .str (.ofString "sign") 649] 0, #[]⟩ : Obj)) ::
  (nat_lit 327, (⟨.type "tuple", none, .seq #[] 0, #[]⟩ : Obj)) ::
  (nat_lit 329, (⟨.type "code", none, .fields #[.str (.ofString "skips") 645, .str (.ofString "PatternReader.skips") 646, .str (.ofString "/claim/cut.py") 647, .int (219) 0, .int (2) 0, .int (0) 0, .int (0) 0, .int (3) 0, .ref 324, .bool true, .int (181) 0, .ref 325, .none, .ref 326, .ref 327, .ref 328, .int (650) 0, .int (219) 0, .str (.ofString "/claim/cut.py") 651], #[]⟩ : Obj)) ::
  (nat_lit 330, (⟨.type "function", none, .func ⟨(.ofString "skips"), (.ofString "PatternReader.skips"), defArgs (inClass (topS 43) 2), .stmts (defBody (inClass (topS 43) 2)), defScope (inClass (topS 43) 2), 3, [], .none, .none, .none, .str (.ofString "siftstore.parsing") 581, none, .ref 329, .none, 0⟩, #[]⟩ : Obj)) ::
  (nat_lit 331, (⟨.type "tuple", none, .seq #[] 0, #[]⟩ : Obj)) ::
  (nat_lit 333, (⟨.type "tuple", none, .seq #[.str (.ofString "self") 656, .str (.ofString "is_right") 657] 0, #[]⟩ : Obj)) ::
  (nat_lit 334, (⟨.type "tuple", none, .seq #[] 0, #[]⟩ : Obj)) ::
  (nat_lit 336, (⟨.type "code", none, .fields #[.str (.ofString "demand") 653, .str (.ofString "PatternReader.demand") 654, .str (.ofString "/claim/cut.py") 655, .int (225) 0, .int (2) 0, .int (0) 0, .int (0) 0, .int (3) 0, .ref 331, .bool true, .int (181) 0, .ref 332, .none, .ref 333, .ref 334, .ref 335, .int (658) 0, .int (225) 0, .str (.ofString "/claim/cut.py") 659], #[]⟩ : Obj)) ::
  (nat_lit 337, (⟨.type "function", none, .func ⟨(.ofString "demand"), (.ofString "PatternReader.demand"), defArgs (inClass (topS 43) 3), .stmts (defBody (inClass (topS 43) 3)), defScope (inClass (topS 43) 3), 3, [], .none, .none, .none, .str (.ofString "siftstore.parsing") 581, none, .ref 336, .none, 0⟩, #[]⟩ : Obj)) ::
  (nat_lit 338, (⟨.type "tuple", none, .seq #[] 0, #[]⟩ : Obj)) ::
  (nat_lit 340, (⟨.type "tuple", none, .seq #[.str (.ofString "self") 664, .str (.ofString "is_left") 665, .str (.ofString "tree") 666, .str (.ofString "is_right") 667] 0, #[]⟩ : Obj)) ::
  (nat_lit 341, (⟨.type "tuple", none, .seq #[] 0, #[]⟩ : Obj)) ::
  (nat_lit 343, (⟨.type "code", none, .fields #[.str (.ofString "read_whole") 661, .str (.ofString "PatternReader.read_whole") 662, .str (.ofString "/claim/cut.py") 663, .int (229) 0, .int (1) 0, .int (0) 0, .int (0) 0, .int (3) 0, .ref 338, .bool true, .int (181) 0, .ref 339, .none, .ref 340, .ref 341, .ref 342, .int (668) 0, .int (229) 0, .str (.ofString "/claim/cut.py") 669], #[]⟩ : Obj)) ::
  (nat_lit 344, (⟨.type "function", none, .func ⟨(.ofString "read_whole"), (.ofString "PatternReader.read_whole"), defArgs (inClass (topS 43) 4), .stmts (defBody (inClass (topS 43) 4)), defScope (inClass (topS 43) 4), 3, [], .none, .none, .none, .str (.ofString "siftstore.parsing") 581, none, .ref 343, .none, 0⟩, #[]⟩ : Obj)) ::
  (nat_lit 345, (⟨.type "tuple", none, .seq #[] 0, #[]⟩ : Obj)) ::
  (nat_lit 347, (⟨.type "tuple", none, .seq #[.str (.ofString "self") 674, .str (.ofString "parts") 675] 0, #[]⟩ : Obj)) ::
  (nat_lit 348, (⟨.type "tuple", none, .seq #[] 0, #[]⟩ : Obj)) ::
  (nat_lit 350, (⟨.type "code", none, .fields #[.str (.ofString "read_choice") 671, .str (.ofString "PatternReader.read_choice") 672, .str (.ofString "/claim/cut.py") 673, .int (236) 0, .int (1) 0, .int (0) 0, .int (0) 0, .int (3) 0, .ref 345, .bool true, .int (181) 0, .ref 346, .none, .ref 347, .ref 348, .ref 349, .int (676) 0, .int (236) 0, .str (.ofString "/claim/cut.py") 677], #[]⟩ : Obj)) ::
  (nat_lit 351, (⟨.type "function", none, .func ⟨(.ofString "read_choice"), (.ofString "PatternReader.read_choice"), defArgs (inClass (topS 43) 5), .stmts (defBody (inClass (topS 43) 5)), defScope (inClass (topS 43) 5), 3, [], .none, .none, .none, .str (.ofString "siftstore.parsing") 581, none, .ref 350, .none, 0⟩, #[]⟩ : Obj)) ::
  (nat_lit 352, (⟨.type "tuple", none, .seq #[] 0, #[]⟩ : Obj)) ::
  (nat_lit 354, (⟨.type "tuple", none, .seq #[.str (.ofString "self") 682, .str (.ofString "parts") 683] 0, #[]⟩ : Obj)) ::
  (nat_lit 355, (⟨.type "tuple", none, .seq #[] 0, #[]⟩ : Obj)) ::
  (nat_lit 357, (⟨.type "code", none, .fields #[.str (.ofString "read_chain") 679, .str (.ofString "PatternReader.read_chain") 680, .str (.ofString "/claim/cut.py") 681, .int (242) 0, .int (1) 0, .int (0) 0, .int (0) 0, .int (3) 0, .ref 352, .bool true, .int (181) 0, .ref 353, .none, .ref 354, .ref 355, .ref 356, .int (684) 0, .int (242) 0, .str (.ofString "/claim/cut.py") 685], #[]⟩ : Obj)) ::
  (nat_lit 358, (⟨.type "function", none, .func ⟨(.ofString "read_chain"), (.ofString "PatternReader.read_chain"), defArgs (inClass (topS 43) 6), .stmts (defBody (inClass (topS 43) 6)), defScope (inClass (topS 43) 6), 3, [], .none, .none, .none, .str (.ofString "siftstore.parsing") 581, none, .ref 357, .none, 0⟩, #[]⟩ : Obj)) ::
  (nat_lit 359, (⟨.type "tuple", none, .seq #[] 0, #[]⟩ : Obj)) ::
  (nat_lit 361, (⟨.type "tuple", none, .seq #[.str (.ofString "self") 690, .str (.ofString "part") 691, .str (.ofString "least") 692, .str (.ofString "most") 693] 0, #[]⟩ : Obj)) ::
  (nat_lit 362, (⟨.type "tuple", none, .seq #[] 0, #[]⟩ : Obj)) ::
  (nat_lit 364, (⟨.type "code", none, .fields #[.str (.ofString "read_item") 687, .str (.ofString "PatternReader.read_item") 688, .str (.ofString "/claim/cut.py") 689, .int (248) 0, .int (1) 0, .int (0) 0, .int (0) 0, .int (3) 0, .ref 359, .bool true, .int (181) 0, .ref 360, .none, .ref 361, .ref 362, .ref 363, .int (694) 0, .int (248) 0, .str (.ofString "/claim/cut.py") 695], #[]⟩ : Obj)) ::
  (nat_lit 365, (⟨.type "function", none, .func ⟨(.ofString "read_item"), (.ofString "PatternReader.read_item"), defArgs (inClass (topS 43) 7), .stmts (defBody (inClass (topS 43) 7)), defScope (inClass (topS 43) 7), 3, [], .none, .none, .none, .str (.ofString "siftstore.parsing") 581, none, .ref 364, .none, 0⟩, #[]⟩ : Obj)) ::
  (nat_lit 366, (⟨.type "tuple", none, .seq #[] 0, #[]⟩ : Obj)) ::
  (nat_lit 368, (⟨.type "tuple", none, .seq #[.str (.ofString "self") 700, .str (.ofString "begin") 701, .str (.ofString "word") 702] 0, #[]⟩ : Obj)) ::
  (nat_lit 369, (⟨.type "tuple", none, .seq #[] 0, #[]⟩ : Obj)) ::
  (nat_lit 371, (⟨.type "code", none, .fields #[.str (.ofString "read_number") 697, .str (.ofString "PatternReader.read_number") 698, .str (.ofString "/claim/cut.py") 699, .int (262) 0, .int (1) 0, .int (0) 0, .int (0) 0, .int (3) 0, .ref 366, .bool true, .int (181) 0, .ref 367, .none, .ref 368, .ref 369, .ref 370, .int (703) 0, .int (262) 0, .str (.ofString "/claim/cut.py") 704], #[]⟩ : Obj)) ::
  (nat_lit 372, (⟨.type "function", none, .func ⟨(.ofString "read_number"), (.ofString "PatternReader.read_number"), defArgs (inClass (topS 43) 8), .stmts (defBody (inClass (topS 43) 8)), defScope (inClass (topS 43) 8), 3, [], .none, .none, .none, .str (.ofString "siftstore.parsing") 581, none, .ref 371, .none, 0⟩, #[]⟩ : Obj)) ::
  (nat_lit 373, (⟨.type "tuple", none, .seq #[] 0, #[]⟩ : Obj)) ::
  (nat_lit 375, (⟨.type "tuple", none, .seq #[.str (.ofString "self") 709, .str (.ofString "sign") 710, .str (.ofString "tree") 711] 0, #[]⟩ : Obj)) ::
  (nat_lit 376, (⟨.type "tuple", none, .seq #[] 0, #[]⟩ : Obj)) ::
  (nat_lit 378, (⟨.type "code", none, .fields #[.str (.ofString "read_unit") 706, .str (.ofString "PatternReader.read_unit") 707, .str (.ofString "/claim/cut.py") 708, .int (271) 0, .int (1) 0, .int (0) 0, .int (0) 0, .int (3) 0, .ref 373, .bool true, .int (181) 0, .ref 374, .none, .ref 375, .ref 376, .ref 377, .int (712) 0, .int (271) 0, .str (.ofString "/claim/cut.py") 713], #[]⟩ : Obj)) ::
  (nat_lit 379, (⟨.type "function", none, .func ⟨(.ofString "read_unit"), (.ofString "PatternReader.read_unit"), defArgs (inClass (topS 43) 9), .stmts (defBody (inClass (topS 43) 9)), defScope (inClass (topS 43) 9), 3, [], .none, .none, .none, .str (.ofString "siftstore.parsing") 581, none, .ref 378, .none, 0⟩, #[]⟩ : Obj)) ::
  (nat_lit 380, (⟨.type "tuple", none, .seq #[] 0, #[]⟩ : Obj)) ::
  (nat_lit 382, (⟨.type "tuple", none, .seq #[.str (.ofString "self") 718, .str (.ofString "tree") 719] 0, #[]⟩ : Obj)) ::
  (nat_lit 383, (⟨.type "tuple", none, .seq #[] 0, #[]⟩ : Obj)) ::
  (nat_lit 385, (⟨.type "code", none, .fields #[.str (.ofString "read_group") 715, .str (.ofString "PatternReader.read_group") 716, .str (.ofString "/claim/cut.py") 717, .int (287) 0, .int (1) 0, .int (0) 0, .int (0) 0, .int (3) 0, .ref 380, .bool true, .int (181) 0, .ref 381, .none, .ref 382, .ref 383, .ref 384, .int (720) 0, .int (287) 0, .str (.ofString "/claim/cut.py") 721], #[]⟩ : Obj)) ::
  (nat_lit 386, (⟨.type "function", none, .func ⟨(.ofString "read_group"), (.ofString "PatternReader.read_group"), defArgs (inClass (topS 43) 10), .stmts (defBody (inClass (topS 43) 10)), defScope (inClass (topS 43) 10), 3, [], .none, .none, .none, .str (.ofString "siftstore.parsing") 581, none, .ref 385, .none, 0⟩, #[]⟩ : Obj)) ::
  (nat_lit 387, (⟨.type "tuple", none, .seq #[] 0, #[]⟩ : Obj)) ::
  (nat_lit 389, (⟨.type "tuple", none, .seq #[.str (.ofString "self") 726, .str (.ofString "begin") 727, .str (.ofString "name") 728, .str (.ofString "tree") 729] 0, #[]⟩ : Obj)) ::
  (nat_lit 390, (⟨.type "tuple", none, .seq #[] 0, #[]⟩ : Obj)) ::
  (nat_lit 392, (⟨.type "code", none, .fields #[.str (.ofString "read_capture") 723, .str (.ofString "PatternReader.read_capture") 724, .str (.ofString "/claim/cut.py") 725, .int (294) 0, .int (1) 0, .int (0) 0, .int (0) 0, .int (3) 0, .ref 387, .bool true, .int (181) 0, .ref 388, .none, .ref 389, .ref 390, .ref 391, .int (730) 0, .int (294) 0, .str (.ofString "/claim/cut.py") 731], #[]⟩ : Obj)) ::
  (nat_lit 393, (⟨.type "function", none, .func ⟨(.ofString "read_capture"), (.ofString "PatternReader.read_capture"), defArgs (inClass (topS 43) 11), .stmts (defBody (inClass (topS 43) 11)), defScope (inClass (topS 43) 11), 3, [], .none, .none, .none, .str (.ofString "siftstore.parsing") 581, none, .ref 392, .none, 0⟩, #[]⟩ : Obj)) ::
  (nat_lit 394, (⟨.type "tuple", none, .seq #[] 0, #[]⟩ : Obj)) ::
  (nat_lit 397, (⟨.type "code", none, .fields #[.str (.ofString "read_class") 733, .str (.ofString "PatternReader.read_class") 734, .str (.ofString "/claim/cut.py") 735, .int (305) 0, .int (1) 0, .int (0) 0, .int (0) 0, .int (3) 0, .ref 394, .bool true, .int (181) 0, .ref 395, .none, .none, .none, .ref 396, .int (736) 0, .int (305) 0, .str (.ofString "/claim/cut.py") 737], #[]⟩ : Obj)) ::
  (nat_lit 398, (⟨.type "function", none, .func ⟨(.ofString "read_class"), (.ofString "PatternReader.read_class"), defArgs (inClass (topS 43) 12), .stmts (defBody (inClass (topS 43) 12)), defScope (inClass (topS 43) 12), 3, [], .none, .none, .none, .str (.ofString "siftstore.parsing") 581, none, .ref 397, .none, 0⟩, #[]⟩ : Obj)) ::
  (nat_lit 399, (⟨.type "tuple", none, .seq #[] 0, #[]⟩ : Obj)) ::
  (nat_lit 401, (⟨.type "tuple", none, .seq #[.str (.ofString "self") 742, .str (.ofString "first") 743, .str (.ofString "last") 744] 0, #[]⟩ : Obj)) ::
  (nat_lit 402, (⟨.type "tuple", none, .seq #[] 0, #[]⟩ : Obj)) ::
  (nat_lit 404, (⟨.type "code", none, .fields #[.str (.ofString "read_part") 739, .str (.ofString "PatternReader.read_part") 740, .str (.ofString "/claim/cut.py") 741, .int (313) 0, .int (1) 0, .int (0) 0, .int (0) 0, .int (3) 0, .ref 399, .bool true, .int (181) 0, .ref 400, .none, .ref 401, .ref 402, .ref 403, .int (745) 0, .int (313) 0, .str (.ofString "/claim/cut.py") 746], #[]⟩ : Obj)) ::
  (nat_lit 405, (⟨.type "function", none, .func ⟨(.ofString "read_part"), (.ofString "PatternReader.read_part"), defArgs (inClass (topS 43) 13), .stmts (defBody (inClass (topS 43) 13)), defScope (inClass (topS 43) 13), 3, [], .none, .none, .none, .str (.ofString "siftstore.parsing") 581, none, .ref 404, .none, 0⟩, #[]⟩ : Obj)) ::
  (nat_lit 406, (⟨.type "tuple", none, .seq #[.str (.ofString "many_open") 748, .str (.ofString "names") 749, .str (.ofString "spot") 750, .str (.ofString "string") 751] 0, #[]⟩ : Obj)) ::
  (nat_lit 407, (⟨.type "dict", none, .dict (List.toArray [⟨PyData.keyHash P (.ofString "__module__"), .str (.ofString "__module__") 625, .str (.ofString "siftstore.parsing") 581⟩, ⟨PyData.keyHash P (.ofString "__firstlineno__"), .str (.ofString "__firstlineno__") 629, .int (208) 628⟩, ⟨PyData.keyHash P (.ofString "__init__"), .str (.ofString "__init__") 637, .ref 316⟩, ⟨PyData.keyHash P (.ofString "sign"), .str (.ofString "sign") 644, .ref 323⟩, ⟨PyData.keyHash P (.ofString "skips"), .str (.ofString "skips") 652, .ref 330⟩, ⟨PyData.keyHash P (.ofString "demand"), .str (.ofString "demand") 660, .ref 337⟩, ⟨PyData.keyHash P (.ofString "read_whole"), .str (.ofString "read_whole") 670, .ref 344⟩, ⟨PyData.keyHash P (.ofString "read_choice"), .str (.ofString "read_choice") 678, .ref 351⟩, ⟨PyData.keyHash P (.ofString "read_chain"), .str (.ofString "read_chain") 686, .ref 358⟩, ⟨PyData.keyHash P (.ofString "read_item"), .str (.ofString "read_item") 696, .ref 365⟩, ⟨PyData.keyHash P (.ofString "read_number"), .str (.ofString "read_number") 705, .ref 372⟩, ⟨PyData.keyHash P (.ofString "read_unit"), .str (.ofString "read_unit") 714, .ref 379⟩, ⟨PyData.keyHash P (.ofString "read_group"), .str (.ofString "read_group") 722, .ref 386⟩, ⟨PyData.keyHash P (.ofString "read_capture"), .str (.ofString "read_capture") 732, .ref 393⟩, ⟨PyData.keyHash P (.ofString "read_class"), .str (.ofString "read_class") 738, .ref 398⟩, ⟨PyData.keyHash P (.ofString "read_part"), .str (.ofString "read_part") 747, .ref 405⟩, ⟨PyData.keyHash P (.ofString "__static_attributes__"), .str (.ofString "__static_attributes__") 752, .ref 406⟩, ⟨PyData.keyHash P (.ofString "__dict__"), .str (.ofString "__dict__") 754, .ref 409⟩, ⟨PyData.keyHash P (.ofString "__weakref__"), .str (.ofString "__weakref__") 756, .ref 410⟩, ⟨PyData.keyHash P (.ofString "__doc__"), .str (.ofString "__doc__") 757, .none⟩]) 4, #[]⟩ : Obj)) ::
  (nat_lit 408, (⟨.type "type", none, .cls ⟨(.ofString "PatternReader"), [.type "object"], [.ref 408, .type "object"], 407, (.ofString "PatternReader"), true, [], [], false, none, false⟩, #[none, none, some (.str (.ofString "PatternReader") 618), some (.str (.ofString "PatternReader") 626), some (.builtin "object.__new__"), some (.bool true)]⟩ : Obj)) ::
  (nat_lit 409, (⟨.type "getset_descriptor", none, .fields #[.str (.ofString "__dict__") 753, .ref 408, .builtin "function.__dict__", .builtin "function.__dict__#set"], #[]⟩ : Obj)) ::
  (nat_lit 410, (⟨.type "getset_descriptor", none, .fields #[.str (.ofString "__weakref__") 755, .ref 408, .builtin "ExceptionGroup.__weakref__", .none], #[]⟩ : Obj)) ::
  (nat_lit 413, (⟨.type "tuple", none, .seq #[] 0, #[]⟩ : Obj)) ::
  (nat_lit 415, (⟨.type "tuple", none, .seq #[.str (.ofString "value") 763, .str (.ofString "reader") 764] 0, #[]⟩ : Obj)) ::
  (nat_lit 416, (⟨.type "tuple", none, .seq #[] 0, #[]⟩ : Obj)) ::
  (nat_lit 418, (⟨.type "code", none, .fields #[.str (.ofString "read_pattern") 760, .str (.ofString "read_pattern") 761, .str (.ofString "/claim/cut.py") 762, .int (324) 0, .int (1) 0, .int (0) 0, .int (0) 0, .int (3) 0, .ref 413, .bool true, .int (181) 0, .ref 414, .none, .ref 415, .ref 416, .ref 417, .int (765) 0, .int (324) 0, .str (.ofString "/claim/cut.py") 766], #[]⟩ : Obj)) ::
  (nat_lit 419, (⟨.type "function", none, .func ⟨(.ofString "read_pattern"), (.ofString "read_pattern"), defArgs (topS 44), .stmts (defBody (topS 44)), defScope (topS 44), 3, [], .none, .none, .none, .str (.ofString "siftstore.parsing") 581, none, .ref 418, .none, 0⟩, #[]⟩ : Obj)) ::
  (nat_lit 420, (⟨.type "tuple", none, .seq #[] 0, #[]⟩ : Obj)) ::
  (nat_lit 423, (⟨.type "code", none, .fields #[.str (.ofString "size_of") 770, .str (.ofString "size_of") 771, .str (.ofString "/claim/cut.py") 772, .int (330) 0, .int (1) 0, .int (0) 0, .int (0) 0, .int (3) 0, .ref 420, .bool true, .int (181) 0, .ref 421, .none, .none, .none, .ref 422, .int (773) 0, .int (330) 0, .str (.ofString "/claim/cut.py") 774], #[]⟩ : Obj)) ::
  (nat_lit 424, (⟨.type "function", none, .func ⟨(.ofString "size_of"), (.ofString "size_of"), defArgs (topS 46), .stmts (defBody (topS 46)), defScope (topS 46), 3, [], .none, .none, .none, .str (.ofString "siftstore.written") 768, none, .ref 423, .none, 0⟩, #[]⟩ : Obj)) ::
  (nat_lit 432, (⟨.type "tuple", none, .seq #[] 0, #[]⟩ : Obj)) ::
  (nat_lit 434, (⟨.type "tuple", none, .seq #[.str (.ofString "self") 791] 0, #[]⟩ : Obj)) ::
  (nat_lit 435, (⟨.type "tuple", none, .seq #[] 0, #[]⟩ : Obj)) ::
  (nat_lit 437, (⟨.type "code", none, .fields #[.str (.ofString "__init__") 788, .str (.ofString "Written.__init__") 789, .str (.ofString "/claim/cut.py") 790, .int (343) 0, .int (1) 0, .int (0) 0, .int (0) 0, .int (3) 0, .ref 432, .bool true, .int (181) 0, .ref 433, .none, .ref 434, .ref 435, .ref 436, .int (792) 0, .int (343) 0, .str (.ofString "/claim/cut.py") 793], #[]⟩ : Obj)) ::
  (nat_lit 438, (⟨.type "function", none, .func ⟨(.ofString "__init__"), (.ofString "Written.__init__"), defArgs (inClass (topS 47) 0), .stmts (defBody (inClass (topS 47) 0)), defScope (inClass (topS 47) 0), 3, [], .none, .none, .none, .str (.ofString "siftstore.written") 768, none, .ref 437, .none, 0⟩, #[]⟩ : Obj)) ::
  (nat_lit 439, (⟨.type "tuple", none, .seq #[] 0, #[]⟩ : Obj)) ::
  (nat_lit 441, (⟨.type "tuple", none, .seq #[.str (.ofString "self") 798, .str (.ofString "ahead") 799, .str (.ofString "later") 800, .str (.ofString "place") 801] 0, #[]⟩ : Obj)) ::
  (nat_lit 442, (⟨.type "tuple", none, .seq #[] 0, #[]⟩ : Obj)) ::
  (nat_lit 444, (⟨.type "code", none, .fields #[.str (.ofString "link") 795, .str (.ofString "Written.link") 796, .str (.ofString "/claim/cut.py") 797, .int (347) 0, .int (3) 0, .int (0) 0, .int (0) 0, .int (3) 0, .ref 439, .bool true, .int (181) 0, .ref 440, .none, .ref 441, .ref 442, .ref 443, .int (802) 0, .int (347) 0, .str (.ofString "/claim/cut.py") 803], #[]⟩ : Obj)) ::
  (nat_lit 445, (⟨.type "function", none, .func ⟨(.ofString "link"), (.ofString "Written.link"), defArgs (inClass (topS 47) 1), .stmts (defBody (inClass (topS 47) 1)), defScope (inClass (topS 47) 1), 3, [], .none, .none, .none, .str (.ofString "siftstore.written") 768, none, .ref 444, .none, 0⟩, #[]⟩ : Obj)) ::
  (nat_lit 446, (⟨.type "tuple", none, .seq #[] 0, #[]⟩ : Obj)) ::
  (nat_lit 448, (⟨.type "tuple", none, .seq #[.str (.ofString "self") 808, .str (.ofString "one") 809, .str (.ofString "other") 810, .str (.ofString "first") 811, .str (.ofString "last") 812] 0, #[]⟩ : Obj)) ::
  (nat_lit 449, (⟨.type "tuple", none, .seq #[] 0, #[]⟩ : Obj)) ::
  (nat_lit 451, (⟨.type "code", none, .fields #[.str (.ofString "joined") 805, .str (.ofString "Written.joined") 806, .str (.ofString "/claim/cut.py") 807, .int (351) 0, .int (3) 0, .int (0) 0, .int (0) 0, .int (3) 0, .ref 446, .bool true, .int (181) 0, .ref 447, .none, .ref 448, .ref 449, .ref 450, .int (813) 0, .int (351) 0, .str (.ofString "/claim/cut.py") 814], #[]⟩ : Obj)) ::
  (nat_lit 452, (⟨.type "function", none, .func ⟨(.ofString "joined"), (.ofString "Written.joined"), defArgs (inClass (topS 47) 2), .stmts (defBody (inClass (topS 47) 2)), defScope (inClass (topS 47) 2), 3, [], .none, .none, .none, .str (.ofString "siftstore.written") 768, none, .ref 451, .none, 0⟩, #[]⟩ : Obj)) ::
  (nat_lit 453, (⟨.type "tuple", none, .seq #[] 0, #[]⟩ : Obj)) ::
  (nat_lit 456, (⟨.type "code", none, .fields #[.str (.ofString "part_of") 816, .str (.ofString "Written.part_of") 817, .str (.ofString "/claim/cut.py") 818, .int (357) 0, .int (2) 0, .int (0) 0, .int (0) 0, .int (3) 0, .ref 453, .bool true, .int (181) 0, .ref 454, .none, .none, .none, .ref 455, .int (819) 0, .int (357) 0, .str (.ofString "/claim/cut.py") 820], #[]⟩ : Obj)) ::
  (nat_lit 457, (⟨.type "function", none, .func ⟨(.ofString "part_of"), (.ofString "Written.part_of"), defArgs (inClass (topS 47) 3), .stmts (defBody (inClass (topS 47) 3)), defScope (inClass (topS 47) 3), 3, [], .none, .none, .none, .str (.ofString "siftstore.written") 768, none, .ref 456, .none, 0⟩, #[]⟩ : Obj)) ::
  (nat_lit 458, (⟨.type "tuple", none, .seq #[] 0, #[]⟩ : Obj)) ::
  (nat_lit 461, (⟨.type "code", none, .fields #[.str (.ofString "counted") 822, .str (.ofString "Written.counted") 823, .str (.ofString "/claim/cut.py") 824, .int (379) 0, .int (4) 0, .int (0) 0, .int (0) 0, .int (3) 0, .ref 458, .bool true, .int (181) 0, .ref 459, .none, .none, .none, .ref 460, .int (825) 0, .int (379) 0, .str (.ofString "/claim/cut.py") 826], #[]⟩ : Obj)) ::
  (nat_lit 462, (⟨.type "function", none, .func ⟨(.ofString "counted"), (.ofString "Written.counted"), defArgs (inClass (topS 47) 4), .stmts (defBody (inClass (topS 47) 4)), defScope (inClass (topS 47) 4), 3, [], .none, .none, .none, .str (.ofString "siftstore.written") 768, none, .ref 461, .none, 0⟩, #[]⟩ : Obj)) ::
  (nat_lit 463, (⟨.type "tuple", none, .seq #[.str (.ofString "followers") 828, .str (.ofString "letters") 829] 0, #[]⟩ : Obj)) ::
  (nat_lit 464, (⟨.type "dict", none, .dict (List.toArray [⟨PyData.keyHash P (.ofString "__module__"), .str (.ofString "__module__") 783, .str (.ofString "siftstore.written") 768⟩, ⟨PyData.keyHash P (.ofString "__firstlineno__"), .str (.ofString "__firstlineno__") 787, .int (341) 786⟩, ⟨PyData.keyHash P (.ofString "__init__"), .str (.ofString "__init__") 794, .ref 438⟩, ⟨PyData.keyHash P (.ofString "link"), .str (.ofString "link") 804, .ref 445⟩, ⟨PyData.keyHash P (.ofString "joined"), .str (.ofString "joined") 815, .ref 452⟩, ⟨PyData.keyHash P (.ofString "part_of"), .str (.ofString "part_of") 821, .ref 457⟩, ⟨PyData.keyHash P (.ofString "counted"), .str (.ofString "counted") 827, .ref 462⟩, ⟨PyData.keyHash P (.ofString "__static_attributes__"), .str (.ofString "__static_attributes__") 830, .ref 463⟩, ⟨PyData.keyHash P (.ofString "__dict__"), .str (.ofString "__dict__") 832, .ref 466⟩, ⟨PyData.keyHash P (.ofString "__weakref__"), .str (.ofString "__weakref__") 834, .ref 467⟩, ⟨PyData.keyHash P (.ofString "__doc__"), .str (.ofString "__doc__") 835, .none⟩]) 4, #[]⟩ : Obj)) ::
  (nat_lit 465, (⟨.type "type", none, .cls ⟨(.ofString "Written"), [.type "object"], [.ref 465, .type "object"], 464, (.ofString "Written"), true, [], [], false, none, false⟩, #[none, none, some (.str (.ofString "Written") 776), some (.str (.ofString "Written") 784), some (.builtin "object.__new__"), some (.bool true)]⟩ : Obj)) ::
  (nat_lit 466, (⟨.type "getset_descriptor", none, .fields #[.str (.ofString "__dict__") 831, .ref 465, .builtin "function.__dict__", .builtin "function.__dict__#set"], #[]⟩ : Obj)) ::
  (nat_lit 467, (⟨.type "getset_descriptor", none, .fields #[.str (.ofString "__weakref__") 833, .ref 465, .builtin "ExceptionGroup.__weakref__", .none], #[]⟩ : Obj)) ::
  (nat_lit 470, (⟨.type "tuple", none, .seq #[] 0, #[]⟩ : Obj)) ::
  (nat_lit 473, (⟨.type "code", none, .fields #[.str (.ofString "written") 838, .str (.ofString "written") 839, .str (.ofString "/claim/cut.py") 840, .int (392) 0, .int (1) 0, .int (0) 0, .int (0) 0, .int (3) 0, .ref 470, .bool true, .int (181) 0, .ref 471, .none, .none, .none, .ref 472, .int (841) 0, .int (392) 0, .str (.ofString "/claim/cut.py") 842], #[]⟩ : Obj)) ::
  (nat_lit 474, (⟨.type "function", none, .func ⟨(.ofString "written"), (.ofString "written"), defArgs (topS 48), .stmts (defBody (topS 48)), defScope (topS 48), 3, [], .none, .none, .none, .str (.ofString "siftstore.written") 768, none, .ref 473, .none, 0⟩, #[]⟩ : Obj)) ::
  (nat_lit 475, (⟨.type "tuple", none, .seq #[] 0, #[]⟩ : Obj)) ::
  (nat_lit 477, (⟨.type "tuple", none, .seq #[.str (.ofString "value") 851, .str (.ofString "least") 852, .str (.ofString "greatest") 853] 0, #[]⟩ : Obj)) ::
  (nat_lit 478, (⟨.type "tuple", none, .seq #[] 0, #[]⟩ : Obj)) ::
  (nat_lit 480, (⟨.type "code", none, .fields #[.str (.ofString "is_integer") 848, .str (.ofString "is_integer") 849, .str (.ofString "/claim/cut.py") 850, .int (399) 0, .int (3) 0, .int (0) 0, .int (0) 0, .int (3) 0, .ref 475, .bool true, .int (181) 0, .ref 476, .none, .ref 477, .ref 478, .ref 479, .int (854) 0, .int (399) 0, .str (.ofString "/claim/cut.py") 855], #[]⟩ : Obj)) ::
  (nat_lit 481, (⟨.type "function", none, .func ⟨(.ofString "is_integer"), (.ofString "is_integer"), defArgs (topS 51), .stmts (defBody (topS 51)), defScope (topS 51), 3, [], .none, .none, .none, .str (.ofString "siftstore.patterns") 844, none, .ref 480, .none, 0⟩, #[]⟩ : Obj)) ::
  (nat_lit 489, (⟨.type "tuple", none, .seq #[] 0, #[]⟩ : Obj)) ::
  (nat_lit 491, (⟨.type "tuple", none, .seq #[.str (.ofString "self") 872, .str (.ofString "string") 873, .str (.ofString "reader") 874, .str (.ofString "parts") 875] 0, #[]⟩ : Obj)) ::
  (nat_lit 492, (⟨.type "tuple", none, .seq #[] 0, #[]⟩ : Obj)) ::
  (nat_lit 494, (⟨.type "code", none, .fields #[.str (.ofString "__init__") 869, .str (.ofString "Pattern.__init__") 870, .str (.ofString "/claim/cut.py") 871, .int (403) 0, .int (2) 0, .int (0) 0, .int (0) 0, .int (3) 0, .ref 489, .bool true, .int (181) 0, .ref 490, .none, .ref 491, .ref 492, .ref 493, .int (876) 0, .int (403) 0, .str (.ofString "/claim/cut.py") 877], #[]⟩ : Obj)) ::
  (nat_lit 495, (⟨.type "function", none, .func ⟨(.ofString "__init__"), (.ofString "Pattern.__init__"), defArgs (inClass (topS 52) 0), .stmts (defBody (inClass (topS 52) 0)), defScope (inClass (topS 52) 0), 3, [], .none, .none, .none, .str (.ofString "siftstore.patterns") 844, none, .ref 494, .none, 0⟩, #[]⟩ : Obj)) ::
  (nat_lit 496, (⟨.type "tuple", none, .seq #[] 0, #[]⟩ : Obj)) ::
  (nat_lit 498, (⟨.type "tuple", none, .seq #[.str (.ofString "self") 882, .str (.ofString "other") 883] 0, #[]⟩ : Obj)) ::
  (nat_lit 499, (⟨.type "tuple", none, .seq #[] 0, #[]⟩ : Obj)) ::
  (nat_lit 501, (⟨.type "code", none, .fields #[.str (.ofString "__eq__") 879, .str (.ofString "Pattern.__eq__") 880, .str (.ofString "/claim/cut.py") 881, .int (412) 0, .int (2) 0, .int (0) 0, .int (0) 0, .int (3) 0, .ref 496, .bool true, .int (181) 0, .ref 497, .none, .ref 498, .ref 499, .ref 500, .int (884) 0, .int (412) 0, .str (.ofString "/claim/cut.py") 885], #[]⟩ : Obj)) ::
  (nat_lit 502, (⟨.type "function", none, .func ⟨(.ofString "__eq__"), (.ofString "Pattern.__eq__"), defArgs (inClass (topS 52) 1), .stmts (defBody (inClass (topS 52) 1)), defScope (inClass (topS 52) 1), 3, [], .none, .none, .none, .str (.ofString "siftstore.patterns") 844, none, .ref 501, .none, 0⟩, #[]⟩ : Obj)) ::
  (nat_lit 503, (⟨.type "tuple", none, .seq #[] 0, #[]⟩ : Obj)) ::
  (nat_lit 505, (⟨.type "tuple", none, .seq #[.str (.ofString "self") 890, .str (.ofString "place") 891] 0, #[]⟩ : Obj)) ::
  (nat_lit 506, (⟨.type "tuple", none, .seq #[] 0, #[]⟩ : Obj)) ::
  (nat_lit 508, (⟨.type "code", none, .fields #[.str (.ofString "behind") 887, .str (.ofString "Pattern.behind") 888, .str (.ofString "/claim/cut.py") 889, .int (415) 0, .int (2) 0, .int (0) 0, .int (0) 0, .int (3) 0, .ref 503, .bool true, .int (181) 0, .ref 504, .none, .ref 505, .ref 506, .ref 507, .int (892) 0, .int (415) 0, .str (.ofString "/claim/cut.py") 893], #[]⟩ : Obj)) ::
  (nat_lit 509, (⟨.type "function", none, .func ⟨(.ofString "behind"), (.ofString "Pattern.behind"), defArgs (inClass (topS 52) 2), .stmts (defBody (inClass (topS 52) 2)), defScope (inClass (topS 52) 2), 3, [], .none, .none, .none, .str (.ofString "siftstore.patterns") 844, none, .ref 508, .none, 0⟩, #[]⟩ : Obj)) ::
  (nat_lit 510, (⟨.type "tuple", none, .seq #[.str (.ofString "first") 895, .str (.ofString "is_bound_left") 896, .str (.ofString "is_bound_right") 897, .str (.ofString "last") 898, .str (.ofString "later_places") 899, .str (.ofString "names") 900, .str (.ofString "places") 901, .str (.ofString "string") 902, .str (.ofString "tree") 903] 0, #[]⟩ : Obj)) ::
  (nat_lit 511, (⟨.type "dict", none, .dict (List.toArray [⟨PyData.keyHash P (.ofString "__module__"), .str (.ofString "__module__") 864, .str (.ofString "siftstore.patterns") 844⟩, ⟨PyData.keyHash P (.ofString "__firstlineno__"), .str (.ofString "__firstlineno__") 868, .int (401) 867⟩, ⟨PyData.keyHash P (.ofString "__init__"), .str (.ofString "__init__") 878, .ref 495⟩, ⟨PyData.keyHash P (.ofString "__eq__"), .str (.ofString "__eq__") 886, .ref 502⟩, ⟨PyData.keyHash P (.ofString "behind"), .str (.ofString "behind") 894, .ref 509⟩, ⟨PyData.keyHash P (.ofString "__static_attributes__"), .str (.ofString "__static_attributes__") 904, .ref 510⟩, ⟨PyData.keyHash P (.ofString "__dict__"), .str (.ofString "__dict__") 906, .ref 513⟩, ⟨PyData.keyHash P (.ofString "__weakref__"), .str (.ofString "__weakref__") 908, .ref 514⟩, ⟨PyData.keyHash P (.ofString "__doc__"), .str (.ofString "__doc__") 909, .none⟩, ⟨PyData.keyHash P (.ofString "__hash__"), .str (.ofString "__hash__") 910, .none⟩]) 5, #[]⟩ : Obj)) ::
  (nat_lit 512, (⟨.type "type", none, .cls ⟨(.ofString "Pattern"), [.type "object"], [.ref 512, .type "object"], 511, (.ofString "Pattern"), true, [], [], false, none, false⟩, #[none, none, some (.str (.ofString "Pattern") 857), some (.str (.ofString "Pattern") 865), some (.builtin "object.__new__"), some (.bool true)]⟩ : Obj)) ::
  (nat_lit 513, (⟨.type "getset_descriptor", none, .fields #[.str (.ofString "__dict__") 905, .ref 512, .builtin "function.__dict__", .builtin "function.__dict__#set"], #[]⟩ : Obj)) ::
  (nat_lit 514, (⟨.type "getset_descriptor", none, .fields #[.str (.ofString "__weakref__") 907, .ref 512, .builtin "ExceptionGroup.__weakref__", .none], #[]⟩ : Obj)) ::
  (nat_lit 517, (⟨.type "tuple", none, .seq #[] 0, #[]⟩ : Obj)) ::
  (nat_lit 519, (⟨.type "tuple", none, .seq #[.str (.ofString "_law_script") 918, .str (.ofString "_law_k") 919, .str (.ofString "_law_cell") 920, .str (.ofString "_law_own") 921] 0, #[]⟩ : Obj)) ::
  (nat_lit 520, (⟨.type "tuple", none, .seq #[] 0, #[]⟩ : Obj)) ::
  (nat_lit 522, (⟨.type "code", none, .fields #[.str (.ofString "_law_pot") 915, .str (.ofString "_law_pot") 916, .str (.ofString "/claim/cut.py") 917, .int (420) 0, .int (2) 0, .int (0) 0, .int (0) 0, .int (3) 0, .ref 517, .bool true, .int (181) 0, .ref 518, .none, .ref 519, .ref 520, .ref 521, .int (922) 0, .int (420) 0, .str (.ofString "/claim/cut.py") 923], #[]⟩ : Obj)) ::
  (nat_lit 523, (⟨.type "function", none, .func ⟨(.ofString "_law_pot"), (.ofString "_law_pot"), defArgs (topS 54), .stmts (defBody (topS 54)), defScope (topS 54), 3, [], .none, .none, .none, .str (.ofString "law_siftstore_k16_longest_words_of_choices") 913, none, .ref 522, .none, 0⟩, #[]⟩ : Obj)) ::
  (nat_lit 524, (⟨.type "tuple", none, .seq #[] 0, #[]⟩ : Obj)) ::
  (nat_lit 526, (⟨.type "tuple", none, .seq #[.str (.ofString "_law_pot_here") 928, .str (.ofString "_law_many") 929, .str (.ofString "_law_digit") 930, .str (.ofString "_law_prime") 931, .str (.ofString "_law_made") 932] 0, #[]⟩ : Obj)) ::
  (nat_lit 527, (⟨.type "tuple", none, .seq #[] 0, #[]⟩ : Obj)) ::
  (nat_lit 529, (⟨.type "code", none, .fields #[.str (.ofString "_law_draw") 925, .str (.ofString "_law_draw") 926, .str (.ofString "/claim/cut.py") 927, .int (424) 0, .int (2) 0, .int (0) 0, .int (0) 0, .int (3) 0, .ref 524, .bool true, .int (181) 0, .ref 525, .none, .ref 526, .ref 527, .ref 528, .int (933) 0, .int (424) 0, .str (.ofString "/claim/cut.py") 934], #[]⟩ : Obj)) ::
  (nat_lit 530, (⟨.type "function", none, .func ⟨(.ofString "_law_draw"), (.ofString "_law_draw"), defArgs (topS 55), .stmts (defBody (topS 55)), defScope (topS 55), 3, [], .none, .none, .none, .str (.ofString "law_siftstore_k16_longest_words_of_choices") 913, none, .ref 529, .none, 0⟩, #[]⟩ : Obj)) ::
  (nat_lit 531, (⟨.type "tuple", none, .seq #[] 0, #[]⟩ : Obj)) ::
  (nat_lit 533, (⟨.type "tuple", none, .seq #[.str (.ofString "_law_pot_here") 939, .str (.ofString "_law_items") 940] 0, #[]⟩ : Obj)) ::
  (nat_lit 534, (⟨.type "tuple", none, .seq #[] 0, #[]⟩ : Obj)) ::
  (nat_lit 536, (⟨.type "code", none, .fields #[.str (.ofString "_law_any") 936, .str (.ofString "_law_any") 937, .str (.ofString "/claim/cut.py") 938, .int (434) 0, .int (2) 0, .int (0) 0, .int (0) 0, .int (3) 0, .ref 531, .bool true, .int (181) 0, .ref 532, .none, .ref 533, .ref 534, .ref 535, .int (941) 0, .int (434) 0, .str (.ofString "/claim/cut.py") 942], #[]⟩ : Obj)) ::
  (nat_lit 537, (⟨.type "function", none, .func ⟨(.ofString "_law_any"), (.ofString "_law_any"), defArgs (topS 56), .stmts (defBody (topS 56)), defScope (topS 56), 3, [], .none, .none, .none, .str (.ofString "law_siftstore_k16_longest_words_of_choices") 913, none, .ref 536, .none, 0⟩, #[]⟩ : Obj)) ::
  (nat_lit 538, (⟨.type "tuple", none, .seq #[] 0, #[]⟩ : Obj)) ::
  (nat_lit 540, (⟨.type "tuple", none, .seq #[.str (.ofString "_law_pot_here") 947, .str (.ofString "_law_items") 948, .str (.ofString "_law_left") 949, .str (.ofString "_law_found") 950] 0, #[]⟩ : Obj)) ::
  (nat_lit 541, (⟨.type "tuple", none, .seq #[] 0, #[]⟩ : Obj)) ::
  (nat_lit 543, (⟨.type "code", none, .fields #[.str (.ofString "_law_mixed") 944, .str (.ofString "_law_mixed") 945, .str (.ofString "/claim/cut.py") 946, .int (436) 0, .int (2) 0, .int (0) 0, .int (0) 0, .int (3) 0, .ref 538, .bool true, .int (181) 0, .ref 539, .none, .ref 540, .ref 541, .ref 542, .int (951) 0, .int (436) 0, .str (.ofString "/claim/cut.py") 952], #[]⟩ : Obj)) ::
  (nat_lit 544, (⟨.type "function", none, .func ⟨(.ofString "_law_mixed"), (.ofString "_law_mixed"), defArgs (topS 57), .stmts (defBody (topS 57)), defScope (topS 57), 3, [], .none, .none, .none, .str (.ofString "law_siftstore_k16_longest_words_of_choices") 913, none, .ref 543, .none, 0⟩, #[]⟩ : Obj)) ::
  (nat_lit 545, (⟨.type "tuple", none, .seq #[] 0, #[]⟩ : Obj)) ::
  (nat_lit 548, (⟨.type "code", none, .fields #[.str (.ofString "_law_words") 954, .str (.ofString "_law_words") 955, .str (.ofString "/claim/cut.py") 956, .int (441) 0, .int (1) 0, .int (0) 0, .int (0) 0, .int (3) 0, .ref 545, .bool true, .int (181) 0, .ref 546, .none, .none, .none, .ref 547, .int (957) 0, .int (441) 0, .str (.ofString "/claim/cut.py") 958], #[]⟩ : Obj)) ::
  (nat_lit 549, (⟨.type "function", none, .func ⟨(.ofString "_law_words"), (.ofString "_law_words"), defArgs (topS 58), .stmts (defBody (topS 58)), defScope (topS 58), 3, [], .none, .none, .none, .str (.ofString "law_siftstore_k16_longest_words_of_choices") 913, none, .ref 548, .none, 0⟩, #[]⟩ : Obj)) ::
  (nat_lit 550, (⟨.type "tuple", none, .seq #[] 0, #[]⟩ : Obj)) ::
  (nat_lit 552, (⟨.type "tuple", none, .seq #[.str (.ofString "_law_pot_here") 963, .str (.ofString "_law_words_here") 964, .str (.ofString "_law_most") 965, .str (.ofString "_law_found") 966, .str (.ofString "_law_word") 967] 0, #[]⟩ : Obj)) ::
  (nat_lit 553, (⟨.type "tuple", none, .seq #[] 0, #[]⟩ : Obj)) ::
  (nat_lit 555, (⟨.type "code", none, .fields #[.str (.ofString "_law_long_text") 960, .str (.ofString "_law_long_text") 961, .str (.ofString "/claim/cut.py") 962, .int (448) 0, .int (2) 0, .int (0) 0, .int (0) 0, .int (3) 0, .ref 550, .bool true, .int (181) 0, .ref 551, .none, .ref 552, .ref 553, .ref 554, .int (968) 0, .int (448) 0, .str (.ofString "/claim/cut.py") 969], #[]⟩ : Obj)) ::
  (nat_lit 556, (⟨.type "function", none, .func ⟨(.ofString "_law_long_text"), (.ofString "_law_long_text"), defArgs (topS 59), .stmts (defBody (topS 59)), defScope (topS 59), 3, [], .none, .none, .none, .str (.ofString "law_siftstore_k16_longest_words_of_choices") 913, none, .ref 555, .none, 0⟩, #[]⟩ : Obj)) ::
  (nat_lit 557, (⟨.type "tuple", none, .seq #[] 0, #[]⟩ : Obj)) ::
  (nat_lit 560, (⟨.type "code", none, .fields #[.str (.ofString "_law_due") 971, .str (.ofString "_law_due") 972, .str (.ofString "/claim/cut.py") 973, .int (455) 0, .int (2) 0, .int (0) 0, .int (0) 0, .int (3) 0, .ref 557, .bool true, .int (181) 0, .ref 558, .none, .none, .none, .ref 559, .int (974) 0, .int (455) 0, .str (.ofString "/claim/cut.py") 975], #[]⟩ : Obj)) ::
  (nat_lit 561, (⟨.type "function", none, .func ⟨(.ofString "_law_due"), (.ofString "_law_due"), defArgs (topS 60), .stmts (defBody (topS 60)), defScope (topS 60), 3, [], .none, .none, .none, .str (.ofString "law_siftstore_k16_longest_words_of_choices") 913, none, .ref 560, .none, 0⟩, #[]⟩ : Obj)) ::
  (nat_lit 562, (⟨.type "tuple", none, .seq #[] 0, #[]⟩ : Obj)) ::
  (nat_lit 565, (⟨.type "code", none, .fields #[.str (.ofString "_law_right") 977, .str (.ofString "_law_right") 978, .str (.ofString "/claim/cut.py") 979, .int (463) 0, .int (1) 0, .int (0) 0, .int (0) 0, .int (3) 0, .ref 562, .bool true, .int (181) 0, .ref 563, .none, .none, .none, .ref 564, .int (980) 0, .int (463) 0, .str (.ofString "/claim/cut.py") 981], #[]⟩ : Obj)) ::
  (nat_lit 566, (⟨.type "function", none, .func ⟨(.ofString "_law_right"), (.ofString "_law_right"), defArgs (topS 61), .stmts (defBody (topS 61)), defScope (topS 61), 3, [], .none, .none, .none, .str (.ofString "law_siftstore_k16_longest_words_of_choices") 913, none, .ref 565, .none, 0⟩, #[]⟩ : Obj)) ::
  (nat_lit 567, (⟨.type "tuple", none, .seq #[] 0, #[]⟩ : Obj)) ::
  (nat_lit 570, (⟨.type "code", none, .fields #[.str (.ofString "law") 983, .str (.ofString "law") 984, .str (.ofString "/claim/cut.py") 985, .int (475) 0, .int (1) 0, .int (0) 0, .int (0) 0, .int (3) 0, .ref 567, .bool true, .int (181) 0, .ref 568, .none, .none, .none, .ref 569, .int (986) 0, .int (475) 0, .str (.ofString "/claim/cut.py") 987], #[]⟩ : Obj)) ::
  (nat_lit 571, (⟨.type "function", none, .func ⟨(.ofString "law"), (.ofString "law"), defArgs (topS 62), .stmts (defBody (topS 62)), defScope (topS 62), 3, [], .none, .none, .none, .str (.ofString "law_siftstore_k16_longest_words_of_choices") 913, none, .ref 570, .none, 0⟩, #[]⟩ : Obj)) :: []
def KA : List Addr := [2, 3, 15, 22, 23, 24, 25, 28, 31, 36, 37, 39, 40, 42, 43, 44, 45, 46, 49, 52, 57, 58, 60, 61, 63, 64, 65, 66, 67, 70, 73, 78, 79, 81, 82, 84, 85, 86, 87, 88, 91, 94, 99, 100, 102, 103, 105, 106, 107, 108, 109, 112, 115, 116, 117, 119, 120, 122, 123, 131, 133, 134, 136, 137, 138, 140, 141, 143, 144, 145, 148, 149, 150, 153, 154, 155, 158, 159, 160, 162, 163, 165, 166, 167, 170, 171, 172, 175, 176, 177, 180, 181, 182, 183, 184, 185, 186, 189, 192, 193, 201, 203, 204, 206, 207, 208, 210, 211, 213, 214, 215, 216, 218, 219, 221, 222, 223, 224, 226, 227, 229, 230, 231, 232, 234, 235, 237, 238, 239, 241, 242, 244, 245, 246, 248, 249, 251, 252, 253, 254, 255, 256, 257, 260, 263, 264, 265, 268, 269, 270, 273, 274, 275, 277, 278, 280, 281, 282, 285, 286, 287, 289, 290, 292, 293, 294, 297, 298, 299, 300, 301, 302, 310, 312, 313, 315, 316, 317, 319, 320, 322, 323, 324, 326, 327, 329, 330, 331, 333, 334, 336, 337, 338, 340, 341, 343, 344, 345, 347, 348, 350, 351, 352, 354, 355, 357, 358, 359, 361, 362, 364, 365, 366, 368, 369, 371, 372, 373, 375, 376, 378, 379, 380, 382, 383, 385, 386, 387, 389, 390, 392, 393, 394, 397, 398, 399, 401, 402, 404, 405, 406, 407, 408, 409, 410, 413, 415, 416, 418, 419, 420, 423, 424, 432, 434, 435, 437, 438, 439, 441, 442, 444, 445, 446, 448, 449, 451, 452, 453, 456, 457, 458, 461, 462, 463, 464, 465, 466, 467, 470, 473, 474, 475, 477, 478, 480, 481, 489, 491, 492, 494, 495, 496, 498, 499, 501, 502, 503, 505, 506, 508, 509, 510, 511, 512, 513, 514, 517, 519, 520, 522, 523, 524, 526, 527, 529, 530, 531, 533, 534, 536, 537, 538, 540, 541, 543, 544, 545, 548, 549, 550, 552, 553, 555, 556, 557, 560, 561, 562, 565, 566, 567, 570, 571]
theorem KA_eq : ∀ P, KA = (KK P).map (·.1) := fun _ => by kernel_rfl
abbrev RO : PySem.W.OpenRow := PySem.W.OpenLaw.row PySem.Challenge.rw_siftstore_k16_longest_words_of_choices
def QV : Program := view RO.prog [62]
def LS : List PySem.Str := (["SiftError", "BadText", "BadPattern", "NoPlace", "NoName", "LETTERS", "BEGIN", "END", "is_text", "PLACE_readings", "EMPTY_readings", "CHAIN_readings", "CHOICE_readings", "CAPTURE_readings", "once", "Readings", "first_captures", "Match", "begun", "gone_on", "can_end", "longest_end", "match_at", "matches", "has_match", "DIGITS", "SMALL", "MOST_SIGNS", "MOST_OPEN", "MOST_NAME"] : List PySem.Str) ++ (["MOST_COUNT", "COUNTS", "PLACE_parsing", "CHAIN_parsing", "CHOICE_parsing", "COUNT", "CAPTURE_parsing", "EMPTY_parsing", "PatternReader", "read_pattern", "size_of", "Written", "written", "MOST_PLACES", "is_integer", "Pattern", "_law_pot", "_law_draw", "_law_any", "_law_mixed", "_law_words", "_law_long_text", "_law_due", "_law_right"] : List PySem.Str)
abbrev HK : Hook := kHook KK KA KA_eq
abbrev RunP (w : World) : Prop := ∀ os : OsState, (HeadRun.endF (HeadRun.stepQ (HeadRun.denQ HeadRun.tabQ) RO.prog w) 4773 RO.prog w os).map (fun s => (HeadRun.looksF RO.prog (boot_heap w.params) s.abs, HeadRun.seenQ QV LS (importedModules RO.prog.main.body) (fun s => xlAt QV [] s && recOk RO.toRowW.records s) s.abs, KA.map (HeadRun.getT s))) = some (true, openGood QV LS, (KK w.params).map fun x => some x.2)
theorem run0 (w : World) : RunP (w.withFollow "special-get-raises" false) := fun os => by kernel_rfl
theorem run1 (w : World) : RunP (w.withFollow "special-get-raises" true) := fun os => by kernel_rfl
theorem run (w : World) : RunP w := byRow2 "special-get-raises" run0 run1 w
theorem left : LeftO RO.prog QV LS (fun s => xlAt QV [] s && recOk RO.toRowW.records s) HK.obs HK.val 5573 true :=
  HeadRun.left_oneK (M := 4773) (by kernel_rfl) (by rfl) (fun s => by kernel_rfl) (by rfl) run
end SqHd
end
open PySem PySem.W PyProof.Rows
set_option maxHeartbeats 0 in
theorem PySem.Challenge.cw_siftstore_k16_longest_words_of_choices_holds : PySem.Challenge.rw_siftstore_k16_longest_words_of_choices.Holds := by
  w_on; o_law
  refine holds_open (r := OpenLaw.row PySem.Challenge.rw_siftstore_k16_longest_words_of_choices) (q := SqHd.QV) (loose := SqHd.LS) (Xt := fun s => xlAt SqHd.QV [] s && recOk (RowW.records (OpenRow.toRowW (OpenLaw.row PySem.Challenge.rw_siftstore_k16_longest_words_of_choices))) s) (XP := XL SqHd.QV []) (Yf := Hook.obs (kHook SqHd.KK SqHd.KA SqHd.KA_eq)) (Ya := Hook.val (kHook SqHd.KK SqHd.KA SqHd.KA_eq)) (YP := Hook.says (kHook SqHd.KK SqHd.KA SqHd.KA_eq)) SqHd.left (Hook.of _) (Hook.keeps _) (fun s e => xl_of s (Bool.and_eq_true_iff.mp e).1) XL.keeps (by rfl) (by rfl) (by rfl) (fun s e => recFacts_of (Bool.and_eq_true_iff.mp e).2) (by rfl) (by first | assumption | decide +kernel) (by decide +kernel) ⟨rfl, rfl, rfl, rfl, rfl, by decide +kernel⟩ ?hw ?hc
  case hw => w_witness2
  k_fill
  refine Sf.walk_G (l := PySem.Challenge.rw_siftstore_k16_longest_words_of_choices) (n := 63) (k := 98) (x := "_law_script") (sp := fun w => Sq.sp9Law _) rfl (by decide) rfl ⟨rfl, by decide, by decide⟩ (fun w h Y => PySem.W.kIn_of Y) ?F (fun _ _ a ns hl hS => ⟨a, ns, rfl, hS, hl, fun _ => rfl⟩)
  case F =>
    intro w mg fa h KX G hmg
    refine' Sq.all_mk KX G hmg ?a0 ?l0 ?c0 ?k0 ?a1 ?l1 ?c1 ?k1 ?a2 ?l2 ?c2 ?k2 ?a3 ?l3 ?c3 ?k3 ?a4 ?l4 ?c4 ?k4 ?a5 ?l5 ?c5 ?k5 ?a6 ?l6 ?c6 ?k6 ?a7 ?l7 ?c7 ?k7 ?a8 ?l8 ?c8 ?k8 ?a9 ?l9 ?c9 ?k9 ?a10 ?l10 ?c10 ?k10 ?a11 ?l11 ?c11 ?k11 ?a12 ?l12 ?c12 ?k12 ?a13 ?l13 ?c13 ?k13 ?a14 ?l14 ?c14 ?k14 ?a15 ?l15 ?c15 ?k15 ?a16 ?l16 ?c16 ?k16 ?a17 ?l17 ?c17 ?k17 ?a18 ?l18 ?c18 ?k18 ?a19 ?l19 ?c19 ?k19 ?a20 ?l20 ?c20 ?k20 ?a21 ?l21 ?c21 ?k21 ?z0 ?z1 ?z2 ?z3 ?z4 ?z5 ?z6 ?z7 ?z8 ?z9 ?z10 ?z11 ?z12 ?z13 ?z14 ?z15 ?z16 ?z17 ?z18 ?z19 ?v0 ?v1 ?v2 ?v3 ?v4 ?v5 ?v6 ?v7 ?v8 ?v9 ?v10 ?v11 ?v12 ?v13 ?v14 ?v15 ?aR ?pgR ?hdR ?poR ?saR ?mkR ?kcR ?nR0 ?nR1 ?nR2 ?nR3 ?iR0 ?jR0 ?lR0 ?cR0 ?kR0 ?iR1 ?jR1 ?lR1 ?cR1 ?kR1 ?iR2 ?jR2 ?lR2 ?cR2 ?kR2 ?iR3 ?jR3 ?lR3 ?cR3 ?kR3 ?iR4 ?jR4 ?lR4 ?cR4 ?kR4 ?iR5 ?jR5 ?lR5 ?cR5 ?kR5 ?iR6 ?jR6 ?lR6 ?cR6 ?kR6 ?iR7 ?jR7 ?lR7 ?cR7 ?kR7 ?iR8 ?jR8 ?lR8 ?cR8 ?kR8 ?iR9 ?jR9 ?lR9 ?cR9 ?kR9 ?iR10 ?jR10 ?lR10 ?cR10 ?kR10 ?iR11 ?jR11 ?lR11 ?cR11 ?kR11 ?iR12 ?jR12 ?lR12 ?cR12 ?kR12 ?iR13 ?jR13 ?lR13 ?cR13 ?kR13 ?aW ?pgW ?hdW ?poW ?saW ?mkW ?kcW ?nW0 ?nW1 ?iW0 ?jW0 ?lW0 ?cW0 ?kW0 ?iW1 ?jW1 ?lW1 ?cW1 ?kW1 ?iW2 ?jW2 ?lW2 ?cW2 ?kW2 ?iW3 ?jW3 ?lW3 ?cW3 ?kW3 ?iW4 ?jW4 ?lW4 ?cW4 ?kW4 ?aP ?pgP ?hdP ?poP ?saP ?mkP ?kcP ?nP0 ?nP1 ?nP2 ?nP3 ?nP4 ?nP5 ?nP6 ?nP7 ?nP8 ?iP0 ?jP0 ?lP0 ?cP0 ?kP0 ?iP1 ?jP1 ?lP1 ?cP1 ?kP1 ?iP2 ?jP2 ?lP2 ?cP2 ?kP2 ?aM ?pgM ?hdM ?poM ?saM ?mkM ?kcM ?nM0 ?nM1 ?nM2 ?iM0 ?jM0 ?lM0 ?cM0 ?kM0 ?pa0 ?pr0 ?pt0 ?pg0 ?lM1 ?cM1 ?kM1 ?pa1 ?pr1 ?pt1 ?pg1 ?lM2 ?cM2 ?kM2 ?pa2 ?pr2 ?pt2 ?pg2 ?lM3 ?cM3 ?kM3 ?ha ?hn ?ht ?hm ?kk1 ?kk2 ?sb ?aCs ?lCs ?klCs ?loCs ?q0 ?q1 ?q2 ?qk ?lT0 ?lT1 ?lT2
    (case a0 => k_is)
    (case l0 => k_is)
    (case c0 => k_is)
    (case k0 => k_is)
    (case a1 => k_is)
    (case l1 => k_is)
    (case c1 => k_is)
    (case k1 => k_is)
    (case a2 => k_is)
    (case l2 => k_is)
    (case c2 => k_is)
    (case k2 => k_is)
    (case a3 => k_is)
    (case l3 => k_is)
    (case c3 => k_is)
    (case k3 => k_is)
    (case a4 => k_is)
    (case l4 => k_is)
    (case c4 => k_is)
    (case k4 => k_is)
    (case a5 => k_is)
    (case l5 => k_is)
    (case c5 => k_is)
    (case k5 => k_is)
    (case a6 => k_is)
    (case l6 => k_is)
    (case c6 => k_is)
    (case k6 => k_is)
    (case a7 => k_is)
    (case l7 => k_is)
    (case c7 => k_is)
    (case k7 => k_is)
    (case a8 => k_is)
    (case l8 => k_is)
    (case c8 => k_is)
    (case k8 => k_is)
    (case a9 => k_is)
    (case l9 => k_is)
    (case c9 => k_is)
    (case k9 => k_is)
    (case a10 => k_is)
    (case l10 => k_is)
    (case c10 => k_is)
    (case k10 => k_is)
    (case a11 => k_is)
    (case l11 => k_is)
    (case c11 => k_is)
    (case k11 => k_is)
    (case a12 => k_is)
    (case l12 => k_is)
    (case c12 => k_is)
    (case k12 => k_is)
    (case a13 => k_is)
    (case l13 => k_is)
    (case c13 => k_is)
    (case k13 => k_is)
    (case a14 => k_is)
    (case l14 => k_is)
    (case c14 => k_is)
    (case k14 => k_is)
    (case a15 => k_is)
    (case l15 => k_is)
    (case c15 => k_is)
    (case k15 => k_is)
    (case a16 => k_is)
    (case l16 => k_is)
    (case c16 => k_is)
    (case k16 => k_is)
    (case a17 => k_is)
    (case l17 => k_is)
    (case c17 => k_is)
    (case k17 => k_is)
    (case a18 => k_is)
    (case l18 => k_is)
    (case c18 => k_is)
    (case k18 => k_is)
    (case a19 => k_is)
    (case l19 => k_is)
    (case c19 => k_is)
    (case k19 => k_is)
    (case a20 => k_is)
    (case l20 => k_is)
    (case c20 => k_is)
    (case k20 => k_is)
    (case a21 => k_is)
    (case l21 => k_is)
    (case c21 => k_is)
    (case k21 => k_is)
    (case z0 => k_is)
    (case z1 => k_is)
    (case z2 => k_is)
    (case z3 => k_is)
    (case z4 => k_is)
    (case z5 => k_is)
    (case z6 => k_is)
    (case z7 => k_is)
    (case z8 => k_is)
    (case z9 => k_is)
    (case z10 => k_is)
    (case z11 => k_is)
    (case z12 => k_is)
    (case z13 => k_is)
    (case z14 => k_is)
    (case z15 => k_is)
    (case z16 => k_is)
    (case z17 => k_is)
    (case z18 => k_is)
    (case z19 => k_is)
    (case v0 => k_is)
    (case v1 => k_is)
    (case v2 => k_is)
    (case v3 => k_is)
    (case v4 => k_is)
    (case v5 => k_is)
    (case v6 => k_is)
    (case v7 => k_is)
    (case v8 => k_is)
    (case v9 => k_is)
    (case v10 => k_is)
    (case v11 => k_is)
    (case v12 => k_is)
    (case v13 => k_is)
    (case v14 => k_is)
    (case v15 => k_is)
    (case aR => k_is)
    (case pgR => k_is)
    (case hdR => k_is)
    (case poR => k_is)
    (case saR => k_is)
    (case mkR => k_is)
    (case kcR => k_is)
    (case nR0 => k_is)
    (case nR1 => k_is)
    (case nR2 => k_is)
    (case nR3 => k_is)
    (case iR0 => k_is)
    (case jR0 => k_is)
    (case lR0 => k_is)
    (case cR0 => k_is)
    (case kR0 => k_is)
    (case iR1 => k_is)
    (case jR1 => k_is)
    (case lR1 => k_is)
    (case cR1 => k_is)
    (case kR1 => k_is)
    (case iR2 => k_is)
    (case jR2 => k_is)
    (case lR2 => k_is)
    (case cR2 => k_is)
    (case kR2 => k_is)
    (case iR3 => k_is)
    (case jR3 => k_is)
    (case lR3 => k_is)
    (case cR3 => k_is)
    (case kR3 => k_is)
    (case iR4 => k_is)
    (case jR4 => k_is)
    (case lR4 => k_is)
    (case cR4 => k_is)
    (case kR4 => k_is)
    (case iR5 => k_is)
    (case jR5 => k_is)
    (case lR5 => k_is)
    (case cR5 => k_is)
    (case kR5 => k_is)
    (case iR6 => k_is)
    (case jR6 => k_is)
    (case lR6 => k_is)
    (case cR6 => k_is)
    (case kR6 => k_is)
    (case iR7 => k_is)
    (case jR7 => k_is)
    (case lR7 => k_is)
    (case cR7 => k_is)
    (case kR7 => k_is)
    (case iR8 => k_is)
    (case jR8 => k_is)
    (case lR8 => k_is)
    (case cR8 => k_is)
    (case kR8 => k_is)
    (case iR9 => k_is)
    (case jR9 => k_is)
    (case lR9 => k_is)
    (case cR9 => k_is)
    (case kR9 => k_is)
    (case iR10 => k_is)
    (case jR10 => k_is)
    (case lR10 => k_is)
    (case cR10 => k_is)
    (case kR10 => k_is)
    (case iR11 => k_is)
    (case jR11 => k_is)
    (case lR11 => k_is)
    (case cR11 => k_is)
    (case kR11 => k_is)
    (case iR12 => k_is)
    (case jR12 => k_is)
    (case lR12 => k_is)
    (case cR12 => k_is)
    (case kR12 => k_is)
    (case iR13 => k_is)
    (case jR13 => k_is)
    (case lR13 => k_is)
    (case cR13 => k_is)
    (case kR13 => k_is)
    (case aW => k_is)
    (case pgW => k_is)
    (case hdW => k_is)
    (case poW => k_is)
    (case saW => k_is)
    (case mkW => k_is)
    (case kcW => k_is)
    (case nW0 => k_is)
    (case nW1 => k_is)
    (case iW0 => k_is)
    (case jW0 => k_is)
    (case lW0 => k_is)
    (case cW0 => k_is)
    (case kW0 => k_is)
    (case iW1 => k_is)
    (case jW1 => k_is)
    (case lW1 => k_is)
    (case cW1 => k_is)
    (case kW1 => k_is)
    (case iW2 => k_is)
    (case jW2 => k_is)
    (case lW2 => k_is)
    (case cW2 => k_is)
    (case kW2 => k_is)
    (case iW3 => k_is)
    (case jW3 => k_is)
    (case lW3 => k_is)
    (case cW3 => k_is)
    (case kW3 => k_is)
    (case iW4 => k_is)
    (case jW4 => k_is)
    (case lW4 => k_is)
    (case cW4 => k_is)
    (case kW4 => k_is)
    (case aP => k_is)
    (case pgP => k_is)
    (case hdP => k_is)
    (case poP => k_is)
    (case saP => k_is)
    (case mkP => k_is)
    (case kcP => k_is)
    (case nP0 => k_is)
    (case nP1 => k_is)
    (case nP2 => k_is)
    (case nP3 => k_is)
    (case nP4 => k_is)
    (case nP5 => k_is)
    (case nP6 => k_is)
    (case nP7 => k_is)
    (case nP8 => k_is)
    (case iP0 => k_is)
    (case jP0 => k_is)
    (case lP0 => k_is)
    (case cP0 => k_is)
    (case kP0 => k_is)
    (case iP1 => k_is)
    (case jP1 => k_is)
    (case lP1 => k_is)
    (case cP1 => k_is)
    (case kP1 => k_is)
    (case iP2 => k_is)
    (case jP2 => k_is)
    (case lP2 => k_is)
    (case cP2 => k_is)
    (case kP2 => k_is)
    (case aM => k_is)
    (case pgM => k_is)
    (case hdM => k_is)
    (case poM => k_is)
    (case saM => k_is)
    (case mkM => k_is)
    (case kcM => k_is)
    (case nM0 => k_is)
    (case nM1 => k_is)
    (case nM2 => k_is)
    (case iM0 => k_is)
    (case jM0 => k_is)
    (case lM0 => k_is)
    (case cM0 => k_is)
    (case kM0 => k_is)
    (case pa0 => k_is)
    (case pr0 => first | k_is | exact rfl)
    (case pt0 => k_is)
    (case pg0 => k_is)
    (case lM1 => k_is)
    (case cM1 => k_is)
    (case kM1 => k_is)
    (case pa1 => k_is)
    (case pr1 => first | k_is | exact rfl)
    (case pt1 => k_is)
    (case pg1 => k_is)
    (case lM2 => k_is)
    (case cM2 => k_is)
    (case kM2 => k_is)
    (case pa2 => k_is)
    (case pr2 => first | k_is | exact rfl)
    (case pt2 => k_is)
    (case pg2 => k_is)
    (case lM3 => k_is)
    (case cM3 => k_is)
    (case kM3 => k_is)
    (case ha => k_is)
    (case hn => k_is)
    (case ht => k_is)
    (case hm => k_is)
    (case kk1 => first | k_is | exact rfl | decide +kernel)
    (case kk2 => first | k_is | exact rfl | decide +kernel)
    (case sb => first | k_is | exact rfl | decide +kernel)
    (case aCs => k_is)
    (case lCs => k_is)
    (case klCs => exact ⟨⟨_, _, rfl, rfl⟩, ⟨_, _, rfl, rfl⟩, ⟨_, _, rfl, rfl⟩, trivial⟩)
    (case loCs => first | exact rfl | decide +kernel | k_is)
    (case q0 => k_is)
    (case q1 => k_is)
    (case q2 => k_is)
    (case qk => exact ⟨_, _, _, _, _, _, _, _, _, rfl⟩)
    (case lT0 => k_is)
    (case lT1 => k_is)
    (case lT2 => k_is)
