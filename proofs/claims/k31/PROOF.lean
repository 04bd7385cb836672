import PyProof.Rows.All
import Wide.All
import OpenK.AllK
import Wide.FinOn
import PySem.Challenge.RW_siftstore_k31_nodes_of_any_form
import HandS.ForMost
import HandS.Set
import HandS.SetFor
import HandS.SetTxt0
import PyProof.Rows.SortShellAny
import KE.GoesEnum
import HandS.Walk
import HandS.Ends
import HandS.IsInst
import HandS.Dict
import PyProof.ReprLen
import HandS.Wide
import HandS.Steps
import KE.KIntText
import HandS.Evl
import HandS.Flow
import HandS.Conv
import HandS.Star
import HandS.Strs
import HandS.OwnEq
import PyProof.StrBlock2
import HandS.NoneIn
import KE.KDictDisplayH
import HandS.RaiseMore
import HandS.MakeKwOnly
import HandS.Style
import KE.KOpsOwn
import HandS.DictComp
import HandS.SortInts
import HandS.Iter
import HandS.Zip
import HandS.List
import HandS.WideBits
import HandS.TupAny
import HandS.Deep
set_option Elab.async false
set_option linter.all false
set_option maxRecDepth 100000
/-! Trees of pattern strings, and the reading of a string from the left as a relation (success alone). -/
namespace Sf4
/-- a tree, letters as codes -/
inductive Tr where
  | place (s : List Nat)
  | chain (l : List Tr)
  | choice (l : List Tr)
  | count (a : Nat) (b : Option Nat) (t : Tr)
  | capture (n : List Nat) (t : Tr)
  | empty
abbrev Nm := List (List Nat)
/-- from a place, with names, a tree is read; then the place behind it, and the names -/
abbrev Rel (α : Type) := Nat → Nm → α → Nat → Nm → Prop
def LETc : List Nat := [32, 48, 49, 50, 51, 52, 53, 54, 55, 56, 57, 95] ++ (List.range 26).map (· + 97)
def digit (c : Nat) : Prop := 48 ≤ c ∧ c ≤ 57
def small (c : Nat) : Prop := 97 ≤ c ∧ c ≤ 122
/-- the signs that one goes on in a chain with -/
def starts (Z : List Nat) (p : Nat) : Prop := ∃ c, Z[p]? = some c ∧ (c ∈ LETc ∨ c = 46 ∨ c = 91 ∨ c = 40 ∨ c = 60)
/-- a number written with one or two digits, at most 20 -/
inductive RNum (Z : List Nat) : Nat → Nat → Nat → Prop where
  | one {p c : Nat} : Z[p]? = some c → digit c → (∀ e, Z[p + 1]? = some e → ¬ digit e) → RNum Z p (c - 48) (p + 1)
  | two {p c d : Nat} : Z[p]? = some c → digit c → c ≠ 48 → Z[p + 1]? = some d → digit d → (∀ e, Z[p + 2]? = some e → ¬ digit e) → 10 * (c - 48) + (d - 48) ≤ 20 → RNum Z p (10 * (c - 48) + (d - 48)) (p + 2)
/-- what stands between brackets: letters alone (ranges and ^ are not told) -/
inductive RSome (Z : List Nat) : Nat → List Nat → Nat → Prop where
  | last {p c : Nat} : Z[p]? = some c → c ∈ LETc → Z[p + 1]? = some 93 → RSome Z p [c] (p + 2)
  | next {p c q : Nat} {s : List Nat} : Z[p]? = some c → c ∈ LETc → Z[p + 1]? ≠ some 45 → Z[p + 1]? ≠ some 93 → RSome Z (p + 1) s q → RSome Z p (c :: s) q
/-- a name: small letters up to the colon -/
inductive RName (Z : List Nat) : Nat → List Nat → Nat → Prop where
  | nil {p : Nat} : Z[p]? = some 58 → RName Z p [] p
  | cons {p c q : Nat} {s : List Nat} : Z[p]? = some c → small c → RName Z (p + 1) s q → RName Z p (c :: s) q
/-- a unit; C reads what stands within parentheses, if one may still open any -/
inductive RUnit (Z : List Nat) (can : Prop) (C : Rel Tr) : Rel Tr where
  | letter {p c : Nat} {nm : Nm} : Z[p]? = some c → c ∈ LETc → RUnit Z can C p nm (.place [c]) (p + 1) nm
  | dot {p : Nat} {nm : Nm} : Z[p]? = some 46 → RUnit Z can C p nm (.place LETc) (p + 1) nm
  | cls {p q : Nat} {s : List Nat} {nm : Nm} : Z[p]? = some 91 → Z[p + 1]? ≠ some 94 → RSome Z (p + 1) s q → RUnit Z can C p nm (.place (LETc.filter fun c => decide (c ∈ s))) q nm
  | nothing {p : Nat} {nm : Nm} : can → Z[p]? = some 40 → Z[p + 1]? = some 41 → RUnit Z can C p nm .empty (p + 2) nm
  | group {p q : Nat} {t : Tr} {nm nm' : Nm} : can → Z[p]? = some 40 → Z[p + 1]? ≠ some 41 → C (p + 1) nm t q nm' → Z[q]? = some 41 → RUnit Z can C p nm t (q + 1) nm'
  | capture {p q r : Nat} {n : List Nat} {t : Tr} {nm nm' : Nm} : can → Z[p]? = some 60 → RName Z (p + 1) n q → 1 ≤ n.length → n.length ≤ 8 → n ∉ nm → C (q + 1) (nm ++ [n]) t r nm' → Z[r]? = some 62 → RUnit Z can C p nm (.capture n t) (r + 1) nm'
def cnt : Nat → Option (Nat × Option Nat)
  | 42 => some (0, none)
  | 43 => some (1, none)
  | 63 => some (0, some 1)
  | _ => none
inductive RItem (Z : List Nat) (U : Rel Tr) : Rel Tr where
  | plain {p q : Nat} {t : Tr} {nm nm' : Nm} : U p nm t q nm' → (∀ c, Z[q]? = some c → cnt c = none ∧ c ≠ 123) → RItem Z U p nm t q nm'
  | sign {p q c a : Nat} {b : Option Nat} {t : Tr} {nm nm' : Nm} : U p nm t q nm' → Z[q]? = some c → cnt c = some (a, b) → RItem Z U p nm (.count a b t) (q + 1) nm'
  | just {p q a r : Nat} {t : Tr} {nm nm' : Nm} : U p nm t q nm' → Z[q]? = some 123 → RNum Z (q + 1) a r → Z[r]? = some 125 → RItem Z U p nm (.count a (some a) t) (r + 1) nm'
  | least {p q a r : Nat} {t : Tr} {nm nm' : Nm} : U p nm t q nm' → Z[q]? = some 123 → RNum Z (q + 1) a r → Z[r]? = some 44 → Z[r + 1]? = some 125 → RItem Z U p nm (.count a none t) (r + 2) nm'
  | both {p q a b r s : Nat} {t : Tr} {nm nm' : Nm} : U p nm t q nm' → Z[q]? = some 123 → RNum Z (q + 1) a r → Z[r]? = some 44 → RNum Z (r + 1) b s → a ≤ b → Z[s]? = some 125 → RItem Z U p nm (.count a (some b) t) (s + 1) nm'
/-- one and more of R, as long as it goes on; g: the place where the next one begins -/
inductive RMany (R : Rel Tr) (go : Nat → Prop) (g : Nat → Nat) : Rel (List Tr) where
  | last {p q : Nat} {t : Tr} {nm nm' : Nm} : R p nm t q nm' → ¬ go q → RMany R go g p nm [t] q nm'
  | next {p q r : Nat} {t : Tr} {ts : List Tr} {nm nm' nm2 : Nm} : R p nm t q nm' → go q → RMany R go g (g q) nm' ts r nm2 → RMany R go g p nm (t :: ts) r nm2
def RChain (Z : List Nat) (I : Rel Tr) : Rel Tr := fun p nm t q nm' => ∃ ts, RMany I (starts Z) id p nm ts q nm' ∧ ((∃ x, ts = [x] ∧ t = x) ∨ (2 ≤ ts.length ∧ t = .chain ts))
def RChoice (Z : List Nat) (H : Rel Tr) : Rel Tr := fun p nm t q nm' => ∃ ts, RMany H (fun q => Z[q]? = some 124) (· + 1) p nm ts q nm' ∧ ((∃ x, ts = [x] ∧ t = x) ∨ (2 ≤ ts.length ∧ t = .choice ts))
/-- an expression in which so many parentheses may still be opened within one another -/
def RC (Z : List Nat) : Nat → Rel Tr
  | 0 => RChoice Z (RChain Z (RItem Z (RUnit Z False fun _ _ _ _ _ => False)))
  | d + 1 => RChoice Z (RChain Z (RItem Z (RUnit Z True (RC Z d))))
/-- a whole string -/
def RWhole (Z : List Nat) (l : Bool) (t : Tr) (r : Bool) (nm : Nm) : Prop := ∃ q, Z[0]? = (if l then some 94 else Z[0]?) ∧ (l = false → Z[0]? ≠ some 94) ∧ RC Z 8 (if l then 1 else 0) [] t q nm ∧ (if r then Z[q]? = some 36 ∧ q + 1 = Z.length else q = Z.length)
end Sf4
/-! The string of a tree, and how many parentheses it opens within one another. -/
namespace Sf4
def isCh : Tr → Bool
  | .chain _ => true
  | _ => false
def isAl : Tr → Bool
  | .choice _ => true
  | _ => false
def isCo : Tr → Bool
  | .count _ _ _ => true
  | _ => false
def grp (b : Bool) (x : List Nat) : List Nat := if b then 40 :: (x ++ [41]) else x
def num (n : Nat) : List Nat := if n < 10 then [48 + n] else [48 + n / 10, 48 + n % 10]
def cntS (a : Nat) : Option Nat → List Nat
  | none => if a = 0 then [42] else if a = 1 then [43] else 123 :: (num a ++ [44, 125])
  | some b => if a = 0 ∧ b = 1 then [63] else if a = b then 123 :: (num a ++ [125]) else 123 :: (num a ++ 44 :: (num b ++ [125]))
mutual
def prn : Tr → List Nat
  | .place s => if s = LETc then [46] else if s.length = 1 then s else 91 :: (s ++ [93])
  | .empty => [40, 41]
  | .capture n t => 60 :: (n ++ 58 :: (prn t ++ [62]))
  | .chain l => prnCh l
  | .choice l => prnAl l
  | .count a b t => grp (isCh t || isAl t || isCo t) (prn t) ++ cntS a b
def prnCh : List Tr → List Nat
  | [] => []
  | t :: r => grp (isCh t || isAl t) (prn t) ++ prnCh r
def prnAl : List Tr → List Nat
  | [] => []
  | t :: r => grp (isAl t) (prn t) ++ prnMo r
def prnMo : List Tr → List Nat
  | [] => []
  | t :: r => 124 :: (grp (isAl t) (prn t) ++ prnMo r)
end
mutual
/-- how many parentheses stand open at once in the string -/
def opn : Tr → Nat
  | .place _ => 0
  | .empty => 1
  | .capture _ t => opn t + 1
  | .chain l => opnCh l
  | .choice l => opnAl l
  | .count _ _ t => opn t + (if isCh t || isAl t || isCo t then 1 else 0)
def opnCh : List Tr → Nat
  | [] => 0
  | t :: r => max (opn t + (if isCh t || isAl t then 1 else 0)) (opnCh r)
def opnAl : List Tr → Nat
  | [] => 0
  | t :: r => max (opn t + (if isAl t then 1 else 0)) (opnAl r)
end
mutual
/-- the names of the captures from the left -/
def nms : Tr → Nm
  | .place _ => []
  | .empty => []
  | .capture n t => n :: nms t
  | .chain l => nmsL l
  | .choice l => nmsL l
  | .count _ _ t => nms t
def nmsL : List Tr → Nm
  | [] => []
  | t :: r => nms t ++ nmsL r
end
mutual
/-- a tree as the law draws it -/
def wf : Tr → Prop
  | .place s => s ≠ [] ∧ (LETc.filter fun c => decide (c ∈ s)) = s
  | .empty => True
  | .capture n t => 1 ≤ n.length ∧ n.length ≤ 8 ∧ (∀ c ∈ n, small c) ∧ wf t
  | .chain l => 2 ≤ l.length ∧ wfL l
  | .choice l => 2 ≤ l.length ∧ wfL l
  | .count a b t => a ≤ 20 ∧ (∀ c, b = some c → a ≤ c ∧ c ≤ 20) ∧ wf t
def wfL : List Tr → Prop
  | [] => True
  | t :: r => wf t ∧ wfL r
end
end Sf4
/-! The string of a tree is read back. -/
namespace Sf4
def st (c : Nat) : Prop := c ∈ LETc ∨ c = 46 ∨ c = 91 ∨ c = 40 ∨ c = 60
theorem let_not : ∀ c ∈ LETc, cnt c = none ∧ c ≠ 123 ∧ c ≠ 41 ∧ c ≠ 124 ∧ c ≠ 62 ∧ c ≠ 36 ∧ c ≠ 93 ∧ c ≠ 94 ∧ c ≠ 45 ∧ c ≠ 46 ∧ c ≠ 91 := by decide
theorem st_not {c : Nat} (h : st c) : cnt c = none ∧ c ≠ 123 ∧ c ≠ 41 ∧ c ≠ 124 ∧ c ≠ 62 ∧ c ≠ 36 := by
  rcases h with h | rfl | rfl | rfl | rfl
  · obtain ⟨a, b, c, d, e, f, _⟩ := let_not c h
    exact ⟨a, b, c, d, e, f⟩
  all_goals decide
variable {Z r : List Nat} {p : Nat}
theorem atN {x : List Nat} (h : Z.drop p = x ++ r) : Z.drop (p + x.length) = r := by
  rw [← List.drop_drop, h, List.drop_left]
theorem atH (h : Z.drop p = r) : Z[p]? = r.head? := by rw [← h, List.head?_drop]
theorem atC {c : Nat} (h : Z.drop p = c :: r) : Z[p]? = some c ∧ Z.drop (p + 1) = r := ⟨atH h, atN (x := [c]) h⟩
theorem place_sub {s : List Nat} (h : (LETc.filter fun c => decide (c ∈ s)) = s) : ∀ c ∈ s, c ∈ LETc := fun c hc => by
  rw [← h] at hc
  exact (List.mem_filter.mp hc).1
mutual
theorem prn_head : ∀ {t : Tr}, wf t → ∃ c r, prn t = c :: r ∧ st c
  | .place s, h => by
    unfold wf at h
    unfold prn
    by_cases h1 : s = LETc
    · rw [if_pos h1]
      exact ⟨46, [], rfl, .inr (.inl rfl)⟩
    · rw [if_neg h1]
      by_cases h2 : s.length = 1
      · rw [if_pos h2]
        match s, h2 with
        | [c], _ => exact ⟨c, [], rfl, .inl (place_sub h.2 c List.mem_cons_self)⟩
      · rw [if_neg h2]
        exact ⟨91, _, rfl, .inr (.inr (.inl rfl))⟩
  | .empty, _ => ⟨40, [41], by unfold prn <;> rfl, .inr (.inr (.inr (.inl rfl)))⟩
  | .capture n t, _ => ⟨60, _, by unfold prn <;> rfl, .inr (.inr (.inr (.inr rfl)))⟩
  | .chain [], h => by
    unfold wf at h
    exact absurd h.1 (by decide)
  | .chain (t :: l), h => by
    unfold wf wfL at h
    obtain ⟨c, r, e, s⟩ := grp_head (isCh t || isAl t) (prn_head h.2.1)
    exact ⟨c, r ++ prnCh l, by rw [prn, prnCh, e] <;> rfl, s⟩
  | .choice [], h => by
    unfold wf at h
    exact absurd h.1 (by decide)
  | .choice (t :: l), h => by
    unfold wf wfL at h
    obtain ⟨c, r, e, s⟩ := grp_head (isAl t) (prn_head h.2.1)
    exact ⟨c, r ++ prnMo l, by rw [prn, prnAl, e] <;> rfl, s⟩
  | .count a b t, h => by
    unfold wf at h
    obtain ⟨c, r, e, s⟩ := grp_head (isCh t || isAl t || isCo t) (prn_head h.2.2)
    exact ⟨c, r ++ cntS a b, by unfold prn; rw [e] <;> rfl, s⟩
theorem grp_head {x : List Nat} (b : Bool) (h : ∃ c r, x = c :: r ∧ st c) : ∃ c r, grp b x = c :: r ∧ st c := by
  cases b with
  | true => exact ⟨40, _, rfl, .inr (.inr (.inr (.inl rfl)))⟩
  | false => exact h
end
theorem rd_num {a : Nat} (ha : a ≤ 20) (h : Z.drop p = num a ++ r) (hr : ∀ e, r.head? = some e → ¬ digit e) : RNum Z p a (p + (num a).length) := by
  unfold num at *
  by_cases h1 : a < 10
  · rw [if_pos h1] at h ⊢
    have z := atC (c := 48 + a) (r := r) h
    have q := RNum.one (p := p) z.1 ⟨by omega, by omega⟩ (fun e he => hr e (by rw [← he, atH z.2]))
    rw [show 48 + a - 48 = a by omega] at q
    exact q
  · rw [if_neg h1] at h ⊢
    have z := atC (c := 48 + a / 10) (r := (48 + a % 10) :: r) h
    have z2 := atC z.2
    have q := RNum.two (p := p) z.1 ⟨by omega, by omega⟩ (by omega) z2.1 ⟨by omega, by omega⟩ (fun e he => hr e (by rw [← he, atH z2.2])) (by omega)
    rw [show 10 * (48 + a / 10 - 48) + (48 + a % 10 - 48) = a by omega] at q
    exact q
end Sf4
namespace Sf4
variable {Z r : List Nat} {p : Nat}
def RU (Z : List Nat) : Nat → Rel Tr
  | 0 => RUnit Z False fun _ _ _ _ _ => False
  | d + 1 => RUnit Z True (RC Z d)
theorem RC_eq (Z : List Nat) (d : Nat) : RC Z d = RChoice Z (RChain Z (RItem Z (RU Z d))) := by
  cases d <;> rfl
theorem rd_some : ∀ {s : List Nat} {p : Nat}, s ≠ [] → (∀ c ∈ s, c ∈ LETc) → Z.drop p = s ++ 93 :: r → RSome Z p s (p + s.length + 1)
  | [], _, h, _, _ => absurd rfl h
  | [c], p, _, hs, h => by
    have z := atC (c := c) (r := 93 :: r) h
    exact .last z.1 (hs c List.mem_cons_self) (atC z.2).1
  | c :: d :: s, p, _, hs, h => by
    have z := atC (c := c) (r := d :: (s ++ 93 :: r)) h
    have z2 := atC z.2
    have hd := let_not d (hs d (List.mem_cons_of_mem _ List.mem_cons_self))
    have q := rd_some (s := d :: s) (p := p + 1) (fun z => by cases z) (fun e he => hs e (List.mem_cons_of_mem _ he)) z.2
    rw [show p + 1 + (d :: s).length + 1 = p + (c :: d :: s).length + 1 by simp only [List.length_cons]; omega] at q
    refine .next z.1 (hs c List.mem_cons_self) (fun e => ?_) (fun e => ?_) q
    · rw [z2.1] at e
      exact hd.2.2.2.2.2.2.2.2.1 (Option.some.inj e)
    · rw [z2.1] at e
      exact hd.2.2.2.2.2.2.1 (Option.some.inj e)
theorem rd_name : ∀ {n : List Nat} {p : Nat}, (∀ c ∈ n, small c) → Z.drop p = n ++ 58 :: r → RName Z p n (p + n.length)
  | [], p, _, h => .nil (atC h).1
  | c :: n, p, hn, h => by
    have z := atC (c := c) (r := n ++ 58 :: r) h
    have q := rd_name (n := n) (p := p + 1) (fun e he => hn e (List.mem_cons_of_mem _ he)) z.2
    rw [show p + 1 + n.length = p + (c :: n).length by simp only [List.length_cons]; omega] at q
    exact .cons z.1 (hn c List.mem_cons_self) q
theorem nodig {e c : Nat} {r : List Nat} (h : (c :: r).head? = some e) (hc : ¬ digit c) : ¬ digit e := by
  obtain rfl : c = e := Option.some.inj h
  exact hc
theorem rd_cnt {U : Rel Tr} {q a : Nat} {b : Option Nat} {t : Tr} {nm nm' : Nm} (u : U p nm t q nm') (h : Z.drop q = cntS a b ++ r) (ha : a ≤ 20) (hb : ∀ c, b = some c → a ≤ c ∧ c ≤ 20) : RItem Z U p nm (.count a b t) (q + (cntS a b).length) nm' := by
  cases b with
  | none =>
    unfold cntS at *
    dsimp only at h ⊢
    by_cases h0 : a = 0
    · rw [if_pos h0] at h ⊢
      subst h0
      exact .sign u (atC (c := 42) h).1 rfl
    · rw [if_neg h0] at h ⊢
      by_cases h1 : a = 1
      · rw [if_pos h1] at h ⊢
        subst h1
        exact .sign u (atC (c := 43) h).1 rfl
      · rw [if_neg h1] at h ⊢
        have z := atC (c := 123) (r := num a ++ 44 :: 125 :: r) (by rw [h]; simp)
        have z2 := atN z.2
        have z3 := atC z2
        have q1 := RItem.least u z.1 (rd_num ha z.2 fun e he => nodig he (by unfold digit; omega)) z3.1 (atC z3.2).1
        rw [show q + 1 + (num a).length + 2 = q + (123 :: (num a ++ [44, 125])).length by simp only [List.length_cons, List.length_append, List.length_nil]; omega] at q1
        exact q1
  | some b =>
    obtain ⟨h1, h2⟩ := hb b rfl
    unfold cntS at *
    dsimp only at h ⊢
    by_cases h0 : a = 0 ∧ b = 1
    · rw [if_pos h0] at h ⊢
      obtain ⟨rfl, rfl⟩ := h0
      exact .sign u (atC (c := 63) h).1 rfl
    · rw [if_neg h0] at h ⊢
      by_cases h3 : a = b
      · rw [if_pos h3] at h ⊢
        subst h3
        have z := atC (c := 123) (r := num a ++ 125 :: r) (by rw [h]; simp)
        have q1 := RItem.just u z.1 (rd_num ha z.2 fun e he => nodig he (by unfold digit; omega)) (atC (atN z.2)).1
        rw [show q + 1 + (num a).length + 1 = q + (123 :: (num a ++ [125])).length by simp only [List.length_cons, List.length_append, List.length_nil]; omega] at q1
        exact q1
      · rw [if_neg h3] at h ⊢
        have z := atC (c := 123) (r := num a ++ 44 :: (num b ++ 125 :: r)) (by rw [h]; simp)
        have z2 := atC (atN z.2)
        have z3 := atC (atN z2.2)
        have q1 := RItem.both u z.1 (rd_num ha z.2 fun e he => nodig he (by unfold digit; omega)) z2.1 (rd_num h2 z2.2 fun e he => nodig he (by unfold digit; omega)) h1 z3.1
        rw [show q + 1 + (num a).length + 1 + (num b).length + 1 = q + (123 :: (num a ++ 44 :: (num b ++ [125]))).length by simp only [List.length_cons, List.length_append, List.length_nil]; omega] at q1
        exact q1
end Sf4
namespace Sf4
def stopC (r : List Nat) : Prop := ∀ c, r.head? = some c → c = 41 ∨ c = 62 ∨ c = 36
def stopH (r : List Nat) : Prop := ∀ c, r.head? = some c → ¬ st c ∧ cnt c = none ∧ c ≠ 123
def stopI (r : List Nat) : Prop := ∀ c, r.head? = some c → cnt c = none ∧ c ≠ 123
theorem stopC.h {r : List Nat} (h : stopC r) : stopH r := fun c hc => by
  rcases h c hc with rfl | rfl | rfl
  all_goals exact ⟨fun z => by rcases z with z | z | z | z | z <;> revert z <;> decide, by decide, by decide⟩
theorem stopH.i {r : List Nat} (h : stopH r) : stopI r := fun c hc => (h c hc).2
theorem stopBar (r : List Nat) : stopH (124 :: r) := fun c hc => by
  obtain rfl : 124 = c := Option.some.inj hc
  exact ⟨fun z => by rcases z with z | z | z | z | z <;> revert z <;> decide, by decide, by decide⟩
theorem stClose (r : List Nat) (c : Nat) (h : c = 41 ∨ c = 62 ∨ c = 36) : stopC (c :: r) := fun e he => by
  obtain rfl : c = e := Option.some.inj he
  exact h
variable {Z r : List Nat} {p d : Nat} {nm nm' : Nm} {t : Tr}
/-- a tree in parentheses is a unit -/
theorem rd_grp (hw : wf t) (h : Z.drop p = grp true (prn t) ++ r) (hc : RC Z d (p + 1) nm t (p + 1 + (prn t).length) nm') : RU Z (d + 1) p nm t (p + (grp true (prn t)).length) nm' := by
  have z := atC (c := 40) (r := prn t ++ 41 :: r) (by rw [h]; simp [grp])
  obtain ⟨c, x, e, s⟩ := prn_head hw
  have z1 : Z[p + 1]? = some c := (atC (c := c) (r := x ++ 41 :: r) (by rw [z.2, e] <;> rfl)).1
  have z2 := (atC (c := 41) (atN z.2)).1
  have q := RUnit.group (can := True) True.intro z.1 (by rw [z1]; exact fun y => (st_not s).2.2.1 (Option.some.inj y)) hc z2
  rw [show p + 1 + (prn t).length + 1 = p + (grp true (prn t)).length by simp only [grp, if_true, List.length_cons, List.length_append, List.length_nil]; omega] at q
  exact q
theorem rd_place {s : List Nat} (hw : wf (.place s)) (h : Z.drop p = prn (.place s) ++ r) : RU Z d p nm (.place s) (p + (prn (.place s)).length) nm := by
  have key : ∀ (can : Prop) (C : Rel Tr), RUnit Z can C p nm (.place s) (p + (prn (.place s)).length) nm := fun can C => by
    unfold wf at hw
    unfold prn at *
    by_cases h1 : s = LETc
    · rw [if_pos h1] at h ⊢
      rw [h1]
      exact .dot (atC (c := 46) h).1
    · rw [if_neg h1] at h ⊢
      by_cases h2 : s.length = 1
      · rw [if_pos h2] at h ⊢
        match s, h2 with
        | [c], _ => exact .letter (atC (c := c) h).1 (place_sub hw.2 c List.mem_cons_self)
      · rw [if_neg h2] at h ⊢
        have z := atC (c := 91) (r := s ++ 93 :: r) (by rw [h]; simp)
        have q := rd_some hw.1 (place_sub hw.2) z.2
        obtain ⟨c, x, e⟩ : ∃ c x, s = c :: x := by
          cases s with
          | nil => exact absurd rfl hw.1
          | cons c x => exact ⟨c, x, rfl⟩
        have z1 : Z[p + 1]? = some c := (atC (c := c) (r := x ++ 93 :: r) (by rw [z.2, e] <;> rfl)).1
        have hl := let_not c (place_sub hw.2 c (by rw [e]; exact List.mem_cons_self))
        have u := RUnit.cls (can := can) (C := C) (nm := nm) z.1 (by rw [z1]; exact fun y => hl.2.2.2.2.2.2.2.1 (Option.some.inj y)) q
        rw [hw.2, show p + 1 + s.length + 1 = p + (91 :: (s ++ [93])).length by simp only [List.length_cons, List.length_append, List.length_nil]; omega] at u
        exact u
  cases d with
  | zero => exact key _ _
  | succ d => exact key _ _
end Sf4
namespace Sf4
/-- the string of t is read back -/
def Rd (t : Tr) : Prop := ∀ (Z r : List Nat) (p d : Nat) (nm : Nm), wf t → opn t ≤ d → (nm ++ nms t).Nodup → Z.drop p = prn t ++ r → stopC r → RC Z d p nm t (p + (prn t).length) (nm ++ nms t)
variable {Z r : List Nat} {p d : Nat} {nm : Nm} {t : Tr}
theorem unit_of (n1 : isCh t = false) (n2 : isAl t = false) (n3 : isCo t = false) (ih : ∀ t', sizeOf t' < sizeOf t → Rd t') (hw : wf t) (ho : opn t ≤ d) (hn : (nm ++ nms t).Nodup) (h : Z.drop p = prn t ++ r) : RU Z d p nm t (p + (prn t).length) (nm ++ nms t) := by
  cases t with
  | chain l => cases n1
  | choice l => cases n2
  | count a b t => cases n3
  | place s =>
    have q := rd_place (d := d) (nm := nm) hw h
    rw [show nms (.place s) = [] by unfold nms <;> rfl, List.append_nil]
    exact q
  | empty =>
    unfold opn at ho
    rw [show nms .empty = [] by unfold nms <;> rfl, List.append_nil]
    rw [show prn .empty = [40, 41] by unfold prn <;> rfl] at h ⊢
    cases d with
    | zero => omega
    | succ d =>
      have z := atC (c := 40) (r := 41 :: r) h
      exact .nothing True.intro z.1 (atC z.2).1
  | capture n t =>
    have e1 : prn (.capture n t) = 60 :: (n ++ 58 :: (prn t ++ [62])) := by rw [prn]
    have e2 : nms (.capture n t) = n :: nms t := by rw [nms]
    have e3 : opn (.capture n t) = opn t + 1 := by rw [opn]
    rw [e3] at ho
    rw [e2] at hn ⊢
    rw [e1] at h ⊢
    unfold wf at hw
    cases d with
    | zero => omega
    | succ d =>
      have z := atC (c := 60) (r := n ++ 58 :: (prn t ++ 62 :: r)) (by rw [h]; simp)
      have z2 := atC (atN z.2)
      have e4 : nm ++ n :: nms t = (nm ++ [n]) ++ nms t := by simp
      rw [e4] at hn ⊢
      have q := ih t (by simp; omega) Z (62 :: r) (p + 1 + n.length + 1) d (nm ++ [n]) hw.2.2.2 (by omega) hn z2.2 (stClose _ _ (.inr (.inl rfl)))
      have z3 := (atC (atN z2.2)).1
      have nin : n ∉ nm := fun hm => by
        have := (List.nodup_append.mp (List.nodup_append.mp hn).1).2.2 n hm n List.mem_cons_self
        exact this rfl
      have u := RUnit.capture (can := True) True.intro z.1 (rd_name hw.2.2.1 z.2) hw.1 hw.2.1 nin q z3
      rw [show p + 1 + n.length + 1 + (prn t).length + 1 = p + (60 :: (n ++ 58 :: (prn t ++ [62]))).length by simp only [List.length_cons, List.length_append, List.length_nil]; omega] at u
      exact u
theorem item_of (n1 : isCh t = false) (n2 : isAl t = false) (ih : ∀ t', sizeOf t' < sizeOf t → Rd t') (hw : wf t) (ho : opn t ≤ d) (hn : (nm ++ nms t).Nodup) (h : Z.drop p = prn t ++ r) (hr : stopI r) : RItem Z (RU Z d) p nm t (p + (prn t).length) (nm ++ nms t) := by
  cases hc : isCo t with
  | false => exact .plain (unit_of n1 n2 hc ih hw ho hn h) fun c hc => hr c (by rw [← atH (atN h)]; exact hc)
  | true =>
    cases t with
    | count a b t =>
      have e1 : prn (.count a b t) = grp (isCh t || isAl t || isCo t) (prn t) ++ cntS a b := by rw [prn]
      have e2 : nms (.count a b t) = nms t := by rw [nms]
      have e3 : opn (.count a b t) = opn t + (if (isCh t || isAl t || isCo t) = true then 1 else 0) := by rw [opn]
      rw [e3] at ho
      rw [e2] at hn ⊢
      rw [e1] at h ⊢
      unfold wf at hw
      have lt : sizeOf t < sizeOf (Tr.count a b t) := by simp; omega
      have u : RU Z d p nm t (p + (grp (isCh t || isAl t || isCo t) (prn t)).length) (nm ++ nms t) := by
        cases hb : (isCh t || isAl t || isCo t) with
        | true =>
          rw [hb] at ho h
          cases d with
          | zero => simp at ho
          | succ d =>
            have z := atC (c := 40) (r := prn t ++ 41 :: (cntS a b ++ r)) (by rw [h]; simp [grp])
            exact rd_grp hw.2.2 (r := cntS a b ++ r) (by rw [h, List.append_assoc]) (ih t lt Z (41 :: (cntS a b ++ r)) (p + 1) d nm hw.2.2 (by simp at ho; omega) hn z.2 (stClose _ _ (.inl rfl)))
        | false =>
          rw [hb] at ho h
          simp only [Bool.or_eq_false_iff] at hb
          exact unit_of (r := cntS a b ++ r) hb.1.1 hb.1.2 hb.2 (fun t' l => ih t' (Nat.lt_trans l lt)) hw.2.2 (by simpa using ho) hn (by rw [h, List.append_assoc] <;> rfl)
      have q := rd_cnt (r := r) u (atN (by rw [h, List.append_assoc])) hw.1 hw.2.1
      rw [Nat.add_assoc, ← List.length_append] at q
      exact q
    | _ => cases hc
end Sf4
namespace Sf4
variable {Z r : List Nat} {p d : Nat} {nm : Nm} {t : Tr}
theorem grpR_of (ht : Rd t) (hw : wf t) (ho : opn t + 1 ≤ d) (hn : (nm ++ nms t).Nodup) (h : Z.drop p = grp true (prn t) ++ r) : RU Z d p nm t (p + (grp true (prn t)).length) (nm ++ nms t) := by
  cases d with
  | zero => omega
  | succ d =>
    have z := atC (c := 40) (r := prn t ++ 41 :: r) (by rw [h]; simp [grp])
    exact rd_grp hw h (ht Z (41 :: r) (p + 1) d nm hw (by omega) hn z.2 (stClose _ _ (.inl rfl)))
theorem itemG_of (ht : Rd t) (ih : ∀ t', sizeOf t' < sizeOf t → Rd t') (hw : wf t) (ho : opn t + (if (isCh t || isAl t) = true then 1 else 0) ≤ d) (hn : (nm ++ nms t).Nodup) (h : Z.drop p = grp (isCh t || isAl t) (prn t) ++ r) (hr : stopI r) :
    RItem Z (RU Z d) p nm t (p + (grp (isCh t || isAl t) (prn t)).length) (nm ++ nms t) := by
  cases hb : (isCh t || isAl t) with
  | true =>
    rw [hb] at ho h
    exact .plain (grpR_of ht hw (by simpa using ho) hn h) fun c hc => hr c (by rw [← atH (atN h)]; exact hc)
  | false =>
    rw [hb] at ho h
    simp only [Bool.or_eq_false_iff] at hb
    exact item_of hb.1 hb.2 ih hw (by simpa using ho) hn h hr
theorem many_ch : ∀ (l : List Tr) {p : Nat} {nm : Nm}, l ≠ [] → (∀ t ∈ l, Rd t ∧ ∀ t', sizeOf t' < sizeOf t → Rd t') → wfL l → opnCh l ≤ d → (nm ++ nmsL l).Nodup → Z.drop p = prnCh l ++ r → stopH r →
    RMany (RItem Z (RU Z d)) (starts Z) id p nm l (p + (prnCh l).length) (nm ++ nmsL l)
  | [], _, _, h, _, _, _, _, _, _ => absurd rfl h
  | [t], p, nm, _, ih, hw, ho, hn, h, hr => by
    unfold wfL at hw
    rw [opnCh, opnCh] at ho
    rw [nmsL, nmsL, List.append_nil] at hn ⊢
    rw [prnCh, prnCh, List.append_nil] at h ⊢
    obtain ⟨i1, i2⟩ := ih t List.mem_cons_self
    refine .last (itemG_of i1 i2 hw.1 (by omega) hn h hr.i) fun ⟨c, hc, hs⟩ => ?_
    rw [atH (atN h)] at hc
    exact (hr c hc).1 hs
  | t :: u :: l, p, nm, _, ih, hw, ho, hn, h, hr => by
    rw [wfL] at hw
    rw [opnCh] at ho
    rw [nmsL] at hn ⊢
    rw [prnCh] at h ⊢
    obtain ⟨i1, i2⟩ := ih t List.mem_cons_self
    have hd : ∃ c x, prnCh (u :: l) ++ r = c :: x ∧ st c := by
      have hu := hw.2
      rw [wfL] at hu
      obtain ⟨c, x, e, s⟩ := grp_head (isCh u || isAl u) (prn_head hu.1)
      exact ⟨c, x ++ prnCh l ++ r, by rw [prnCh, e] <;> rfl, s⟩
    obtain ⟨c, x, e, s⟩ := hd
    rw [List.append_assoc] at h
    have hq := atN h
    have a1 : (nm ++ nms t).Nodup := by
      rw [← List.append_assoc] at hn
      exact (List.nodup_append.mp hn).1
    have m := many_ch (u :: l) (p := p + (grp (isCh t || isAl t) (prn t)).length) (nm := nm ++ nms t) (fun z => by cases z) (fun t' ht' => ih t' (List.mem_cons_of_mem _ ht')) hw.2 (by omega) (by rw [List.append_assoc]; exact hn) hq hr
    rw [List.append_assoc, Nat.add_assoc, ← List.length_append] at m
    refine .next (itemG_of i1 i2 hw.1 (by omega) a1 h fun c' hc' => ?_) ⟨c, by rw [atH hq, e] <;> rfl, s⟩ m
    rw [e] at hc'
    obtain rfl : c = c' := Option.some.inj hc'
    exact ⟨(st_not s).1, (st_not s).2.1⟩
end Sf4
namespace Sf4
variable {Z r : List Nat} {p d : Nat} {nm : Nm} {t : Tr}
theorem noStart {q : Nat} (h : Z.drop q = r) (hr : stopH r) : ¬ starts Z q := fun ⟨c, hc, hs⟩ => by
  rw [atH h] at hc
  exact (hr c hc).1 hs
theorem noBar {q : Nat} (h : Z.drop q = r) (hr : stopC r) : ¬ Z[q]? = some 124 := fun hc => by
  rw [atH h] at hc
  rcases hr _ hc with z | z | z <;> cases z
theorem chain_of (n2 : isAl t = false) (ih : ∀ t', sizeOf t' < sizeOf t → Rd t') (hw : wf t) (ho : opn t ≤ d) (hn : (nm ++ nms t).Nodup) (h : Z.drop p = prn t ++ r) (hr : stopH r) : RChain Z (RItem Z (RU Z d)) p nm t (p + (prn t).length) (nm ++ nms t) := by
  cases hc : isCh t with
  | false => exact ⟨[t], .last (item_of hc n2 ih hw ho hn h hr.i) (noStart (atN h) hr), .inl ⟨t, rfl, rfl⟩⟩
  | true =>
    cases t with
    | chain l =>
      rw [opn] at ho
      rw [nms] at hn ⊢
      rw [prn] at h ⊢
      unfold wf at hw
      have lt : ∀ t ∈ l, sizeOf t < sizeOf (Tr.chain l) := fun t ht => by
        have z := List.sizeOf_lt_of_mem ht
        simp
        omega
      refine ⟨l, many_ch l (fun z => by rw [z] at hw; exact absurd hw.1 (by decide)) (fun t ht => ⟨ih t (lt t ht), fun t' l' => ih t' (Nat.lt_trans l' (lt t ht))⟩) hw.2 ho hn h hr, .inr ⟨hw.1, rfl⟩⟩
    | _ => cases hc
theorem chainG_of (ht : Rd t) (ih : ∀ t', sizeOf t' < sizeOf t → Rd t') (hw : wf t) (ho : opn t + (if isAl t = true then 1 else 0) ≤ d) (hn : (nm ++ nms t).Nodup) (h : Z.drop p = grp (isAl t) (prn t) ++ r) (hr : stopH r) :
    RChain Z (RItem Z (RU Z d)) p nm t (p + (grp (isAl t) (prn t)).length) (nm ++ nms t) := by
  cases hb : isAl t with
  | true =>
    rw [hb] at ho h
    exact ⟨[t], .last (.plain (grpR_of ht hw (by simpa using ho) hn h) fun c hc => hr.i c (by rw [← atH (atN h)]; exact hc)) (noStart (atN h) hr), .inl ⟨t, rfl, rfl⟩⟩
  | false =>
    rw [hb] at ho h
    exact chain_of hb ih hw (by simpa using ho) hn h hr
theorem many_al : ∀ (l : List Tr) (t : Tr) {p : Nat} {nm : Nm}, (∀ x ∈ t :: l, Rd x ∧ ∀ t', sizeOf t' < sizeOf x → Rd t') → wfL (t :: l) → opnAl (t :: l) ≤ d → (nm ++ nmsL (t :: l)).Nodup → Z.drop p = (grp (isAl t) (prn t) ++ prnMo l) ++ r → stopC r →
    RMany (RChain Z (RItem Z (RU Z d))) (fun q => Z[q]? = some 124) (· + 1) p nm (t :: l) (p + (grp (isAl t) (prn t) ++ prnMo l).length) (nm ++ nmsL (t :: l))
  | [], t, p, nm, ih, hw, ho, hn, h, hr => by
    rw [wfL] at hw
    rw [opnAl, opnAl] at ho
    rw [nmsL, nmsL, List.append_nil] at hn ⊢
    rw [prnMo, List.append_nil] at h ⊢
    obtain ⟨i1, i2⟩ := ih t List.mem_cons_self
    exact .last (chainG_of i1 i2 hw.1 (by omega) hn h hr.h) (noBar (atN h) hr)
  | u :: l, t, p, nm, ih, hw, ho, hn, h, hr => by
    rw [wfL] at hw
    rw [opnAl] at ho
    rw [nmsL] at hn ⊢
    rw [prnMo] at h ⊢
    obtain ⟨i1, i2⟩ := ih t List.mem_cons_self
    rw [List.append_assoc] at h
    have hq := atN h
    have z := atC (c := 124) (r := (grp (isAl u) (prn u) ++ prnMo l) ++ r) hq
    have a1 : (nm ++ nms t).Nodup := by
      rw [← List.append_assoc] at hn
      exact (List.nodup_append.mp hn).1
    have m := many_al l u (p := p + (grp (isAl t) (prn t)).length + 1) (nm := nm ++ nms t) (fun x hx => ih x (List.mem_cons_of_mem _ hx)) hw.2 (by omega) (by rw [List.append_assoc]; exact hn) z.2 hr
    rw [List.append_assoc, show p + (grp (isAl t) (prn t)).length + 1 + (grp (isAl u) (prn u) ++ prnMo l).length = p + (grp (isAl t) (prn t) ++ 124 :: (grp (isAl u) (prn u) ++ prnMo l)).length by simp only [List.length_cons, List.length_append]; omega] at m
    exact .next (chainG_of i1 i2 hw.1 (by omega) a1 h (stopBar _)) z.1 m
theorem rd_step (t : Tr) (ih : ∀ t', sizeOf t' < sizeOf t → Rd t') : Rd t := fun Z r p d nm hw ho hn h hr => by
  rw [RC_eq]
  cases hb : isAl t with
  | false => exact ⟨[t], .last (chain_of hb ih hw ho hn h hr.h) (noBar (atN h) hr), .inl ⟨t, rfl, rfl⟩⟩
  | true =>
    cases t with
    | choice l =>
      rw [opn] at ho
      rw [nms] at hn ⊢
      rw [prn] at h ⊢
      unfold wf at hw
      have lt : ∀ t ∈ l, sizeOf t < sizeOf (Tr.choice l) := fun t ht => by
        have z := List.sizeOf_lt_of_mem ht
        simp
        omega
      cases l with
      | nil => exact absurd hw.1 (by decide)
      | cons x l =>
        rw [prnAl] at h ⊢
        exact ⟨x :: l, many_al l x (fun t ht => ⟨ih t (lt t ht), fun t' l' => ih t' (Nat.lt_trans l' (lt t ht))⟩) hw.2 ho hn h hr, .inr ⟨hw.1, rfl⟩⟩
    | _ => cases hb
/-- each string of a tree is read back -/
theorem rd_all (t : Tr) : Rd t := rd_step t fun t' _ => rd_all t'
termination_by sizeOf t
end Sf4
namespace Sf4
theorem st_94 {c : Nat} (h : st c) : c ≠ 94 := by
  rcases h with h | rfl | rfl | rfl | rfl
  · exact (let_not c h).2.2.2.2.2.2.2.1
  all_goals decide
def wstr (l : Bool) (t : Tr) (r : Bool) : List Nat := (if l then [94] else []) ++ (prn t ++ (if r then [36] else []))
theorem rd_whole (l r : Bool) {t : Tr} (hw : wf t) (ho : opn t ≤ 8) (hn : (nms t).Nodup) : RWhole (wstr l t r) l t r (nms t) := by
  have hs : stopC (if r then [36] else []) := fun c hc => by
    cases r with
    | true =>
      obtain rfl : 36 = c := Option.some.inj hc
      exact .inr (.inr rfl)
    | false => cases hc
  have hd : (wstr l t r).drop (if l then 1 else 0) = prn t ++ (if r then [36] else []) := by
    cases l <;> rfl
  have q := rd_all t (wstr l t r) (if r then [36] else []) (if l then 1 else 0) 8 [] hw ho (by rw [List.nil_append]; exact hn) hd hs
  rw [List.nil_append] at q
  refine ⟨_, ?_, fun e => ?_, q, ?_⟩
  · cases l <;> rfl
  · subst e
    obtain ⟨c, x, e, s⟩ := prn_head hw
    rw [wstr, e]
    exact fun z => st_94 s (Option.some.inj z)
  · cases r with
    | true =>
      refine ⟨by rw [atH (atN hd)] <;> rfl, ?_⟩
      cases l <;> simp [wstr] <;> omega
    | false =>
      show _ = _
      cases l <;> simp [wstr] <;> omega
end Sf4
/-! Sets of texts: set(list or tuple of texts), sorted of such a set, at any size below the scan's. -/
namespace Sf
open PySem PySem.Spec PyProof.Rows L2 PySem.Froz
/-- the members behind one more text -/
def insT (l : List Str) (x : Str) : List Str := if x ∈ l then l else x :: l
theorem insT_nodup {l : List Str} {x : Str} (h : l.Nodup) : (insT l x).Nodup := by
  unfold insT
  split
  · exact h
  · rename_i hx
    exact List.nodup_cons.mpr ⟨hx, h⟩
theorem insT_mem {l : List Str} {x y : Str} : y ∈ insT l x ↔ y ∈ l ∨ y = x := by
  unfold insT
  split
  · rename_i hx
    exact ⟨.inl, fun z => z.elim id fun e => e ▸ hx⟩
  · rw [List.mem_cons]
    exact Or.comm
theorem insT_len {l : List Str} {x : Str} : (insT l x).length ≤ l.length + 1 := by
  unfold insT
  split
  · omega
  · exact Nat.le_refl _
def toSet (xs : List Str) : List Str := xs.foldl insT []
theorem fold_mem (y : Str) : ∀ (xs l : List Str), y ∈ xs.foldl insT l ↔ y ∈ l ∨ y ∈ xs
  | [], l => by simp
  | x :: r, l => by
    rw [List.foldl_cons, fold_mem y r, insT_mem, List.mem_cons]
    constructor
    · rintro ((h | h) | h)
      · exact .inl h
      · exact .inr (.inl h)
      · exact .inr (.inr h)
    · rintro (h | h | h)
      · exact .inl (.inl h)
      · exact .inl (.inr h)
      · exact .inr h
theorem toSet_mem {y : Str} {xs : List Str} : y ∈ toSet xs ↔ y ∈ xs := by
  unfold toSet
  rw [fold_mem]
  simp
theorem toSet_snoc (xs : List Str) (x : Str) : toSet (xs ++ [x]) = insT (toSet xs) x := by
  unfold toSet
  rw [List.foldl_append] <;> rfl
section
variable {P : Program} {w : World} {A : Around} {E : Value → Shared → Prop} {s : Shared}
theorem addTx_ris {h : Int} {v : Value} {D : SD} (r : Ris D.2.2.place.toList) : Ris (addTx h v D).2.2.place.toList ∧ (addTx h v D).2.2.led = D.2.2.led := by
  have r1 := layNew_ris D.2.2 D.1 h v r
  have l1 := layNew_led D.2.2 D.1 h v
  unfold addTx tailTx
  generalize layNew D.2.2 D.1 h v = L at r1 l1
  have hp : (if L.2.1.plain = true then { L.2.1 with plain := false } else L.2.1).place = L.2.1.place := by split <;> rfl
  have hl : (if L.2.1.plain = true then { L.2.1 with plain := false } else L.2.1).led = L.2.1.led := by split <;> rfl
  generalize (if L.2.1.plain = true then { L.2.1 with plain := false } else L.2.1) = t2 at hp hl
  split
  · exact ⟨relayAll_ris _ _ _, (relayAll_led _ _ _).trans (hl.trans l1)⟩
  · exact ⟨by show Ris t2.place.toList; rw [hp]; exact r1, hl.trans l1⟩
/-- at a stands a set of just the texts l, each once, which can be walked -/
def TxSet (P : Program) (w : World) (h : Heap) (a : Addr) (l : List Str) : Prop :=
  ∃ D : SD, h.get? a = some (sObj "set" D) ∧ TxOk P w D l ∧ l.Nodup ∧ Ris D.2.2.place.toList ∧ (w.params.followText "set-order" = true ∨ D.2.2.led = true)
theorem TxSet.at {h h' : Heap} {a : Addr} {l : List Str} (R : TxSet P w h a l) (k : ∀ o, h.get? a = some o → h'.get? a = some o) : TxSet P w h' a l := by
  obtain ⟨D, e, r⟩ := R
  exact ⟨D, k _ e, r⟩
theorem TxSet.new {h : Heap} {a : Addr} (e : h.get? a = some { cls := .type "set", dict := none, data := .set #[] 0 (.fresh 0 0 (!w.params.followText "set-order")) }) : TxSet P w h a [] := by
  refine ⟨(#[], 0, .fresh 0 0 (!w.params.followText "set-order")), e, TxOk.nil (by rfl), List.nodup_nil, List.Pairwise.nil, ?_⟩
  show _ ∨ (!w.params.followText "set-order") = true
  cases w.params.followText "set-order"
  · exact .inr rfl
  · exact .inl rfl
/-- a text that is in is not laid again -/
theorem add_held {a : Addr} {D : SD} {l : List Str} {k : Str} {u : Tok} {Q : Bool → Shared → Prop} (ho : s.heap.get? a = some (sObj "set" D)) (F : TxOk P w D l) (hk : k ∈ l) (hb : l.length < scanBound)
    (h : ∀ b, Q b s) : wpAny (model P w) A (setAddHashed a (.str k u) (hashStr w k)) Q E s := by
  obtain ⟨es, ep, t⟩ := D
  have sz : es.size < scanBound := by
    have e : es.size = l.length := F.sz
    omega
  obtain ⟨e, he, hi⟩ := (F.mem k).mp hk
  cases hf : List.findIdx? (fun e => (strKind P w).is k e.2) es.toList with
  | none =>
    have c := List.findIdx?_eq_none_iff.mp hf e he
    rw [hi] at c
    cases c
  | some j =>
    unfold setAddHashed setAddHashedIn
    refine wpAny_holding (wpAny_bind (wpAny_setState_of ho rfl F.fit ?_))
    dsimp only
    rw [byScan_of rfl sz F.el]
    simp only [↓reduceIte]
    unfold setAddByScan
    refine wpAny_bind (wpAny_bind (wpAny_rule (wpAny_bind (wpAny_setScan_of (knd := strKind P w) (k := k) (is_str k u) ho rfl F.fit F.el ?_))))
    rw [hf]
    exact wpAny_pure (wpAny_pure (h _))
/-- the set's add of any text -/
theorem add_any {a : Addr} {l : List Str} {k : Str} {u : Tok} {Q : Bool → Shared → Prop} (R : TxSet P w s.heap a l) (hb : l.length + 1 < scanBound)
    (h : ∀ b h', (∀ c o, c ≠ a → s.heap.get? c = some o → h'.get? c = some o) → TxSet P w h' a (insT l k) → Q b { s with heap := h', toks := s.toks + 1 }) :
    wpAny (model P w) A (setAdd a (.str k u)) Q E s := by
  obtain ⟨D, ho, F, nd, r, led⟩ := R
  unfold setAdd
  refine wpAny_holding (wpAny_bind ((strKind P w).pyHash (is_str k u) ?_))
  by_cases hk : k ∈ l
  · refine add_held (s := { s with toks := s.toks + 1 }) ho F hk (by omega) fun b => h b s.heap (fun _ _ _ e => e) ?_
    unfold insT
    rw [if_pos hk]
    exact ⟨D, ho, F, nd, r, led⟩
  · refine add_x (s := { s with toks := s.toks + 1 }) ho F hk hb (h true _ (fun c o ne e => (Heap.get?_update_other _ _ ne.symm).trans e) ?_)
    obtain ⟨r2, l2⟩ := addTx_ris (h := hashStr w k) (v := Value.str k u) r
    unfold insT
    rw [if_neg hk]
    exact ⟨_, get_upd _ ho rfl, add_ok u F, List.nodup_cons.mpr ⟨hk, nd⟩, r2, led.imp id fun z => l2.trans z⟩
/-- set.update's turns over a walk of texts -/
theorem upd_texts {I : Addr} {fp wr : List Addr} {xs : List Str} {Pv : Nat → Value → Prop} {St : Nat → Heap → Prop} {R : Result → Shared → Prop} (W : Walks P w A.in1 I fp wr xs.length Pv St) (a : Addr) (na : a ∉ fp)
    (hv : ∀ i v, Pv i v → ∃ x t, xs[i]? = some x ∧ v = .str x t) (hx : xs.length + 1 < scanBound) :
    ∀ (m i : Nat) (s : Shared), i + m = xs.length → St i s.heap → TxSet P w s.heap a (toSet (xs.take i)) →
      (∀ h' tk, (∀ b o, b ≠ a → b ∉ wr → s.heap.get? b = some o → h'.get? b = some o) → TxSet P w h' a (toSet xs) → R (.ok (.ret .none)) { s with heap := h', toks := tk }) →
      codeAny (model P w) A (.builtin "set.update.loop" ⟨[.ref a, .ref I], []⟩) R s := by
  have nw : a ∉ wr := fun z => na (W.sub _ z)
  intro m
  induction m with
  | zero =>
    intro i s e st T k
    have ei : i = xs.length := by omega
    subst ei
    rw [List.take_length] at T
    refine codeAny_builtin F.entry_set_update_loop ?_
    rw [Around.under_plainId F.plain_set_update_loop _]
    refine wpAny_bind (W.done s _ _ st fun h' tk kk => ?_)
    exact wpAny_pure (k h' tk (fun b o _ hb e => kk b o hb e) (T.at fun o e => kk a o nw e))
  | succ m ih =>
    intro i s e st T k
    have hi : i < xs.length := by omega
    refine codeAny_builtin F.entry_set_update_loop ?_
    rw [Around.under_plainId F.plain_set_update_loop _]
    refine wpAny_bind (W.item i s _ _ hi st fun v h1 tk1 hp st1 k1 => ?_)
    obtain ⟨x, t, hxi, rfl⟩ := hv i v hp
    have hlen : ∀ l : List Str, (toSet l).length ≤ l.length := fun l => by
      have q : ∀ (l acc : List Str), (l.foldl insT acc).length ≤ acc.length + l.length := by
        intro l
        induction l with
        | nil => intro acc; exact Nat.le_refl _
        | cons y r ih2 =>
          intro acc
          have b1 := ih2 (insT acc y)
          have b2 := insT_len (l := acc) (x := y)
          rw [List.foldl_cons, List.length_cons]
          omega
      have q2 := q l []
      rw [List.length_nil] at q2
      unfold toSet
      omega
    refine wpAny_bind (m := holding [Value.str x t] (setAdd a (.str x t))) (wpAny_holding (add_any (s := { s with heap := h1, toks := tk1 }) (T.at fun o e => k1 a o nw e) (by
      have b1 := hlen (xs.take i)
      rw [List.length_take] at b1
      omega) fun b h2 k2 T2 => ?_))
    refine wpAny_pure ⟨plainId_quiet F.plain_set_update_loop _, ih (i + 1) _ (by omega) (W.frame _ _ _ st1 fun b hb o e => k2 b o (fun z => na (z ▸ hb)) e) ?_ fun h3 tk3 k3 T3 => k h3 tk3 (fun b o nb hb e => k3 b o nb hb (k2 b o nb (k1 b o hb e))) T3⟩
    rw [List.take_add_one, hxi]
    show TxSet P w h2 a (toSet (xs.take i ++ [x]))
    rw [toSet_snoc]
    exact T2
/-- what is walked: a list or a tuple of texts -/
def SeqAt2 (s : Shared) (l : Addr) (xs : List Str) : Prop := ∃ items : Array Value, StrsAre items.toList xs ∧ (s.heap.IsList l items ∨ s.heap.IsTuple l items)
theorem strs_get : ∀ {us : List Value} {xs : List Str} {i : Nat} {v : Value}, StrsAre us xs → us[i]? = some v → ∃ x t, xs[i]? = some x ∧ v = .str x t
  | _, _, _, _, .nil, h => by simp at h
  | _, _, 0, _, .cons n t _, h => by
    rw [List.getElem?_cons_zero] at h
    exact ⟨n, t, rfl, (Option.some.inj h).symm⟩
  | _, _, i + 1, _, .cons n t r, h => by
    rw [List.getElem?_cons_succ] at h
    exact strs_get (i := i) r h
set_option maxHeartbeats 4000000 in
theorem call_setT {l : Addr} {xs : List Str} {Q : Value → Shared → Prop} (hh : A.handled = none) (hl : SeqAt2 s l xs) (hx : xs.length + 1 < scanBound)
    (h : ∀ (h' : Heap) (tk : Nat), (∀ b o, s.heap.get? b = some o → h'.get? b = some o) → TxSet P w h' s.heap.objs.size (toSet xs) → Q (.ref s.heap.objs.size) { s with heap := h', toks := tk }) :
    wpAny (model P w) A (call (.type "set") [.ref l]) Q E s := by
  obtain ⟨c, tl, hmro⟩ := PySem.F.called_set.mro
  have q1 := PySem.F.called_set.made
  have q2 := PySem.F.called_set.sub
  have q3 := PySem.F.called_set.notType
  have q4 := PySem.F.called_set.canCreate
  have q5 := PySem.F.typeCall_set_1 (.ref l)
  refine wpAny_call (codeAny_of_tree (wpAny_pure ⟨Code.quiet_builtin _ (by decide +kernel), codeAny_builtin PySem.F.entry_type_call ?_⟩))
  rw [Around.under_plain (weight_type_call_type "set" [.ref l] []) rfl]
  repeat (any_goals (first | assumption | wp_step))
  generalize hO : ({ cls := .type "set", dict := none, data := .set #[] 0 (.fresh 0 0 (!w.params.followText "set-order")) } : Obj) = O
  have hS : (s.heap.push O).get? s.heap.objs.size = some O := Heap.get?_push_size _ (by rw [← hO]; rfl)
  have hT : Shared.TypeIs { s with heap := s.heap.push O } (.ref s.heap.objs.size) "set" := ⟨_, hS, by rw [← hO]⟩
  refine codeAny_mono (code_set_led1 (.ref l) (E := E) (Q₁ := fun obj s₁ => obj = .ref s.heap.objs.size ∧ s₁ = { s with heap := s.heap.push O }) ⟨rfl, by rw [hO]⟩) fun r s₁ hr => ?_
  cases r with
  | error e => exact hr
  | ok fl =>
    cases fl with
    | ret obj =>
      obtain ⟨rfl, rfl⟩ := hr
      have q6 := PySem.F.called_set.init.lookup
      have q7 := PySem.F.called_set.init.bind (.ref s.heap.objs.size)
      repeat (any_goals (first | assumption | wp_step))
      refine codeAny_mono (codeAny_call_builtin (R := wants (fun r s₂ => r = .none ∧ ∃ h' tk, s₂ = { s with heap := h', toks := tk } ∧ (∀ b o, s.heap.get? b = some o → h'.get? b = some o) ∧ TxSet P w h' s.heap.objs.size (toSet xs)) E)
        PySem.F.called_set.init.plain PySem.F.entry_set_init (check_set_init_1 hT ?_)) fun r₂ s₂ hr₂ => ?_
      · have hneI : ∀ {b : Addr} {o : Obj}, s.heap.get? b = some o → b ≠ (s.heap.push O).objs.size := fun e => by
          rw [Heap.size_push]
          exact Nat.ne_of_lt (Nat.lt_succ_of_lt (Heap.lt_size e))
        have hh3 : A.in1.in1.in1.handled = none := by simp [hh]
        have fin : ∀ (h' : Heap) (tk : Nat), (∀ b o, b ≠ s.heap.objs.size → b ∉ [(s.heap.push O).objs.size] → ((s.heap.push O)).get? b = some o → h'.get? b = some o) → ∀ b o, s.heap.get? b = some o → h'.get? b = some o := fun h' tk k b o e =>
          k b o (Nat.ne_of_lt (Heap.lt_size e)) (fun z => hneI e (List.mem_singleton.mp z)) (Heap.get?_push_of_some _ e)
        obtain ⟨items, hi, hli⟩ := hl
        have hsz : items.size = xs.length := by rw [← StrsAre.length hi, Array.length_toList]
        have hv : ∀ (i : Nat) (v : Value), items[i]? = some v → ∃ x t, xs[i]? = some x ∧ v = .str x t := fun i v e => strs_get hi (by rw [Array.getElem?_toList]; exact e)
        rcases hli with hli | hli
        · obtain ⟨ol, hol, hcl, nl, hdl⟩ := id hli
          obtain ⟨ocls, odict, odata, oslots⟩ := ol
          simp only at hcl hdl
          subst hcl; subst hdl
          have hol' : (s.heap.push O).get? l = some { cls := .type "list", dict := odict, data := .seq items nl, slots := oslots } := Heap.get?_push_of_some _ hol
          have q8 := PySem.F.sub_list_set
          have q9 := PySem.F.sub_list_frozenset
          have q10 : (Value.type "list" == Value.type "dict") = false := by decide
          have hl1 : (s.heap.push O).IsList l items := ⟨_, hol', rfl, nl, rfl⟩
          have nf : s.heap.objs.size ∉ [(s.heap.push O).objs.size, l] := by
            rw [Heap.size_push, List.mem_cons, List.mem_singleton, not_or]
            exact ⟨Nat.ne_of_lt (Nat.lt_succ_self _), Nat.ne_of_gt (Heap.lt_size hol)⟩
          have W := Walks.list (prog := P) (w := w) hh3 (s.heap.push O).objs.size l (hneI hol) items
          rw [hsz] at W
          subst hO
          unfold Builtin.«set.__init__» noKeywords Builtin.Frozenset.updateFrom
          generalize hPI : pyIter = PI
          wp_walk
          subst hPI
          refine wpAny_pyIter_list hl1 ?_
          refine wpAny_bind (wpAny_runValue ?_)
          refine upd_texts W s.heap.objs.size nf hv hx xs.length 0 _ (Nat.zero_add _) ⟨⟨_, Heap.get?_push_size _ rfl, rfl, rfl⟩, hl1.push _⟩ (TxSet.new (Heap.get?_push_of_some _ hS)) fun h' tk k T => ?_
          exact wpAny_pure (wpAny_pure ⟨rfl, h', tk, rfl, fin h' tk fun b o n1 n2 e => k b o n1 n2 (Heap.get?_push_of_some _ e), T⟩)
        · obtain ⟨ol, hol, hcl, nl, hdl⟩ := id hli
          obtain ⟨ocls, odict, odata, oslots⟩ := ol
          simp only at hcl hdl
          subst hcl; subst hdl
          have hol' : (s.heap.push O).get? l = some { cls := .type "tuple", dict := odict, data := .seq items nl, slots := oslots } := Heap.get?_push_of_some _ hol
          have q8 := PySem.F.sub_tuple_set
          have q9 := PySem.F.sub_tuple_frozenset
          have q10 : (Value.type "tuple" == Value.type "dict") = false := by decide
          have hl1 : (s.heap.push O).IsTuple l items := ⟨_, hol', rfl, nl, rfl⟩
          have nf : s.heap.objs.size ∉ [(s.heap.push O).objs.size, l] := by
            rw [Heap.size_push, List.mem_cons, List.mem_singleton, not_or]
            exact ⟨Nat.ne_of_lt (Nat.lt_succ_self _), Nat.ne_of_gt (Heap.lt_size hol)⟩
          have W := Walks.tuple (prog := P) (w := w) hh3 (s.heap.push O).objs.size l (hneI hol) items
          rw [hsz] at W
          subst hO
          unfold Builtin.«set.__init__» noKeywords Builtin.Frozenset.updateFrom
          generalize hPI : pyIter = PI
          wp_walk
          subst hPI
          refine wpAny_pyIter_tuple hl1 ?_
          refine wpAny_bind (wpAny_runValue ?_)
          refine upd_texts W s.heap.objs.size nf hv hx xs.length 0 _ (Nat.zero_add _) ⟨⟨_, Heap.get?_push_size _ rfl, rfl, rfl⟩, hl1.push _⟩ (TxSet.new (Heap.get?_push_of_some _ hS)) fun h' tk k T => ?_
          exact wpAny_pure (wpAny_pure ⟨rfl, h', tk, rfl, fin h' tk fun b o n1 n2 e => k b o n1 n2 (Heap.get?_push_of_some _ e), T⟩)
      · cases r₂ with
        | error e => exact hr₂
        | ok fl₂ =>
          cases fl₂ with
          | ret r =>
            obtain ⟨rfl, h', tk, rfl, k, T⟩ := hr₂
            repeat (any_goals (first | assumption | wp_step))
            exact h _ _ k T
          | _ => exact hr₂.elim
    | _ => exact hr.elim
end
end Sf
namespace Sf
open PySem PySem.Spec PyProof.Rows L2 PySem.Froz
section
variable {P : Program} {w : World} {A : Around} {E : Value → Shared → Prop} {s : Shared}
/-- the texts of the entries -/
theorem rows_strs : ∀ (l : List (Int × Value)), (∀ e ∈ l, ∃ x t, e.2 = Value.str x t) → ∃ xs, StrsAre (l.map (·.2)) xs
  | [], _ => ⟨[], .nil⟩
  | e :: l, h => by
    obtain ⟨x, t, ex⟩ := h e List.mem_cons_self
    obtain ⟨xs, r⟩ := rows_strs l fun u hu => h u (List.mem_cons_of_mem _ hu)
    refine ⟨x :: xs, ?_⟩
    rw [List.map_cons, ex]
    exact .cons x t r
theorem strs_mem : ∀ {us : List Value} {xs : List Str}, StrsAre us xs → ∀ k : Str, k ∈ xs ↔ ∃ v ∈ us, (Value.isStrOf k v) = true
  | _, _, .nil, k => by simp
  | _, _, .cons n t r, k => by
    rw [List.mem_cons, strs_mem r k]
    constructor
    · rintro (h | ⟨v, hv, e⟩)
      · exact ⟨.str n t, List.mem_cons_self, by rw [h]; simp [Value.isStrOf]⟩
      · exact ⟨v, List.mem_cons_of_mem _ hv, e⟩
    · rintro ⟨v, hv, e⟩
      rcases List.mem_cons.mp hv with rfl | hv
      · left
        obtain ⟨t', e'⟩ := Value.isStrOf_shape e
        injection e' with e1 _
        exact e1.symm
      · exact .inr ⟨v, hv, e⟩
theorem strs_perm {us vs : List Value} (p : us.Perm vs) : ∀ {xs : List Str}, StrsAre vs xs → ∃ ys, StrsAre us ys ∧ ys.Perm xs := by
  induction p with
  | nil => intro xs h; exact ⟨xs, h, .refl _⟩
  | cons v p ih =>
    intro xs h
    cases h with
    | cons n t r =>
      obtain ⟨ys, h1, h2⟩ := ih r
      exact ⟨n :: ys, .cons n t h1, h2.cons n⟩
  | swap u v l =>
    intro xs h
    cases h with
    | cons n t r =>
      cases r with
      | cons m t2 r2 => exact ⟨m :: n :: _, .cons m t2 (.cons n t r2), .swap _ _ _⟩
  | trans p q ih1 ih2 =>
    intro xs h
    obtain ⟨ys, h1, h2⟩ := ih2 h
    obtain ⟨zs, h3, h4⟩ := ih1 h1
    exact ⟨zs, h3, h4.trans h2⟩
theorem perm_of_sub : ∀ (l m : List Str), l.Nodup → (∀ x ∈ l, x ∈ m) → m.length ≤ l.length → l.Perm m
  | [], m, _, _, h => by
    have e : m = [] := List.eq_nil_of_length_eq_zero (Nat.le_zero.mp h)
    rw [e]
  | x :: l, m, nd, sub, h => by
    obtain ⟨m1, m2, rfl⟩ := List.append_of_mem (sub x List.mem_cons_self)
    obtain ⟨n1, n2⟩ := List.nodup_cons.mp nd
    have p : l.Perm (m1 ++ m2) := perm_of_sub l (m1 ++ m2) n2 (fun y hy => by
      have q := sub y (List.mem_cons_of_mem _ hy)
      rw [List.mem_append, List.mem_cons] at q
      rw [List.mem_append]
      rcases q with q | q | q
      · exact .inl q
      · exact absurd (q ▸ hy) n1
      · exact .inr q) (by
      rw [List.length_append, List.length_cons, List.length_cons] at h
      rw [List.length_append]
      omega)
    exact (p.cons x).trans List.perm_middle.symm
set_option maxHeartbeats 2000000 in
theorem sorted_txset {a : Addr} {l : List Str} {Q : Value → Shared → Prop} (R : TxSet P w s.heap a l) (hh : A.handled = none) (hb : l.length < scanBound)
    (h : ∀ s' p (out : Array Value) (c : Nat) (ys : List Str), (∀ b o, s.heap.get? b = some o → s'.heap.get? b = some o) → s'.gens = s.gens → s'.os = s.os → s.heap.objs.size ≤ p →
      s'.heap.get? p = some (seqObj "list" out c) → StrsAre out.toList ys → sortedS ys = true → ys.Perm l → Q (.ref p) s') :
    wpAny (model P w) A (call (.builtin "sorted") [.ref a]) Q E s := by
  obtain ⟨⟨es, ep, t⟩, ho, F, nd, r, led⟩ := R
  have hsz : es.size = l.length := F.sz
  have hes : es.size < scanBound := by omega
  refine Calls.call_function_entry kind_sorted plain_sorted entry_sorted (args_sorted1 _) ?_
  unfold Builtin.«sorted»
  refine wpAny_bind (m := checkCount "sorted" 1 1 _) (wpAny_pure (wpAny_bind (collect_set (A := A.in1) hh ⟨_, ho, rfl, rfl⟩ F.fit hes r led fun s1 vs k1 hz g1 o1 pm0 => ?_)))
  have pm : vs.Perm (es.toList.map (·.2)) := pm0
  have hel : ∀ e ∈ es.toList, ∃ x t, e.2 = Value.str x t := fun e he => by
    obtain ⟨⟨k, hk, _⟩, _⟩ := F.el e he
    obtain ⟨t', e'⟩ := Value.isStrOf_shape (x := k) (v := e.2) hk
    exact ⟨k, t', e'⟩
  obtain ⟨xs0, hx0⟩ := rows_strs es.toList hel
  obtain ⟨xs, hxs, pxs⟩ := strs_perm pm hx0
  have len0 : xs0.length = l.length := by rw [← StrsAre.length hx0, List.length_map, Array.length_toList, hsz]
  have pl : xs0.Perm l := by
    have mem : ∀ k, k ∈ xs0 ↔ k ∈ l := fun k => by
      rw [strs_mem hx0 k]
      refine Iff.trans ?_ (F.mem k).symm
      constructor
      · rintro ⟨v, hv, e⟩
        obtain ⟨en, he, rfl⟩ := List.mem_map.mp hv
        exact ⟨en, he, e⟩
      · rintro ⟨en, he, e⟩
        exact ⟨en.2, List.mem_map.mpr ⟨en, he, rfl⟩, e⟩
    exact (perm_of_sub l xs0 nd (fun k hk => (mem k).mpr hk) (Nat.le_of_eq len0)).symm
  have vlen : vs.length ≤ sizeLine := by
    have q := pm.length_eq
    rw [List.length_map, Array.length_toList] at q
    exact Nat.le_trans (Nat.le_of_eq q) (fits_of_scanBound hes)
  refine wpAny_bind (wpAny_newList ?_ vlen)
  have hoL : (s1.heap.push (seqObj "list" vs.toArray 0)).get? s1.heap.objs.size = some (seqObj "list" vs.toArray 0) := Heap.get?_push_size _ rfl
  refine wpAny_bind (wpAny_holding (wpAny_call_entry slot_list_sort ⟨_, hoL, rfl⟩ entry_list_sort (list_sort_treeKAny strKind_oneLt hoL hxs.keysOf (fun v₁ v₂ rest e => keyKind_strs (by rw [← e]; exact hxs)) vlen fun st' a1 a2 => ⟨_, rfl, ?_⟩) (args_list_sort _)))
  obtain ⟨ys, y1, y2, y3⟩ := sorted_out_str hxs a1 a2
  obtain ⟨c, hc⟩ := sortedHeap_at (vs := vs) (out := (arrOf st').map (·.2)) hoL
  refine wpAny_pure ⟨_, rfl, h _ s1.heap.objs.size _ c ys (fun b u e => ?_) g1 o1 hz hc y1 y3 (y2.trans (pxs.trans pl))⟩
  have q := k1 b u e
  have hlt := Heap.lt_size q
  refine Eq.trans (sortedHeap_old (Nat.ne_of_lt hlt) ?_) (Heap.get?_push_of_some _ q)
  rw [size_push']
  exact Nat.lt_succ_of_lt hlt
end
section
variable {X : Cx}
/-- a set of the texts l at a -/
def SetTx (P : Program) (w : World) (a : Addr) (l : List Str) : HO := .ext fun h => TxSet P w h a l
theorem setTx_ok {P : Program} {w : World} {H : Hp} {h : Heap} {a : Addr} {l : List Str} (R : TxSet P w h a l) : ObjOk P w H h a (SetTx P w a l) := by
  have ⟨D, e, _⟩ := R
  exact ⟨R, ⟨_, e⟩, fun h1 h2 p k => TxSet.at p k⟩
/-- set(texts) -/
def rSetTx (K : PySem.W.Frag) (P : Program) (w : World) : List V → Hp → VK → Prop := fun vs H Q => ∃ (a : Addr) (xs : List Str), vs = [.ref a] ∧ (SqL K H a (xs.map V.str) ∨ SqT K H a (xs.map V.str)) ∧ xs.length + 1 < scanBound ∧
  ∀ p, H p = none → Q (.ref p) (upd H p (SetTx P w p (toSet xs)))
theorem cr_setTx (hc : X.calm = true) : CallR X (.type "set") (rSetTx X.K X.prog X.w) := by
  intro pins s σ H vs us Q I r h
  obtain ⟨a, xs, rfl, hs, hx, q⟩ := h
  rw [Vals.ref1 r]
  have hl : SeqAt2 s a xs := by
    rcases hs with hs | hs
    · obtain ⟨its, rv, pl, _⟩ := I.list hs
      exact ⟨its.toArray, rv.strs, .inl pl.isList⟩
    · obtain ⟨its, rv, pl, _⟩ := I.tuple hs
      obtain ⟨o, e1, e2, e3⟩ := pl
      exact ⟨its.toArray, rv.strs, .inr ⟨o, e1, e2, e3⟩⟩
  refine call_setT (I.ok.hd hc) hl hx fun h' tk k T => ?_
  exact ⟨.ref _, upd H s.heap.objs.size (SetTx X.prog X.w s.heap.objs.size (toSet xs)), I.laid (t' := tk) k (Nat.le_refl _) (setTx_ok T), rfl, q _ (I.hok.fresh (Nat.le_refl _))⟩
/-- sorted(set of texts) -/
def rSortedTx (P : Program) (w : World) : List V → Hp → VK → Prop := fun vs H Q => ∃ (a : Addr) (l : List Str), vs = [.ref a] ∧ H a = some (SetTx P w a l) ∧ l.length < scanBound ∧
  ∀ (ys : List Str) p, sortedS ys = true → ys.Perm l → H p = none → Q (.ref p) (upd H p (.lst (ys.map V.str)))
theorem cr_sortedTx (hc : X.calm = true) : CallR X (.builtin "sorted") (rSortedTx X.prog X.w) := by
  intro pins s σ H vs us Q I r h
  obtain ⟨a, l, rfl, ha, hb, q⟩ := h
  rw [Vals.ref1 r]
  refine sorted_txset (I.hok a _ ha).1 (I.ok.hd hc) hb fun s' p out c ys k g o hp hg hi h1 h2 => ?_
  have hn : H p = none := I.hok.fresh hp
  have hlen : (ys.map V.str).length ≤ sizeLine := by
    rw [List.length_map, h2.length_eq]
    exact fits_of_scanBound hb
  have e : s' = { s with heap := s'.heap, gens := s'.gens, drawn := s'.drawn, toks := s'.toks } := by
    cases s'
    cases s
    cases o
    rfl
  rw [e]
  exact ⟨.ref p, upd H p (.lst (ys.map V.str)), I.call (ch := []) (Un.laid k hp hn) (I.hok.laid k hp ⟨hlen, out.toList, c, vals_of_strs hi, hg⟩) (by rw [g]; exact I.bare) (fun _ z => nomatch z), rfl, q ys p h1 h2 hn⟩
/-- sorted(list of texts), any length -/
def rSortedTL (K : PySem.W.Frag) : List V → Hp → VK → Prop := fun vs H Q => ∃ (a : Addr) (xs : List Str), vs = [.ref a] ∧ SqL K H a (xs.map V.str) ∧
  ∀ (ys : List Str) p, sortedS ys = true → ys.Perm xs → H p = none → Q (.ref p) (upd H p (.lst (ys.map V.str)))
theorem cr_sortedTL : CallR X (.builtin "sorted") (rSortedTL X.K) := by
  intro pins s σ H vs us Q I r h
  obtain ⟨a, xs, rfl, hs, q⟩ := h
  obtain ⟨its, rv, hl, hz⟩ := I.list hs
  rw [Vals.ref1 r]
  refine sorted_strsAny hl.isList rv.strs (by rw [← rv.length]; exact hz) fun out ys h1 h2 h3 => ?_
  obtain ⟨ep, he⟩ := sortedAll_at s.heap its out
  have hlen : (ys.map V.str).length ≤ sizeLine := by
    rw [List.length_map, h2.length_eq]
    rw [List.length_map] at hz
    exact hz
  exact ⟨.ref _, upd H (s.heap.objs.size + 1) (.lst (ys.map V.str)), I.laid (t' := s.toks) (fun _ _ => sortedAll_old) (Nat.le_succ _) ⟨hlen, out.toList, ep, vals_of_strs h1, he⟩, rfl, q ys _ h3 h2 (I.hok.fresh (Nat.le_succ _))⟩
end
end Sf
namespace Sf
open PySem PySem.Spec PyProof.Rows L2
/-- two texts walked side by side, the signs in new pairs -/
def Itz2 (x y : Str) : It :=
  ⟨fun i _ => i < x.cps.size ∧ i < y.cps.size,
    fun i H v H' => ∃ T c d, v = .ref T ∧ H T = none ∧ H' = upd H T (.tup [.str ⟨#[c]⟩, .str ⟨#[d]⟩]) ∧ x.cps[i]? = some c ∧ y.cps[i]? = some d,
    fun i _ => i = min x.cps.size y.cps.size⟩
def StZ (x y : Str) (t u : Tok) (z TI TO i1 i2 : Addr) (i : Nat) (h : Heap) : Prop :=
  IsZip h z TI TO .none ∧ IsTupOf2 h TI (.ref i1) (.ref i2) ∧ (∃ a1 a2, IsTupOf2 h TO a1 a2) ∧ h.IsStrIter i1 (strIterType x) x t i ∧ h.IsStrIter i2 (strIterType y) y u i
theorem turn_zip2 {P : Program} {w : World} {K : PySem.W.Frag} {elts : List Expr} {kk : Nat} {tpos : Pos} {z TI TO i1 i2 : Addr} {x y : Str} {t u : Tok} (S : ZipSep2 z TI TO i1 i2 [i1] [i2]) :
    Turn P w K (.Tuple elts kk tpos) (Itz2 x y) [z, TI, TO, i1, i2] z (StZ x y t u z TI TO i1 i2) where
  mem := by simp
  obj := fun i h st c hc => by
    obtain ⟨hz, hTI, ⟨a1, a2, hTO⟩, ⟨o1, e1, _, d1⟩, ⟨o2, e2, _, d2⟩⟩ := st
    have e' : c = z ∨ c = TI ∨ c = TO ∨ c = i1 ∨ c = i2 := by simpa using hc
    rcases e' with q | q | q | q | q
    · rw [q]
      exact ⟨_, hz, fun v r => nomatch r⟩
    · rw [q]
      exact ⟨_, hTI, fun v r => nomatch r⟩
    · rw [q]
      exact ⟨_, hTO, fun v r => nomatch r⟩
    · exact ⟨o1, by rw [q]; exact e1, fun v r => nomatch d1.symm.trans r⟩
    · exact ⟨o2, by rw [q]; exact e2, fun v r => nomatch d2.symm.trans r⟩
  keep := fun i h h' st k => by
    obtain ⟨hz, hTI, ⟨a1, a2, hTO⟩, ⟨o1, e1, r1⟩, ⟨o2, e2, r2⟩⟩ := st
    exact ⟨k z (by simp) _ hz, k TI (by simp) _ hTI, ⟨a1, a2, k TO (by simp) _ hTO⟩, ⟨o1, k i1 (by simp) _ e1, r1⟩, ⟨o2, k i2 (by simp) _ e2, r2⟩⟩
  item := by
    intro X hP hw hK hc i pins s σ H E I hf st hg
    subst hP hw hK
    have W := WalksT.zipD2 (prog := X.prog) (w := X.w) (A := X.A) S (Draws.text (A := X.A.in1) (I.ok.hd hc) i1 x t) (Draws.text (A := X.A.in1) (I.ok.hd hc) i2 y u)
    refine W.item i s _ _ (by have a1 := hg.1; have a2 := hg.2; omega) st fun T vals h1 tk1 hp hT hI hm k1 => ?_
    obtain ⟨v1, v2, ⟨c, t1, hc1, rfl⟩, ⟨d, t2, hd1, rfl⟩, rfl⟩ := hp
    refine ⟨_, rfl, W.go elts kk tpos i T { s with heap := h1, toks := tk1 } _ _ hm fun h2 st2 k2 => ?_⟩
    have hlt : ∀ b ∈ [z, TI, TO, i1, i2], b < s.heap.objs.size := by
      obtain ⟨hz, hTI, ⟨a1, a2, hTO⟩, ⟨o1, e1, _⟩, ⟨o2, e2, _⟩⟩ := st
      intro b hb
      have e' : b = z ∨ b = TI ∨ b = TO ∨ b = i1 ∨ b = i2 := by simpa using hb
      rcases e' with q | q | q | q | q
      · exact q ▸ Heap.lt_size hz
      · exact q ▸ Heap.lt_size hTI
      · exact q ▸ Heap.lt_size hTO
      · exact q ▸ Heap.lt_size e1
      · exact q ▸ Heap.lt_size e2
    have sub : ∀ b, b ∉ [z, TI, TO, i1, i2] → b ∉ [z, TO, i1, i2] := fun b hb => by
      simp only [List.mem_cons, List.not_mem_nil, or_false, not_or] at hb ⊢
      exact ⟨hb.1, hb.2.2⟩
    obtain ⟨oT, eT, cT, nT, dT⟩ := hI
    have hT2 : h2.get? T = some oT := k2 T oT (W.apart i T h1 hm) eT
    have new : ObjOk X.prog X.w (upd H T (.tup [.str ⟨#[c]⟩, .str ⟨#[d]⟩])) h2 T (.tup [.str ⟨#[c]⟩, .str ⟨#[d]⟩]) :=
      ⟨by show 2 ≤ sizeLine; decide, [.str ⟨#[c]⟩ t1, .str ⟨#[d]⟩ t2], .cons ⟨t1, rfl⟩ (.cons ⟨t2, rfl⟩ .nil), ⟨oT, hT2, cT, nT, dT⟩⟩
    refine ⟨.ref T, _, I.turnedNew (t' := tk1) (ch := [z, TI, TO, i1, i2]) (fun b o hb e => k2 b o (sub b hb) (k1 b o (sub b hb) e)) hf hT new, rfl, ⟨T, c, d, rfl, I.hok.fresh hT, rfl, hc1, hd1⟩, st2, fun b hb => ?_⟩
    rw [upd_ne (Nat.ne_of_lt (Nat.lt_of_lt_of_le (hlt b hb) hT))]
    exact (hf b hb).1
  done := by
    intro X hP hw hK hc i pins s σ H E I hf st hg
    subst hP hw hK
    have e : i = min x.cps.size y.cps.size := hg
    rw [e] at st
    have W := WalksT.zipD2 (prog := X.prog) (w := X.w) (A := X.A) S (Draws.text (A := X.A.in1) (I.ok.hd hc) i1 x t) (Draws.text (A := X.A.in1) (I.ok.hd hc) i2 y u)
    refine W.done s _ _ st fun h' tk k => ⟨rfl, I.turnedL (t' := tk) (ch := [z, TI, TO, i1, i2]) (fun b o hb q => k b o (fun m => hb ?_) q) hf⟩
    simp only [List.mem_cons, List.not_mem_nil, or_false] at m ⊢
    rcases m with m | m | m | m
    · exact .inl m
    · exact .inr (.inr (.inl m))
    · exact .inr (.inr (.inr (.inl m)))
    · exact .inr (.inr (.inr (.inr m)))
  self := fun A i s Q E st h => wpAny_pyIter_zip st.1 h
/-- for a, b in zip(text, text) -/
def iZip2 (ta : TA) : TI := fun σ H R => ta σ H fun vs H1 => ∃ x y, vs = [.str x, .str y] ∧ R (Itz2 x y) H1
theorem pi_zip2 {X : Cx} {e e2 : Expr} {ta : TA} {p pos tpos : Pos} {elts : List Expr} {kk : Nat} (hg : Gl X "zip") (hm : X.mg "zip" = none) (ha : PA X [e, e2] ta)
    (hs : starEach [e, e2] X.env = (false, eval e X.env) :: starEach [e2] X.env := by rfl) (hp : (backTo pos (starEach [e2] X.env)).any (·.1) = false := by rfl) :
    PI X (.Tuple elts kk tpos) (.Call (.Name "zip" p) [e, e2] [] pos) (iZip2 ta) := by
  refine ⟨fun pins s σ H R I h => Call_ (ld_blt I hg hm PyProof.Rows.boot_zip (PyProof.Rows.callWith_type1 (thn (ha.run pos pins s σ H _ I h) fun us s1 ⟨vs, H1, I1, r1, q1⟩ => ?_) hs hp))⟩
  obtain ⟨x, y, rfl, q⟩ := q1
  cases r1 with
  | cons r rr =>
    cases rr with
    | cons r' rr =>
      cases rr
      obtain ⟨t, rfl⟩ := r
      obtain ⟨u, rfl⟩ := r'
      refine zip_begins2 (begins_text x t) (begins_text y u) trivial trivial fun h' hz hTI hTO g1 g2 hsz k => wpAny_pyIter_zip hz ?_
      refine ⟨s1.heap.objs.size + 4, [s1.heap.objs.size + 4, s1.heap.objs.size + 2, s1.heap.objs.size + 3, s1.heap.objs.size, s1.heap.objs.size + 1], _, _, H1, rfl, I1.kept (t' := s1.toks) k,
        turn_zip2 (x := x) (y := y) (t := t) (u := u) (zip_sep2 (fp1 := []) (fp2 := []) (fun _ h => nomatch h) (fun _ h => nomatch h)), ⟨hz, hTI, ⟨_, _, hTO⟩, ⟨_, g1, rfl, rfl⟩, ⟨_, g2, rfl, rfl⟩⟩, fun c hc => ?_, q⟩
      have le : s1.heap.objs.size ≤ c := by
        have e' : c = s1.heap.objs.size + 4 ∨ c = s1.heap.objs.size + 2 ∨ c = s1.heap.objs.size + 3 ∨ c = s1.heap.objs.size ∨ c = s1.heap.objs.size + 1 := by simpa using hc
        have l0 : ∀ j, s1.heap.objs.size ≤ s1.heap.objs.size + j := fun j => Nat.le_add_right _ j
        rcases e' with z | z | z | z | z
        · rw [z]; exact l0 4
        · rw [z]; exact l0 2
        · rw [z]; exact l0 3
        · rw [z]; exact l0 0
        · rw [z]; exact l0 1
      exact I1.fpOk le (I1.hok.fresh le)
theorem walk_zip2 {x y : Str} {n : Nat} (hn : n = min x.cps.size y.cps.size) : Walk (Itz2 x y) n (fun _ => True)
    (fun i H v H' => ∃ T c d, v = .ref T ∧ H T = none ∧ H' = upd H T (.tup [.str ⟨#[c]⟩, .str ⟨#[d]⟩]) ∧ x.cps[i]? = some c ∧ y.cps[i]? = some d) :=
  ⟨fun i _ hi _ => ⟨by omega, by omega⟩, fun _ _ => hn, fun _ _ _ _ _ _ y => y⟩
end Sf
namespace Sf
open PySem PySem.Spec PyProof.Rows L2
theorem ltc_tot : ∀ a b : List Nat, ltCps a b = false → ltCps b a = false → a = b
  | [], [], _, _ => rfl
  | [], _ :: _, h, _ => by simp [ltCps] at h
  | _ :: _, [], _, h => by simp [ltCps] at h
  | x :: a, y :: b, h1, h2 => by
    simp only [ltCps, Bool.or_eq_false_iff, Bool.and_eq_false_iff, decide_eq_false_iff_not, beq_eq_false_iff_ne] at h1 h2
    have e : x = y := by omega
    subst e
    have h3 : ltCps a b = false := h1.2.resolve_left (fun z => z rfl)
    have h4 : ltCps b a = false := h2.2.resolve_left (fun z => z rfl)
    rw [ltc_tot a b h3 h4]
theorem ltc_trans : ∀ a b c : List Nat, ltCps b a = false → ltCps c b = false → ltCps c a = false
  | [], _, [], _, _ => rfl
  | [], [], _ :: _, _, h => by simp [ltCps]
  | [], _ :: _, _ :: _, h, _ => by simp [ltCps]
  | _ :: _, [], _, h, _ => by simp [ltCps] at h
  | _ :: _, _ :: _, [], _, h => by simp [ltCps] at h
  | x :: a, y :: b, z :: c, h1, h2 => by
    simp only [ltCps, Bool.or_eq_false_iff, Bool.and_eq_false_iff, decide_eq_false_iff_not, beq_eq_false_iff_ne] at h1 h2 ⊢
    refine ⟨by omega, ?_⟩
    by_cases e : z = x
    · right
      have e1 : y = x := by omega
      exact ltc_trans a b c (h1.2.resolve_left (fun q => q e1)) (h2.2.resolve_left (fun q => q (e.trans e1.symm)))
    · exact .inl e
def leS (a b : Str) : Prop := ltCps b.cps.toList a.cps.toList = false
theorem risingS_pw : ∀ (p : Str) (l : List Str), risingS p l = true → (∀ x ∈ l, leS p x) ∧ l.Pairwise leS
  | p, [], _ => ⟨(fun _ h => nomatch h), .nil⟩
  | p, x :: r, h => by
    simp only [risingS, Bool.and_eq_true, Bool.not_eq_true'] at h
    obtain ⟨h1, h2⟩ := risingS_pw x r h.2
    refine ⟨fun y hy => ?_, .cons h1 h2⟩
    rcases List.mem_cons.mp hy with rfl | hy
    · exact h.1
    · exact ltc_trans _ _ _ h.1 (h1 y hy)
theorem sortedS_pw : ∀ {l : List Str}, sortedS l = true → l.Pairwise leS
  | [], _ => .nil
  | x :: r, h => .cons (risingS_pw x r h).1 (risingS_pw x r h).2
theorem leS_anti {a b : Str} (h1 : leS a b) (h2 : leS b a) : a = b := Str.ext' (Array.toList_inj.mp (ltc_tot _ _ h2 h1))
theorem pw_uniq {l m : List Str} (h1 : l.Pairwise leS) (h2 : m.Pairwise leS) (p : l.Perm m) : l = m := p.eq_of_pairwise (fun _ _ _ _ => leS_anti) h1 h2
theorem sortedS_uniq {l m : List Str} (h1 : sortedS l = true) (h2 : sortedS m = true) (p : l.Perm m) : l = m := pw_uniq (sortedS_pw h1) (sortedS_pw h2) p
theorem insT_fold_nodup : ∀ (xs l : List Str), l.Nodup → (xs.foldl insT l).Nodup
  | [], l, h => h
  | x :: r, l, h => insT_fold_nodup r _ (insT_nodup h)
theorem toSet_nodup (xs : List Str) : (toSet xs).Nodup := insT_fold_nodup xs [] List.nodup_nil
theorem toSet_perm {xs ys : List Str} (h : ∀ k, k ∈ xs ↔ k ∈ ys) : (toSet xs).Perm (toSet ys) := by
  refine (List.perm_ext_iff_of_nodup (toSet_nodup xs) (toSet_nodup ys)).mpr fun k => ?_
  rw [toSet_mem, toSet_mem, h]
/-- ys is what sorted(set(xs)) gives -/
def SrtOf (xs ys : List Str) : Prop := sortedS ys = true ∧ ys.Perm (toSet xs)
theorem SrtOf.uniq {xs xs' ys ys' : List Str} (a : SrtOf xs ys) (b : SrtOf xs' ys') (h : ∀ k, k ∈ xs ↔ k ∈ xs') : ys = ys' :=
  sortedS_uniq a.1 b.1 (a.2.trans ((toSet_perm h).trans b.2.symm))
theorem SrtOf.mem {xs ys : List Str} (a : SrtOf xs ys) {k : Str} : k ∈ ys ↔ k ∈ xs := by rw [a.2.mem_iff, toSet_mem]
/-! ### pairs -/
def two (a b : Nat) : Str := ⟨#[a, b]⟩
def one (a : Nat) : Str := ⟨#[a]⟩
def tx (l : List Nat) : Str := ⟨l.toArray⟩
def prs : List Nat → List Str
  | a :: b :: r => two a b :: prs (b :: r)
  | _ => []
theorem prs_snoc : ∀ (z : List Nat) (a b : Nat), prs (z ++ [a, b]) = prs (z ++ [a]) ++ [two a b]
  | [], a, b => rfl
  | [x], a, b => rfl
  | x :: y :: z, a, b => by
    exact congrArg (two x y :: ·) (prs_snoc (y :: z) a b)
def pin (t : List Nat) : List Str := prs (94 :: (t ++ [36]))
theorem prs_len : ∀ l : List Nat, (prs l).length = l.length - 1
  | [] => rfl
  | [_] => rfl
  | a :: b :: r => by
    show (prs (b :: r)).length + 1 = _
    rw [prs_len (b :: r)]
    simp
theorem prs_get : ∀ (l : List Nat) (i a b : Nat), l[i]? = some a → l[i + 1]? = some b → (prs l)[i]? = some (two a b)
  | [], i, a, b, h, _ => by simp at h
  | [_], 0, a, b, _, h => by simp at h
  | [_], i + 1, a, b, h, _ => by simp at h
  | x :: y :: r, 0, a, b, h1, h2 => by
    simp at h1 h2
    subst h1; subst h2
    rfl
  | x :: y :: r, i + 1, a, b, h1, h2 => prs_get (y :: r) i a b h1 h2
/-! ### texts over some letters -/
def lst (t : List Nat) : Nat := (94 :: t).getLast (List.cons_ne_nil _ _)
theorem lst_nil : lst [] = 94 := rfl
theorem lst_snoc (t : List Nat) (c : Nat) : lst (t ++ [c]) = c := by
  unfold lst
  show ((94 :: t) ++ [c]).getLast _ = c
  exact List.getLast_concat
theorem prs_more (t : List Nat) (c : Nat) : prs (94 :: (t ++ [c])) = prs (94 :: t) ++ [two (lst t) c] := by
  have e : 94 :: t = (94 :: t).dropLast ++ [lst t] := (List.dropLast_concat_getLast (List.cons_ne_nil 94 t)).symm
  have q := prs_snoc (94 :: t).dropLast (lst t) c
  rw [← e] at q
  rw [← q]
  refine congrArg prs ?_
  rw [show (94 :: t).dropLast ++ [lst t, c] = ((94 :: t).dropLast ++ [lst t]) ++ [c] by rw [List.append_assoc] <;> rfl, ← e] <;> rfl
theorem pin_eq (t : List Nat) : pin t = prs (94 :: t) ++ [two (lst t) 36] := prs_more t 36
def chn (m : Str → Bool) (t : List Nat) : Bool := (prs (94 :: t)).all m
theorem chn_snoc (m : Str → Bool) (t : List Nat) (c : Nat) : chn m (t ++ [c]) = (chn m t && m (two (lst t) c)) := by
  unfold chn
  rw [prs_more, List.all_append]
  simp
def alw (m : Str → Bool) (t : List Nat) : Bool := (pin t).all m
theorem alw_eq (m : Str → Bool) (t : List Nat) : alw m t = (chn m t && m (two (lst t) 36)) := by
  unfold alw chn
  rw [pin_eq, List.all_append]
  simp
def more1 (L : List Nat) (t : List Nat) : List (List Nat) := L.map fun c => t ++ [c]
def lev (L : List Nat) : Nat → List (List Nat)
  | 0 => [[]]
  | n + 1 => (lev L n).flatMap (more1 L)
def allT (L : List Nat) : Nat → List (List Nat)
  | 0 => [[]]
  | n + 1 => allT L n ++ lev L (n + 1)
def rws (m : Str → Bool) (L : List Nat) (n : Nat) : List (List Nat) := (lev L n).filter (chn m)
def mor (m : Str → Bool) (L : List Nat) (t : List Nat) : List (List Nat) := (L.filter fun c => m (two (lst t) c)).map fun c => t ++ [c]
theorem mor_eq (m : Str → Bool) (L : List Nat) (t : List Nat) : (more1 L t).filter (chn m) = if chn m t = true then mor m L t else [] := by
  unfold more1 mor
  induction L with
  | nil => simp
  | cons c L ih =>
    rw [List.map_cons, List.filter_cons, ih, chn_snoc, List.filter_cons]
    cases h1 : chn m t <;> cases h2 : m (two (lst t) c) <;> simp
theorem rws_succ (m : Str → Bool) (L : List Nat) (n : Nat) : rws m L (n + 1) = (rws m L n).flatMap (mor m L) := by
  unfold rws
  show ((lev L n).flatMap (more1 L)).filter (chn m) = _
  induction lev L n with
  | nil => rfl
  | cons t r ih =>
    rw [List.flatMap_cons, List.filter_append, ih, mor_eq, List.filter_cons]
    split
    · rw [List.flatMap_cons]
    · rfl
def endOk (m : Str → Bool) (t : List Nat) : Bool := m (two (lst t) 36)
/-- what the walk has found behind n turns -/
def fnd (m : Str → Bool) (L : List Nat) : Nat → List (List Nat)
  | 0 => []
  | n + 1 => fnd m L n ++ (rws m L n).filter (endOk m)
theorem fnd_eq (m : Str → Bool) (L : List Nat) : ∀ n, fnd m L (n + 1) = (allT L n).filter (alw m)
  | 0 => by
    show [] ++ ([[]].filter (chn m)).filter (endOk m) = [[]].filter (alw m)
    rw [List.nil_append, List.filter_filter]
    refine List.filter_congr fun t _ => ?_
    rw [alw_eq, Bool.and_comm] <;> rfl
  | n + 1 => by
    show fnd m L (n + 1) ++ ((lev L (n + 1)).filter (chn m)).filter (endOk m) = (allT L n ++ lev L (n + 1)).filter (alw m)
    rw [fnd_eq m L n, List.filter_append, List.filter_filter]
    refine congrArg _ (List.filter_congr fun t _ => ?_)
    rw [alw_eq, Bool.and_comm] <;> rfl
theorem lev_len (L : List Nat) (k : Nat) (h : L.length ≤ k) : ∀ n, (lev L n).length ≤ k ^ n
  | 0 => Nat.le_refl _
  | n + 1 => by
    have b : ∀ l : List (List Nat), (l.flatMap (more1 L)).length = l.length * L.length := by
      intro l
      induction l with
      | nil => simp
      | cons t r ih =>
        rw [List.flatMap_cons, List.length_append, ih]
        unfold more1
        rw [List.length_map, List.length_cons, Nat.add_mul]
        omega
    show ((lev L n).flatMap (more1 L)).length ≤ _
    rw [b, Nat.pow_succ]
    exact Nat.mul_le_mul (lev_len L k h n) h
theorem lev_mem {L : List Nat} : ∀ {n : Nat} {t : List Nat}, t ∈ lev L n → t.length = n ∧ ∀ c ∈ t, c ∈ L
  | 0, t, h => by
    have e : t = [] := List.mem_singleton.mp h
    subst e
    exact ⟨rfl, fun _ h => nomatch h⟩
  | n + 1, t, h => by
    obtain ⟨u, hu, ht⟩ := List.mem_flatMap.mp h
    obtain ⟨c, hc, rfl⟩ := List.mem_map.mp ht
    obtain ⟨h1, h2⟩ := lev_mem hu
    refine ⟨by rw [List.length_append, h1] <;> rfl, fun d hd => ?_⟩
    rcases List.mem_append.mp hd with q | q
    · exact h2 d q
    · exact List.mem_singleton.mp q ▸ hc
theorem allT_mem {L : List Nat} : ∀ {n : Nat} {t : List Nat}, t ∈ allT L n → t.length ≤ n ∧ ∀ c ∈ t, c ∈ L
  | 0, t, h => by
    have q := lev_mem (L := L) (n := 0) h
    exact ⟨Nat.le_of_eq q.1, q.2⟩
  | n + 1, t, h => by
    rcases List.mem_append.mp h with q | q
    · have r := allT_mem q
      exact ⟨Nat.le_succ_of_le r.1, r.2⟩
    · have r := lev_mem q
      exact ⟨Nat.le_of_eq r.1, r.2⟩
end Sf
/-! Defs that must know that no repr is under way around them: the same promises as a def's, with this known of the surroundings. -/
namespace Sf
open PySem PySem.Spec PyProof.Rows L2
/-- a def's promise where no repr is under way -/
structure FnG (P : Program) (w : World) (K : PySem.W.Frag) (mg : Str → Option Value) (base : Heap) (k : Nat) (f : Addr) (fd : FuncData) (ps : List Str) (sp : Sp) : Prop where
  cnt : ∀ xs Hh W Ex, sp xs Hh W Ex → xs.length = ps.length
  go : ∀ (A : Around) (out : List Env) (st : Shared) (Hh : Hp) (ar : Args) (ys : List Value) (xs : List V) (W : VK) (Ex : XK), Room k A → A.guards = some [] → Env0 P w K mg base A out st Hh → BindsTo st fd ar (ps.zip ys) → Vals xs ys → sp xs Hh W Ex →
    codeAny (model P w) A (.call (.ref f) ar) (CR CX0 out P w Hh st W Ex) st
section
variable {P : Program} {w : World} {K : PySem.W.Frag} {mg : Str → Option Value} {base : Heap}
theorem okG {x qual : Str} {st : Stmt} {f : Addr} {fd : FuncData} {N ps : List Str} {k : Nat} {sp : Sp} (F : Fun K x qual st f fd) (S : FnScope N ps (defScope st)) (cnt : ∀ xs Hh W Ex, sp xs Hh W Ex → xs.length = ps.length)
    (body : ∀ (cdv : Value) (A : Around) (out : List Env) (sh : Shared) (Hh : Hp) (xs : List V) (W : VK) (Ex : XK), Room k (A.deeper (envOfC qual (defScope st) sh.heap.objs.size f cdv)) → A.guards = some [] → sp xs Hh W Ex →
      ∃ t, PSs (cxOf CX0 P w K mg base N qual (defScope st) f cdv A out sh Hh Ex).nox (defBody st) t ∧ t { nx := fun _ H' => W .non H', rt := W } (start N xs) Hh) : FnG P w K mg base (k + 1) f fd ps sp := by
  obtain ⟨oc, od, kV, doc, pm, an, cdv, ct, osl, rfl, look, code⟩ := F.ex
  refine ⟨cnt, fun A out sh Hh ar ys xs W Ex room gd e0 bind rel prom => ?_⟩
  have count := cnt _ _ _ _ prom
  have here : K.In sh.heap := e0.mod.kin.keeps fun p ob e => (e0.bs p ob e).1
  have calm : sh.heap.NoLimit := e0.mod.nolimit.keeps fun p ob e => (e0.bs p ob e).1
  have kinds : ∀ z ∈ ps.zip ys, (defScope st).names.lookup z.1 = some .local ∨ ((defScope st).names.lookup z.1 = some .cell ∧ ((cellsFrom (sh.heap.objs.size + 1) (defScope st).names []).lookup z.1).isSome = true) := fun ⟨nm, vl⟩ hz =>
    (S.par nm (List.of_mem_zip hz).1).elim .inl fun c => .inr ⟨c, PySem.W.cellsFrom_some _ _ _ (.inl c)⟩
  refine codeAny_call_function room.depth (here _ _ look) rfl S.co S.gen rfl (PySem.W.codeRec_of here code) (bind _ _ _ _ (wpAny_newFunctionEnv_cells S.kind kinds fun env ee sh1 ent => ?_))
  subst ee
  refine ⟨calm.keeps ent.toInCall.keep, codeAny_func ?_⟩
  obtain ⟨t, walk, start1⟩ := body cdv A out sh Hh xs W Ex (room.deeper _) gd prom
  have I := inv_start (CX := CX0) (E := Ex) S room.hd e0 count rel ent
  refine wpAny_mono (walk.nox.run [] sh1 (start N xs) Hh _ I start1) (fun how sh2 done => ?_) fun ex sh2 done => done
  match how, done with
  | .ret u, ⟨v, σ2, H2, J, rv, qv⟩ => exact ⟨v, H2, J.os, J.bare, J.base, J.hok, rv, qv⟩
  | .next, ⟨σ2, H2, J, qv⟩ => exact ⟨V.non, H2, J.os, J.bare, J.base, J.hok, rfl, qv⟩
  | .brk, ⟨_, _, _, no⟩ => exact no.elim
  | .cont, ⟨_, _, _, no⟩ => exact no.elim
/-- such a def called from another one -/
theorem pe_callG {X : Cx} {k : Nat} {f : Addr} {fd : FuncData} {ps : List Str} {sp : Sp} {x : Str} {p pos : Pos} {e : Expr} {es : List Expr} {t : TA} (F : FnG X.prog X.w X.K X.mg X.base k f fd ps sp) (room : Room k X.A) (gd : X.A.guards = some []) (hg : Gl X x) (hm : X.mg x = some (.ref f))
    (kp : PySem.W.keepIn X.K (.ref f) = true) (hb : Binds X.K fd ps []) (ha : PA X (e :: es) t) (hx : Passes CX0 X E0) (hdb : (x == ("__debug__" : Str)) = false := by decide)
    (he : starEach (e :: es) X.env = (false, eval e X.env) :: starEach es X.env := by rfl) (hpl : (backTo pos (starEach es X.env)).any (·.1) = false := by rfl) : PE X (.Call (.Name x p) (e :: es) [] pos) (tCall sp [] E0 t) :=
  ⟨fun pins sh σ Hh W I prom => wpAny_Call_Name_kw (ld_glob I hg hm
    (PySem.W.callWith_K (h₀ := X.base) I.ok.mod.kin kp (thn (ha.run pos pins sh σ Hh _ I prom) fun ys s1 ⟨xs, H1, I1, rel, q⟩ => ⟨I1.kIn, by
      have q : sp (xs ++ []) H1 W E0 := q
      rw [List.append_nil] at q
      have len1 : (ys ++ ([] : List Value)).length = ps.length := by
        rw [List.append_nil, ← rel.length]
        exact F.cnt _ _ _ _ q
      have bd := hb s1 ys I1.kIn len1
      rw [List.append_nil] at bd
      refine wpAny_call (codeAny_mono (F.go X.A X.stack s1 H1 ⟨ys, []⟩ ys xs W E0 room gd I1.env0 bd rel q) fun r s2 ends => ?_)
      match r, ends with
      | .error ex, z => exact hx pins σ H1 s1 ex s2 I1 z
      | .ok (.ret u), z => exact I1.after z
      | .ok .next, z => exact z.elim
      | .ok .brk, z => exact z.elim
      | .ok .cont, z => exact z.elim⟩) he hpl) hdb)⟩
/-- the law's own call, where its def is such a one -/
theorem law_callG {mb : Str → Option Value} {k : Nat} {fa a : Addr} {fd : FuncData} {x : Str} {sp : Sp} {sh : Shared} {us : List Value} {ns : List Int} (KX : K.In sh.heap) (hm : sh.heap.Ns mainGlobals mg) (hb : sh.heap.Ns builtinsNs mb) (hbb : ∀ y : Str, y ≠ "__name__" → mb y = bootBuiltins y)
    (lim : sh.heap.NoLimit) (gens : sh.gens = #[]) (at_ : sh.heap.get? a = some { cls := .type "list", data := .seq us.toArray }) (hints : IntsAre us ns) (fits : ns.length ≤ sizeLine) (room : Room k callerA)
    (F : ∀ b : Heap, K.In b → b.Ns mainGlobals mg → FnG P w K mg b k fa fd [x] sp) (bind : ∀ (s : Shared) (u : Value), BindsTo s fd ⟨[u], []⟩ [(x, u)]) (prom : ∀ Hh : Hp, SqL K Hh a (ns.map V.int) → sp [.ref a] Hh (fun v _ => v = .bl true) E0) :
    codeAny (model P w) callerA (.call (.ref fa) ⟨[.ref a], []⟩) (fun r s' => r = .ok (.ret (.bool true)) ∧ OldK sh.heap s'.heap ∧ s'.os = sh.os ∧ AllBare s'.gens) sh := by
  have rel := vals_ints hints
  have lens : us.length ≤ sizeLine := by
    rw [hints.length]
    exact fits
  -- what is tracked: the script's list alone, unless the module has it
  obtain ⟨Hh, only, hS⟩ : ∃ Hh : Hp, (∀ b u, Hh b = some u → b = a ∧ K.lookup a = none ∧ u = .frz { cls := .type "list", data := .seq us.toArray } (.lst (ns.map V.int))) ∧ SqL K Hh a (ns.map V.int) := by
    cases hk : K.lookup a with
    | some ob =>
      obtain rfl : ob = _ := Option.some.inj ((KX a ob hk).symm.trans at_)
      exact ⟨fun _ => none, (fun _ _ z => nomatch z), .inr ⟨_, us.toArray, _, hk, rfl, rfl, rfl, by rw [List.size_toArray]; exact lens, by simpa using rel⟩⟩
    | none =>
      refine ⟨fun b => if b = a then some (.frz { cls := .type "list", data := .seq us.toArray } (.lst (ns.map V.int))) else none, fun b u z => ?_, .inl (.inr ⟨_, if_pos rfl⟩)⟩
      dsimp only at z
      by_cases e : b = a
      · rw [if_pos e] at z
        exact ⟨e, rfl, (Option.some.inj z).symm⟩
      · rw [if_neg e] at z
        cases z
  have notK : ∀ b o, K.lookup b = some o → Hh b = none := fun b o e => by
    cases q : Hh b with
    | none => rfl
    | some u =>
      obtain ⟨e1, e2, _⟩ := only b u q
      rw [e1, e2] at e
      cases e
  have notD : ∀ (b : Addr) (o : Obj) (es : Array DictEntry) (ep : Nat), sh.heap.get? b = some o → o.data = .dict es ep → Hh b = none := fun b o es ep e d => by
    cases q : Hh b with
    | none => rfl
    | some u =>
      obtain ⟨e1, _, _⟩ := only b u q
      rw [e1, at_] at e
      cases e
      cases d
  have space : ∀ {b : Addr} {m : Str → Option Value}, sh.heap.Ns b m → (hidT sh.heap Hh).Ns b m := fun {b m} ⟨o, es, ep, e, d, r⟩ => ⟨o, es, ep, hidT_get e (notD b o es ep e d), d, r⟩
  have inB : K.In (hidT sh.heap Hh) := fun b o e => hidT_get (KX b o e) (notK b o e)
  have md : Mod K mg (hidT sh.heap Hh) := ⟨inB, space hm, ⟨mb, space hb, hbb⟩, lim.elim fun mc z => ⟨mc, space z.1, z.2⟩⟩
  have held : HOk P w Hh sh.heap := fun b u z => by
    obtain ⟨e1, _, e3⟩ := only b u z
    subst e1
    subst e3
    exact ⟨at_, by rw [List.length_map]; exact fits, us, _, rel, at_⟩
  have e0 : Env0 P w K mg (hidT sh.heap Hh) callerA [] sh Hh := ⟨rfl, md, fun b o e => of_hidT e, Nat.le_of_eq (hidT_size _ _), trivial, (fun b z => nomatch z), held, .of_eq gens⟩
  refine codeAny_mono ((F _ inB (space hm)).go callerA [] sh Hh ⟨[.ref a], []⟩ [.ref a] [.ref a] _ _ room rfl e0 (bind sh (.ref a)) (.cons rfl .nil) (prom Hh hS)) fun r s2 done => ?_
  match r, done with
  | .error ex, z => exact absurd z (by
      intro z
      exact z)
  | .ok .next, z => exact z.elim
  | .ok .brk, z => exact z.elim
  | .ok .cont, z => exact z.elim
  | .ok (.ret u), ⟨v, H2, os, bare, un, held2, rv, qv⟩ =>
    obtain rfl : v = .bl true := qv
    obtain rfl : u = Value.bool true := rv
    refine ⟨rfl, OldK.of_keep fun b o e => ?_, os, bare⟩
    cases q : Hh b with
    | none => exact un.keep b o e q (fun z => nomatch z) (fun z => nomatch z)
    | some t =>
      obtain ⟨e1, _, e3⟩ := only b t q
      rw [e3] at q
      obtain ⟨g1, _⟩ := held b _ q
      obtain ⟨g2, _⟩ := held2 b _ (un.frzs b _ _ q)
      rw [e] at g1
      cases g1
      exact g2
/-- the end of a claim whose law is such a def -/
theorem walk_G {l : PySem.W.OpenLaw} {n k : Nat} {q : Program} {loose : List Str} {XP : (Str → Option Value) → Heap → Prop} {YP : World → Heap → Prop} {d : DefRec} {KK : Params → PySem.W.Frag} {sp : World → Sp} {x : Str} (most : l.most = some n) (few : n ≤ sizeLine) (nodef : d.params.defaults = []) (room : Room k callerA)
    (hY : ∀ (w : World) (h : Heap), YP w h → (KK w.params).In h)
    (F : ∀ (w : World) (mg : Str → Option Value) (fa : Addr) (h : Heap), (KK w.params).In h → h.Ns mainGlobals mg → mg d.name = some (.ref fa) →
      ∃ fd : FuncData, (∀ (s : Shared) (u : Value), BindsTo s fd ⟨[u], []⟩ [(x, u)]) ∧ ∀ b : Heap, (KK w.params).In b → b.Ns mainGlobals mg → FnG l.prog w (KK w.params) mg b k fa fd [x] (sp w))
    (prom : ∀ (w : World) (Hh : Hp) (a : Addr) (ns : List Int), ns.length ≤ n → SqL (KK w.params) Hh a (ns.map V.int) → sp w [.ref a] Hh (fun v _ => v = .bl true) E0) :
    PySem.W.WalkO q loose XP YP l.row.toRowW d [] (fun f vs => PySem.call f vs) :=
  Att.attach_call most nodef fun w s0 s1 mg mb fa o pm cd doc a vs ns G Y _ _ _ hmg hobj hints hlen hg => by
    have KX := hY w _ Y
    obtain ⟨fd, bind, hF⟩ := F w mg fa _ KX G.T.g hmg
    exact law_callG KX G.T.g G.T.b G.T.builtins G.T.nolimit hg hobj hints (Nat.le_trans hlen few) room hF bind fun Hh hS => prom w Hh a ns hlen hS
end
end Sf
/-! Values of any kind, as trees of data on the tracked heap: None, bools, ints, texts, lists, tuples, dicts with one text as key; their repr, their isinstance. -/
namespace Sf
open PySem PySem.Spec PyProof.Rows L2
mutual
/-- v is the data d; no object of it stands at p; with g none of its lists at the modules' own place -/
inductive Od (g : Bool) (p : Addr) (H : Hp) : V → PyData → Prop
  | non : Od g p H .non .none
  | bl (b : Bool) : Od g p H (.bl b) (.bool b)
  | int (i : Int) : Od g p H (.int i) (.int i)
  | str (x : Str) : Od g p H (.str x) (.str x)
  | lst {a : Addr} {xs : List V} {ds : List PyData} : a ≠ p → (g = true → a ≠ sysModules) → H a = some (.lst xs) → OdAll g p H xs ds → Od g p H (.ref a) (.list ds)
  | tup {a : Addr} {xs : List V} {ds : List PyData} : a ≠ p → H a = some (.tup xs) → OdAll g p H xs ds → Od g p H (.ref a) (.tuple ds)
  | dic0 {a : Addr} : g = true → a ≠ p → H a = some (.dK []) → Od g p H (.ref a) (.dict [])
  | dic1 {a : Addr} {x : Str} {v : V} {d : PyData} : g = true → a ≠ p → H a = some (.dK [(.inr x, v)]) → Od g p H v d → Od g p H (.ref a) (.dict [(.str x, d)])
inductive OdAll (g : Bool) (p : Addr) (H : Hp) : List V → List PyData → Prop
  | nil : OdAll g p H [] []
  | cons {v : V} {vs : List V} {d : PyData} {ds : List PyData} : Od g p H v d → OdAll g p H vs ds → OdAll g p H (v :: vs) (d :: ds)
end
section
variable {g : Bool} {p : Addr} {H H' : Hp}
mutual
theorem Od.mono (k : ∀ b o, b ≠ p → H b = some o → H' b = some o) : ∀ {d : PyData} {v : V}, Od g p H v d → Od g p H' v d
  | .none, _, h => by
    cases h
    exact .non
  | .bool b, _, h => by
    cases h
    exact .bl b
  | .int i, _, h => by
    cases h
    exact .int i
  | .str x, _, h => by
    cases h
    exact .str x
  | .list ds, _, h => by
    cases h with
    | lst n1 n2 e t => exact .lst n1 n2 (k _ _ n1 e) (OdAll.mono k t)
  | .tuple ds, _, h => by
    cases h with
    | tup n1 e t => exact .tup n1 (k _ _ n1 e) (OdAll.mono k t)
  | .dict [], _, h => by
    cases h with
    | dic0 g1 n1 e => exact .dic0 g1 n1 (k _ _ n1 e)
  | .dict [(.str x, d)], _, h => by
    cases h with
    | dic1 g1 n1 e t => exact .dic1 g1 n1 (k _ _ n1 e) (Od.mono k t)
  | .dict ((.none, _) :: _), _, h => by cases h
  | .dict ((.bool _, _) :: _), _, h => by cases h
  | .dict ((.int _, _) :: _), _, h => by cases h
  | .dict ((.list _, _) :: _), _, h => by cases h
  | .dict ((.tuple _, _) :: _), _, h => by cases h
  | .dict ((.dict _, _) :: _), _, h => by cases h
  | .dict ((.str _, _) :: _ :: _), _, h => by cases h
theorem OdAll.mono (k : ∀ b o, b ≠ p → H b = some o → H' b = some o) : ∀ {ds : List PyData} {vs : List V}, OdAll g p H vs ds → OdAll g p H' vs ds
  | [], _, h => by
    cases h
    exact .nil
  | d :: ds, _, h => by
    cases h with
    | cons h1 h2 => exact .cons (Od.mono k h1) (OdAll.mono k h2)
end
theorem OdAll.len : ∀ {ds : List PyData} {vs : List V}, OdAll g p H vs ds → vs.length = ds.length
  | [], _, h => by
    cases h
    rfl
  | d :: ds, _, h => by
    cases h with
    | cons h1 h2 =>
      rw [List.length_cons, List.length_cons, h2.len]
theorem OdAll.get : ∀ {ds : List PyData} {vs : List V} {i : Nat} {v : V}, OdAll g p H vs ds → vs[i]? = some v → ∃ d, ds[i]? = some d ∧ Od g p H v d
  | [], _, _, _, h, e => by
    cases h
    cases e
  | d :: ds, _, 0, _, h, e => by
    cases h with
    | cons h1 h2 =>
      obtain rfl := Option.some.inj e
      exact ⟨d, rfl, h1⟩
  | d :: ds, _, i + 1, _, h, e => by
    cases h with
    | cons h1 h2 => exact h2.get (i := i) e
theorem OdAll.strs : ∀ (xs : List Str), OdAll g p H (xs.map V.str) (xs.map PyData.str)
  | [] => .nil
  | x :: xs => .cons (.str x) (OdAll.strs xs)
theorem OdAll.app : ∀ {ds es : List PyData} {vs us : List V}, OdAll g p H vs ds → OdAll g p H us es → OdAll g p H (vs ++ us) (ds ++ es)
  | [], es, _, us, h, k => by
    cases h
    exact k
  | d :: ds, es, _, us, h, k => by
    cases h with
    | cons h1 h2 => exact .cons h1 (h2.app k)
/-- texts alone, as a list of texts -/
theorem OdAll.isStrs : ∀ {ds : List PyData} {vs : List V}, OdAll g p H vs ds → (∀ d ∈ ds, ∃ x, d = .str x) → ∃ ts : List Str, vs = ts.map V.str ∧ ds = ts.map PyData.str
  | [], _, h, _ => by
    cases h
    exact ⟨[], rfl, rfl⟩
  | d :: ds, _, h, a => by
    cases h with
    | cons h1 h2 =>
      obtain ⟨x, rfl⟩ := a d List.mem_cons_self
      cases h1
      obtain ⟨ts, e1, e2⟩ := h2.isStrs fun z hz => a z (List.mem_cons_of_mem _ hz)
      exact ⟨x :: ts, by rw [e1] <;> rfl, by rw [e2] <;> rfl⟩
mutual
theorem Od.weak : ∀ {d : PyData} {v : V}, Od false p H v d → d.hasDict = false
  | .none, _, _ => rfl
  | .bool b, _, _ => rfl
  | .int i, _, _ => rfl
  | .str x, _, _ => rfl
  | .list ds, _, h => by
    cases h with
    | lst _ _ _ t =>
      simp only [PyData.hasDict]
      exact OdAll.weak t
  | .tuple ds, _, h => by
    cases h with
    | tup _ _ t =>
      simp only [PyData.hasDict]
      exact OdAll.weak t
  | .dict _, _, h => by
    cases h with
    | dic0 g1 => cases g1
    | dic1 g1 => cases g1
theorem OdAll.weak : ∀ {ds : List PyData} {vs : List V}, OdAll false p H vs ds → PyData.hasDictAll ds = false
  | [], _, _ => rfl
  | d :: ds, _, h => by
    cases h with
    | cons h1 h2 =>
      simp only [PyData.hasDictAll]
      rw [Od.weak h1, OdAll.weak h2] <;> rfl
end
end
section
variable {X : Cx} {pins : List (Addr × Obj)} {σ : L2.St} {g : Bool} {p : Addr} {H : Hp} {s : Shared}
theorem one_pair {knd : KeyKind X.prog X.w Key} {es : List DictEntry} {kv : Key × Value} (h : Pairs knd es [kv]) : ∃ e, es = [e] ∧ knd.is kv.1 e.key = true ∧ e.val = kv.2 := by
  cases h with
  | cons h1 h2 h3 =>
    cases h3
    exact ⟨_, rfl, h1, h2⟩
theorem no_pair {knd : KeyKind X.prog X.w Key} {es : List DictEntry} (h : Pairs knd es []) : es = [] := by
  cases h
  rfl
mutual
theorem Od.reads (I : Inv X pins σ H s) : ∀ (d : PyData) (v : V) (u : Value), Od g p H v d → RelV v u → ∃ as, Reads s.heap u d as ∧ (g = true → sysModules ∉ as)
  | .none, _, _, h, r => by
    cases h
    cases r
    exact ⟨_, .none, fun _ => List.not_mem_nil⟩
  | .bool b, _, _, h, r => by
    cases h
    cases r
    exact ⟨_, .bool b, fun _ => List.not_mem_nil⟩
  | .int i, _, _, h, r => by
    cases h
    obtain ⟨t, rfl⟩ := r
    exact ⟨_, .int i t, fun _ => List.not_mem_nil⟩
  | .str x, _, _, h, r => by
    cases h
    obtain ⟨t, rfl⟩ := r
    exact ⟨_, .str x t, fun _ => List.not_mem_nil⟩
  | .list ds, _, _, h, r => by
    cases h with
    | lst n1 n2 e t =>
      cases r
      obtain ⟨_, its, n, rv, h1⟩ := (show ObjOk X.prog X.w H s.heap _ (.lst _) from I.hok _ _ e)
      obtain ⟨as, hr, hn⟩ := OdAll.reads I ds _ its t rv
      refine ⟨_, .list h1 rfl rfl hr, fun q z => ?_⟩
      rcases List.mem_cons.mp z with z | z
      · exact n2 q z.symm
      · exact hn q z
  | .tuple ds, _, _, h, r => by
    cases h with
    | tup n1 e t =>
      cases r
      obtain ⟨_, its, rv, o, h1, h2, n, h3⟩ := (show ObjOk X.prog X.w H s.heap _ (.tup _) from I.hok _ _ e)
      obtain ⟨as, hr, hn⟩ := OdAll.reads I ds _ its t rv
      exact ⟨_, .tuple h1 h2 h3 hr, hn⟩
  | .dict [], _, _, h, r => by
    cases h with
    | dic0 g1 n1 e =>
      cases r
      obtain ⟨_, n2, vs, kv, o, es, ep, h1, h2, h3, _, h4, _⟩ := (show ObjOk X.prog X.w H s.heap _ (.dK _) from I.hok _ _ e)
      cases kv
      have e0 := no_pair h4
      refine ⟨_, .dict (as := []) (bs := []) h1 h2.1 h3 (by rw [e0]; exact .nil) (by rw [e0]; exact .nil), fun _ z => ?_⟩
      rcases List.mem_cons.mp z with z | z
      · exact (beq_eq_false_iff_ne.mp n2) z.symm
      · exact List.not_mem_nil z
  | .dict [(.str x, d)], _, _, h, r => by
    cases h with
    | dic1 g1 n1 e t =>
      cases r
      obtain ⟨_, n2, vs, kv, o, es, ep, h1, h2, h3, _, h4, _⟩ := (show ObjOk X.prog X.w H s.heap _ (.dK _) from I.hok _ _ e)
      cases kv with
      | @cons _ kw _ _ q1 q2 =>
        cases q2
        obtain ⟨k1, w1⟩ := kw
        obtain ⟨q3, q4⟩ := q1
        obtain ⟨e1, ee, e2, e3⟩ := one_pair h4
        obtain rfl : Sum.inr x = k1 := q3
        obtain ⟨as, hr, hn⟩ := Od.reads I d _ w1 t q4
        obtain ⟨y, tk, ey, ek⟩ : ∃ y tk, (Sum.inr x : Key) = Sum.inr y ∧ e1.key = Value.str y tk := by
          rcases keyIs_shape (k := Sum.inr x) (v := e1.key) e2 with ⟨i, tk, z, _⟩ | ⟨y, tk, z, z2⟩
          · cases z
          · exact ⟨y, tk, z, z2⟩
        cases ey
        refine ⟨_, .dict (as := []) (bs := as ++ []) h1 h2.1 h3 ?_ ?_, fun q z => ?_⟩
        · rw [ee]
          show ReadsAll s.heap [e1.key] [PyData.str x] []
          rw [ek]
          exact .cons (as := []) (.str x tk) .nil
        · rw [ee]
          show ReadsAll s.heap [e1.val] [d] (as ++ [])
          rw [e3]
          exact .cons hr .nil
        · rcases List.mem_cons.mp z with z | z
          · exact (beq_eq_false_iff_ne.mp n2) z.symm
          · have z : sysModules ∈ as ++ [] := z
            rw [List.append_nil] at z
            exact hn q z
  | .dict ((.none, _) :: _), _, _, h, _ => by cases h
  | .dict ((.bool _, _) :: _), _, _, h, _ => by cases h
  | .dict ((.int _, _) :: _), _, _, h, _ => by cases h
  | .dict ((.list _, _) :: _), _, _, h, _ => by cases h
  | .dict ((.tuple _, _) :: _), _, _, h, _ => by cases h
  | .dict ((.dict _, _) :: _), _, _, h, _ => by cases h
  | .dict ((.str _, _) :: _ :: _), _, _, h, _ => by cases h
theorem OdAll.reads (I : Inv X pins σ H s) : ∀ (ds : List PyData) (vs : List V) (us : List Value), OdAll g p H vs ds → Vals vs us → ∃ as, ReadsAll s.heap us ds as ∧ (g = true → sysModules ∉ as)
  | [], _, _, h, r => by
    cases h
    cases r
    exact ⟨_, .nil, fun _ => List.not_mem_nil⟩
  | d :: ds, _, _, h, r => by
    cases h with
    | cons h1 h2 =>
      cases r with
      | cons r1 r2 =>
        obtain ⟨as, q1, n1⟩ := Od.reads I d _ _ h1 r1
        obtain ⟨bs, q2, n2⟩ := OdAll.reads I ds _ _ h2 r2
        refine ⟨_, .cons q1 q2, fun q z => ?_⟩
        rcases List.mem_append.mp z with z | z
        · exact n1 q z
        · exact n2 q z
end
/-- data that is small enough to be shown -/
structure Sm (n m : Nat) (d : PyData) : Prop where
  sh : d.showable = true
  lv : d.leavesShort 40 = true
  wt : d.weight ≤ n
  dp : d.depth ≤ m
theorem Sm.fits {n m : Nat} {d : PyData} (h : Sm n m d) (hn : n ≤ 100000) : d.shown.length ≤ sizeLine := by
  have h1 := PyData.shown_le 40 (by decide) d h.lv
  have h2 : (40 + 2) * d.weight ≤ 42 * 100000 := Nat.mul_le_mul (by decide) (Nat.le_trans h.wt hn)
  exact Nat.le_trans (show _ ≤ 4200040 by omega) (by decide)
/-- repr of any such value -/
def rRepr : List V → Hp → VK → Prop := fun vs H Q => ∃ (v : V) (g : Bool) (p : Addr) (d : PyData) (n m : Nat), vs = [v] ∧ Od g p H v d ∧ Sm n m d ∧ n ≤ 100000 ∧ m ≤ 60 ∧ Q (.str d.shown) H
theorem cr_repr (hg : X.A.guards = some []) (hu : X.A.units + 64 < cLine) : CallR X (.builtin "repr") rRepr := by
  intro pins s σ H vs us Q I r h
  obtain ⟨v, g, p, d, n, m, rfl, ho, sm, hn, hm, q⟩ := h
  obtain ⟨u, rfl, r1⟩ := vals1 r
  obtain ⟨as, rd, nm⟩ := Od.reads I d v u ho r1
  have fit := sm.fits hn
  have dep : d.depth ≤ 60 := Nat.le_trans sm.dp hm
  have big : d.hasDict = true → sysModules ∉ as := fun z => by
    cases g with
    | true => exact nm rfl
    | false =>
      rw [ho.weak] at z
      cases z
  cases rd with
  | none => exact PySem.P.repr_of_none ⟨.str _, H, I.tok _, ⟨_, rfl⟩, q⟩
  | bool b => exact PySem.P.repr_of_bool ⟨.str _, H, I.tok _, ⟨_, rfl⟩, q⟩
  | int i t => exact PySem.P.repr_of_int (by simpa [PyData.showable] using sm.sh) ⟨.str _, H, I.tok _, ⟨_, rfl⟩, q⟩
  | str x t => exact PySem.P.repr_of_str ⟨.str _, H, I.tok _, ⟨_, rfl⟩, q⟩ fit
  | list h1 h2 h3 h4 => exact repr_of_reads' (.list h1 h2 h3 h4) sm.sh big hg (by omega) (fun _ _ e => e) (fun h' u tk k => ⟨.str _, H, I.kept k, ⟨_, rfl⟩, q⟩) fit
  | tuple h1 h2 h3 h4 => exact repr_of_reads' (.tuple h1 h2 h3 h4) sm.sh big hg (by omega) (fun _ _ e => e) (fun h' u tk k => ⟨.str _, H, I.kept k, ⟨_, rfl⟩, q⟩) fit
  | dict h1 h2 h3 h4 h5 => exact repr_of_reads' (.dict h1 h2 h3 h4 h5) sm.sh big hg (by omega) (fun _ _ e => e) (fun h' u tk k => ⟨.str _, H, I.kept k, ⟨_, rfl⟩, q⟩) fit
/-- a list that is written out, with where it does not stand -/
def tLstN (t : TA) : TE := fun σ H Q => t σ H fun xs H1 => xs.length ≤ sizeLine ∧ ∀ l, H1 l = none → l ≠ sysModules → Q (.ref l) (upd H1 l (.lst xs))
theorem pe_lstN {es : List Expr} {t : TA} {pos : Pos} (h : PA X es t) : PE X (.List es pos) (tLstN t) :=
  ⟨fun pins s σ H Q I hq => wpAny_List_spliced (thn (h.run pos pins s σ H _ I hq) fun us s1 ⟨xs, H1, I1, r, z, q⟩ => ⟨by
    rw [← r.length]
    exact z, .ref s1.heap.objs.size, upd H1 s1.heap.objs.size (.lst xs), I1.laid (t' := s1.toks) (fun b u e => Heap.get?_push_of_some _ e) (Nat.le_refl _) ⟨z, us, 0, r, Heap.get?_push_size _ rfl⟩, rfl,
      q _ (I1.hok.fresh (Nat.le_refl _)) (Ne.symm (Nat.ne_of_lt I1.big))⟩)⟩
/-! ### isinstance -/
def tyN : PyData → String
  | .none => "NoneType"
  | .bool _ => "bool"
  | .int _ => "int"
  | .str _ => "str"
  | .list _ => "list"
  | .tuple _ => "tuple"
  | .dict _ => "dict"
theorem Od.ty {K : PySem.W.Frag} : ∀ {d : PyData} {v : V}, Od g p H v d → TyX K H v (.type (tyN d))
  | _, _, .non => .base .non
  | _, _, .bl b => .base (.bl b)
  | _, _, .int i => .base (.int i)
  | _, _, .str x => .base (.str x)
  | _, _, .lst _ _ e _ => .base (.lst e)
  | _, _, .tup _ e _ => .base (.tup e)
  | _, _, .dic0 _ _ e => .base (.dK e)
  | _, _, .dic1 _ _ e _ => .base (.dK e)
def isS : PyData → Bool
  | .str _ => true
  | _ => false
def isT : PyData → Bool
  | .tuple _ => true
  | _ => false
theorem kit_str (d : PyData) : kitB (tyN d) "str" = some (isS d) := by
  cases d <;> (simp only [tyN, isS, isT]; decide +kernel)
theorem kit_tup (d : PyData) : kitB (tyN d) "tuple" = some (isT d) := by
  cases d <;> (simp only [tyN, isS, isT]; decide +kernel)
/-- isinstance(v, str) -/
theorem isi_str {K : PySem.W.Frag} {d : PyData} {v : V} {Q : VK} (h : Od g p H v d) (q : Q (.bl (isS d)) H) : rIsi K [v, .ty "str"] H Q := ⟨v, .ty "str", _, _, _, rfl, .ty "str", h.ty, kit_ty (kit_str d), q⟩
/-- isinstance(v, tuple) -/
theorem isi_tup {K : PySem.W.Frag} {d : PyData} {v : V} {Q : VK} (h : Od g p H v d) (q : Q (.bl (isT d)) H) : rIsi K [v, .ty "tuple"] H Q := ⟨v, .ty "tuple", _, _, _, rfl, .ty "tuple", h.ty, kit_ty (kit_tup d), q⟩
end
end Sf
/-! The program's text, by places; the reader's object; trees on the heap. -/
namespace Sf4
open PySem PySem.Spec PyProof.Rows L2 Sf
def topS (i : Nat) : Stmt := PySem.Challenge.pw_siftstore_k31_nodes_of_any_form.main.body.getD i (.Pass ⟨0, 0, 0, 0⟩)
abbrev cRd : Stmt := topS 25
abbrev sRp : Stmt := topS 26
abbrev sSize : Stmt := topS 28
abbrev cWr : Stmt := topS 29
abbrev sWrt : Stmt := topS 30
abbrev sIsI : Stmt := topS 33
abbrev cPat : Stmt := topS 34
abbrev sRI : Stmt := inClass cRd 0
abbrev sSign : Stmt := inClass cRd 1
abbrev sSkips : Stmt := inClass cRd 2
abbrev sDemand : Stmt := inClass cRd 3
abbrev sWhole : Stmt := inClass cRd 4
abbrev sChoice : Stmt := inClass cRd 5
abbrev sChain : Stmt := inClass cRd 6
abbrev sItem : Stmt := inClass cRd 7
abbrev sNumber : Stmt := inClass cRd 8
abbrev sUnit : Stmt := inClass cRd 9
abbrev sGroup : Stmt := inClass cRd 10
abbrev sCapture : Stmt := inClass cRd 11
abbrev sClass : Stmt := inClass cRd 12
abbrev sPart : Stmt := inClass cRd 13
/-- a method, where it stands -/
structure Mt (K : PySem.W.Frag) (C : Addr) (x qual : Str) (st : Stmt) (ps : List Str) (f : Addr) (fd : FuncData) : Prop where
  F : Fun K x qual st f fd
  b : Binds K fd ps []
  m : Meth K C x f
def LSs : Str := Str.ofString " 0123456789_abcdefghijklmnopqrstuvwxyz"
/-- what the reader's methods find -/
structure RT (K : PySem.W.Frag) (w : World) (mg : Str → Option Value) (C : Addr) (f : Nat → Addr) (fd : Nat → FuncData) (tk : Nat → Tok) (cd : Addr) (ces : Array DictEntry) (cn : Nat) (ct : Nat → Addr) : Prop where
  cl : Cls K C
  nStr : NoAttr K C "string"
  nSp : NoAttr K C "spot"
  nNm : NoAttr K C "names"
  nMo : NoAttr K C "many_open"
  mI : Mt K C "__init__" "PatternReader.__init__" sRI ["self", "string"] (f 0) (fd 0)
  mSign : Mt K C "sign" "PatternReader.sign" sSign ["self"] (f 1) (fd 1)
  mSkips : Mt K C "skips" "PatternReader.skips" sSkips ["self", "sign"] (f 2) (fd 2)
  mDemand : Mt K C "demand" "PatternReader.demand" sDemand ["self", "is_right"] (f 3) (fd 3)
  mWhole : Mt K C "read_whole" "PatternReader.read_whole" sWhole ["self"] (f 4) (fd 4)
  mChoice : Mt K C "read_choice" "PatternReader.read_choice" sChoice ["self"] (f 5) (fd 5)
  mChain : Mt K C "read_chain" "PatternReader.read_chain" sChain ["self"] (f 6) (fd 6)
  mItem : Mt K C "read_item" "PatternReader.read_item" sItem ["self"] (f 7) (fd 7)
  mNumber : Mt K C "read_number" "PatternReader.read_number" sNumber ["self"] (f 8) (fd 8)
  mUnit : Mt K C "read_unit" "PatternReader.read_unit" sUnit ["self"] (f 9) (fd 9)
  mGroup : Mt K C "read_group" "PatternReader.read_group" sGroup ["self"] (f 10) (fd 10)
  mCapture : Mt K C "read_capture" "PatternReader.read_capture" sCapture ["self"] (f 11) (fd 11)
  mClass : Mt K C "read_class" "PatternReader.read_class" sClass ["self"] (f 12) (fd 12)
  mPart : Mt K C "read_part" "PatternReader.read_part" sPart ["self"] (f 13) (fd 13)
  gLet : mg "LETTERS" = some (.str LSs (tk 0))
  gBeg : mg "BEGIN" = some (.str (Str.ofString "^") (tk 1))
  gEnd : mg "END" = some (.str (Str.ofString "$") (tk 2))
  gDig : mg "DIGITS" = some (.str (Str.ofString "0123456789") (tk 3))
  gSma : mg "SMALL" = some (.str (Str.ofString "abcdefghijklmnopqrstuvwxyz") (tk 4))
  gMS : mg "MOST_SIGNS_parsing" = some (.int 60 (tk 5))
  gMO : mg "MOST_OPEN" = some (.int 8 (tk 6))
  gMN : mg "MOST_NAME" = some (.int 8 (tk 7))
  gMC : mg "MOST_COUNT" = some (.int 20 (tk 8))
  gPl : mg "PLACE" = some (.str (Str.ofString "place") (tk 9))
  gCh : mg "CHAIN" = some (.str (Str.ofString "chain") (tk 10))
  gAl : mg "CHOICE" = some (.str (Str.ofString "choice") (tk 11))
  gCo : mg "COUNT" = some (.str (Str.ofString "count") (tk 12))
  gCa : mg "CAPTURE" = some (.str (Str.ofString "capture") (tk 13))
  gEm : mg "EMPTY" = some (.str (Str.ofString "empty") (tk 14))
  gCs : mg "COUNTS" = some (.ref cd)
  kd : KDict K w cd ces cn
  c1 : PySem.W.nsIn K cd (Str.ofString "*") = some (some (.ref (ct 0)))
  c2 : PySem.W.nsIn K cd (Str.ofString "+") = some (some (.ref (ct 1)))
  c3 : PySem.W.nsIn K cd (Str.ofString "?") = some (some (.ref (ct 2)))
  c0 : ∀ z : Str, z ≠ Str.ofString "*" → z ≠ Str.ofString "+" → z ≠ Str.ofString "?" → PySem.W.nsIn K cd z = some none
  t1 : ∀ H : Hp, SqT K H (ct 0) [.int 0, .non]
  t2 : ∀ H : Hp, SqT K H (ct 1) [.int 1, .non]
  t3 : ∀ H : Hp, SqT K H (ct 2) [.int 0, .int 1]
  mkC : Mk K C (f 0)
  gC : mg "PatternReader" = some (.ref C)
  zisi : mg "isinstance" = none
  zlen : mg "len" = none
  zint : mg "int" = none
  zstr : mg "str" = none
  ztup : mg "tuple" = none
theorem smU {H : Hp} {p : Addr} {o : HO} (h : H p = none) : Same H (upd H p o) := fun b u e => by
  rw [upd_ne (ne_of_none e h)]
  exact e
/-! ### the object -/
def rf (Z : List Nat) (s : Nat) (l : Addr) (m : Int) : List (Str × V) := [("string", .str (tx Z)), ("spot", .int s), ("names", .ref l), ("many_open", .int m)]
theorem lk_eq {k : Str} {v : V} {r : List (Str × V)} : List.lookup k ((k, v) :: r) = some v := by
  have hb : (k == k) = true := beq_iff_eq.mpr rfl
  simp only [List.lookup, hb]
theorem lk_ne {k g : Str} {v : V} {r : List (Str × V)} (h : ¬ k = g) : List.lookup k ((g, v) :: r) = List.lookup k r := by
  have hb : (k == g) = false := beq_eq_false_iff_ne.mpr h
  simp only [List.lookup, hb]
theorem pt_eq {k : Str} {v x : V} {r : List (Str × V)} : putF k v ((k, x) :: r) = (k, v) :: r := if_pos rfl
theorem pt_ne {k g : Str} {v x : V} {r : List (Str × V)} (h : ¬ g = k) : putF k v ((g, x) :: r) = (g, x) :: putF k v r := if_neg h
section
variable {Z : List Nat} {s : Nat} {l : Addr} {m : Int}
theorem rf_string : (rf Z s l m).lookup ("string" : Str) = some (.str (tx Z)) := lk_eq
theorem rf_spot : (rf Z s l m).lookup ("spot" : Str) = some (.int s) := (lk_ne (by decide +kernel)).trans lk_eq
theorem rf_names : (rf Z s l m).lookup ("names" : Str) = some (.ref l) := (lk_ne (by decide +kernel)).trans ((lk_ne (by decide +kernel)).trans lk_eq)
theorem rf_open : (rf Z s l m).lookup ("many_open" : Str) = some (.int m) := (lk_ne (by decide +kernel)).trans ((lk_ne (by decide +kernel)).trans ((lk_ne (by decide +kernel)).trans lk_eq))
theorem rf_no {k : Str} (h1 : ¬ k = "string") (h2 : ¬ k = "spot") (h3 : ¬ k = "names") (h4 : ¬ k = "many_open") : (rf Z s l m).lookup k = none := (lk_ne h1).trans ((lk_ne h2).trans ((lk_ne h3).trans ((lk_ne h4).trans rfl)))
theorem rf_pspot (s' : Nat) : putF "spot" (.int s') (rf Z s l m) = rf Z s' l m := (pt_ne (by decide +kernel)).trans (by rw [pt_eq] <;> rfl)
theorem rf_popen (m' : Int) : putF "many_open" (.int m') (rf Z s l m) = rf Z s l m' := (pt_ne (by decide +kernel)).trans (by rw [pt_ne (by decide +kernel), pt_ne (by decide +kernel), pt_eq] <;> rfl)
end
def nmV (nm : Nm) : List V := nm.map fun n => V.str (tx n)
/-- the reader at p with its names' list at l -/
structure RdA (C : Addr) (Z : List Nat) (p dx l : Addr) (H : Hp) (s : Nat) (nm : Nm) (m : Int) : Prop where
  e : H p = some (.ins C dx (rf Z s l m))
  n : H l = some (.lst (nmV nm))
  k : nm.length ≤ s
  z : Z.length ≤ 60
/-- all else stands as it stood -/
def K2 (p l : Addr) (H H' : Hp) : Prop := ∀ b o, b ≠ p → b ≠ l → H b = some o → H' b = some o
theorem K2.refl (p l : Addr) (H : Hp) : K2 p l H H := fun _ _ _ _ h => h
theorem K2.trans {p l : Addr} {H H1 H2 : Hp} (a : K2 p l H H1) (b : K2 p l H1 H2) : K2 p l H H2 := fun c o n1 n2 h => b c o n1 n2 (a c o n1 n2 h)
theorem K2.same {p l : Addr} {H H1 : Hp} (a : Same H H1) : K2 p l H H1 := fun c o _ _ h => a c o h
theorem K2.p {p l : Addr} {H : Hp} {o : HO} : K2 p l H (upd H p o) := fun c u n _ h => by
  rw [upd_ne n]
  exact h
theorem K2.l {p l : Addr} {H : Hp} {o : HO} : K2 p l H (upd H l o) := fun c u _ n h => by
  rw [upd_ne n]
  exact h
section
variable {C p dx l : Addr} {Z : List Nat} {H H' : Hp} {s : Nat} {nm : Nm} {m : Int}
theorem RdA.ne (R : RdA C Z p dx l H s nm m) : p ≠ l := ne_of R.e R.n (by intro z; cases z)
theorem RdA.spot (R : RdA C Z p dx l H s nm m) (s' : Nat) (h : s ≤ s') : RdA C Z p dx l (upd H p (.ins C dx (putF "spot" (.int s') (rf Z s l m)))) s' nm m := ⟨by rw [upd_same, rf_pspot], by rw [upd_ne R.ne.symm]; exact R.n, Nat.le_trans R.k h, R.z⟩
theorem RdA.opn (R : RdA C Z p dx l H s nm m) (m' : Int) : RdA C Z p dx l (upd H p (.ins C dx (putF "many_open" (.int m') (rf Z s l m)))) s nm m' := ⟨by rw [upd_same, rf_popen], by rw [upd_ne R.ne.symm]; exact R.n, R.k, R.z⟩
theorem RdA.nam (R : RdA C Z p dx l H s nm m) (n : List Nat) (h : nm.length < s) : RdA C Z p dx l (upd H l (.lst (nmV nm ++ [.str (tx n)]))) s (nm ++ [n]) m := ⟨by rw [upd_ne R.ne]; exact R.e, by rw [upd_same]; unfold nmV; rw [List.map_append] <;> rfl, by rw [List.length_append, List.length_singleton]; omega, R.z⟩
theorem RdA.up (R : RdA C Z p dx l H s nm m) (a : Same H H') : RdA C Z p dx l H' s nm m := ⟨a _ _ R.e, a _ _ R.n, R.k, R.z⟩
theorem RdA.p0 (R : RdA C Z p dx l H s nm m) {b : Addr} (h : H b = none) : b ≠ p := fun z => by
  have := R.e
  rw [← z, h] at this
  cases this
theorem RdA.l0 (R : RdA C Z p dx l H s nm m) {b : Addr} (h : H b = none) : b ≠ l := fun z => by
  have := R.n
  rw [← z, h] at this
  cases this
/-- a list of one's own that is new changes nothing of what stood ahead of it -/
theorem K2.put {H3 H4 : Hp} {D : Addr} {o : HO} (k3 : K2 p l H H3) (k4 : K2 p l H H4) (n : H3 D = none) : K2 p l H (upd H4 D o) := fun c u n1 n2 h => by
  rw [upd_ne (ne_of_none (k3 c u n1 n2 h) n)]
  exact k4 c u n1 n2 h
theorem RdA.wr (R : RdA C Z p dx l H s nm m) {D : Addr} {o : HO} (n1 : D ≠ p) (n2 : D ≠ l) : RdA C Z p dx l (upd H D o) s nm m := ⟨by rw [upd_ne n1.symm]; exact R.e, by rw [upd_ne n2.symm]; exact R.n, R.k, R.z⟩
theorem RdA.tp (R : RdA C Z p dx l H s nm m) {b : Addr} {xs : List V} (h : H b = some (.tup xs)) : b ≠ p ∧ b ≠ l := by
  refine ⟨fun z => ?_, fun z => ?_⟩
  · have := R.e
    rw [← z, h] at this
    cases this
  · have := R.n
    rw [← z, h] at this
    cases this
end
/-! ### trees -/
def plW : Str := Str.ofString "place"
def chW : Str := Str.ofString "chain"
def alW : Str := Str.ofString "choice"
def coW : Str := Str.ofString "count"
def caW : Str := Str.ofString "capture"
def emW : Str := Str.ofString "empty"
def mst : Option Nat → V
  | none => .non
  | some b => .int b
mutual
/-- v is the tree -/
inductive TrO (H : Hp) : V → Tr → Prop
  | place {a : Addr} {s : List Nat} : H a = some (.tup [.str plW, .str (tx s)]) → TrO H (.ref a) (.place s)
  | chain {a b : Addr} {vs : List V} {l : List Tr} : H a = some (.tup [.str chW, .ref b]) → H b = some (.tup vs) → TrOs H vs l → TrO H (.ref a) (.chain l)
  | choice {a b : Addr} {vs : List V} {l : List Tr} : H a = some (.tup [.str alW, .ref b]) → H b = some (.tup vs) → TrOs H vs l → TrO H (.ref a) (.choice l)
  | count {a : Addr} {c : Nat} {d : Option Nat} {v : V} {t : Tr} : H a = some (.tup [.str coW, .int c, mst d, v]) → TrO H v t → TrO H (.ref a) (.count c d t)
  | capture {a : Addr} {n : List Nat} {v : V} {t : Tr} : H a = some (.tup [.str caW, .str (tx n), v]) → TrO H v t → TrO H (.ref a) (.capture n t)
  | empty {a : Addr} : H a = some (.tup [.str emW]) → TrO H (.ref a) .empty
inductive TrOs (H : Hp) : List V → List Tr → Prop
  | nil : TrOs H [] []
  | cons {v : V} {vs : List V} {t : Tr} {ts : List Tr} : TrO H v t → TrOs H vs ts → TrOs H (v :: vs) (t :: ts)
end
/-- tuples stay -/
def KT (H H' : Hp) : Prop := ∀ b xs, H b = some (.tup xs) → H' b = some (.tup xs)
theorem KT.trans {H H1 H2 : Hp} (a : KT H H1) (b : KT H1 H2) : KT H H2 := fun c xs h => b c xs (a c xs h)
theorem KT.same {H H1 : Hp} (a : Same H H1) : KT H H1 := fun c xs h => a c _ h
theorem RdA.kt {C p dx l : Addr} {Z : List Nat} {H H' : Hp} {s : Nat} {nm : Nm} {m : Int} (R : RdA C Z p dx l H s nm m) (k : K2 p l H H') : KT H H' := fun b xs h => k b _ (R.tp h).1 (R.tp h).2 h
mutual
theorem TrO.mono {H H' : Hp} (k : KT H H') : ∀ {t : Tr} {v : V}, TrO H v t → TrO H' v t
  | .place s, _, h => by
    cases h with
    | place e => exact .place (k _ _ e)
  | .chain l, _, h => by
    cases h with
    | chain e e2 r => exact .chain (k _ _ e) (k _ _ e2) (TrOs.mono k r)
  | .choice l, _, h => by
    cases h with
    | choice e e2 r => exact .choice (k _ _ e) (k _ _ e2) (TrOs.mono k r)
  | .count c d t, _, h => by
    cases h with
    | count e r => exact .count (k _ _ e) (TrO.mono k r)
  | .capture n t, _, h => by
    cases h with
    | capture e r => exact .capture (k _ _ e) (TrO.mono k r)
  | .empty, _, h => by
    cases h with
    | empty e => exact .empty (k _ _ e)
theorem TrOs.mono {H H' : Hp} (k : KT H H') : ∀ {ts : List Tr} {vs : List V}, TrOs H vs ts → TrOs H' vs ts
  | [], _, h => by
    cases h
    exact .nil
  | t :: ts, _, h => by
    cases h with
    | cons e r => exact .cons (TrO.mono k e) (TrOs.mono k r)
end
theorem TrOs.len {H : Hp} : ∀ {ts : List Tr} {vs : List V}, TrOs H vs ts → vs.length = ts.length
  | [], _, h => by
    cases h
    rfl
  | t :: ts, _, h => by
    cases h with
    | cons e r => rw [List.length_cons, List.length_cons, r.len]
theorem TrOs.snoc {H : Hp} : ∀ {ts : List Tr} {vs : List V} {v : V} {t : Tr}, TrOs H vs ts → TrO H v t → TrOs H (vs ++ [v]) (ts ++ [t])
  | [], _, _, _, h, k => by
    cases h
    exact .cons k .nil
  | t :: ts, _, _, _, h, k => by
    cases h with
    | cons e r => exact .cons e (r.snoc k)
/-! ### signs -/
def sg (Z : List Nat) (s : Nat) : List Nat := (Z.drop s).take 1
theorem sg_some {Z : List Nat} {s c : Nat} (h : Z[s]? = some c) : sg Z s = [c] := by
  unfold sg
  obtain ⟨hl, e⟩ := List.getElem?_eq_some_iff.mp h
  rw [List.drop_eq_getElem_cons hl, e] <;> rfl
theorem sg_none {Z : List Nat} {s : Nat} (h : Z[s]? = none) : sg Z s = [] := by
  unfold sg
  rw [List.drop_eq_nil_of_le (List.getElem?_eq_none_iff.mp h)] <;> rfl
theorem tx_inj {a b : List Nat} (h : tx a = tx b) : a = b := by
  have h := congrArg (fun z : Str => z.cps.toList) h
  exact h
theorem sg_ne {Z : List Nat} {s c : Nat} (h : Z[s]? ≠ some c) : tx (sg Z s) ≠ tx [c] := fun z => by
  have z := tx_inj z
  cases e : Z[s]? with
  | none =>
    rw [sg_none e] at z
    cases z
  | some d =>
    rw [sg_some e] at z
    cases z
    exact h e
theorem tx_len (Z : List Nat) : (tx Z).length = Z.length := by
  show Z.toArray.size = Z.length
  rw [List.size_toArray]
theorem cut_sub (Z : List Nat) (a b : Nat) : cutS (tx Z) (some (a : Int)) (some (b : Int)) = tx ((Z.drop a).take (b - a)) := by
  unfold cutS HT.sIx
  have hl : (tx Z).length = Z.length := tx_len Z
  have n1 : ¬ ((a : Int) < 0) := by omega
  have n2 : ¬ ((b : Int) < 0) := by omega
  dsimp only
  rw [hl, if_neg n1, if_neg n2, Int.toNat_natCast, Int.toNat_natCast]
  show tx ((Z.drop (min a Z.length)).take (min b Z.length - min a Z.length)) = _
  congr 1
  apply List.ext_getElem?
  intro i
  rw [List.getElem?_take, List.getElem?_take, List.getElem?_drop, List.getElem?_drop]
  by_cases h : a + i < Z.length
  · have e1 : min a Z.length = a := by omega
    rw [e1]
    by_cases h2 : i < b - a
    · rw [if_pos h2, if_pos (by omega)]
    · rw [if_neg h2, if_neg (by omega)]
  · have e1 : Z[a + i]? = none := List.getElem?_eq_none_iff.mpr (by omega)
    rw [e1]
    by_cases h2 : i < min b Z.length - min a Z.length
    · have e2 : Z[min a Z.length + i]? = none := List.getElem?_eq_none_iff.mpr (by omega)
      rw [e2]
      split <;> split <;> rfl
    · rw [if_neg h2]
      split <;> rfl
theorem sg_cut (Z : List Nat) (s : Nat) : cutS (tx Z) (some (s : Int)) (some ((s : Int) + 1)) = tx (sg Z s) := by
  have h := cut_sub Z s (s + 1)
  rw [show s + 1 - s = 1 by omega] at h
  exact h
theorem tx_len60 {Z : List Nat} (h : Z.length ≤ 60) : (tx Z).length ≤ sizeLine := by
  rw [tx_len]
  exact Nat.le_trans h (by decide)
end Sf4
namespace Sf4
open PySem PySem.Spec PyProof.Rows L2 Sf
theorem scSign : FnScope ["self"] ["self"] (defScope sSign) := ⟨rfl, rfl, rfl, by decide +kernel, rfl, by decide +kernel, by decide +kernel⟩
theorem scSkips : FnScope ["self", "sign"] ["self", "sign"] (defScope sSkips) := ⟨rfl, rfl, rfl, by decide +kernel, rfl, by decide +kernel, by decide +kernel⟩
theorem scDemand : FnScope ["self", "is_right"] ["self", "is_right"] (defScope sDemand) := ⟨rfl, rfl, rfl, by decide +kernel, rfl, by decide +kernel, by decide +kernel⟩
def spSign (C : Addr) : Sp := fun vs H Q _ => ∃ (Z : List Nat) (p dx l : Addr) (s : Nat) (nm : Nm) (m : Int), vs = [.ref p] ∧ RdA C Z p dx l H s nm m ∧ Q (.str (tx (sg Z s))) H
def spSkips (C : Addr) : Sp := fun vs H Q _ => ∃ (Z : List Nat) (p dx l : Addr) (s : Nat) (nm : Nm) (m : Int) (c : Nat), vs = [.ref p, .str (tx [c])] ∧ RdA C Z p dx l H s nm m ∧
  (Z[s]? = some c → ∀ H', RdA C Z p dx l H' (s + 1) nm m → K2 p l H H' → Q (.bl true) H') ∧ (Z[s]? ≠ some c → Q (.bl false) H)
def spDemand (C : Addr) : Sp := fun vs H Q _ => ∃ (p : Addr), vs = [.ref p, .bl true] ∧ Q .non H
section
variable {P : Program} {w : World} {K : PySem.W.Frag} {mg : Str → Option Value} {base : Heap} {C : Addr} {f : Nat → Addr} {fd : Nat → FuncData} {tk : Nat → Tok} {cd : Addr} {ces : Array DictEntry} {cn : Nat} {ct : Nat → Addr}
theorem ok_sign (T : RT K w mg C f fd tk cd ces cn ct) : FnOk P w K mg base CX0 1 (f 1) (fd 1) ["self"] (spSign C) := by
  refine T.mSign.F.ok scSign (fun vs H Q E h => ?_) (fun cdv A outer s H vs Q E hr h => ?_)
  · obtain ⟨Z, p, dx, l, s, nm, m, rfl, _⟩ := h
    rfl
  · obtain ⟨Z, p, dx, l, s, nm, m, rfl, R, q⟩ := h
    refine ⟨_, pss_one (ps_ret (pe_slice sl_str (pe_fld (pv 0) rfl) (po_some (pe_fld (pv 0) rfl)) (po_some (pe_op op_add (pe_fld (pv 0) rfl) pe_int)))), ?_⟩
    refine ⟨.ref p, rfl, p, C, dx, _, _, rfl, R.e, T.cl, T.nStr, rf_string, .ref p, rfl, p, C, dx, _, _, rfl, R.e, T.cl, T.nSp, rf_spot, _, rfl, .ref p, rfl, p, C, dx, _, _, rfl, R.e, T.cl, T.nSp, rf_spot, _, _, rfl, rfl, _, rfl, _, rfl, tx_len60 R.z, ?_⟩
    rw [sg_cut]
    exact q
theorem ok_skips (T : RT K w mg C f fd tk cd ces cn ct) : FnOk P w K mg base CX0 2 (f 2) (fd 2) ["self", "sign"] (spSkips C) := by
  refine T.mSkips.F.ok scSkips (fun vs H Q E h => ?_) (fun cdv A outer s H vs Q E hr h => ?_)
  · obtain ⟨Z, p, dx, l, s, nm, m, c, rfl, _⟩ := h
    rfl
  · obtain ⟨Z, p, dx, l, s, nm, m, c, rfl, R, q1, q2⟩ := h
    refine ⟨_, pss_cons (ps_if (pt_cmpR op_ne (pe_meth0 (pv 0) T.cl T.mSign.m (ok_sign T) hr T.mSign.b .nil pass0) (pv 1) (nomark _)) (pss_one (ps_ret pe_bl)) pss_nil)
      (pss_cons (ps_fldaug (pv 0) pe_int in_add) (pss_one (ps_ret pe_bl))), ?_⟩
    have nS : (rf Z s l m).lookup ("sign" : Str) = none := rf_no (by decide +kernel) (by decide +kernel) (by decide +kernel) (by decide +kernel)
    refine ⟨.ref p, rfl, p, dx, _, rfl, R.e, nS, Z, p, dx, l, s, nm, m, rfl, R, .str (tx [c]), rfl, rfl, _, rfl, ?_⟩
    by_cases h : Z[s]? = some c
    · rw [sg_some h]
      refine iteNS rfl ?_
      refine ⟨.ref p, rfl, p, C, dx, _, _, rfl, R.e, T.cl, T.nSp, rf_spot, _, _, rfl, rfl, dx, _, R.e, (show 4 < 1000 by decide), ?_⟩
      exact q1 h _ (R.spot (s + 1) (Nat.le_succ s)) K2.p
    · have n : ¬ (V.str (tx (sg Z s)) = V.str (tx [c])) := fun z => sg_ne h (V.str.inj z)
      rw [decide_eq_false n]
      exact iteT (q2 h)
theorem ok_demand (T : RT K w mg C f fd tk cd ces cn ct) : FnOk P w K mg base CX0 1 (f 3) (fd 3) ["self", "is_right"] (spDemand C) := by
  refine T.mDemand.F.ok scDemand (fun vs H Q E h => ?_) (fun cdv A outer s H vs Q E hr h => ?_)
  · obtain ⟨p, rfl, _⟩ := h
    rfl
  · obtain ⟨p, rfl, q⟩ := h
    refine ⟨_, pss_one (ps_if (pt_not (pt_val (pv 1))) pss_never pss_nil), ?_⟩
    exact ⟨.bl true, rfl, true, rfl, iteF q⟩
end
end Sf4
namespace Sf4
open PySem PySem.Spec PyProof.Rows L2 Sf
theorem scNumber : FnScope ["self", "begin", "word"] ["self"] (defScope sNumber) := ⟨rfl, rfl, rfl, by decide +kernel, rfl, by decide +kernel, by decide +kernel⟩
theorem scPart : FnScope ["self", "first", "last"] ["self"] (defScope sPart) := ⟨rfl, rfl, rfl, by decide +kernel, rfl, by decide +kernel, by decide +kernel⟩
/-- int(text) -/
theorem call_intT {X : Cx} : CallR X (.type "int") (fun xs H Q => ∃ (x : Str) (n : Int), xs = [.str x] ∧ PySem.intText? x = some n ∧ x.length ≤ 640 ∧ Q (.int n) H) := by
  intro pins s σ H xs us Q I r h
  obtain ⟨x, n, rfl, hn, hl, q⟩ := h
  obtain ⟨u, rfl, r1⟩ := vals1 r
  obtain ⟨t1, rfl⟩ := r1
  exact PySem.W.KIN.call_text hn hl ⟨.int n, H, I.tok _, ⟨_, rfl⟩, q⟩
def spNumber (C : Addr) : Sp := fun vs H Q _ => ∃ (Z : List Nat) (p dx l : Addr) (s : Nat) (nm : Nm) (m : Int) (v q : Nat), vs = [.ref p] ∧ RdA C Z p dx l H s nm m ∧ RNum Z s v q ∧
  ∀ H', RdA C Z p dx l H' q nm m → K2 p l H H' → Q (.int v) H'
def spPart (C : Addr) : Sp := fun vs H Q _ => ∃ (Z : List Nat) (p dx l : Addr) (s : Nat) (nm : Nm) (m : Int) (c : Nat), vs = [.ref p] ∧ RdA C Z p dx l H s nm m ∧ Z[s]? = some c ∧ c ∈ LETc ∧ Z[s + 1]? ≠ some 45 ∧
  ∀ H', RdA C Z p dx l H' (s + 1) nm m → K2 p l H H' → Q (.str (tx [c])) H'
theorem one_num : ∀ c, c < 58 → 48 ≤ c → PySem.intText? (tx [c]) = some (((c - 48 : Nat) : Int)) := by decide +kernel
theorem two_num : ∀ c, c < 58 → ∀ d, d < 58 → 48 ≤ c → 48 ≤ d → PySem.intText? (tx [c, d]) = some (((10 * (c - 48) + (d - 48) : Nat) : Int)) := by decide +kernel
theorem digS (c : Nat) : c ∈ (Str.ofString "0123456789").cps.toList ↔ digit c := by
  rw [show (Str.ofString "0123456789").cps.toList = [48, 49, 50, 51, 52, 53, 54, 55, 56, 57] by decide +kernel]
  simp only [List.mem_cons, List.not_mem_nil, or_false]
  unfold digit
  omega
theorem take_one {Z : List Nat} {s c : Nat} (h : Z[s]? = some c) : (Z.drop s).take 1 = [c] := sg_some h
theorem take_two {Z : List Nat} {s c d : Nat} (h : Z[s]? = some c) (h2 : Z[s + 1]? = some d) : (Z.drop s).take 2 = [c, d] := by
  obtain ⟨hl, e⟩ := List.getElem?_eq_some_iff.mp h
  obtain ⟨hl2, e2⟩ := List.getElem?_eq_some_iff.mp h2
  rw [List.drop_eq_getElem_cons hl, e, List.drop_eq_getElem_cons hl2, e2] <;> rfl
/-- what the word of a number is like -/
theorem num_word {Z : List Nat} {s v q : Nat} (h : RNum Z s v q) : ∃ (c : Nat) (r : List Nat), (Z.drop s).take (q - s) = c :: r ∧ r.length ≤ 1 ∧ (c :: r = [48] ∨ c ≠ 48) ∧ PySem.intText? (tx (c :: r)) = some ((v : Nat) : Int) ∧ v ≤ 20 ∧ s < q ∧
    (∀ i, s ≤ i → i < q → ∃ c, Z[i]? = some c ∧ digit c) ∧ ∀ e, Z[q]? = some e → ¬ digit e := by
  cases h with
  | one h1 h2 h3 =>
    rename_i c
    refine ⟨c, [], ?_, Nat.zero_le _, ?_, ?_, ?_, Nat.lt_succ_self _, fun i h4 h5 => ?_, h3⟩
    · rw [show s + 1 - s = 1 by omega]
      exact take_one h1
    · by_cases z : c = 48
      · exact .inl (by rw [z])
      · exact .inr z
    · exact one_num c (by have := h2.2; omega) h2.1
    · have := h2.2
      omega
    · obtain rfl : i = s := by omega
      exact ⟨c, h1, h2⟩
  | two h1 h2 h3 h4 h5 h6 h7 =>
    rename_i c d
    refine ⟨c, [d], ?_, Nat.le_refl _, .inr h3, ?_, h7, by omega, fun i h8 h9 => ?_, h6⟩
    · rw [show s + 2 - s = 2 by omega]
      exact take_two h1 h4
    · exact two_num c (by have := h2.2; omega) d (by have := h5.2; omega) h2.1 h5.1
    · by_cases z : i = s
      · exact z ▸ ⟨c, h1, h2⟩
      · obtain rfl : i = s + 1 := by omega
        exact ⟨d, h4, h5⟩
theorem em_ne {c : Nat} {r : List Nat} : ¬ (V.str (tx (c :: r)) = V.str (Str.ofString "")) := fun z => by
  have z := congrArg (fun z : Str => z.cps.toList) (V.str.inj z)
  have z : c :: r = (Str.ofString "").cps.toList := z
  rw [show (Str.ofString "").cps.toList = [] by decide +kernel] at z
  cases z
theorem em_eq : V.str (tx []) = V.str (Str.ofString "") := by decide +kernel
theorem LS_cps : LSs.cps.toList = LETc := by decide +kernel
theorem inLS {c : Nat} : c ∈ LSs.cps.toList ↔ c ∈ LETc := by rw [LS_cps]
section
variable {P : Program} {w : World} {K : PySem.W.Frag} {mg : Str → Option Value} {base : Heap} {C : Addr} {f : Nat → Addr} {fd : Nat → FuncData} {tk : Nat → Tok} {cd : Addr} {ces : Array DictEntry} {cn : Nat} {ct : Nat → Addr}
theorem ok_number (T : RT K w mg C f fd tk cd ces cn ct) : FnOk P w K mg base CX0 2 (f 8) (fd 8) ["self"] (spNumber C) := by
  refine T.mNumber.F.ok scNumber (fun vs H Q E h => ?_) (fun cdv A outer s H vs Q E hr h => ?_)
  · obtain ⟨Z, p, dx, l, s, nm, m, v, q, rfl, _⟩ := h
    rfl
  · obtain ⟨Z, p, dx, l, s, nm, m, v, e, rfl, R, hn, q⟩ := h
    obtain ⟨c, r, hw, hr1, h48, hi, hv, hse, hd, hend⟩ := num_word hn
    have G := ok_sign (P := P) (base := base) T
    refine ⟨_, pss_cons (ps_set (i := 1) scNumber.nd rfl (.inl rfl) (pe_fld (pv 0) rfl))
      (Evl.pss_cut (ps_while PassesOwn.never (PW.pt (pw_and (pt_cmpR op_ne (pe_meth0 (pv 0) T.cl T.mSign.m G hr T.mSign.b .nil pass0) pe_str (nomark _))
          (pw_and1 (pt_cmpR op_in_sign (pe_meth0 (pv 0) T.cl T.mSign.m G hr T.mSign.b .nil pass0) (pe_glob (v := .str (Str.ofString "0123456789")) rfl T.gDig ⟨_, rfl⟩) rfl))))
        (pss_one (ps_fldaug (pv 0) pe_int in_add)))
      (pss_cons (ps_set (i := 2) scNumber.nd rfl (.inl rfl) (pe_slice sl_str (pe_fld (pv 0) rfl) (po_some (pv 1)) (po_some (pe_fld (pv 0) rfl))))
      (Evl.pss_cut (ps_expr (pe_meth (pv 0) T.cl T.mDemand.m (ok_demand T) (hr.mono (by decide)) T.mDemand.b .nil pass0 (pa_cons
          (pe_and (pe_chain op_le op_le pe_int (pe_callB call_len_str (by rfl) T.zlen PySem.boot_len (pa_cons (pv 2) pa_nil))
              (pe_callB call_len_str (by rfl) T.zlen PySem.boot_len (pa_cons (pe_callTy call_str_int (by rfl) T.zstr (by decide +kernel) (pa_cons (pe_glob (v := .int 20) rfl T.gMC ⟨_, rfl⟩) pa_nil)) pa_nil)))
            (pe_one (pe_or (pe_cmpR op_eq (pv 2) pe_str (nomark _)) (pe_one (pe_cmpR op_ne (pe_ix ix_str (pv 2) pe_int (fun _ _ => rfl)) pe_str (nomark _)))))) pa_nil)))
      (pss_cons (ps_expr (pe_meth (pv 0) T.cl T.mDemand.m (ok_demand T) hr T.mDemand.b .nil pass0 (pa_cons
          (pe_cmpR op_le (pe_callTy call_intT (by rfl) T.zint PySem.Pv.boot_int (pa_cons (pv 2) pa_nil)) (pe_glob (v := .int 20) rfl T.gMC ⟨_, rfl⟩) (nomark _)) pa_nil)))
      (pss_one (ps_ret (pe_callTy call_intT (by rfl) T.zint PySem.Pv.boot_int (pa_cons (pv 2) pa_nil)))))))), ?_⟩
    have nS : ∀ s', (rf Z s' l m).lookup ("sign" : Str) = none := fun _ => rf_no (by decide +kernel) (by decide +kernel) (by decide +kernel) (by decide +kernel)
    have nD : ∀ s', (rf Z s' l m).lookup ("demand" : Str) = none := fun _ => rf_no (by decide +kernel) (by decide +kernel) (by decide +kernel) (by decide +kernel)
    refine ⟨.ref p, rfl, p, C, dx, _, _, rfl, R.e, T.cl, T.nSp, rf_spot, ?_⟩
    refine ⟨fun σ H1 => σ = [some (.ref p), some (.int s), none] ∧ RdA C Z p dx l H1 e nm m ∧ K2 p l H H1, ?_, fun σ H1 hM => ?_⟩
    · refine ⟨fun n σ H1 => ∃ s1, n = e - s1 ∧ s ≤ s1 ∧ s1 ≤ e ∧ σ = [some (.ref p), some (.int s), none] ∧ RdA C Z p dx l H1 s1 nm m ∧ K2 p l H H1, ⟨_, s, rfl, Nat.le_refl _, Nat.le_of_lt hse, rfl, R, K2.refl _ _ _⟩, ?_⟩
      rintro n σ H1 ⟨s1, rfl, ha, hb, rfl, R1, k1⟩
      refine ⟨.ref p, rfl, p, dx, _, rfl, R1.e, nS _, Z, p, dx, l, s1, nm, m, rfl, R1, rfl, _, rfl, ?_⟩
      by_cases hlt : s1 < e
      · obtain ⟨d, hz, hdd⟩ := hd s1 ha hlt
        rw [sg_some hz, decide_eq_false em_ne]
        refine iteT ⟨.ref p, rfl, p, dx, _, rfl, R1.e, nS _, Z, p, dx, l, s1, nm, m, rfl, R1, d, _, by rw [sg_some hz] <;> rfl, rfl, _, rfl, ?_⟩
        rw [decide_eq_true ((digS d).mpr hdd)]
        refine iteT ⟨fun σ' H' => ∃ s2, s2 = s1 + 1 ∧ σ' = [some (.ref p), some (.int s), none] ∧ RdA C Z p dx l H' s2 nm m ∧ K2 p l H H', fun σ' H' ⟨s2, h1, h2, h3, h4⟩ => ⟨e - s2, by omega, s2, rfl, by omega, by omega, h2, h3, h4⟩, ?_⟩
        refine ⟨.ref p, rfl, p, C, dx, _, _, rfl, R1.e, T.cl, T.nSp, rf_spot, _, _, rfl, rfl, dx, _, R1.e, (show 4 < 1000 by decide), ?_⟩
        exact ⟨s1 + 1, rfl, rfl, R1.spot (s1 + 1) (Nat.le_succ s1), k1.trans K2.p⟩
      · obtain rfl : s1 = e := by omega
        cases hz : Z[s1]? with
        | none =>
          rw [sg_none hz, decide_eq_true em_eq]
          exact iteF (iteF ⟨rfl, R1, k1⟩)
        | some d =>
          rw [sg_some hz, decide_eq_false em_ne]
          refine iteT ⟨.ref p, rfl, p, dx, _, rfl, R1.e, nS _, Z, p, dx, l, s1, nm, m, rfl, R1, d, _, by rw [sg_some hz] <;> rfl, rfl, _, rfl, ?_⟩
          rw [decide_eq_false fun z => hend d hz ((digS d).mp z)]
          exact iteF ⟨rfl, R1, k1⟩
    obtain ⟨rfl, R1, k1⟩ := hM
    refine ⟨.ref p, rfl, p, C, dx, _, _, rfl, R1.e, T.cl, T.nStr, rf_string, .int s, rfl, s, rfl, .ref p, rfl, p, C, dx, _, _, rfl, R1.e, T.cl, T.nSp, rf_spot, e, rfl, tx Z, rfl, tx_len60 R.z, ?_⟩
    rw [cut_sub, hw]
    have hl : (tx (c :: r)).length = r.length + 1 := tx_len _
    have hL : (tx (c :: r)).length ≤ sizeLine := by
      rw [hl]
      exact Nat.le_trans (show r.length + 1 ≤ 2 by omega) (by decide)
    have hL2 : (tx (c :: r)).length ≤ 640 := by
      rw [hl]
      omega
    have l2 : (toString (20 : Int) : Str).length = 2 := by decide +kernel
    refine ⟨fun σ H1 => σ = [some (.ref p), some (.int s), some (.str (tx (c :: r)))] ∧ RdA C Z p dx l H1 e nm m ∧ K2 p l H H1, ?_, fun σ H1 hM => ?_⟩
    refine ⟨.ref p, rfl, p, dx, _, rfl, R1.e, nD _, .str (tx (c :: r)), rfl, tx (c :: r), rfl, hL, _, _, rfl, rfl, _, rfl, ?_⟩
    rw [decide_eq_true (show (1 : Int) ≤ ((tx (c :: r)).length : Int) by rw [hl]; omega)]
    refine iteT ⟨20, rfl, by decide, _, rfl, by rw [l2]; decide, _, _, rfl, rfl, _, rfl, ?_⟩
    rw [decide_eq_true (show ((tx (c :: r)).length : Int) ≤ ((toString (20 : Int) : Str).length : Int) by rw [hl, l2]; omega)]
    refine iteT ⟨.str (tx (c :: r)), rfl, rfl, _, rfl, ?_⟩
    by_cases h0 : V.str (tx (c :: r)) = V.str (Str.ofString "0")
    · rw [decide_eq_true h0]
      exact iteT ⟨p, rfl, rfl, R1, k1⟩
    · rw [decide_eq_false h0]
      refine iteF ⟨.str (tx (c :: r)), rfl, tx (c :: r), 0, c, rfl, rfl, hL, atI_nat (j := 0) rfl, rfl, ?_⟩
      have nc : ¬ (V.str (⟨#[c]⟩ : Str) = V.str (Str.ofString "0")) := fun z => by
        have z := congrArg (fun z : Str => z.cps.toList) (V.str.inj z)
        have z : [c] = (Str.ofString "0").cps.toList := z
        rw [show (Str.ofString "0").cps.toList = [48] by decide +kernel] at z
        cases z
        rcases h48 with h48 | h48
        · exact h0 (by rw [h48]; decide +kernel)
        · exact h48 rfl
      rw [decide_eq_false nc]
      exact ⟨p, rfl, rfl, R1, k1⟩
    obtain ⟨rfl, R1, k1⟩ := hM
    refine ⟨.ref p, rfl, p, dx, _, rfl, R1.e, nD _, .str (tx (c :: r)), rfl, tx (c :: r), _, rfl, hi, hL2, _, _, rfl, rfl, ?_⟩
    refine ⟨p, ?_, .str (tx (c :: r)), rfl, tx (c :: r), _, rfl, hi, hL2, q _ R1 k1⟩
    show [V.ref p, V.bl (decide ((v : Int) ≤ 20))] = _
    rw [decide_eq_true (show ((v : Nat) : Int) ≤ 20 by omega)]
theorem ok_part (T : RT K w mg C f fd tk cd ces cn ct) : FnOk P w K mg base CX0 3 (f 13) (fd 13) ["self"] (spPart C) := by
  refine T.mPart.F.ok scPart (fun vs H Q E h => ?_) (fun cdv A outer s H vs Q E hr h => ?_)
  · obtain ⟨Z, p, dx, l, s, nm, m, c, rfl, _⟩ := h
    rfl
  · obtain ⟨Z, p, dx, l, s, nm, m, c, rfl, R, hz, hc, hn, q⟩ := h
    refine ⟨_, pss_cons (ps_set (i := 1) scPart.nd rfl (.inl rfl) (pe_meth0 (pv 0) T.cl T.mSign.m (ok_sign T) (hr.mono (by decide)) T.mSign.b .nil pass0))
      (pss_cons (ps_expr (pe_meth (pv 0) T.cl T.mDemand.m (ok_demand T) (hr.mono (by decide)) T.mDemand.b .nil pass0 (pa_cons
          (pe_and (pe_cmpR op_ne (pv 1) pe_str (nomark _)) (pe_one (pe_cmpR op_in_sign (pv 1) (pe_glob (v := .str LSs) rfl T.gLet ⟨_, rfl⟩) rfl))) pa_nil)))
      (pss_cons (ps_fldaug (pv 0) pe_int in_add)
      (pss_cons (ps_if (pt_not (pt_val (pe_meth (pv 0) T.cl T.mSkips.m (ok_skips T) hr T.mSkips.b .nil pass0 (pa_cons pe_str pa_nil)))) (pss_one (ps_ret (pv 1))) pss_nil) pss_never))), ?_⟩
    have nS : ∀ s', (rf Z s' l m).lookup ("sign" : Str) = none := fun _ => rf_no (by decide +kernel) (by decide +kernel) (by decide +kernel) (by decide +kernel)
    have nD : ∀ s', (rf Z s' l m).lookup ("demand" : Str) = none := fun _ => rf_no (by decide +kernel) (by decide +kernel) (by decide +kernel) (by decide +kernel)
    have nK : ∀ s', (rf Z s' l m).lookup ("skips" : Str) = none := fun _ => rf_no (by decide +kernel) (by decide +kernel) (by decide +kernel) (by decide +kernel)
    refine ⟨.ref p, rfl, p, dx, _, rfl, R.e, nS _, Z, p, dx, l, s, nm, m, rfl, R, ?_⟩
    rw [sg_some hz]
    refine ⟨.ref p, rfl, p, dx, _, rfl, R.e, nD _, _, rfl, rfl, _, rfl, ?_⟩
    rw [decide_eq_false em_ne]
    refine iteT ⟨_, rfl, c, _, rfl, rfl, p, ?_, ?_⟩
    · show [V.ref p, V.bl (decide (c ∈ LSs.cps.toList))] = _
      rw [decide_eq_true (inLS.mpr hc)]
    refine ⟨.ref p, rfl, p, C, dx, _, _, rfl, R.e, T.cl, T.nSp, rf_spot, _, _, rfl, rfl, dx, _, R.e, (show 4 < 1000 by decide), ?_⟩
    have R1 := R.spot (s + 1) (Nat.le_succ s)
    refine ⟨.ref p, rfl, p, dx, _, rfl, R1.e, nK _, Z, p, dx, l, s + 1, nm, m, 45, rfl, R1, fun z => absurd z hn, fun _ => ⟨false, rfl, iteT ?_⟩⟩
    exact ⟨_, rfl, q _ R1 K2.p⟩
end
end Sf4
namespace Sf4
open PySem PySem.Spec PyProof.Rows L2 Sf
def NCls : List Str := ["self", "is_other", "found", "letters", "letter"]
theorem scClass : FnScope NCls ["self"] (defScope sClass) := ⟨rfl, rfl, rfl, by decide +kernel, rfl, by decide +kernel, by decide +kernel⟩
def inC (ss : List Nat) : List Nat := LETc.filter fun c => decide (c ∈ ss)
def spClass (C : Addr) : Sp := fun vs H Q _ => ∃ (Z : List Nat) (p dx l : Addr) (s : Nat) (nm : Nm) (m : Int) (ss : List Nat) (q : Nat), vs = [.ref p] ∧ RdA C Z p dx l H s nm m ∧ Z[s]? ≠ some 94 ∧ RSome Z s ss q ∧
  ∀ H', RdA C Z p dx l H' q nm m → K2 p l H H' → Q (.str (tx (inC ss))) H'
/-- the first letter of a class, and what stands behind it -/
theorem some_first {Z : List Nat} {s q : Nat} {ss : List Nat} (h : RSome Z s ss q) : ∃ (c : Nat) (r : List Nat), ss = c :: r ∧ Z[s]? = some c ∧ c ∈ LETc ∧ Z[s + 1]? ≠ some 45 ∧ ((r = [] ∧ Z[s + 1]? = some 93 ∧ q = s + 2) ∨ (Z[s + 1]? ≠ some 93 ∧ RSome Z (s + 1) r q)) := by
  cases h with
  | last h1 h2 h3 => exact ⟨_, [], rfl, h1, h2, (fun z => by rw [h3] at z; cases z), .inl ⟨rfl, h3, rfl⟩⟩
  | next h1 h2 h3 h4 h5 => exact ⟨_, _, rfl, h1, h2, h3, .inr ⟨h4, h5⟩⟩
theorem some_letters {Z : List Nat} : ∀ {ss : List Nat} {s q : Nat}, RSome Z s ss q → ss.length ≤ Z.length - s ∧ ∀ c ∈ ss, c ∈ LETc
  | [], _, _, h => by cases h
  | c :: r, s, q, h => by
    have hlt : ∀ {c : Nat}, Z[s]? = some c → s < Z.length := fun e => (List.getElem?_eq_some_iff.mp e).1
    cases h with
    | last h1 h2 h3 =>
      have := hlt h1
      refine ⟨by show 1 ≤ _; omega, fun d hd => ?_⟩
      obtain rfl := List.mem_singleton.mp hd
      exact h2
    | next h1 h2 h3 h4 h5 =>
      have := hlt h1
      obtain ⟨i1, i2⟩ := some_letters h5
      refine ⟨by rw [List.length_cons]; omega, fun d hd => ?_⟩
      rcases List.mem_cons.mp hd with rfl | hd
      · exact h2
      · exact i2 d hd
theorem tx_app (a b : List Nat) : tx a ++ tx b = tx (a ++ b) := by
  refine TL.ext_tl ?_
  exact TL.tl_append (tx a) (tx b)
theorem inC_ne {Z : List Nat} {ss : List Nat} {s q : Nat} (h : RSome Z s ss q) : ∃ c r, inC ss = c :: r := by
  obtain ⟨c, r, rfl, _, hc, _⟩ := some_first h
  have : c ∈ inC (c :: r) := List.mem_filter.mpr ⟨hc, decide_eq_true List.mem_cons_self⟩
  cases e : inC (c :: r) with
  | nil =>
    rw [e] at this
    cases this
  | cons d t => exact ⟨d, t, rfl⟩
theorem joinL_ones : ∀ cs : List Nat, TL.joinL [] (cs.map fun c => [c]) = cs
  | [] => rfl
  | [c] => rfl
  | c :: d :: r => by
    show [c] ++ ([] ++ TL.joinL [] ((d :: r).map fun c => [c])) = _
    rw [joinL_ones (d :: r)] <;> rfl
theorem join_ones (cs : List Nat) : Txt.join (Str.ofString "") (cs.map fun c => (⟨#[c]⟩ : Str)) = tx cs := by
  rw [TL.join_eq]
  refine TL.ext_tl ?_
  rw [TL.tl_join, TL.tl, show (Str.ofString "").cps.toList = [] by decide +kernel, List.map_map]
  exact joinL_ones cs
theorem sum_ones (cs : List Nat) : ((cs.map fun c => (⟨#[c]⟩ : Str)).map (·.length)).sum = cs.length := by
  induction cs with
  | nil => rfl
  | cons c r ih =>
    rw [List.map_cons, List.map_cons, List.sum_cons, ih, List.length_cons]
    show 1 + r.length = r.length + 1
    omega
section
variable {P : Program} {w : World} {K : PySem.W.Frag} {mg : Str → Option Value} {base : Heap} {C : Addr} {f : Nat → Addr} {fd : Nat → FuncData} {tk : Nat → Tok} {cd : Addr} {ces : Array DictEntry} {cn : Nat} {ct : Nat → Addr}
theorem ok_class (T : RT K w mg C f fd tk cd ces cn ct) : FnOk P w K mg base CX0 4 (f 12) (fd 12) ["self"] (spClass C) := by
  refine T.mClass.F.ok scClass (fun vs H Q E h => ?_) (fun cdv A outer s H vs Q E hr h => ?_)
  · obtain ⟨Z, p, dx, l, s, nm, m, ss, q, rfl, _⟩ := h
    rfl
  · obtain ⟨Z, p, dx, l, s, nm, m, ss, e, rfl, R, hn, hS, q⟩ := h
    have GK := ok_skips (P := P) (base := base) T
    have GP := ok_part (P := P) (base := base) T
    refine ⟨_, pss_cons (ps_asg (pe_tup (pa_cons (pe_meth (pv 0) T.cl T.mSkips.m GK (hr.mono (by decide)) T.mSkips.b .nil pass0 (pa_cons pe_str pa_nil)) (pa_cons (pe_meth0 (pv 0) T.cl T.mPart.m GP hr T.mPart.b .nil pass0) pa_nil)))
        (pg_tup rfl (pgs_cons (pg_name (i := 1) scClass.nd rfl (.inr rfl)) (pgs_cons (pg_name (i := 2) scClass.nd rfl (.inr rfl)) pgs_nil))))
      (Evl.pss_cut (ps_while PassesOwn.never (pt_not (pt_val (pe_meth (pv 0) T.cl T.mSkips.m GK (hr.mono (by decide)) T.mSkips.b .nil pass0 (pa_cons pe_str pa_nil))))
        (pss_one (ps_set (i := 2) scClass.nd rfl (.inr rfl) (pe_op op_add_str (pv 2) (pe_meth0 (pv 0) T.cl T.mPart.m GP hr T.mPart.b .nil pass0)))))
      (pss_cons (ps_set (i := 3) scClass.nd rfl (.inl rfl) (pe_join pe_str (pe_lc (own := [("letter", 4)]) (g := gName 4) (tt := tTest (tOp rNe (tOp rInS (tVar 4) (tVar 2)) (tVar 1))) (te := tVar 4) rfl scClass.nd
          (pi_str (pe_glob (v := .str LSs) rfl T.gLet ⟨_, rfl⟩)) (blkOk_by (N := NCls) (sc := defScope sClass) (by decide +kernel)) (fun _ _ _ _ _ => pg_name (i := 4) scClass.nd rfl (Or.inl rfl))
          (fun _ _ _ _ _ => pts_one (pt_cmpR op_ne (pe_cmpR op_inS (pv 4) (pv 2) rfl) (pv 1) (nomark _))) (fun _ _ _ _ _ => pv 4))))
      (pss_cons (ps_expr (pe_meth (pv 0) T.cl T.mDemand.m (ok_demand T) (hr.mono (by decide)) T.mDemand.b .nil pass0 (pa_cons (pe_cmpR op_ne (pv 3) pe_str (nomark _)) pa_nil)))
      (pss_one (ps_ret (pv 3)))))), ?_⟩
    have nP : ∀ s', (rf Z s' l m).lookup ("read_part" : Str) = none := fun _ => rf_no (by decide +kernel) (by decide +kernel) (by decide +kernel) (by decide +kernel)
    have nD : ∀ s', (rf Z s' l m).lookup ("demand" : Str) = none := fun _ => rf_no (by decide +kernel) (by decide +kernel) (by decide +kernel) (by decide +kernel)
    have nK : ∀ s', (rf Z s' l m).lookup ("skips" : Str) = none := fun _ => rf_no (by decide +kernel) (by decide +kernel) (by decide +kernel) (by decide +kernel)
    obtain ⟨c, r, e1, hc1, hc2, hc3, hc4⟩ := some_first hS
    obtain ⟨sl1, sl2⟩ := some_letters hS
    have hZ := R.z
    refine ⟨.ref p, rfl, p, dx, _, rfl, R.e, nK _, Z, p, dx, l, s, nm, m, 94, rfl, R, fun z => absurd z hn, fun _ => ?_⟩
    refine ⟨.ref p, rfl, p, dx, _, rfl, R.e, nP _, Z, p, dx, l, s, nm, m, c, rfl, R, hc1, hc2, hc3, fun H1 R1 k1 => ?_⟩
    refine ⟨(show 2 ≤ sizeLine by decide), fun T0 n0 => ⟨T0, _, rfl, .inl (.inl upd_same), rfl, _, _, rfl, _, _, rfl, rfl, ?_⟩⟩
    have R2 := R1.up (smU (o := HO.tup [.bl false, .str (tx [c])]) n0)
    have k2 := k1.trans (K2.same (p := p) (l := l) (smU (o := HO.tup [.bl false, .str (tx [c])]) n0))
    refine ⟨fun σ H3 => σ = [some (.ref p), some (.bl false), some (.str (tx ss)), none, none] ∧ RdA C Z p dx l H3 e nm m ∧ K2 p l H H3, ?_, fun σ H3 hM => ?_⟩
    · refine ⟨fun n σ H3 => ∃ (s1 : Nat) (dn rt : List Nat), n = rt.length ∧ ss = dn ++ rt ∧ σ = [some (.ref p), some (.bl false), some (.str (tx dn)), none, none] ∧ RdA C Z p dx l H3 s1 nm m ∧ K2 p l H H3 ∧ ((rt = [] ∧ Z[s1]? = some 93 ∧ e = s1 + 1) ∨ (Z[s1]? ≠ some 93 ∧ RSome Z s1 rt e)), ⟨_, s + 1, [c], r, rfl, e1, rfl, R2, k2, hc4⟩, ?_⟩
      rintro n σ H3 ⟨s1, dn, rt, rfl, es, rfl, R3, k3, hw⟩
      refine ⟨.ref p, rfl, p, dx, _, rfl, R3.e, nK _, Z, p, dx, l, s1, nm, m, 93, rfl, R3, fun z H4 R4 k4 => ?_, fun z => ?_⟩
      · refine ⟨true, rfl, iteF ?_⟩
        rcases hw with ⟨rfl, _, rfl⟩ | ⟨w1, _⟩
        · rw [List.append_nil] at es
          subst es
          exact ⟨rfl, R4, k3.trans k4⟩
        · exact absurd z w1
      · refine ⟨false, rfl, iteT ?_⟩
        rcases hw with ⟨_, w1, _⟩ | ⟨_, w2⟩
        · exact absurd w1 z
        · obtain ⟨d, rt', e2, hd1, hd2, hd3, hd4⟩ := some_first w2
          subst e2
          refine ⟨fun σ' H' => ∃ (s2 : Nat), s2 = s1 + 1 ∧ σ' = [some (.ref p), some (.bl false), some (.str (tx (dn ++ [d]))), none, none] ∧ RdA C Z p dx l H' s2 nm m ∧ K2 p l H H', fun σ' H' ⟨s2, h1, h2, h3, h4⟩ => ⟨rt'.length, by rw [List.length_cons]; omega, s2, dn ++ [d], rt', rfl, by rw [es, List.append_assoc] <;> rfl, h2, h3, h4, by rw [h1]; exact hd4⟩, ?_⟩
          refine ⟨.str (tx dn), rfl, .ref p, rfl, p, dx, _, rfl, R3.e, nP _, Z, p, dx, l, s1, nm, m, d, rfl, R3, hd1, hd2, hd3, fun H4 R4 k4 => ?_⟩
          have hl : (tx dn).length = dn.length := tx_len dn
          have hle := congrArg List.length es
          rw [List.length_append] at hle
          refine ⟨_, _, rfl, rfl, ?_, s1 + 1, rfl, ?_, R4, k3.trans k4⟩
          · rw [tx_len, tx_len]
            refine Nat.le_trans (show dn.length + 1 ≤ 100 by omega) (by decide)
          · rw [tx_app] <;> rfl
    obtain ⟨rfl, R3, k3⟩ := hM
    refine ⟨⟨_, rfl⟩, LSs, rfl, fun D hD => ?_⟩
    have nDp := R3.p0 hD
    have nDl := R3.l0 hD
    refine lc_it (walk_str (z := LSs)) (fun i H4 => H4 D = some (.lst (((LETc.take i).filter fun c => decide (c ∈ ss)).map fun c => V.str ⟨#[c]⟩)) ∧ RdA C Z p dx l H4 e nm m ∧ K2 p l H H4)
      ⟨upd_same, R3.up (smU hD), k3.trans (K2.same (smU hD))⟩ (fun _ _ _ _ => True.intro) (fun i x H4 H4' hi hP hy => ?_) (fun H4 hP => ?_)
    · obtain ⟨e4, R4, k4⟩ := hP
      obtain ⟨rfl, d, hd, rfl⟩ := hy
      have hd : LETc[i]? = some d := by
        rw [← LS_cps, Array.getElem?_toList]
        exact hd
      have ht : LETc.take (i + 1) = LETc.take i ++ [d] := by
        obtain ⟨h1, h2⟩ := List.getElem?_eq_some_iff.mp hd
        rw [List.take_succ_eq_append_getElem h1, h2]
      refine ⟨rfl, .str ⟨#[d]⟩, rfl, .str (tx ss), rfl, d, _, rfl, rfl, .bl false, rfl, rfl, _, rfl, ?_⟩
      show if (!decide (V.bl (decide (d ∈ ss)) = V.bl false)) = true then _ else _
      by_cases hdd : d ∈ ss
      · rw [decide_eq_true hdd, decide_eq_false (show ¬ (V.bl true = V.bl false) from fun z => by cases z)]
        have ll : (((LETc.take i).filter fun c => decide (c ∈ ss)).map fun c => V.str ⟨#[c]⟩).length ≤ 38 := by
          rw [List.length_map]
          refine Nat.le_trans (List.length_filter_le _ _) (Nat.le_trans (List.length_take_le' _ _) (by decide +kernel))
        refine iteT ⟨.str ⟨#[d]⟩, rfl, _, e4, Nat.lt_of_le_of_lt ll (by decide), ?_, R4.wr nDp nDl, K2.put k3 k4 hD⟩
        rw [upd_same, ht, List.filter_append, List.filter_cons, decide_eq_true hdd, if_pos rfl, List.filter_nil, List.map_append] <;> rfl
      · rw [decide_eq_false hdd, decide_eq_true rfl]
        refine iteF ⟨?_, R4, k4⟩
        rw [ht, List.filter_append, List.filter_cons, decide_eq_false hdd, if_neg Bool.false_ne_true, List.filter_nil, List.append_nil]
        exact e4
    · obtain ⟨e4, R4, k4⟩ := hP
      have e5 : H4 D = some (.lst (((inC ss).map fun c => (⟨#[c]⟩ : Str)).map V.str)) := by
        rw [e4, List.map_map]
        refine congrArg (fun z => some (HO.lst (List.map _ (List.filter _ z)))) ?_
        exact List.take_of_length_le (by decide +kernel)
      have ll : (inC ss).length ≤ 38 := Nat.le_trans (List.length_filter_le _ _) (by decide +kernel)
      refine ⟨Str.ofString "", D, _, rfl, rfl, .inl (.inl (.inl e5)), ?_, ?_⟩
      · rw [sum_ones, show (Str.ofString "").length = 0 by decide +kernel]
        omega
      rw [join_ones]
      obtain ⟨d, t, e6⟩ := inC_ne hS
      refine ⟨.ref p, rfl, p, dx, _, rfl, R4.e, nD _, _, rfl, rfl, ?_⟩
      refine ⟨p, ?_, _, rfl, q _ R4 k4⟩
      show [V.ref p, V.bl (!decide (V.str (tx (inC ss)) = V.str (Str.ofString "")))] = _
      rw [e6, decide_eq_false em_ne] <;> rfl
end
end Sf4
namespace Sf4
open PySem PySem.Spec PyProof.Rows L2 Sf
/-! ### reading goes on -/
theorem lt_of {Z : List Nat} {p c : Nat} (h : Z[p]? = some c) : p < Z.length := (List.getElem?_eq_some_iff.mp h).1
structure Pgr (Z : List Nat) (R : Rel Tr) : Prop where
  go : ∀ {p : Nat} {nm : Nm} {t : Tr} {q : Nat} {nm' : Nm}, R p nm t q nm' → p < q ∧ q ≤ Z.length
theorem some_pgr {Z : List Nat} : ∀ {ss : List Nat} {p q : Nat}, RSome Z p ss q → p < q ∧ q ≤ Z.length
  | [], _, _, h => by cases h
  | c :: r, p, q, h => by
    cases h with
    | last h1 h2 h3 => exact ⟨by omega, by have := lt_of h3; omega⟩
    | next h1 h2 h3 h4 h5 =>
      have := some_pgr h5
      omega
theorem name_pgr {Z : List Nat} : ∀ {n : List Nat} {p q : Nat}, RName Z p n q → p ≤ q ∧ Z[q]? = some 58 ∧ q = p + n.length ∧ (Z.drop p).take (q - p) = n ∧ ∀ i, p ≤ i → i < q → ∃ c, Z[i]? = some c ∧ small c
  | [], p, q, h => by
    cases h with
    | nil h1 => exact ⟨Nat.le_refl _, h1, rfl, by rw [Nat.sub_self] <;> rfl, fun i h2 h3 => absurd h2 (by omega)⟩
  | c :: n, p, q, h => by
    cases h with
    | cons h1 h2 h3 =>
      obtain ⟨i1, i2, i3, i4, i5⟩ := name_pgr h3
      refine ⟨by omega, i2, by rw [List.length_cons]; omega, ?_, fun i h4 h5 => ?_⟩
      · obtain ⟨hl, e⟩ := List.getElem?_eq_some_iff.mp h1
        rw [List.drop_eq_getElem_cons hl, e, show q - p = (q - (p + 1)) + 1 by omega, List.take_succ_cons, i4]
      · by_cases z : i = p
        · exact z ▸ ⟨c, h1, h2⟩
        · exact i5 i (by omega) h5
theorem num_pgr {Z : List Nat} {p v q : Nat} (h : RNum Z p v q) : p < q := by
  obtain ⟨_, _, _, _, _, _, _, h, _⟩ := num_word h
  exact h
theorem unit_pgr {Z : List Nat} {can : Prop} {C : Rel Tr} (hC : Pgr Z C) : Pgr Z (RUnit Z can C) := by
  refine ⟨fun {p nm t q nm'} h => ?_⟩
  cases h with
  | letter h1 h2 => have := lt_of h1; omega
  | dot h1 => have := lt_of h1; omega
  | cls h1 h2 h3 => have := some_pgr h3; omega
  | nothing h1 h2 h3 => have := lt_of h3; omega
  | group h1 h2 h3 h4 h5 => have := hC.go h4; have := lt_of h5; omega
  | capture h1 h2 h3 h4 h5 h6 h7 h8 => have := hC.go h7; have := (name_pgr h3).1; have := lt_of h8; omega
theorem item_pgr {Z : List Nat} {U : Rel Tr} (hU : Pgr Z U) : Pgr Z (RItem Z U) := by
  refine ⟨fun {p nm t q nm'} h => ?_⟩
  cases h with
  | plain h1 h2 => exact hU.go h1
  | sign h1 h2 h3 => have := hU.go h1; have := lt_of h2; omega
  | just h1 h2 h3 h4 => have := hU.go h1; have := num_pgr h3; have := lt_of h4; omega
  | least h1 h2 h3 h4 h5 => have := hU.go h1; have := num_pgr h3; have := lt_of h5; omega
  | both h1 h2 h3 h4 h5 h6 h7 => have := hU.go h1; have := num_pgr h3; have := num_pgr h5; have := lt_of h7; omega
theorem many_pgr {Z : List Nat} {R : Rel Tr} {go : Nat → Prop} {g : Nat → Nat} (hR : Pgr Z R) (hg : ∀ q, q ≤ g q) : ∀ {ts : List Tr} {p q : Nat} {nm nm' : Nm}, RMany R go g p nm ts q nm' → p + ts.length ≤ q ∧ q ≤ Z.length ∧ 0 < ts.length
  | [], _, _, _, _, h => by cases h
  | t :: ts, p, q, nm, nm', h => by
    cases h with
    | last h1 h2 =>
      have := hR.go h1
      exact ⟨by show p + 1 ≤ q; omega, this.2, Nat.zero_lt_succ _⟩
    | next h1 h2 h3 =>
      have a := hR.go h1
      have b := many_pgr hR hg h3
      have c := hg (by assumption)
      refine ⟨by rw [List.length_cons]; omega, b.2.1, Nat.zero_lt_succ _⟩
theorem chain_pgr {Z : List Nat} {I : Rel Tr} (hI : Pgr Z I) : Pgr Z (RChain Z I) := by
  refine ⟨fun {p nm t q nm'} ⟨ts, h1, _⟩ => ?_⟩
  have := many_pgr hI (fun q => Nat.le_refl q) h1
  omega
theorem choice_pgr {Z : List Nat} {I : Rel Tr} (hI : Pgr Z I) : Pgr Z (RChoice Z I) := by
  refine ⟨fun {p nm t q nm'} ⟨ts, h1, _⟩ => ?_⟩
  have := many_pgr hI (fun q => Nat.le_succ q) h1
  omega
theorem no_pgr {Z : List Nat} : Pgr Z (fun _ _ _ _ _ => False) := ⟨fun h => h.elim⟩
theorem rc_pgr (Z : List Nat) : ∀ d, Pgr Z (RC Z d)
  | 0 => choice_pgr (chain_pgr (item_pgr (unit_pgr no_pgr)))
  | d + 1 => choice_pgr (chain_pgr (item_pgr (unit_pgr (rc_pgr Z d))))
theorem ru_pgr (Z : List Nat) : ∀ d, Pgr Z (RU Z d)
  | 0 => unit_pgr no_pgr
  | d + 1 => unit_pgr (rc_pgr Z d)
/-- what is left of many behind one -/
def RMore (R : Rel Tr) (go : Nat → Prop) (g : Nat → Nat) (q : Nat) (nm : Nm) (ts : List Tr) (r : Nat) (nm2 : Nm) : Prop := (ts = [] ∧ ¬ go q ∧ r = q ∧ nm2 = nm) ∨ (go q ∧ RMany R go g (g q) nm ts r nm2)
theorem many_first {R : Rel Tr} {go : Nat → Prop} {g : Nat → Nat} {p q : Nat} {nm nm2 : Nm} {ts : List Tr} (h : RMany R go g p nm ts q nm2) : ∃ t r q1 nm1, ts = t :: r ∧ R p nm t q1 nm1 ∧ RMore R go g q1 nm1 r q nm2 := by
  cases h with
  | last h1 h2 => exact ⟨_, _, _, _, rfl, h1, .inl ⟨rfl, h2, rfl, rfl⟩⟩
  | next h1 h2 h3 => exact ⟨_, _, _, _, rfl, h1, .inr ⟨h2, h3⟩⟩
theorem KT.lst {H : Hp} {a : Addr} {xs ys : List V} (h : H a = some (.lst xs)) : KT H (upd H a (.lst ys)) := fun b zs e => by
  rw [upd_ne (ne_of e h (by intro z; cases z))]
  exact e
/-! ### promises -/
/-- a method of the reader that reads by a relation -/
def spR (C : Addr) (d : Nat) (Rl : List Nat → Rel Tr) : Sp := fun vs H Q _ => ∃ (Z : List Nat) (p dx l : Addr) (s : Nat) (nm : Nm) (t : Tr) (q : Nat) (nm' : Nm), vs = [.ref p] ∧ d ≤ 8 ∧ RdA C Z p dx l H s nm (8 - (d : Int)) ∧ Rl Z s nm t q nm' ∧
  ∀ v H', TrO H' v t → RdA C Z p dx l H' q nm' (8 - (d : Int)) → K2 p l H H' → Q v H'
def RGrp (Z : List Nat) (d : Nat) : Rel Tr := fun p nm t q nm' => (Z[p]? = some 41 ∧ t = .empty ∧ q = p + 1 ∧ nm' = nm) ∨ (Z[p]? ≠ some 41 ∧ ∃ r, RC Z d p nm t r nm' ∧ Z[r]? = some 41 ∧ q = r + 1)
def RCap (Z : List Nat) (d : Nat) : Rel Tr := fun p nm t q nm' => ∃ n u r r', RName Z p n r ∧ 1 ≤ n.length ∧ n.length ≤ 8 ∧ n ∉ nm ∧ RC Z d (r + 1) (nm ++ [n]) u r' nm' ∧ Z[r']? = some 62 ∧ q = r' + 1 ∧ t = .capture n u
def rel0 (R : List Nat → Nat → Rel Tr) : Nat → List Nat → Rel Tr
  | 0 => fun _ _ _ _ _ _ => False
  | d + 1 => fun Z => R Z d
section
variable {P : Program} {w : World} {K : PySem.W.Frag} {mg : Str → Option Value} {base : Heap} {C : Addr} {f : Nat → Addr} {fd : Nat → FuncData} {tk : Nat → Tok} {cd : Addr} {ces : Array DictEntry} {cn : Nat} {ct : Nat → Addr}
theorem scGroup : FnScope ["self", "tree"] ["self"] (defScope sGroup) := ⟨rfl, rfl, rfl, by decide +kernel, rfl, by decide +kernel, by decide +kernel⟩
theorem scCapture : FnScope ["self", "begin", "name", "tree"] ["self"] (defScope sCapture) := ⟨rfl, rfl, rfl, by decide +kernel, rfl, by decide +kernel, by decide +kernel⟩
theorem smaS (c : Nat) : c ∈ (Str.ofString "abcdefghijklmnopqrstuvwxyz").cps.toList ↔ small c := by
  rw [show (Str.ofString "abcdefghijklmnopqrstuvwxyz").cps.toList = [97, 98, 99, 100, 101, 102, 103, 104, 105, 106, 107, 108, 109, 110, 111, 112, 113, 114, 115, 116, 117, 118, 119, 120, 121, 122] by decide +kernel]
  simp only [List.mem_cons, List.not_mem_nil, or_false]
  unfold small
  omega
theorem inV_nm {n : List Nat} : ∀ {nm : Nm}, n ∉ nm → inV (.str (tx n)) (nmV nm) = false := by
  intro nm h
  cases e : inV (.str (tx n)) (nmV nm) with
  | false => rfl
  | true =>
    exfalso
    obtain ⟨y, hy, ey⟩ := List.any_eq_true.mp e
    obtain ⟨m, hm, rfl⟩ := List.mem_map.mp hy
    exact h (tx_inj (of_decide_eq_true (by rw [← Bool.beq_eq_decide_eq]; exact ey) : tx m = tx n) ▸ hm)
/-- read_group, where an inner expression may be read -/
theorem ok_group (T : RT K w mg C f fd tk cd ces cn ct) {k d : Nat} (hk : 2 ≤ k) (G : FnOk P w K mg base CX0 k (f 5) (fd 5) ["self"] (spR C d fun Z => RC Z d)) : FnOk P w K mg base CX0 (k + 1) (f 10) (fd 10) ["self"] (spR C d fun Z => RGrp Z d) := by
  refine T.mGroup.F.ok scGroup (fun vs H Q E h => ?_) (fun cdv A outer s H vs Q E hr h => ?_)
  · obtain ⟨Z, p, dx, l, s, nm, t, q, nm', rfl, _⟩ := h
    rfl
  · obtain ⟨Z, p, dx, l, s, nm, t, e, nm', rfl, hd, R, hg, q⟩ := h
    have GK := ok_skips (P := P) (base := base) T
    refine ⟨_, pss_cons (ps_if (pt_val (pe_meth (pv 0) T.cl T.mSkips.m GK (hr.mono hk) T.mSkips.b .nil pass0 (pa_cons pe_str pa_nil))) (pss_one (ps_ret (pe_tup (pa_cons (pe_glob (v := .str emW) rfl T.gEm ⟨_, rfl⟩) pa_nil)))) pss_nil)
      (pss_cons (ps_set (i := 1) scGroup.nd rfl (.inl rfl) (pe_meth0 (pv 0) T.cl T.mChoice.m G hr T.mChoice.b .nil pass0))
      (pss_cons (ps_expr (pe_meth (pv 0) T.cl T.mDemand.m (ok_demand T) (hr.mono (Nat.le_trans (by decide) hk)) T.mDemand.b .nil pass0 (pa_cons (pe_meth (pv 0) T.cl T.mSkips.m GK (hr.mono hk) T.mSkips.b .nil pass0 (pa_cons pe_str pa_nil)) pa_nil)))
      (pss_one (ps_ret (pv 1))))), ?_⟩
    have nC : ∀ s' m', (rf Z s' l m').lookup ("read_choice" : Str) = none := fun _ _ => rf_no (by decide +kernel) (by decide +kernel) (by decide +kernel) (by decide +kernel)
    have nD : ∀ s' m', (rf Z s' l m').lookup ("demand" : Str) = none := fun _ _ => rf_no (by decide +kernel) (by decide +kernel) (by decide +kernel) (by decide +kernel)
    have nK : ∀ s' m', (rf Z s' l m').lookup ("skips" : Str) = none := fun _ _ => rf_no (by decide +kernel) (by decide +kernel) (by decide +kernel) (by decide +kernel)
    refine ⟨.ref p, rfl, p, dx, _, rfl, R.e, nK _ _, Z, p, dx, l, s, nm, _, 41, rfl, R, fun z H1 R1 k1 => ⟨true, rfl, iteT ?_⟩, fun z => ⟨false, rfl, iteF ?_⟩⟩
    · rcases hg with ⟨_, rfl, rfl, rfl⟩ | ⟨w1, _⟩
      · exact ⟨(show 1 ≤ sizeLine by decide), fun b hb => q _ _ (.empty upd_same) (R1.up (smU hb)) (k1.trans (K2.same (smU hb)))⟩
      · exact absurd z w1
    · rcases hg with ⟨w1, _⟩ | ⟨_, r, w2, w3, rfl⟩
      · exact absurd w1 z
      · refine ⟨.ref p, rfl, p, dx, _, rfl, R.e, nC _ _, Z, p, dx, l, s, nm, t, r, nm', rfl, hd, R, w2, fun v H1 o1 R1 k1 => ?_⟩
        refine ⟨.ref p, rfl, p, dx, _, rfl, R1.e, nD _ _, .ref p, rfl, p, dx, _, rfl, R1.e, nK _ _, Z, p, dx, l, r, nm', _, 41, rfl, R1, fun _ H2 R2 k2 => ?_, fun z => absurd w3 z⟩
        exact ⟨p, rfl, v, rfl, q v H2 (o1.mono (R1.kt k2)) R2 (k1.trans k2)⟩
theorem ok_capture (T : RT K w mg C f fd tk cd ces cn ct) {k d : Nat} (hk : 2 ≤ k) (G : FnOk P w K mg base CX0 k (f 5) (fd 5) ["self"] (spR C d fun Z => RC Z d)) : FnOk P w K mg base CX0 (k + 1) (f 11) (fd 11) ["self"] (spR C d fun Z => RCap Z d) := by
  refine T.mCapture.F.ok scCapture (fun vs H Q E h => ?_) (fun cdv A outer s H vs Q E hr h => ?_)
  · obtain ⟨Z, p, dx, l, s, nm, t, q, nm', rfl, _⟩ := h
    rfl
  · obtain ⟨Z, p, dx, l, s, nm, t, e, nm', rfl, hd, R, ⟨n, u, r, r', w1, w2, w3, w4, w5, w6, rfl, rfl⟩, q⟩ := h
    obtain ⟨g1, g2, g3, g4, g5⟩ := name_pgr w1
    have GS := ok_sign (P := P) (base := base) T
    have GK := ok_skips (P := P) (base := base) T
    have GD := ok_demand (P := P) (base := base) T
    have h1 : 1 ≤ k := Nat.le_trans (by decide) hk
    have hZ := R.z
    refine ⟨_, pss_cons (ps_set (i := 1) scCapture.nd rfl (.inl rfl) (pe_fld (pv 0) rfl))
      (Evl.pss_cut (ps_while PassesOwn.never (PW.pt (pw_and (pt_cmpR op_ne (pe_meth0 (pv 0) T.cl T.mSign.m GS (hr.mono h1) T.mSign.b .nil pass0) pe_str (nomark _))
          (pw_and1 (pt_cmpR op_in_sign (pe_meth0 (pv 0) T.cl T.mSign.m GS (hr.mono h1) T.mSign.b .nil pass0) (pe_glob (v := .str (Str.ofString "abcdefghijklmnopqrstuvwxyz")) rfl T.gSma ⟨_, rfl⟩) rfl))))
        (pss_one (ps_fldaug (pv 0) pe_int in_add)))
      (pss_cons (ps_set (i := 2) scCapture.nd rfl (.inl rfl) (pe_slice sl_str (pe_fld (pv 0) rfl) (po_some (pv 1)) (po_some (pe_fld (pv 0) rfl))))
      (pss_cons (ps_expr (pe_meth (pv 0) T.cl T.mDemand.m GD (hr.mono h1) T.mDemand.b .nil pass0 (pa_cons
          (pe_and (pe_chain op_le op_le pe_int (pe_callB call_len_str (by rfl) T.zlen PySem.boot_len (pa_cons (pv 2) pa_nil)) (pe_glob (v := .int 8) rfl T.gMN ⟨_, rfl⟩))
            (pe_and (pe_cmpR op_notIn_seq (pv 2) (pe_fld (pv 0) rfl) rfl) (pe_one (pe_meth (pv 0) T.cl T.mSkips.m GK (hr.mono hk) T.mSkips.b .nil pass0 (pa_cons pe_str pa_nil))))) pa_nil)))
      (pss_cons (ps_expr (pe_bm PySem.F.plainAttrs_list PySem.F.slot_list_append PySem.F.type_list_append mt_append (pe_fld (pv 0) rfl) (pa_cons (pv 2) pa_nil)))
      (pss_cons (ps_set (i := 3) scCapture.nd rfl (.inl rfl) (pe_meth0 (pv 0) T.cl T.mChoice.m G hr T.mChoice.b .nil pass0))
      (pss_cons (ps_expr (pe_meth (pv 0) T.cl T.mDemand.m GD (hr.mono h1) T.mDemand.b .nil pass0 (pa_cons (pe_meth (pv 0) T.cl T.mSkips.m GK (hr.mono hk) T.mSkips.b .nil pass0 (pa_cons pe_str pa_nil)) pa_nil)))
      (pss_one (ps_ret (pe_tup (pa_cons (pe_glob (v := .str caW) rfl T.gCa ⟨_, rfl⟩) (pa_cons (pv 2) (pa_cons (pv 3) pa_nil)))))))))))), ?_⟩
    have nC : ∀ s' m', (rf Z s' l m').lookup ("read_choice" : Str) = none := fun _ _ => rf_no (by decide +kernel) (by decide +kernel) (by decide +kernel) (by decide +kernel)
    have nS : ∀ s' m', (rf Z s' l m').lookup ("sign" : Str) = none := fun _ _ => rf_no (by decide +kernel) (by decide +kernel) (by decide +kernel) (by decide +kernel)
    have nD : ∀ s' m', (rf Z s' l m').lookup ("demand" : Str) = none := fun _ _ => rf_no (by decide +kernel) (by decide +kernel) (by decide +kernel) (by decide +kernel)
    have nK : ∀ s' m', (rf Z s' l m').lookup ("skips" : Str) = none := fun _ _ => rf_no (by decide +kernel) (by decide +kernel) (by decide +kernel) (by decide +kernel)
    refine ⟨.ref p, rfl, p, C, dx, _, _, rfl, R.e, T.cl, T.nSp, rf_spot, ?_⟩
    refine ⟨fun σ H1 => σ = [some (.ref p), some (.int s), none, none] ∧ RdA C Z p dx l H1 r nm (8 - (d : Int)) ∧ K2 p l H H1, ?_, fun σ H1 hM => ?_⟩
    · refine ⟨fun n σ H1 => ∃ s1, n = r - s1 ∧ s ≤ s1 ∧ s1 ≤ r ∧ σ = [some (.ref p), some (.int s), none, none] ∧ RdA C Z p dx l H1 s1 nm (8 - (d : Int)) ∧ K2 p l H H1, ⟨_, s, rfl, Nat.le_refl _, g1, rfl, R, K2.refl _ _ _⟩, ?_⟩
      rintro n σ H1 ⟨s1, rfl, ha, hb, rfl, R1, k1⟩
      refine ⟨.ref p, rfl, p, dx, _, rfl, R1.e, nS _ _, Z, p, dx, l, s1, nm, _, rfl, R1, rfl, _, rfl, ?_⟩
      by_cases hlt : s1 < r
      · obtain ⟨d, hz, hdd⟩ := g5 s1 ha hlt
        rw [sg_some hz, decide_eq_false em_ne]
        refine iteT ⟨.ref p, rfl, p, dx, _, rfl, R1.e, nS _ _, Z, p, dx, l, s1, nm, _, rfl, R1, d, _, by rw [sg_some hz] <;> rfl, rfl, _, rfl, ?_⟩
        rw [decide_eq_true ((smaS d).mpr hdd)]
        refine iteT ⟨fun σ' H' => ∃ s2, s2 = s1 + 1 ∧ σ' = [some (.ref p), some (.int s), none, none] ∧ RdA C Z p dx l H' s2 nm _ ∧ K2 p l H H', fun σ' H' ⟨s2, h1, h2, h3, h4⟩ => ⟨r - s2, by omega, s2, rfl, by omega, by omega, h2, h3, h4⟩, ?_⟩
        refine ⟨.ref p, rfl, p, C, dx, _, _, rfl, R1.e, T.cl, T.nSp, rf_spot, _, _, rfl, rfl, dx, _, R1.e, (show 4 < 1000 by decide), ?_⟩
        exact ⟨s1 + 1, rfl, rfl, R1.spot (s1 + 1) (Nat.le_succ s1), k1.trans K2.p⟩
      · obtain rfl : s1 = r := by omega
        rw [sg_some g2, decide_eq_false em_ne]
        refine iteT ⟨.ref p, rfl, p, dx, _, rfl, R1.e, nS _ _, Z, p, dx, l, s1, nm, _, rfl, R1, 58, _, by rw [sg_some g2] <;> rfl, rfl, _, rfl, ?_⟩
        rw [decide_eq_false fun z => absurd ((smaS 58).mp z).1 (by decide)]
        exact iteF ⟨rfl, R1, k1⟩
    obtain ⟨rfl, R1, k1⟩ := hM
    refine ⟨.ref p, rfl, p, C, dx, _, _, rfl, R1.e, T.cl, T.nStr, rf_string, .int s, rfl, s, rfl, .ref p, rfl, p, C, dx, _, _, rfl, R1.e, T.cl, T.nSp, rf_spot, r, rfl, tx Z, rfl, tx_len60 R.z, ?_⟩
    rw [cut_sub, g4]
    have hl : (tx n).length = n.length := tx_len n
    have hL : (tx n).length ≤ sizeLine := by
      rw [hl]
      exact Nat.le_trans w3 (by decide)
    refine ⟨.ref p, rfl, p, dx, _, rfl, R1.e, nD _ _, .str (tx n), rfl, tx n, rfl, hL, _, _, rfl, rfl, _, rfl, ?_⟩
    rw [decide_eq_true (show (1 : Int) ≤ ((tx n).length : Int) by rw [hl]; omega)]
    refine iteT ⟨_, _, rfl, rfl, ?_⟩
    show ∃ c, V.bl (decide (((tx n).length : Int) ≤ 8)) = .bl c ∧ _
    rw [decide_eq_true (show ((tx n).length : Int) ≤ 8 by rw [hl]; omega)]
    refine ⟨true, rfl, iteT ⟨.str (tx n), rfl, .ref p, rfl, p, C, dx, _, _, rfl, R1.e, T.cl, T.nNm, rf_names, l, nmV nm, rfl, .inl (.inl (.inl R1.n)), rfl, ?_, ?_⟩⟩
    · exact List.all_eq_true.mpr fun y hy => by
        obtain ⟨m, _, rfl⟩ := List.mem_map.mp hy
        rfl
    rw [inV_nm w4]
    refine ⟨true, rfl, iteT ⟨.ref p, rfl, p, dx, _, rfl, R1.e, nK _ _, Z, p, dx, l, r, nm, _, 58, rfl, R1, fun _ H2 R2 k2 => ?_, fun z => absurd g2 z⟩⟩
    refine ⟨p, rfl, ?_⟩
    have hnm : nm.length < r + 1 := Nat.lt_succ_of_le R1.k
    have hrZ := lt_of g2
    refine ⟨.ref p, rfl, p, C, dx, _, _, rfl, R2.e, T.cl, T.nNm, rf_names, .inl ⟨rfl, _, .inl (.inl R2.n)⟩, .str (tx n), rfl, l, _, _, rfl, rfl, R2.n, Nat.lt_of_le_of_lt (show (nmV nm).length ≤ 60 by unfold nmV; rw [List.length_map]; omega) (by decide), ?_⟩
    have R3 := R2.nam n hnm
    refine ⟨.ref p, rfl, p, dx, _, rfl, R3.e, nC _ _, Z, p, dx, l, r + 1, nm ++ [n], u, r', nm', rfl, hd, R3, w5, fun v H4 o4 R4 k4 => ?_⟩
    refine ⟨.ref p, rfl, p, dx, _, rfl, R4.e, nD _ _, .ref p, rfl, p, dx, _, rfl, R4.e, nK _ _, Z, p, dx, l, r', nm', _, 62, rfl, R4, fun _ H5 R5 k5 => ?_, fun z => absurd w6 z⟩
    refine ⟨p, rfl, .str (tx n), rfl, v, rfl, (show 3 ≤ sizeLine by decide), fun b hb => ?_⟩
    exact q _ _ (.capture upd_same ((o4.mono (R4.kt k5)).mono (KT.same (smU hb)))) (R5.up (smU hb)) ((k1.trans (k2.trans (K2.l.trans (k4.trans k5)))).trans (K2.same (smU hb)))
end
end Sf4
namespace Sf4
open PySem PySem.Spec PyProof.Rows L2 Sf
theorem scUnit : FnScope ["self", "sign", "tree"] ["self"] (defScope sUnit) := ⟨rfl, rfl, rfl, by decide +kernel, rfl, by decide +kernel, by decide +kernel⟩
theorem scItem : FnScope ["self", "part", "least", "most"] ["self"] (defScope sItem) := ⟨rfl, rfl, rfl, by decide +kernel, rfl, by decide +kernel, by decide +kernel⟩
theorem scChain : FnScope ["self", "parts"] ["self"] (defScope sChain) := ⟨rfl, rfl, rfl, by decide +kernel, rfl, by decide +kernel, by decide +kernel⟩
theorem scChoice : FnScope ["self", "parts"] ["self"] (defScope sChoice) := ⟨rfl, rfl, rfl, by decide +kernel, rfl, by decide +kernel, by decide +kernel⟩
theorem st_cps : (LSs ++ Str.ofString ".[(<").cps.toList = LETc ++ [46, 91, 40, 60] := by decide +kernel
theorem st_in {c : Nat} : c ∈ (LSs ++ Str.ofString ".[(<").cps.toList ↔ (c ∈ LETc ∨ c = 46 ∨ c = 91 ∨ c = 40 ∨ c = 60) := by
  rw [st_cps, List.mem_append]
  simp only [List.mem_cons, List.not_mem_nil, or_false]
theorem op_cps {c : Nat} : c ∈ (Str.ofString "(<").cps.toList ↔ (c = 40 ∨ c = 60) := by
  rw [show (Str.ofString "(<").cps.toList = [40, 60] by decide +kernel]
  simp only [List.mem_cons, List.not_mem_nil, or_false]
theorem unit_can {Z : List Nat} {can : Prop} {Ci : Rel Tr} {p q : Nat} {nm nm' : Nm} {t : Tr} (h : RUnit Z can Ci p nm t q nm') :
    (∃ c, Z[p]? = some c ∧ c ∈ LETc ∧ t = .place [c] ∧ q = p + 1 ∧ nm' = nm) ∨ (Z[p]? = some 46 ∧ t = .place LETc ∧ q = p + 1 ∧ nm' = nm) ∨ (Z[p]? = some 91 ∧ Z[p + 1]? ≠ some 94 ∧ ∃ ss, RSome Z (p + 1) ss q ∧ t = .place (inC ss) ∧ nm' = nm) ∨
    (can ∧ ((Z[p]? = some 40 ∧ ((Z[p + 1]? = some 41 ∧ t = .empty ∧ q = p + 1 + 1 ∧ nm' = nm) ∨ (Z[p + 1]? ≠ some 41 ∧ ∃ r, Ci (p + 1) nm t r nm' ∧ Z[r]? = some 41 ∧ q = r + 1))) ∨
      (Z[p]? = some 60 ∧ ∃ n u r r', RName Z (p + 1) n r ∧ 1 ≤ n.length ∧ n.length ≤ 8 ∧ n ∉ nm ∧ Ci (r + 1) (nm ++ [n]) u r' nm' ∧ Z[r']? = some 62 ∧ q = r' + 1 ∧ t = .capture n u))) := by
  cases h with
  | letter h1 h2 => exact .inl ⟨_, h1, h2, rfl, rfl, rfl⟩
  | dot h1 => exact .inr (.inl ⟨h1, rfl, rfl, rfl⟩)
  | cls h1 h2 h3 => exact .inr (.inr (.inl ⟨h1, h2, _, h3, rfl, rfl⟩))
  | nothing h1 h2 h3 => exact .inr (.inr (.inr ⟨h1, .inl ⟨h2, .inl ⟨h3, rfl, rfl, rfl⟩⟩⟩))
  | group h1 h2 h3 h4 h5 => exact .inr (.inr (.inr ⟨h1, .inl ⟨h2, .inr ⟨h3, _, h4, h5, rfl⟩⟩⟩))
  | capture h1 h2 h3 h4 h5 h6 h7 h8 => exact .inr (.inr (.inr ⟨h1, .inr ⟨h2, _, _, _, _, h3, h4, h5, h6, h7, h8, rfl, rfl⟩⟩))
theorem unit_cases {Z : List Nat} {d p q : Nat} {nm nm' : Nm} {t : Tr} (h : RU Z d p nm t q nm') :
    (∃ c, Z[p]? = some c ∧ c ∈ LETc ∧ t = .place [c] ∧ q = p + 1 ∧ nm' = nm) ∨ (Z[p]? = some 46 ∧ t = .place LETc ∧ q = p + 1 ∧ nm' = nm) ∨ (Z[p]? = some 91 ∧ Z[p + 1]? ≠ some 94 ∧ ∃ ss, RSome Z (p + 1) ss q ∧ t = .place (inC ss) ∧ nm' = nm) ∨
    (∃ e, d = e + 1 ∧ ((Z[p]? = some 40 ∧ RGrp Z e (p + 1) nm t q nm') ∨ (Z[p]? = some 60 ∧ RCap Z e (p + 1) nm t q nm'))) := by
  cases d with
  | zero =>
    rcases unit_can (h : RUnit Z False _ p nm t q nm') with h | h | h | h
    · exact .inl h
    · exact .inr (.inl h)
    · exact .inr (.inr (.inl h))
    · exact h.1.elim
  | succ e =>
    rcases unit_can (h : RUnit Z True (RC Z e) p nm t q nm') with h | h | h | h
    · exact .inl h
    · exact .inr (.inl h)
    · exact .inr (.inr (.inl h))
    · exact .inr (.inr (.inr ⟨e, rfl, h.2⟩))
section
variable {P : Program} {w : World} {K : PySem.W.Frag} {mg : Str → Option Value} {base : Heap} {C : Addr} {f : Nat → Addr} {fd : Nat → FuncData} {tk : Nat → Tok} {cd : Addr} {ces : Array DictEntry} {cn : Nat} {ct : Nat → Addr}
def spNo : Sp := fun _ _ _ _ => False
theorem ok_no {k : Nat} {g : Addr} {gd : FuncData} {ps : List Str} : FnOk P w K mg base CX0 k g gd ps spNo := ⟨fun _ _ _ _ h => h.elim, fun _ _ _ _ _ _ _ _ _ _ _ _ _ h => h.elim⟩
def spIn (C : Addr) (R : List Nat → Nat → Rel Tr) : Nat → Sp
  | 0 => spNo
  | d + 1 => spR C d fun Z => R Z d
theorem ok_unit (T : RT K w mg C f fd tk cd ces cn ct) {k d : Nat} (hk : 4 ≤ k) (GG : FnOk P w K mg base CX0 k (f 10) (fd 10) ["self"] (spIn C RGrp d)) (GC : FnOk P w K mg base CX0 k (f 11) (fd 11) ["self"] (spIn C RCap d)) :
    FnOk P w K mg base CX0 (k + 1) (f 9) (fd 9) ["self"] (spR C d fun Z => RU Z d) := by
  refine T.mUnit.F.ok scUnit (fun vs H Q E h => ?_) (fun cdv A outer s H vs Q E hr h => ?_)
  · obtain ⟨Z, p, dx, l, s, nm, t, q, nm', rfl, _⟩ := h
    rfl
  · obtain ⟨Z, p, dx, l, s, nm, t, e, nm', rfl, hd, R, hu, q⟩ := h
    have GS := ok_sign (P := P) (base := base) T
    have GD := ok_demand (P := P) (base := base) T
    have GL := ok_class (P := P) (base := base) T
    have h1 : 1 ≤ k := Nat.le_trans (by decide) hk
    refine ⟨_, pss_cons (ps_set (i := 1) scUnit.nd rfl (.inl rfl) (pe_meth0 (pv 0) T.cl T.mSign.m GS (hr.mono h1) T.mSign.b .nil pass0))
      (pss_cons (ps_expr (pe_meth (pv 0) T.cl T.mDemand.m GD (hr.mono h1) T.mDemand.b .nil pass0 (pa_cons (pe_cmpR op_ne (pv 1) pe_str (nomark _)) pa_nil)))
      (pss_cons (ps_fldaug (pv 0) pe_int in_add)
      (pss_cons (ps_if (pt_cmpR op_inS (pv 1) (pe_glob (v := .str LSs) rfl T.gLet ⟨_, rfl⟩) rfl) (pss_one (ps_ret (pe_tup (pa_cons (pe_glob (v := .str plW) rfl T.gPl ⟨_, rfl⟩) (pa_cons (pv 1) pa_nil))))) pss_nil)
      (pss_cons (ps_if (pt_cmpR op_eq (pv 1) pe_str (nomark _)) (pss_one (ps_ret (pe_tup (pa_cons (pe_glob (v := .str plW) rfl T.gPl ⟨_, rfl⟩) (pa_cons (pe_glob (v := .str LSs) rfl T.gLet ⟨_, rfl⟩) pa_nil))))) pss_nil)
      (pss_cons (ps_if (pt_cmpR op_eq (pv 1) pe_str (nomark _)) (pss_one (ps_ret (pe_tup (pa_cons (pe_glob (v := .str plW) rfl T.gPl ⟨_, rfl⟩) (pa_cons (pe_meth0 (pv 0) T.cl T.mClass.m GL (hr.mono hk) T.mClass.b .nil pass0) pa_nil))))) pss_nil)
      (pss_cons (ps_expr (pe_meth (pv 0) T.cl T.mDemand.m GD (hr.mono h1) T.mDemand.b .nil pass0 (pa_cons
          (pe_and (pe_cmpR op_inS (pv 1) pe_str rfl) (pe_one (pe_cmpR op_lt (pe_fld (pv 0) rfl) (pe_glob (v := .int 8) rfl T.gMO ⟨_, rfl⟩) (nomark _)))) pa_nil)))
      (pss_cons (ps_fldaug (pv 0) pe_int in_add)
      (pss_cons (ps_set (i := 2) scUnit.nd rfl (.inl rfl) (pe_ifExp (pt_cmpR op_eq (pv 1) pe_str (nomark _)) (pe_meth0 (pv 0) T.cl T.mGroup.m GG hr T.mGroup.b .nil pass0) (pe_meth0 (pv 0) T.cl T.mCapture.m GC hr T.mCapture.b .nil pass0)))
      (pss_cons (ps_fldaug (pv 0) pe_int in_sub)
      (pss_one (ps_ret (pv 2)))))))))))), ?_⟩
    have nS : ∀ s' m', (rf Z s' l m').lookup ("sign" : Str) = none := fun _ _ => rf_no (by decide +kernel) (by decide +kernel) (by decide +kernel) (by decide +kernel)
    have nD : ∀ s' m', (rf Z s' l m').lookup ("demand" : Str) = none := fun _ _ => rf_no (by decide +kernel) (by decide +kernel) (by decide +kernel) (by decide +kernel)
    have nG : ∀ s' m', (rf Z s' l m').lookup ("read_group" : Str) = none := fun _ _ => rf_no (by decide +kernel) (by decide +kernel) (by decide +kernel) (by decide +kernel)
    have nC : ∀ s' m', (rf Z s' l m').lookup ("read_capture" : Str) = none := fun _ _ => rf_no (by decide +kernel) (by decide +kernel) (by decide +kernel) (by decide +kernel)
    have nL : ∀ s' m', (rf Z s' l m').lookup ("read_class" : Str) = none := fun _ _ => rf_no (by decide +kernel) (by decide +kernel) (by decide +kernel) (by decide +kernel)
    have fin : ∀ {c : Nat}, Z[s]? = some c → Z[s]? = some c := fun h => h
    obtain ⟨c, hz⟩ : ∃ c, Z[s]? = some c := by
      have := (ru_pgr Z d).go hu
      exact ⟨_, List.getElem?_eq_getElem (by omega)⟩
    refine ⟨.ref p, rfl, p, dx, _, rfl, R.e, nS _ _, Z, p, dx, l, s, nm, _, rfl, R, ?_⟩
    rw [sg_some hz]
    refine ⟨.ref p, rfl, p, dx, _, rfl, R.e, nD _ _, .str (tx [c]), rfl, rfl, p, ?_, ?_⟩
    · show [V.ref p, V.bl (!decide (V.str (tx [c]) = V.str (Str.ofString "")))] = _
      rw [decide_eq_false em_ne] <;> rfl
    refine ⟨.ref p, rfl, p, C, dx, _, _, rfl, R.e, T.cl, T.nSp, rf_spot, _, _, rfl, rfl, dx, _, R.e, (show 4 < 1000 by decide), ?_⟩
    have R1 := R.spot (s + 1) (Nat.le_succ s)
    have k1 : K2 p l H (upd H p (.ins C dx (putF "spot" (.int ((s + 1 : Nat) : Int)) (rf Z s l (8 - (d : Int)))))) := K2.p
    have e1 : (upd H p (.ins C dx (putF "spot" (.int ((s : Int) + 1)) (rf Z s l (8 - (d : Int)))))) = (upd H p (.ins C dx (putF "spot" (.int ((s + 1 : Nat) : Int)) (rf Z s l (8 - (d : Int)))))) := rfl
    rw [e1]
    generalize upd H p (.ins C dx (putF "spot" (.int ((s + 1 : Nat) : Int)) (rf Z s l (8 - (d : Int))))) = H1 at R1 k1 ⊢
    refine ⟨.str (tx [c]), rfl, c, _, rfl, rfl, _, rfl, ?_⟩
    have neq : ∀ {c d : Nat}, c ≠ d → ¬ (V.str (tx [c]) = V.str (tx [d])) := fun h z => h (List.cons.inj (tx_inj (V.str.inj z))).1
    have s46 : V.str (Str.ofString ".") = V.str (tx [46]) := by decide +kernel
    have s91 : V.str (Str.ofString "[") = V.str (tx [91]) := by decide +kernel
    have s40 : V.str (Str.ofString "(") = V.str (tx [40]) := by decide +kernel
    have n46 : ¬ (46 ∈ LETc) := by decide
    have n91 : ¬ (91 ∈ LETc) := by decide
    have n40 : ¬ (40 ∈ LETc) := by decide
    have n60 : ¬ (60 ∈ LETc) := by decide
    rcases unit_cases hu with ⟨c', u1, u2, rfl, rfl, rfl⟩ | ⟨u1, rfl, rfl, rfl⟩ | ⟨u1, u2, ss, u3, rfl, rfl⟩ | ⟨d', rfl, u⟩
    · obtain rfl : c = c' := Option.some.inj (hz.symm.trans u1)
      rw [decide_eq_true (inLS.mpr u2)]
      exact iteT ⟨.str (tx [c]), rfl, (show 2 ≤ sizeLine by decide), fun b hb => q _ _ (.place upd_same) (R1.up (smU hb)) (k1.trans (K2.same (smU hb)))⟩
    · obtain rfl : c = 46 := Option.some.inj (hz.symm.trans u1)
      rw [decide_eq_false fun z => n46 (inLS.mp z)]
      refine iteF ⟨_, rfl, rfl, _, rfl, ?_⟩
      rw [s46, decide_eq_true rfl]
      refine iteT ⟨(show 2 ≤ sizeLine by decide), fun b hb => q _ _ (.place ?_) (R1.up (smU hb)) (k1.trans (K2.same (smU hb)))⟩
      rw [upd_same, show LSs = tx LETc by decide +kernel]
    · obtain rfl : c = 91 := Option.some.inj (hz.symm.trans u1)
      rw [decide_eq_false fun z => n91 (inLS.mp z)]
      refine iteF ⟨_, rfl, rfl, _, rfl, ?_⟩
      rw [s46, decide_eq_false (neq (by decide))]
      refine iteF ⟨_, rfl, rfl, _, rfl, ?_⟩
      rw [s91, decide_eq_true rfl]
      refine iteT ⟨.ref p, rfl, p, dx, _, rfl, R1.e, nL _ _, Z, p, dx, l, s + 1, _, _, ss, e, rfl, R1, u2, u3, fun H2 R2 k2 => ?_⟩
      exact ⟨(show 2 ≤ sizeLine by decide), fun b hb => q _ _ (.place upd_same) (R2.up (smU hb)) ((k1.trans k2).trans (K2.same (smU hb)))⟩
    have cc : c = 40 ∨ c = 60 := by
      rcases u with ⟨u, _⟩ | ⟨u, _⟩
      · exact .inl (Option.some.inj (hz.symm.trans u))
      · exact .inr (Option.some.inj (hz.symm.trans u))
    have nc : ¬ (c ∈ LETc) ∧ c ≠ 46 ∧ c ≠ 91 := by
      rcases cc with rfl | rfl
      · exact ⟨n40, by decide, by decide⟩
      · exact ⟨n60, by decide, by decide⟩
    rw [decide_eq_false fun z => nc.1 (inLS.mp z)]
    refine iteF ⟨_, rfl, rfl, _, rfl, ?_⟩
    rw [s46, decide_eq_false (neq nc.2.1)]
    refine iteF ⟨_, rfl, rfl, _, rfl, ?_⟩
    rw [s91, decide_eq_false (neq nc.2.2)]
    refine iteF ⟨.ref p, rfl, p, dx, _, rfl, R1.e, nD _ _, .str (tx [c]), rfl, c, _, rfl, rfl, ?_⟩
    rw [decide_eq_true (op_cps.mpr cc)]
    refine ⟨true, rfl, iteT ⟨.ref p, rfl, p, C, dx, _, _, rfl, R1.e, T.cl, T.nMo, rf_open, _, _, rfl, rfl, p, ?_, ?_⟩⟩
    · show [V.ref p, V.bl (decide (8 - ((d' + 1 : Nat) : Int) < 8))] = _
      rw [decide_eq_true (by omega)]
    refine ⟨.ref p, rfl, p, C, dx, _, _, rfl, R1.e, T.cl, T.nMo, rf_open, _, _, rfl, rfl, dx, _, R1.e, (show 4 < 1000 by decide), ?_⟩
    have em : (8 - ((d' + 1 : Nat) : Int)) + 1 = 8 - (d' : Int) := by omega
    rw [em]
    have R2 := R1.opn (8 - (d' : Int))
    have k2 : K2 p l H _ := k1.trans (K2.p (o := .ins C dx (putF "many_open" (.int (8 - (d' : Int))) (rf Z (s + 1) l (8 - ((d' + 1 : Nat) : Int))))))
    generalize upd H1 p (.ins C dx (putF "many_open" (.int (8 - (d' : Int))) (rf Z (s + 1) l (8 - ((d' + 1 : Nat) : Int))))) = H2 at R2 k2 ⊢
    have em2 : (8 - (d' : Int)) - 1 = 8 - ((d' + 1 : Nat) : Int) := by omega
    rcases u with ⟨u1, u2⟩ | ⟨u1, u2⟩
    · obtain rfl : c = 40 := Option.some.inj (hz.symm.trans u1)
      refine ⟨_, rfl, rfl, _, rfl, ?_⟩
      rw [s40, decide_eq_true rfl]
      refine iteT ⟨.ref p, rfl, p, dx, _, rfl, R2.e, nG _ _, Z, p, dx, l, s + 1, nm, t, e, nm', rfl, by omega, R2, u2, fun v H3 o3 R3 k3 => ?_⟩
      refine ⟨.ref p, rfl, p, C, dx, _, _, rfl, R3.e, T.cl, T.nMo, rf_open, _, _, rfl, rfl, dx, _, R3.e, (show 4 < 1000 by decide), v, rfl, ?_⟩
      rw [em2]
      exact q v _ (o3.mono (R3.kt K2.p)) (R3.opn _) ((k2.trans k3).trans K2.p)
    · obtain rfl : c = 60 := Option.some.inj (hz.symm.trans u1)
      refine ⟨_, rfl, rfl, _, rfl, ?_⟩
      rw [s40, decide_eq_false (neq (by decide))]
      refine iteF ⟨.ref p, rfl, p, dx, _, rfl, R2.e, nC _ _, Z, p, dx, l, s + 1, nm, t, e, nm', rfl, by omega, R2, u2, fun v H3 o3 R3 k3 => ?_⟩
      refine ⟨.ref p, rfl, p, C, dx, _, _, rfl, R3.e, T.cl, T.nMo, rf_open, _, _, rfl, rfl, dx, _, R3.e, (show 4 < 1000 by decide), v, rfl, ?_⟩
      rw [em2]
      exact q v _ (o3.mono (R3.kt K2.p)) (R3.opn _) ((k2.trans k3).trans K2.p)
end
end Sf4
namespace Sf4
open PySem PySem.Spec PyProof.Rows L2 Sf
section
variable {P : Program} {w : World} {K : PySem.W.Frag} {mg : Str → Option Value} {base : Heap} {C : Addr} {f : Nat → Addr} {fd : Nat → FuncData} {tk : Nat → Tok} {cd : Addr} {ces : Array DictEntry} {cn : Nat} {ct : Nat → Addr}
/-- what COUNTS tells of a sign -/
theorem cnt_of (T : RT K w mg C f fd tk cd ces cn ct) {c a : Nat} {b : Option Nat} (h : cnt c = some (a, b)) : ∃ t : Addr, PySem.W.nsIn K cd (tx [c]) = some (some (.ref t)) ∧ ∀ H : Hp, SqT K H t [.int a, mst b] := by
  have h42 : Str.ofString "*" = tx [42] := by decide +kernel
  have h43 : Str.ofString "+" = tx [43] := by decide +kernel
  have h63 : Str.ofString "?" = tx [63] := by decide +kernel
  by_cases e1 : c = 42
  · subst e1
    cases h
    exact ⟨ct 0, h42 ▸ T.c1, T.t1⟩
  by_cases e2 : c = 43
  · subst e2
    cases h
    exact ⟨ct 1, h43 ▸ T.c2, T.t2⟩
  by_cases e3 : c = 63
  · subst e3
    cases h
    exact ⟨ct 2, h63 ▸ T.c3, T.t3⟩
  exfalso
  unfold cnt at h
  split at h
  · exact e1 rfl
  · exact e2 rfl
  · exact e3 rfl
  · cases h
theorem cnt_no (T : RT K w mg C f fd tk cd ces cn ct) {Z : List Nat} {q : Nat} (h : ∀ c, Z[q]? = some c → cnt c = none) : PySem.W.nsIn K cd (tx (sg Z q)) = some none := by
  have h42 : Str.ofString "*" = tx [42] := by decide +kernel
  have h43 : Str.ofString "+" = tx [43] := by decide +kernel
  have h63 : Str.ofString "?" = tx [63] := by decide +kernel
  have k : ∀ d, cnt d ≠ none → tx (sg Z q) ≠ tx [d] := fun d hd z => by
    have z := tx_inj z
    cases e : Z[q]? with
    | none =>
      rw [sg_none e] at z
      cases z
    | some c =>
      rw [sg_some e] at z
      cases z
      exact hd (h _ e)
  exact T.c0 _ (h42 ▸ k 42 (by decide)) (h43 ▸ k 43 (by decide)) (h63 ▸ k 63 (by decide))
theorem ok_item (T : RT K w mg C f fd tk cd ces cn ct) {k d : Nat} (hk : 4 ≤ k) (G : FnOk P w K mg base CX0 k (f 9) (fd 9) ["self"] (spR C d fun Z => RU Z d)) : FnOk P w K mg base CX0 (k + 1) (f 7) (fd 7) ["self"] (spR C d fun Z => RItem Z (RU Z d)) := by
  refine T.mItem.F.ok scItem (fun vs H Q E h => ?_) (fun cdv A outer s H vs Q E hr h => ?_)
  · obtain ⟨Z, p, dx, l, s, nm, t, q, nm', rfl, _⟩ := h
    rfl
  · obtain ⟨Z, p, dx, l, s, nm, t, e, nm', rfl, hd, R, hi, q⟩ := h
    have GS := ok_sign (P := P) (base := base) T
    have GD := ok_demand (P := P) (base := base) T
    have GK := ok_skips (P := P) (base := base) T
    have GN := ok_number (P := P) (base := base) T
    have h1 : 1 ≤ k := Nat.le_trans (by decide) hk
    have h2 : 2 ≤ k := Nat.le_trans (by decide) hk
    refine ⟨_, pss_cons (ps_set (i := 1) scItem.nd rfl (.inl rfl) (pe_meth0 (pv 0) T.cl T.mUnit.m G hr T.mUnit.b .nil pass0))
      (pss_cons (ps_if (pt_cmpR (op_in_kd T.kd) (pe_meth0 (pv 0) T.cl T.mSign.m GS (hr.mono h1) T.mSign.b .nil pass0) (pe_glob (v := .ref cd) rfl T.gCs rfl) rfl)
          (pss_cons (ps_asg (pe_ix ix_kdict (pe_glob (v := .ref cd) rfl T.gCs rfl) (pe_meth0 (pv 0) T.cl T.mSign.m GS (hr.mono h1) T.mSign.b .nil pass0) (fun _ _ => rfl))
            (pg_tup rfl (pgs_cons (pg_name (i := 2) scItem.nd rfl (.inl rfl)) (pgs_cons (pg_name (i := 3) scItem.nd rfl (.inl rfl)) pgs_nil))))
          (pss_cons (ps_fldaug (pv 0) pe_int in_add)
          (pss_one (ps_ret (pe_tup (pa_cons (pe_glob (v := .str coW) rfl T.gCo ⟨_, rfl⟩) (pa_cons (pv 2) (pa_cons (pv 3) (pa_cons (pv 1) pa_nil)))))))))
          pss_nil)
      (pss_cons (ps_if (pt_not (pt_val (pe_meth (pv 0) T.cl T.mSkips.m GK (hr.mono h2) T.mSkips.b .nil pass0 (pa_cons pe_str pa_nil)))) (pss_one (ps_ret (pv 1))) pss_nil)
      (pss_cons (ps_asg2 (pe_meth0 (pv 0) T.cl T.mNumber.m GN (hr.mono h2) T.mNumber.b .nil pass0) (pg_name (i := 2) scItem.nd rfl (.inl rfl)) (pg_name (i := 3) scItem.nd rfl (.inl rfl)))
      (Evl.pss_cut (ps_if (pt_val (pe_meth (pv 0) T.cl T.mSkips.m GK (hr.mono h2) T.mSkips.b .nil pass0 (pa_cons pe_str pa_nil)))
          (pss_one (ps_set (i := 3) scItem.nd rfl (.inl rfl) (pe_ifExp (pt_cmpR op_eq (pe_meth0 (pv 0) T.cl T.mSign.m GS (hr.mono h1) T.mSign.b .nil pass0) pe_str (nomark _)) pe_non (pe_meth0 (pv 0) T.cl T.mNumber.m GN (hr.mono h2) T.mNumber.b .nil pass0))))
          pss_nil)
      (pss_cons (ps_expr (pe_meth (pv 0) T.cl T.mDemand.m GD (hr.mono h1) T.mDemand.b .nil pass0 (pa_cons
          (pe_and (pe_meth (pv 0) T.cl T.mSkips.m GK (hr.mono h2) T.mSkips.b .nil pass0 (pa_cons pe_str pa_nil))
            (pe_one (pe_or (pe_cmpR op_isN (pv 3) pe_non (nomark _)) (pe_one (pe_cmpR op_le (pv 2) (pv 3) (nomark _)))))) pa_nil)))
      (pss_one (ps_ret (pe_tup (pa_cons (pe_glob (v := .str coW) rfl T.gCo ⟨_, rfl⟩) (pa_cons (pv 2) (pa_cons (pv 3) (pa_cons (pv 1) pa_nil)))))))))))), ?_⟩
    have nS : ∀ s' m', (rf Z s' l m').lookup ("sign" : Str) = none := fun _ _ => rf_no (by decide +kernel) (by decide +kernel) (by decide +kernel) (by decide +kernel)
    have nD : ∀ s' m', (rf Z s' l m').lookup ("demand" : Str) = none := fun _ _ => rf_no (by decide +kernel) (by decide +kernel) (by decide +kernel) (by decide +kernel)
    have nK : ∀ s' m', (rf Z s' l m').lookup ("skips" : Str) = none := fun _ _ => rf_no (by decide +kernel) (by decide +kernel) (by decide +kernel) (by decide +kernel)
    have nU : ∀ s' m', (rf Z s' l m').lookup ("read_unit" : Str) = none := fun _ _ => rf_no (by decide +kernel) (by decide +kernel) (by decide +kernel) (by decide +kernel)
    have nN : ∀ s' m', (rf Z s' l m').lookup ("read_number" : Str) = none := fun _ _ => rf_no (by decide +kernel) (by decide +kernel) (by decide +kernel) (by decide +kernel)
    obtain ⟨u, r, nm1, hu, hc⟩ : ∃ u r nm1, RU Z d s nm u r nm1 ∧ ((u = t ∧ e = r ∧ nm' = nm1 ∧ ∀ c, Z[r]? = some c → cnt c = none ∧ c ≠ 123) ∨ (nm' = nm1 ∧ ∃ c a b, Z[r]? = some c ∧ cnt c = some (a, b) ∧ e = r + 1 ∧ t = .count a b u) ∨
        (nm' = nm1 ∧ Z[r]? = some 123 ∧ ∃ a b r1 r2, RNum Z (r + 1) a r1 ∧ t = .count a b u ∧ e = r2 + 1 ∧ Z[r2]? = some 125 ∧ ((b = some a ∧ r2 = r1) ∨ (b = none ∧ Z[r1]? = some 44 ∧ r2 = r1 + 1) ∨ (∃ b', b = some b' ∧ Z[r1]? = some 44 ∧ RNum Z (r1 + 1) b' r2 ∧ a ≤ b')))) := by
      cases hi with
      | plain h1 h2 => exact ⟨_, _, _, h1, .inl ⟨rfl, rfl, rfl, h2⟩⟩
      | sign h1 h2 h3 => exact ⟨_, _, _, h1, .inr (.inl ⟨rfl, _, _, _, h2, h3, rfl, rfl⟩)⟩
      | just h1 h2 h3 h4 => exact ⟨_, _, _, h1, .inr (.inr ⟨rfl, h2, _, _, _, _, h3, rfl, rfl, h4, .inl ⟨rfl, rfl⟩⟩)⟩
      | least h1 h2 h3 h4 h5 => exact ⟨_, _, _, h1, .inr (.inr ⟨rfl, h2, _, _, _, _, h3, rfl, rfl, h5, .inr (.inl ⟨rfl, h4, rfl⟩)⟩)⟩
      | both h1 h2 h3 h4 h5 h6 h7 => exact ⟨_, _, _, h1, .inr (.inr ⟨rfl, h2, _, _, _, _, h3, rfl, rfl, h7, .inr (.inr ⟨_, rfl, h4, h5, h6⟩)⟩)⟩
    refine ⟨.ref p, rfl, p, dx, _, rfl, R.e, nU _ _, Z, p, dx, l, s, nm, u, r, nm1, rfl, hd, R, hu, fun v H1 o1 R1 k1 => ?_⟩
    refine ⟨.ref p, rfl, p, dx, _, rfl, R1.e, nS _ _, Z, p, dx, l, r, nm1, _, rfl, R1, ?_⟩
    rcases hc with ⟨rfl, rfl, rfl, hp⟩ | ⟨rfl, c, a, b, hz, hcn, rfl, rfl⟩ | ⟨rfl, hz, a, b, r1, r2, hn, rfl, rfl, hz2, hb⟩
    · refine ⟨_, none, rfl, rfl, cnt_no T fun c h => (hp c h).1, _, rfl, iteF ?_⟩
      refine ⟨.ref p, rfl, p, dx, _, rfl, R1.e, nK _ _, Z, p, dx, l, e, nm', _, 123, rfl, R1, fun z => absurd rfl (hp _ z).2, fun _ => ⟨false, rfl, iteT ?_⟩⟩
      exact ⟨v, rfl, q v H1 o1 R1 k1⟩
    · obtain ⟨tp, c1, c2⟩ := cnt_of T hcn
      rw [sg_some hz]
      refine ⟨_, _, rfl, rfl, c1, _, rfl, iteT ?_⟩
      refine ⟨.ref p, rfl, p, dx, _, rfl, R1.e, nS _ _, Z, p, dx, l, r, nm', _, rfl, R1, ?_⟩
      rw [sg_some hz]
      refine ⟨cd, tx [c], .ref tp, rfl, rfl, ⟨ces, cn, _, T.kd.at_, T.kd.lit, c1, rfl⟩, tp, _, rfl, c2 _, rfl, _, _, rfl, _, _, rfl, rfl, ?_⟩
      refine ⟨.ref p, rfl, p, C, dx, _, _, rfl, R1.e, T.cl, T.nSp, rf_spot, _, _, rfl, rfl, dx, _, R1.e, (show 4 < 1000 by decide), ?_⟩
      have R2 := R1.spot (r + 1) (Nat.le_succ r)
      refine ⟨_, rfl, _, rfl, v, rfl, (show 4 ≤ sizeLine by decide), fun b' hb' => ?_⟩
      refine q _ _ (.count upd_same ((o1.mono (R1.kt K2.p)).mono (KT.same (smU hb')))) (R2.up (smU hb')) ((k1.trans K2.p).trans (K2.same (smU hb')))
    · refine ⟨_, none, rfl, rfl, cnt_no T fun c h => by rw [hz] at h; cases h; rfl, _, rfl, iteF ?_⟩
      refine ⟨.ref p, rfl, p, dx, _, rfl, R1.e, nK _ _, Z, p, dx, l, r, nm', _, 123, rfl, R1, fun _ H2 R2 k2 => ⟨true, rfl, iteF ?_⟩, fun z => absurd hz z⟩
      refine ⟨.ref p, rfl, p, dx, _, rfl, R2.e, nN _ _, Z, p, dx, l, r + 1, nm', _, a, r1, rfl, R2, hn, fun H3 R3 k3 => ?_⟩
      refine ⟨fun σ H4 => σ = [some (.ref p), some v, some (.int a), some (mst b)] ∧ RdA C Z p dx l H4 r2 nm' (8 - (d : Int)) ∧ K2 p l H1 H4, ?_, fun σ H4 hM => ?_⟩
      · have k13 := k2.trans k3
        rcases hb with ⟨rfl, rfl⟩ | ⟨rfl, h44, rfl⟩ | ⟨b', rfl, h44, hn2, _⟩
        · refine ⟨.ref p, rfl, p, dx, _, rfl, R3.e, nK _ _, Z, p, dx, l, r2, nm', _, 44, rfl, R3, fun z => ?_, fun _ => ⟨false, rfl, iteF ⟨rfl, R3, k13⟩⟩⟩
          rw [hz2] at z
          cases z
        · refine ⟨.ref p, rfl, p, dx, _, rfl, R3.e, nK _ _, Z, p, dx, l, r1, nm', _, 44, rfl, R3, fun _ H4 R4 k4 => ⟨true, rfl, iteT ?_⟩, fun z => absurd h44 z⟩
          refine ⟨.ref p, rfl, p, dx, _, rfl, R4.e, nS _ _, Z, p, dx, l, r1 + 1, nm', _, rfl, R4, ?_⟩
          rw [sg_some hz2]
          refine ⟨rfl, _, rfl, ?_⟩
          rw [show V.str (tx [125]) = V.str (Str.ofString "}") by decide +kernel, decide_eq_true rfl]
          exact iteT ⟨rfl, R4, k13.trans k4⟩
        · refine ⟨.ref p, rfl, p, dx, _, rfl, R3.e, nK _ _, Z, p, dx, l, r1, nm', _, 44, rfl, R3, fun _ H4 R4 k4 => ⟨true, rfl, iteT ?_⟩, fun z => absurd h44 z⟩
          refine ⟨.ref p, rfl, p, dx, _, rfl, R4.e, nS _ _, Z, p, dx, l, r1 + 1, nm', _, rfl, R4, ?_⟩
          have hne : Z[r1 + 1]? ≠ some 125 := fun z => by
            obtain ⟨_, _, _, _, _, _, _, hlt, hdg, _⟩ := num_word hn2
            obtain ⟨c, hc1, hc2⟩ := hdg (r1 + 1) (Nat.le_refl _) hlt
            rw [z] at hc1
            cases hc1
            exact absurd hc2.2 (by decide)
          refine ⟨rfl, _, rfl, ?_⟩
          rw [decide_eq_false fun z => sg_ne hne ((V.str.inj z).trans (show Str.ofString "}" = tx [125] by decide +kernel))]
          refine iteF ⟨.ref p, rfl, p, dx, _, rfl, R4.e, nN _ _, Z, p, dx, l, r1 + 1, nm', _, b', r2, rfl, R4, hn2, fun H5 R5 k5 => ?_⟩
          exact ⟨rfl, R5, (k13.trans k4).trans k5⟩
      obtain ⟨rfl, R4, k4⟩ := hM
      refine ⟨.ref p, rfl, p, dx, _, rfl, R4.e, nD _ _, .ref p, rfl, p, dx, _, rfl, R4.e, nK _ _, Z, p, dx, l, r2, nm', _, 125, rfl, R4, fun _ H5 R5 k5 => ?_, fun z => absurd hz2 z⟩
      refine ⟨true, rfl, iteT ⟨_, rfl, rfl, _, rfl, ?_⟩⟩
      have fin : ∀ {H6 : Hp}, H6 = H5 → ∀ b', H6 b' = none → Q (.ref b') (upd H6 b' (.tup [.str coW, .int a, mst b, v])) := fun {H6} e6 b' hb' => by
        subst e6
        exact q _ _ (.count upd_same ((o1.mono (R1.kt (k4.trans k5))).mono (KT.same (smU hb')))) (R5.up (smU hb')) ((k1.trans (k4.trans k5)).trans (K2.same (smU hb')))
      cases b with
      | none => exact iteT ⟨p, rfl, _, rfl, _, rfl, v, rfl, (show 4 ≤ sizeLine by decide), fin rfl⟩
      | some b' =>
        have hle : a ≤ b' := by
          rcases hb with ⟨h, _⟩ | ⟨h, _⟩ | ⟨b2, h, _, _, h2⟩
          · cases h
            exact Nat.le_refl _
          · cases h
          · cases h
            exact h2
        refine iteF ⟨_, rfl, _, rfl, _, _, rfl, rfl, p, ?_, _, rfl, _, rfl, v, rfl, (show 4 ≤ sizeLine by decide), fin rfl⟩
        show [V.ref p, V.bl (decide ((a : Int) ≤ (b' : Int)))] = _
        rw [decide_eq_true (by omega)]
end
end Sf4
namespace Sf4
open PySem PySem.Spec PyProof.Rows L2 Sf
section
variable {P : Program} {w : World} {K : PySem.W.Frag} {mg : Str → Option Value} {base : Heap} {C : Addr} {f : Nat → Addr} {fd : Nat → FuncData} {tk : Nat → Tok} {cd : Addr} {ces : Array DictEntry} {cn : Nat} {ct : Nat → Addr}
theorem ok_chain (T : RT K w mg C f fd tk cd ces cn ct) {k d : Nat} (hk : 4 ≤ k) (G : FnOk P w K mg base CX0 k (f 7) (fd 7) ["self"] (spR C d fun Z => RItem Z (RU Z d))) : FnOk P w K mg base CX0 (k + 1) (f 6) (fd 6) ["self"] (spR C d fun Z => RChain Z (RItem Z (RU Z d))) := by
  refine T.mChain.F.ok scChain (fun vs H Q E h => ?_) (fun cdv A outer s H vs Q E hr h => ?_)
  · obtain ⟨Z, p, dx, l, s, nm, t, q, nm', rfl, _⟩ := h
    rfl
  · obtain ⟨Z, p, dx, l, s, nm, t, e, nm', rfl, hd, R, ⟨ts, hm, ht⟩, q⟩ := h
    have GS := ok_sign (P := P) (base := base) T
    have h1 : 1 ≤ k := Nat.le_trans (by decide) hk
    refine ⟨_, pss_cons (ps_set (i := 1) scChain.nd rfl (.inl rfl) (pe_lst (pa_cons (pe_meth0 (pv 0) T.cl T.mItem.m G hr T.mItem.b .nil pass0) pa_nil)))
      (Evl.pss_cut (ps_while PassesOwn.never (PW.pt (pw_and (pt_cmpR op_ne (pe_meth0 (pv 0) T.cl T.mSign.m GS (hr.mono h1) T.mSign.b .nil pass0) pe_str (nomark _))
          (pw_and1 (pt_cmpR op_inS (pe_meth0 (pv 0) T.cl T.mSign.m GS (hr.mono h1) T.mSign.b .nil pass0) (pe_op op_add_str (pe_glob (v := .str LSs) rfl T.gLet ⟨_, rfl⟩) pe_str) rfl))))
        (pss_one (ps_expr (pe_bm PySem.F.plainAttrs_list PySem.F.slot_list_append PySem.F.type_list_append mt_append (pv 1) (pa_cons (pe_meth0 (pv 0) T.cl T.mItem.m G hr T.mItem.b .nil pass0) pa_nil)))))
      (pss_one (ps_ret (pe_ifExp (pt_cmpR op_eq (pe_callB call_len_seq (by rfl) T.zlen PySem.boot_len (pa_cons (pv 1) pa_nil)) pe_int (nomark _)) (pe_ix ix_list (pv 1) pe_int (fun _ _ => rfl))
        (pe_tup (pa_cons (pe_glob (v := .str chW) rfl T.gCh ⟨_, rfl⟩) (pa_cons (pe_tupleOf (by rfl) T.ztup (pv 1)) pa_nil))))))), ?_⟩
    have nS : ∀ s' m', (rf Z s' l m').lookup ("sign" : Str) = none := fun _ _ => rf_no (by decide +kernel) (by decide +kernel) (by decide +kernel) (by decide +kernel)
    have nI : ∀ s' m', (rf Z s' l m').lookup ("read_item" : Str) = none := fun _ _ => rf_no (by decide +kernel) (by decide +kernel) (by decide +kernel) (by decide +kernel)
    obtain ⟨t1, tr, q1, nm1, rfl, f1, f2⟩ := many_first hm
    have pg := item_pgr (ru_pgr Z d)
    have mp := many_pgr pg (fun q => Nat.le_refl q) hm
    have hZ := R.z
    refine ⟨.ref p, rfl, p, dx, _, rfl, R.e, nI _ _, Z, p, dx, l, s, nm, t1, q1, nm1, rfl, hd, R, f1, fun v H1 o1 R1 k1 => ⟨(show 1 ≤ sizeLine by decide), fun a ha => ?_⟩⟩
    have nap := R1.p0 ha
    have nal := R1.l0 ha
    refine ⟨fun σ H2 => ∃ vs, σ = [some (.ref p), some (.ref a)] ∧ H2 a = some (.lst vs) ∧ TrOs H2 vs (t1 :: tr) ∧ RdA C Z p dx l H2 e nm' (8 - (d : Int)) ∧ K2 p l H H2, ?_, fun σ H2 hM => ?_⟩
    · refine ⟨fun n σ H2 => ∃ s1 nm2 dn rt vs, n = rt.length ∧ t1 :: tr = dn ++ rt ∧ σ = [some (.ref p), some (.ref a)] ∧ H2 a = some (.lst vs) ∧ TrOs H2 vs dn ∧ RdA C Z p dx l H2 s1 nm2 (8 - (d : Int)) ∧ K2 p l H H2 ∧ RMore (RItem Z (RU Z d)) (starts Z) id s1 nm2 rt e nm',
        ⟨_, q1, nm1, [t1], tr, [v], rfl, rfl, rfl, upd_same, .cons (o1.mono (KT.same (smU ha))) .nil, R1.up (smU ha), k1.trans (K2.same (smU ha)), f2⟩, ?_⟩
      rintro n σ H2 ⟨s1, nm2, dn, rt, vs, rfl, es, rfl, ea, os, R2, k2, hw⟩
      refine ⟨.ref p, rfl, p, dx, _, rfl, R2.e, nS _ _, Z, p, dx, l, s1, nm2, _, rfl, R2, rfl, _, rfl, ?_⟩
      rcases hw with ⟨rfl, g1, rfl, rfl⟩ | ⟨g1, g2⟩
      · rw [List.append_nil] at es
        subst es
        cases hz : Z[e]? with
        | none =>
          rw [sg_none hz, decide_eq_true em_eq]
          exact iteF (iteF ⟨vs, rfl, ea, os, R2, k2⟩)
        | some c =>
          rw [sg_some hz, decide_eq_false em_ne]
          refine iteT ⟨.ref p, rfl, p, dx, _, rfl, R2.e, nS _ _, Z, p, dx, l, e, _, _, rfl, R2, _, _, rfl, rfl, (show LSs.length + (Str.ofString ".[(<").length ≤ sizeLine by decide +kernel), c, _, by rw [sg_some hz] <;> rfl, rfl, _, rfl, ?_⟩
          rw [decide_eq_false fun z => g1 ⟨c, hz, st_in.mp z⟩]
          exact iteF ⟨vs, rfl, ea, os, R2, k2⟩
      · obtain ⟨c, hz, hc⟩ := g1
        rw [sg_some hz, decide_eq_false em_ne]
        refine iteT ⟨.ref p, rfl, p, dx, _, rfl, R2.e, nS _ _, Z, p, dx, l, s1, _, _, rfl, R2, _, _, rfl, rfl, (show LSs.length + (Str.ofString ".[(<").length ≤ sizeLine by decide +kernel), c, _, by rw [sg_some hz] <;> rfl, rfl, _, rfl, ?_⟩
        rw [decide_eq_true (st_in.mpr hc)]
        obtain ⟨t2, tr2, q2, nm3, rfl, u1, u2⟩ := many_first g2
        have hle := congrArg List.length es
        rw [List.length_append, List.length_cons] at hle
        have hle2 := os.len
        refine iteT ⟨fun σ' H' => ∃ vs', σ' = [some (.ref p), some (.ref a)] ∧ H' a = some (.lst vs') ∧ TrOs H' vs' (dn ++ [t2]) ∧ RdA C Z p dx l H' q2 nm3 (8 - (d : Int)) ∧ K2 p l H H', fun σ' H' ⟨vs', h1, h2, h3, h4, h5⟩ => ⟨tr2.length, by rw [List.length_cons]; omega, q2, nm3, dn ++ [t2], tr2, vs', rfl, by rw [es, List.append_assoc] <;> rfl, h1, h2, h3, h4, h5, u2⟩, ?_⟩
        refine ⟨.ref a, rfl, .inl ⟨rfl, _, .inl (.inl ea)⟩, .ref p, rfl, p, dx, _, rfl, R2.e, nI _ _, Z, p, dx, l, s1, nm2, t2, q2, nm3, rfl, hd, R2, u1, fun v2 H3 o3 R3 k3 => ?_⟩
        have ea3 := k3 a _ nap nal ea
        refine ⟨a, _, _, rfl, rfl, ea3, Nat.lt_of_le_of_lt (show vs.length ≤ 100 by rw [List.length_cons] at mp; omega) (by decide), ?_⟩
        exact ⟨vs ++ [v2], rfl, upd_same, ((os.mono (R2.kt k3)).mono (KT.lst ea3)).snoc (o3.mono (KT.lst ea3)), R3.wr nap nal, K2.put k1 (k2.trans k3) ha⟩
    obtain ⟨vs, rfl, ea, os, R2, k2⟩ := hM
    have hlen := os.len
    refine ⟨.ref a, rfl, a, _, rfl, .inl (.inl (.inl ea)), rfl, _, rfl, ?_⟩
    rcases ht with ⟨x, ex, rfl⟩ | ⟨h2, rfl⟩
    · cases ex
      cases os with
      | cons o r =>
        cases r
        exact iteT ⟨.ref a, rfl, a, _, 0, _, rfl, rfl, .inl (.inl ea), atI_nat (j := 0) rfl, q _ _ o R2 k2⟩
    · have nd : ¬ (V.int (vs.length : Int) = V.int 1) := fun z => by
        have z := V.int.inj z
        omega
      rw [decide_eq_false nd]
      refine iteF ⟨.ref a, rfl, .inl ⟨a, _, rfl, .inl (.inl ea), fun b hb => ⟨(show 2 ≤ sizeLine by decide), fun b2 hb2 => ?_⟩⟩⟩
      have s1 := smU (o := HO.tup vs) hb
      have s2 := smU (o := HO.tup [.str chW, .ref b]) hb2
      exact q _ _ (.chain upd_same (s2 _ _ upd_same) (os.mono (KT.same (s1.trans s2)))) (R2.up (s1.trans s2)) (k2.trans (K2.same (s1.trans s2)))
theorem ok_choice (T : RT K w mg C f fd tk cd ces cn ct) {k d : Nat} (hk : 4 ≤ k) (G : FnOk P w K mg base CX0 k (f 6) (fd 6) ["self"] (spR C d fun Z => RChain Z (RItem Z (RU Z d)))) : FnOk P w K mg base CX0 (k + 1) (f 5) (fd 5) ["self"] (spR C d fun Z => RC Z d) := by
  refine T.mChoice.F.ok scChoice (fun vs H Q E h => ?_) (fun cdv A outer s H vs Q E hr h => ?_)
  · obtain ⟨Z, p, dx, l, s, nm, t, q, nm', rfl, _⟩ := h
    rfl
  · obtain ⟨Z, p, dx, l, s, nm, t, e, nm', rfl, hd, R, hm0, q⟩ := h
    rw [RC_eq] at hm0
    obtain ⟨ts, hm, ht⟩ := hm0
    have GK := ok_skips (P := P) (base := base) T
    have h2 : 2 ≤ k := Nat.le_trans (by decide) hk
    refine ⟨_, pss_cons (ps_set (i := 1) scChoice.nd rfl (.inl rfl) (pe_lst (pa_cons (pe_meth0 (pv 0) T.cl T.mChain.m G hr T.mChain.b .nil pass0) pa_nil)))
      (Evl.pss_cut (ps_while PassesOwn.never (pt_val (pe_meth (pv 0) T.cl T.mSkips.m GK (hr.mono h2) T.mSkips.b .nil pass0 (pa_cons pe_str pa_nil)))
        (pss_one (ps_expr (pe_bm PySem.F.plainAttrs_list PySem.F.slot_list_append PySem.F.type_list_append mt_append (pv 1) (pa_cons (pe_meth0 (pv 0) T.cl T.mChain.m G hr T.mChain.b .nil pass0) pa_nil)))))
      (pss_one (ps_ret (pe_ifExp (pt_cmpR op_eq (pe_callB call_len_seq (by rfl) T.zlen PySem.boot_len (pa_cons (pv 1) pa_nil)) pe_int (nomark _)) (pe_ix ix_list (pv 1) pe_int (fun _ _ => rfl))
        (pe_tup (pa_cons (pe_glob (v := .str alW) rfl T.gAl ⟨_, rfl⟩) (pa_cons (pe_tupleOf (by rfl) T.ztup (pv 1)) pa_nil))))))), ?_⟩
    have nK : ∀ s' m', (rf Z s' l m').lookup ("skips" : Str) = none := fun _ _ => rf_no (by decide +kernel) (by decide +kernel) (by decide +kernel) (by decide +kernel)
    have nI : ∀ s' m', (rf Z s' l m').lookup ("read_chain" : Str) = none := fun _ _ => rf_no (by decide +kernel) (by decide +kernel) (by decide +kernel) (by decide +kernel)
    obtain ⟨t1, tr, q1, nm1, rfl, f1, f2⟩ := many_first hm
    have pg := chain_pgr (item_pgr (ru_pgr Z d))
    have mp := many_pgr pg (fun q => Nat.le_succ q) hm
    have hZ := R.z
    refine ⟨.ref p, rfl, p, dx, _, rfl, R.e, nI _ _, Z, p, dx, l, s, nm, t1, q1, nm1, rfl, hd, R, f1, fun v H1 o1 R1 k1 => ⟨(show 1 ≤ sizeLine by decide), fun a ha => ?_⟩⟩
    have nap := R1.p0 ha
    have nal := R1.l0 ha
    refine ⟨fun σ H2 => ∃ vs, σ = [some (.ref p), some (.ref a)] ∧ H2 a = some (.lst vs) ∧ TrOs H2 vs (t1 :: tr) ∧ RdA C Z p dx l H2 e nm' (8 - (d : Int)) ∧ K2 p l H H2, ?_, fun σ H2 hM => ?_⟩
    · refine ⟨fun n σ H2 => ∃ s1 nm2 dn rt vs, n = rt.length ∧ t1 :: tr = dn ++ rt ∧ σ = [some (.ref p), some (.ref a)] ∧ H2 a = some (.lst vs) ∧ TrOs H2 vs dn ∧ RdA C Z p dx l H2 s1 nm2 (8 - (d : Int)) ∧ K2 p l H H2 ∧ RMore (RChain Z (RItem Z (RU Z d))) (fun q => Z[q]? = some 124) (· + 1) s1 nm2 rt e nm',
        ⟨_, q1, nm1, [t1], tr, [v], rfl, rfl, rfl, upd_same, .cons (o1.mono (KT.same (smU ha))) .nil, R1.up (smU ha), k1.trans (K2.same (smU ha)), f2⟩, ?_⟩
      rintro n σ H2 ⟨s1, nm2, dn, rt, vs, rfl, es, rfl, ea, os, R2, k2, hw⟩
      refine ⟨.ref p, rfl, p, dx, _, rfl, R2.e, nK _ _, Z, p, dx, l, s1, nm2, _, 124, rfl, R2, fun z H3 R3 k3 => ?_, fun z => ?_⟩
      · rcases hw with ⟨_, g1, _⟩ | ⟨g1, g2⟩
        · exact absurd z g1
        obtain ⟨t2, tr2, q2, nm3, rfl, u1, u2⟩ := many_first g2
        have hle := congrArg List.length es
        rw [List.length_append, List.length_cons] at hle
        have hle2 := os.len
        have ea3 := k3 a _ nap nal ea
        refine ⟨true, rfl, iteT ⟨fun σ' H' => ∃ vs', σ' = [some (.ref p), some (.ref a)] ∧ H' a = some (.lst vs') ∧ TrOs H' vs' (dn ++ [t2]) ∧ RdA C Z p dx l H' q2 nm3 (8 - (d : Int)) ∧ K2 p l H H', fun σ' H' ⟨vs', h1, h2, h3, h4, h5⟩ => ⟨tr2.length, by rw [List.length_cons]; omega, q2, nm3, dn ++ [t2], tr2, vs', rfl, by rw [es, List.append_assoc] <;> rfl, h1, h2, h3, h4, h5, u2⟩, ?_⟩⟩
        refine ⟨.ref a, rfl, .inl ⟨rfl, _, .inl (.inl ea3)⟩, .ref p, rfl, p, dx, _, rfl, R3.e, nI _ _, Z, p, dx, l, s1 + 1, nm2, t2, q2, nm3, rfl, hd, R3, u1, fun v2 H4 o4 R4 k4 => ?_⟩
        have ea4 := k4 a _ nap nal ea3
        refine ⟨a, _, _, rfl, rfl, ea4, Nat.lt_of_le_of_lt (show vs.length ≤ 100 by rw [List.length_cons] at mp; omega) (by decide), ?_⟩
        exact ⟨vs ++ [v2], rfl, upd_same, ((os.mono (R2.kt (k3.trans k4))).mono (KT.lst ea4)).snoc (o4.mono (KT.lst ea4)), R4.wr nap nal, K2.put k1 ((k2.trans k3).trans k4) ha⟩
      · rcases hw with ⟨rfl, g1, rfl, rfl⟩ | ⟨g1, _⟩
        · rw [List.append_nil] at es
          subst es
          exact ⟨false, rfl, iteF ⟨vs, rfl, ea, os, R2, k2⟩⟩
        · exact absurd g1 z
    obtain ⟨vs, rfl, ea, os, R2, k2⟩ := hM
    have hlen := os.len
    refine ⟨.ref a, rfl, a, _, rfl, .inl (.inl (.inl ea)), rfl, _, rfl, ?_⟩
    rcases ht with ⟨x, ex, rfl⟩ | ⟨h2, rfl⟩
    · cases ex
      cases os with
      | cons o r =>
        cases r
        exact iteT ⟨.ref a, rfl, a, _, 0, _, rfl, rfl, .inl (.inl ea), atI_nat (j := 0) rfl, q _ _ o R2 k2⟩
    · have nd : ¬ (V.int (vs.length : Int) = V.int 1) := fun z => by
        have z := V.int.inj z
        omega
      rw [decide_eq_false nd]
      refine iteF ⟨.ref a, rfl, .inl ⟨a, _, rfl, .inl (.inl ea), fun b hb => ⟨(show 2 ≤ sizeLine by decide), fun b2 hb2 => ?_⟩⟩⟩
      have s1 := smU (o := HO.tup vs) hb
      have s2 := smU (o := HO.tup [.str alW, .ref b]) hb2
      exact q _ _ (.choice upd_same (s2 _ _ upd_same) (os.mono (KT.same (s1.trans s2)))) (R2.up (s1.trans s2)) (k2.trans (K2.same (s1.trans s2)))
/-- read_choice, whatever is open -/
theorem ok_rc (T : RT K w mg C f fd tk cd ces cn ct) : ∀ d, FnOk P w K mg base CX0 (8 + 5 * d) (f 5) (fd 5) ["self"] (spR C d fun Z => RC Z d)
  | 0 => ok_choice T (k := 7) (by decide) (ok_chain T (k := 6) (by decide) (ok_item T (k := 5) (by decide) (ok_unit T (k := 4) (d := 0) (by decide) ok_no ok_no)))
  | d + 1 => by
    have G := ok_rc T d
    have GG : FnOk P w K mg base CX0 (9 + 5 * d) (f 10) (fd 10) ["self"] (spIn C RGrp (d + 1)) := (ok_group T (by omega) G).mono (by omega)
    have GC : FnOk P w K mg base CX0 (9 + 5 * d) (f 11) (fd 11) ["self"] (spIn C RCap (d + 1)) := (ok_capture T (by omega) G).mono (by omega)
    exact (ok_choice T (by omega) (ok_chain T (by omega) (ok_item T (by omega) (ok_unit T (by omega) GG GC)))).mono (by omega)
theorem scWhole : FnScope ["self", "is_left", "tree", "is_right"] ["self"] (defScope sWhole) := ⟨rfl, rfl, rfl, by decide +kernel, rfl, by decide +kernel, by decide +kernel⟩
def spWhole (C : Addr) : Sp := fun vs H Q _ => ∃ (Z : List Nat) (p dx l : Addr) (lb : Bool) (t : Tr) (rb : Bool) (nm : Nm), vs = [.ref p] ∧ RdA C Z p dx l H 0 [] 0 ∧ RWhole Z lb t rb nm ∧
  ∀ a v H', H' a = some (.tup [.bl lb, v, .bl rb]) → TrO H' v t → RdA C Z p dx l H' Z.length nm 0 → K2 p l H H' → Q (.ref a) H'
theorem ok_whole (T : RT K w mg C f fd tk cd ces cn ct) : FnOk P w K mg base CX0 49 (f 4) (fd 4) ["self"] (spWhole C) := by
  refine T.mWhole.F.ok scWhole (fun vs H Q E h => ?_) (fun cdv A outer s H vs Q E hr h => ?_)
  · obtain ⟨Z, p, dx, l, lb, t, rb, nm, rfl, _⟩ := h
    rfl
  · obtain ⟨Z, p, dx, l, lb, t, rb, nm, rfl, R, ⟨e, w1, w2, w3, w4⟩, q⟩ := h
    have GD := ok_demand (P := P) (base := base) T
    have GK := ok_skips (P := P) (base := base) T
    have G := ok_rc (P := P) (base := base) T 8
    refine ⟨_, Evl.pss_cut (ps_set (i := 1) scWhole.nd rfl (.inl rfl) (pe_meth (pv 0) T.cl T.mSkips.m GK (hr.mono (by decide)) T.mSkips.b .nil pass0 (pa_cons (pe_glob (v := .str (Str.ofString "^")) rfl T.gBeg ⟨_, rfl⟩) pa_nil)))
      (pss_cons (ps_set (i := 2) scWhole.nd rfl (.inl rfl) (pe_meth0 (pv 0) T.cl T.mChoice.m G hr T.mChoice.b .nil pass0))
      (Evl.pss_cut (ps_set (i := 3) scWhole.nd rfl (.inl rfl) (pe_meth (pv 0) T.cl T.mSkips.m GK (hr.mono (by decide)) T.mSkips.b .nil pass0 (pa_cons (pe_glob (v := .str (Str.ofString "$")) rfl T.gEnd ⟨_, rfl⟩) pa_nil)))
      (pss_cons (ps_expr (pe_meth (pv 0) T.cl T.mDemand.m GD (hr.mono (by decide)) T.mDemand.b .nil pass0 (pa_cons (pe_cmpR op_eq (pe_fld (pv 0) rfl) (pe_callB call_len_str (by rfl) T.zlen PySem.boot_len (pa_cons (pe_fld (pv 0) rfl) pa_nil)) (nomark _)) pa_nil)))
      (pss_one (ps_ret (pe_tup (pa_cons (pv 1) (pa_cons (pv 2) (pa_cons (pv 3) pa_nil))))))))), ?_⟩
    have nD : ∀ s' m', (rf Z s' l m').lookup ("demand" : Str) = none := fun _ _ => rf_no (by decide +kernel) (by decide +kernel) (by decide +kernel) (by decide +kernel)
    have nK : ∀ s' m', (rf Z s' l m').lookup ("skips" : Str) = none := fun _ _ => rf_no (by decide +kernel) (by decide +kernel) (by decide +kernel) (by decide +kernel)
    have nC : ∀ s' m', (rf Z s' l m').lookup ("read_choice" : Str) = none := fun _ _ => rf_no (by decide +kernel) (by decide +kernel) (by decide +kernel) (by decide +kernel)
    have hb : Str.ofString "^" = tx [94] := by decide +kernel
    have he : Str.ofString "$" = tx [36] := by decide +kernel
    refine ⟨fun σ H1 => σ = [some (.ref p), some (.bl lb), none, none] ∧ RdA C Z p dx l H1 (if lb then 1 else 0) [] 0 ∧ K2 p l H H1, ?_, fun σ H1 hM => ?_⟩
    · refine ⟨.ref p, rfl, p, dx, _, rfl, R.e, nK _ _, Z, p, dx, l, 0, [], _, 94, (by rw [hb] <;> rfl), R, fun z H1 R1 k1 => ?_, fun z => ?_⟩
      · cases lb with
        | true => exact ⟨rfl, R1, k1⟩
        | false => exact absurd z (w2 rfl)
      · cases lb with
        | true => exact absurd w1 z
        | false => exact ⟨rfl, R, K2.refl _ _ _⟩
    obtain ⟨rfl, R1, k1⟩ := hM
    refine ⟨.ref p, rfl, p, dx, _, rfl, R1.e, nC _ _, Z, p, dx, l, _, [], t, e, nm, rfl, Nat.le_refl 8, R1, w3, fun v H2 o2 R2 k2 => ?_⟩
    refine ⟨fun σ H3 => σ = [some (.ref p), some (.bl lb), some v, some (.bl rb)] ∧ TrO H3 v t ∧ RdA C Z p dx l H3 Z.length nm 0 ∧ K2 p l H H3, ?_, fun σ H3 hM => ?_⟩
    · refine ⟨.ref p, rfl, p, dx, _, rfl, R2.e, nK _ _, Z, p, dx, l, e, nm, _, 36, (by rw [he] <;> rfl), R2, fun z H3 R3 k3 => ?_, fun z => ?_⟩
      · cases rb with
        | true =>
          rw [if_pos rfl] at w4
          exact ⟨rfl, o2.mono (R2.kt k3), w4.2 ▸ R3, (k1.trans k2).trans k3⟩
        | false =>
          rw [if_neg Bool.false_ne_true] at w4
          rw [w4, List.getElem?_eq_none_iff.mpr (Nat.le_refl _)] at z
          cases z
      · cases rb with
        | true =>
          rw [if_pos rfl] at w4
          exact absurd w4.1 z
        | false =>
          rw [if_neg Bool.false_ne_true] at w4
          exact ⟨rfl, o2, w4 ▸ R2, k1.trans k2⟩
    obtain ⟨rfl, o3, R3, k3⟩ := hM
    refine ⟨.ref p, rfl, p, dx, _, rfl, R3.e, nD _ _, .ref p, rfl, p, C, dx, _, _, rfl, R3.e, T.cl, T.nSp, rf_spot, .ref p, rfl, p, C, dx, _, _, rfl, R3.e, T.cl, T.nStr, rf_string, tx Z, rfl, tx_len60 R.z, rfl, p, ?_, ?_⟩
    · show [V.ref p, V.bl (decide (V.int (Z.length : Int) = V.int ((tx Z).length : Int)))] = _
      rw [tx_len, decide_eq_true rfl]
    exact ⟨_, rfl, v, rfl, _, rfl, (show 3 ≤ sizeLine by decide), fun a ha => q a v _ upd_same (o3.mono (KT.same (smU ha))) (R3.up (smU ha)) (k3.trans (K2.same (smU ha)))⟩
end
end Sf4
namespace Sf4
open PySem PySem.Spec PyProof.Rows L2 Sf
theorem scRI : FnScope ["self", "string"] ["self", "string"] (defScope sRI) := ⟨rfl, rfl, rfl, by decide +kernel, rfl, by decide +kernel, by decide +kernel⟩
theorem scRp : FnScope ["value", "reader"] ["value"] (defScope sRp) := ⟨rfl, rfl, rfl, by decide +kernel, rfl, by decide +kernel, by decide +kernel⟩
def spRI (C : Addr) : Sp := fun vs H Q _ => ∃ (Z : List Nat) (p dx : Addr), vs = [.ref p, .str (tx Z)] ∧ H p = some (.ins C dx []) ∧ Z.length ≤ 60 ∧
  ∀ l H', RdA C Z p dx l H' 0 [] 0 → H l = none → (∀ b o, b ≠ p → H b = some o → H' b = some o) → Q .non H'
def spRp (C : Addr) : Sp := fun vs H Q _ => ∃ (Z : List Nat) (lb : Bool) (t : Tr) (rb : Bool) (nm : Nm), vs = [.str (tx Z)] ∧ Z.length ≤ 60 ∧ RWhole Z lb t rb nm ∧
  ∀ a b p dx l v H', H' a = some (.tup [.ref p, .ref b]) → H' b = some (.tup [.bl lb, v, .bl rb]) → TrO H' v t → RdA C Z p dx l H' Z.length nm 0 → Same H H' → Q (.ref a) H'
section
variable {P : Program} {w : World} {K : PySem.W.Frag} {mg : Str → Option Value} {base : Heap} {C : Addr} {f : Nat → Addr} {fd : Nat → FuncData} {tk : Nat → Tok} {cd : Addr} {ces : Array DictEntry} {cn : Nat} {ct : Nat → Addr}
theorem ok_ri (T : RT K w mg C f fd tk cd ces cn ct) : FnOk P w K mg base CX0 1 (f 0) (fd 0) ["self", "string"] (spRI C) := by
  refine T.mI.F.ok scRI (fun vs H Q E h => ?_) (fun cdv A outer s H vs Q E hr h => ?_)
  · obtain ⟨Z, p, dx, rfl, _⟩ := h
    rfl
  · obtain ⟨Z, p, dx, rfl, hp, hZ, q⟩ := h
    refine ⟨_, pss_cons (ps_fld (pv 0) (pv 1) rfl) (pss_cons (ps_fld (pv 0) pe_int rfl) (pss_cons (ps_fld (pv 0) (pe_lst pa_nil) rfl) (pss_one (ps_fld (pv 0) pe_int rfl)))), ?_⟩
    refine ⟨_, rfl, _, rfl, p, C, dx, _, rfl, hp, T.cl, T.nStr, (show 0 < 1000 by decide), ?_⟩
    refine ⟨_, rfl, p, C, dx, _, rfl, upd_same, T.cl, T.nSp, (show 1 < 1000 by decide), ?_⟩
    refine ⟨Nat.zero_le _, fun l hl => ?_⟩
    have npl : p ≠ l := fun z => by
      rw [← z, upd_same] at hl
      cases hl
    have hl0 : H l = none := by
      rw [upd_ne npl.symm, upd_ne npl.symm] at hl
      exact hl
    refine ⟨_, rfl, p, C, dx, _, rfl, (upd_ne npl).trans upd_same, T.cl, T.nNm, (show 2 < 1000 by decide), ?_⟩
    refine ⟨_, rfl, p, C, dx, _, rfl, upd_same, T.cl, T.nMo, (show 3 < 1000 by decide), ?_⟩
    refine q l _ ⟨by rw [upd_same] <;> rfl, by rw [upd_ne npl.symm, upd_ne npl.symm, upd_same] <;> rfl, Nat.le_refl 0, hZ⟩ hl0 fun b o nb e => ?_
    rw [upd_ne nb, upd_ne nb, upd_ne (ne_of_none e hl0), upd_ne nb, upd_ne nb]
    exact e
theorem ok_rp (T : RT K w mg C f fd tk cd ces cn ct) {g : Addr} {gd : FuncData} (F : Fun K "read_pattern" "read_pattern" sRp g gd) : FnOk P w K mg base CX0 50 g gd ["value"] (spRp C) := by
  refine F.ok scRp (fun vs H Q E h => ?_) (fun cdv A outer s H vs Q E hr h => ?_)
  · obtain ⟨Z, lb, t, rb, nm, rfl, _⟩ := h
    rfl
  · obtain ⟨Z, lb, t, rb, nm, rfl, hZ, hw, q⟩ := h
    have GI := ok_ri (P := P) (base := base) T
    have GW := ok_whole (P := P) (base := base) T
    refine ⟨_, pss_cons (ps_if (PW.pt (pw_or (pt_not (pt_val (pe_callB call_isi (by rfl) T.zisi PyProof.Rows.boot_isinstance (pa_cons (pv 0) (pa_cons (pe_bltn (by rfl) T.zstr PySem.Pv.boot_str (v := .ty "str") rfl) pa_nil)))))
        (pw_or1 (pt_cmpR op_gt (pe_callB call_len_str (by rfl) T.zlen PySem.boot_len (pa_cons (pv 0) pa_nil)) (pe_glob (v := .int 60) rfl T.gMS ⟨_, rfl⟩) (nomark _))))) pss_never pss_nil)
      (pss_cons (ps_set (i := 1) scRp.nd rfl (.inl rfl) (pe_make T.mkC GI (hr.mono (by decide)) rfl T.gC T.mI.b .nil pass0 (pa_cons (pv 0) pa_nil)))
      (pss_one (ps_ret (pe_tup (pa_cons (pv 1) (pa_cons (pe_meth0 (pv 1) T.cl T.mWhole.m GW hr T.mWhole.b .nil pass0) pa_nil)))))), ?_⟩
    have nW : ∀ s' l' m', (rf Z s' l' m').lookup ("read_whole" : Str) = none := fun _ _ _ => rf_no (by decide +kernel) (by decide +kernel) (by decide +kernel) (by decide +kernel)
    refine ⟨.str (tx Z), rfl, .str (tx Z), .ty "str", _, _, true, rfl, .ty "str", .base (.str _), kit_ty (a := "str") (b := "str") (by decide +kernel), true, rfl, iteF ?_⟩
    refine ⟨.str (tx Z), rfl, tx Z, rfl, tx_len60 hZ, _, _, rfl, rfl, ?_⟩
    refine ⟨_, rfl, ?_⟩
    rw [decide_eq_false (show ¬ ((60 : Int) < ((tx Z).length : Int)) by rw [tx_len]; omega)]
    refine iteF ⟨.str (tx Z), rfl, fun x dx nx ndx nex => ?_⟩
    refine ⟨Z, x, dx, rfl, upd_same, hZ, fun l H1 R1 hl k1 => ⟨rfl, ?_⟩⟩
    refine ⟨.ref x, rfl, .ref x, rfl, x, dx, _, rfl, R1.e, nW _ _ _, Z, x, dx, l, lb, t, rb, nm, rfl, R1, hw, fun b v H2 e2 o2 R2 k2 => ?_⟩
    refine ⟨(show 2 ≤ sizeLine by decide), fun a ha => ?_⟩
    have s2 := smU (o := HO.tup [.ref x, .ref b]) ha
    refine q a b x dx l v _ upd_same (s2 _ _ e2) (o2.mono (KT.same s2)) (R2.up s2) fun c o e => ?_
    have nl : H l = none := by
      by_cases z : l = x
      · exact z ▸ nx
      · rw [upd_ne z] at hl
        by_cases z2 : l = dx
        · exact z2 ▸ ndx
        · rw [upd_ne z2] at hl
          exact hl
    refine s2 _ _ (k2 c o (ne_of_none e nx) (ne_of_none e nl) (k1 c o (ne_of_none e nx) ?_))
    rw [upd_ne (ne_of_none e nx), upd_ne (ne_of_none e ndx)]
    exact e
end
end Sf4
/-! The written-out expression in plain Lean: places, first and last ones, those behind each. -/
namespace Sf4
/-- whether it can be empty, first places, last places -/
abbrev Pt := Bool × List Nat × List Nat
/-- the letters of the places, and the places behind each -/
structure Wp where
  le : List (List Nat)
  fo : List (List Nat)
def addAt (fo : List (List Nat)) (i : Nat) (la : List Nat) : List (List Nat) := fo.set i (fo.getD i [] ++ la)
def lnk (fo : List (List Nat)) (ah la : List Nat) : List (List Nat) := ah.foldl (fun f i => addAt f i la) fo
def joinP (a b : Pt) : Pt := (a.1 && b.1, (if a.1 then a.2.1 ++ b.2.1 else a.2.1), (if b.1 then a.2.2 ++ b.2.2 else b.2.2))
def e0 : Pt := (true, [], [])
def many (a : Nat) : Option Nat → Nat
  | none => max a 1
  | some b => b
def rep (f : Wp → Pt × Wp) : Nat → Wp → List Pt × Wp
  | 0, w => ([], w)
  | n + 1, w => ((f w).1 :: (rep f n (f w).2).1, (rep f n (f w).2).2)
/-- the copies from the last one, joined ahead of a tail -/
def fin (least : Nat) : List Pt → Pt → List (List Nat) → Pt × List (List Nat)
  | [], tl, fo => (tl, fo)
  | c :: r, tl, fo => fin least r (if r.length + 1 > least then (true, (joinP c tl).2) else joinP c tl) (lnk fo c.2.2 tl.2.1)
def cntd (a : Nat) : Option Nat → List Pt × Wp → Pt × Wp
  | some _, (cs, w) => ((fin a cs.reverse e0 w.fo).1, ⟨w.le, (fin a cs.reverse e0 w.fo).2⟩)
  | none, (cs, w) => match cs.reverse with
    | [] => (e0, w)
    | c :: r => ((fin r.length r (if a > 0 then c else (true, c.2)) (lnk w.fo c.2.2 c.2.1)).1, ⟨w.le, (fin r.length r (if a > 0 then c else (true, c.2)) (lnk w.fo c.2.2 c.2.1)).2⟩)
mutual
def pO : Tr → Wp → Pt × Wp
  | .place s, w => ((false, [w.le.length], [w.le.length]), ⟨w.le ++ [s], w.fo ++ [[]]⟩)
  | .empty, w => (e0, w)
  | .capture _ t, w => pO t w
  | .chain l, w => pCh l e0 w
  | .choice l, w => (((pL l w).1.any (·.1), (pL l w).1.flatMap (·.2.1), (pL l w).1.flatMap (·.2.2)), (pL l w).2)
  | .count a b t, w => cntd a b (rep (pO t) (many a b) w)
def pCh : List Tr → Pt → Wp → Pt × Wp
  | [], p, w => (p, w)
  | t :: r, p, w => pCh r (joinP p (pO t w).1) ⟨(pO t w).2.le, lnk (pO t w).2.fo p.2.2 (pO t w).1.2.1⟩
def pL : List Tr → Wp → List Pt × Wp
  | [], w => ([], w)
  | t :: r, w => ((pO t w).1 :: (pL r (pO t w).2).1, (pL r (pO t w).2).2)
end
mutual
/-- how many places -/
def sz : Tr → Nat
  | .place _ => 1
  | .empty => 0
  | .capture _ t => sz t
  | .chain l => szL l
  | .choice l => szL l
  | .count a b t => many a b * sz t
def szL : List Tr → Nat
  | [] => 0
  | t :: r => sz t + szL r
end
mutual
/-- how often places are linked at most -/
def lks : Tr → Nat
  | .place _ => 0
  | .empty => 0
  | .capture _ t => lks t
  | .chain l => lksL l + l.length
  | .choice l => lksL l
  | .count a b t => many a b * (lks t + 1) + 1
def lksL : List Tr → Nat
  | [] => 0
  | t :: r => lks t + lksL r
end
mutual
/-- the letters, written out -/
def spts : Tr → List (List Nat)
  | .place s => [s]
  | .empty => []
  | .capture _ t => spts t
  | .chain l => sptsL l
  | .choice l => sptsL l
  | .count a b t => (List.replicate (many a b) (spts t)).flatten
def sptsL : List Tr → List (List Nat)
  | [] => []
  | t :: r => spts t ++ sptsL r
end
/-! ### ranges -/
structure Rg (lo hi : Nat) (l : List Nat) : Prop where
  nd : l.Nodup
  lt : ∀ x ∈ l, lo ≤ x ∧ x < hi
theorem Rg.len {lo : Nat} : ∀ {hi : Nat} {l : List Nat}, Rg lo hi l → l.length ≤ hi - lo
  | 0, [], _ => Nat.zero_le _
  | 0, x :: l, h => absurd (h.lt x List.mem_cons_self).2 (by omega)
  | hi + 1, l, h => by
    by_cases z : hi ∈ l
    · have q : Rg lo hi (l.erase hi) := ⟨h.nd.erase hi, fun x hx => by
        obtain ⟨h1, h2⟩ := (h.nd.mem_erase_iff).mp hx
        have := h.lt x h2
        omega⟩
      have := q.len
      have e := List.length_erase_of_mem z
      have b := h.lt hi z
      have c : 0 < l.length := List.length_pos_of_mem z
      omega
    · have q : Rg lo hi l := ⟨h.nd, fun x hx => by
        have := h.lt x hx
        have : x ≠ hi := fun e => z (e ▸ hx)
        omega⟩
      have := q.len
      omega
theorem Rg.nil {lo hi : Nat} : Rg lo hi [] := ⟨List.nodup_nil, fun _ h => nomatch h⟩
theorem Rg.app {lo mid hi : Nat} {l m : List Nat} (a : Rg lo mid l) (b : Rg mid hi m) (h1 : lo ≤ mid) (h2 : mid ≤ hi) : Rg lo hi (l ++ m) := by
  refine ⟨List.nodup_append.mpr ⟨a.nd, b.nd, fun x hx y hy e => ?_⟩, fun x hx => ?_⟩
  · have := a.lt x hx
    have := b.lt y hy
    omega
  · rcases List.mem_append.mp hx with h | h
    · have := a.lt x h
      omega
    · have := b.lt x h
      omega
theorem Rg.wide {lo hi lo' hi' : Nat} {l : List Nat} (a : Rg lo hi l) (h1 : lo' ≤ lo) (h2 : hi ≤ hi') : Rg lo' hi' l := ⟨a.nd, fun x hx => by
  have := a.lt x hx
  omega⟩
structure POk (lo hi : Nat) (p : Pt) : Prop where
  f : Rg lo hi p.2.1
  l : Rg lo hi p.2.2
theorem POk.e0 {lo hi : Nat} : POk lo hi e0 := ⟨.nil, .nil⟩
theorem POk.opt {lo hi : Nat} {p : Pt} (h : POk lo hi p) (b : Bool) : POk lo hi (b, p.2) := ⟨h.f, h.l⟩
theorem POk.wide {lo hi lo' hi' : Nat} {p : Pt} (h : POk lo hi p) (h1 : lo' ≤ lo) (h2 : hi ≤ hi') : POk lo' hi' p := ⟨h.f.wide h1 h2, h.l.wide h1 h2⟩
theorem POk.join {lo mid hi : Nat} {a b : Pt} (h : POk lo mid a) (k : POk mid hi b) (h1 : lo ≤ mid) (h2 : mid ≤ hi) : POk lo hi (joinP a b) := by
  refine ⟨?_, ?_⟩
  · show Rg lo hi (if a.1 then a.2.1 ++ b.2.1 else a.2.1)
    split
    · exact h.f.app k.f h1 h2
    · exact h.f.wide (Nat.le_refl _) h2
  · show Rg lo hi (if b.1 then a.2.2 ++ b.2.2 else b.2.2)
    split
    · exact h.l.app k.l h1 h2
    · exact k.l.wide h1 (Nat.le_refl _)
/-! ### bounds -/
structure WOk (w : Wp) (n M : Nat) : Prop where
  le : w.le.length = n
  fo : w.fo.length = n
  bd : ∀ r ∈ w.fo, r.length ≤ M ∧ ∀ x ∈ r, x < n
theorem addAt_len (fo : List (List Nat)) (i : Nat) (la : List Nat) : (addAt fo i la).length = fo.length := List.length_set
theorem lnk_len (la : List Nat) : ∀ (ah : List Nat) (fo : List (List Nat)), (lnk fo ah la).length = fo.length
  | [], fo => rfl
  | i :: r, fo => (lnk_len la r (addAt fo i la)).trans (addAt_len fo i la)
theorem addAt_get (fo : List (List Nat)) (i j : Nat) (la : List Nat) : (addAt fo i la)[j]? = if j = i then (fo[j]?).map (· ++ la) else fo[j]? := by
  unfold addAt
  rw [List.getElem?_set]
  by_cases h : i = j
  · subst h
    rw [if_pos rfl, if_pos rfl]
    by_cases hl : i < fo.length
    · rw [if_pos hl, List.getElem?_eq_getElem hl, List.getD_eq_getElem?_getD, List.getElem?_eq_getElem hl] <;> rfl
    · rw [if_neg hl, List.getElem?_eq_none_iff.mpr (by omega)] <;> rfl
  · rw [if_neg h, if_neg (fun z => h z.symm)]
theorem lnk_get (la : List Nat) (j : Nat) : ∀ (ah : List Nat) (fo : List (List Nat)), ah.Nodup → (lnk fo ah la)[j]? = if j ∈ ah then (fo[j]?).map (· ++ la) else fo[j]?
  | [], fo, _ => rfl
  | i :: r, fo, h => by
    obtain ⟨h1, h2⟩ := List.nodup_cons.mp h
    rw [show lnk fo (i :: r) la = lnk (addAt fo i la) r la from rfl, lnk_get la j r _ h2, addAt_get]
    by_cases e : j = i
    · subst e
      rw [if_neg h1, if_pos rfl, if_pos List.mem_cons_self]
    · rw [if_neg e]
      by_cases k : j ∈ r
      · rw [if_pos k, if_pos (List.mem_cons_of_mem _ k)]
      · rw [if_neg k, if_neg (fun z => (List.mem_cons.mp z).elim e k)]
theorem WOk.lnk {w : Wp} {n M S : Nat} {ah la : List Nat} (h : WOk w n M) (hn : ah.Nodup) (hla : ∀ x ∈ la, x < n) (hl : la.length ≤ S) : WOk ⟨w.le, lnk w.fo ah la⟩ n (M + S) := by
  refine ⟨h.le, (lnk_len la ah w.fo).trans h.fo, fun r hr => ?_⟩
  obtain ⟨j, hj⟩ := List.mem_iff_getElem?.mp hr
  have hj : (Sf4.lnk w.fo ah la)[j]? = some r := hj
  rw [lnk_get la j ah w.fo hn] at hj
  have key : ∀ {q : List Nat}, w.fo[j]? = some q → q.length ≤ M ∧ ∀ x ∈ q, x < n := fun e => h.bd _ (List.mem_of_getElem? e)
  split at hj
  · cases e : w.fo[j]? with
    | none =>
      rw [e] at hj
      cases hj
    | some q =>
      rw [e] at hj
      obtain rfl : q ++ la = r := Option.some.inj hj
      obtain ⟨k1, k2⟩ := key e
      refine ⟨by rw [List.length_append]; omega, fun x hx => ?_⟩
      rcases List.mem_append.mp hx with z | z
      · exact k2 x z
      · exact hla x z
  · obtain ⟨k1, k2⟩ := key hj
    exact ⟨by omega, k2⟩
theorem WOk.more {w : Wp} {n M M' : Nat} (h : WOk w n M) (k : M ≤ M') : WOk w n M' := ⟨h.le, h.fo, fun r hr => ⟨Nat.le_trans (h.bd r hr).1 k, (h.bd r hr).2⟩⟩
/-- what is told of one's part -/
def Good (S s k : Nat) (f : Wp → Pt × Wp) : Prop := ∀ (w : Wp) (n M : Nat), WOk w n M → n + s ≤ S → WOk (f w).2 (n + s) (M + S * k) ∧ POk n (n + s) (f w).1
def Cps (s : Nat) : Nat → List Pt → Prop
  | _, [] => True
  | n, c :: r => POk n (n + s) c ∧ Cps s (n + s) r
def RCps (n s : Nat) : List Pt → Prop
  | [] => True
  | c :: r => POk (n + r.length * s) (n + (r.length + 1) * s) c ∧ RCps n s r
theorem rep_len (f : Wp → Pt × Wp) : ∀ (m : Nat) (w : Wp), (rep f m w).1.length = m
  | 0, _ => rfl
  | m + 1, w => by
    show (rep f m (f w).2).1.length + 1 = _
    rw [rep_len f m]
theorem rep_ok {S s k : Nat} {f : Wp → Pt × Wp} (hf : Good S s k f) : ∀ (m : Nat) (w : Wp) (n M : Nat), WOk w n M → n + m * s ≤ S → WOk (rep f m w).2 (n + m * s) (M + S * (m * k)) ∧ Cps s n (rep f m w).1
  | 0, w, n, M, h, _ => by
    refine ⟨?_, True.intro⟩
    rw [Nat.zero_mul, Nat.zero_mul]
    exact h
  | m + 1, w, n, M, h, hS => by
    have e1 : (m + 1) * s = m * s + s := Nat.succ_mul m s
    have e2 : (m + 1) * k = m * k + k := Nat.succ_mul m k
    have e3 : S * (m * k + k) = S * (m * k) + S * k := Nat.mul_add _ _ _
    obtain ⟨a, b⟩ := hf w n M h (by omega)
    obtain ⟨c, d⟩ := rep_ok hf m (f w).2 (n + s) (M + S * k) a (by omega)
    refine ⟨?_, b, d⟩
    rw [e1, e2, e3, show n + (m * s + s) = n + s + m * s by omega, show M + (S * (m * k) + S * k) = M + S * k + S * (m * k) by omega]
    exact c
theorem RCps.snoc {n s : Nat} : ∀ {l : List Pt} {c : Pt}, RCps (n + s) s l → POk n (n + s) c → RCps n s (l ++ [c])
  | [], c, _, h => ⟨by
      show POk (n + 0 * s) (n + (0 + 1) * s) c
      rw [Nat.zero_mul, Nat.zero_add, Nat.one_mul]
      exact h, True.intro⟩
  | d :: r, c, ⟨h1, h2⟩, h => by
    refine ⟨?_, RCps.snoc h2 h⟩
    show POk (n + (r ++ [c]).length * s) (n + ((r ++ [c]).length + 1) * s) d
    rw [List.length_append, List.length_singleton]
    have e1 : (r.length + 1) * s = r.length * s + s := Nat.succ_mul _ _
    have e2 : (r.length + 1 + 1) * s = r.length * s + s + s := by rw [Nat.succ_mul, e1]
    rw [e1] at h1
    rw [e1, e2, show n + (r.length * s + s) = n + s + r.length * s by omega, show n + (r.length * s + s + s) = n + s + (r.length * s + s) by omega]
    exact h1
theorem Cps.rev {s : Nat} : ∀ {l : List Pt} {n : Nat}, Cps s n l → RCps n s l.reverse
  | [], _, _ => True.intro
  | c :: r, n, ⟨h1, h2⟩ => by
    rw [List.reverse_cons]
    exact RCps.snoc (Cps.rev h2) h1
theorem fin_ok {S n s N : Nat} (least : Nat) (hS : N ≤ S) : ∀ (rc : List Pt) (tl : Pt) (w : Wp) (M e : Nat), RCps n s rc → POk (n + rc.length * s) e tl → n + rc.length * s ≤ e → e ≤ N → WOk w N M →
    WOk ⟨w.le, (fin least rc tl w.fo).2⟩ N (M + S * rc.length) ∧ POk n e (fin least rc tl w.fo).1
  | [], tl, w, M, e, _, ht, _, _, hw => by
    refine ⟨hw, ?_⟩
    have ht : POk (n + 0 * s) e tl := ht
    rw [Nat.zero_mul] at ht
    exact ht
  | c :: r, tl, w, M, e, ⟨hc, hr⟩, ht, h1, h2, hw => by
    have e1 : (r.length + 1) * s = r.length * s + s := Nat.succ_mul _ _
    rw [List.length_cons] at ht h1
    have j := hc.join ht (by omega) h1
    have j2 : POk (n + r.length * s) e (if r.length + 1 > least then (true, (joinP c tl).2) else joinP c tl) := by
      split
      · exact j.opt true
      · exact j
    have hl : tl.2.1.length ≤ S := by
      have := ht.f.len
      omega
    have w2 := hw.lnk (S := S) hc.l.nd (fun x hx => by have := ht.f.lt x hx; omega) hl
    obtain ⟨a, b⟩ := fin_ok least hS r _ ⟨w.le, lnk w.fo c.2.2 tl.2.1⟩ (M + S) e hr j2 (by omega) h2 w2
    refine ⟨a.more ?_, b⟩
    rw [List.length_cons, Nat.mul_succ]
    omega
theorem cntd_ok {S s k a : Nat} {b : Option Nat} {f : Wp → Pt × Wp} (hf : Good S s k f) : Good S (many a b * s) (many a b * (k + 1) + 1) (fun w => cntd a b (rep f (many a b) w)) := by
  intro w n M hw hS
  obtain ⟨h1, h2⟩ := rep_ok hf (many a b) w n M hw hS
  have hlen := rep_len f (many a b) w
  have rev := h2.rev
  have e1 : S * (many a b * (k + 1) + 1) = S * (many a b * k) + S * many a b + S := by rw [Nat.mul_succ (many a b) k, Nat.mul_add, Nat.mul_add, Nat.mul_one]
  cases hb : b with
  | some m =>
    subst hb
    have q := fin_ok (S := S) (n := n) (s := s) (N := n + many a (some m) * s) a hS (rep f (many a (some m)) w).1.reverse e0 (rep f (many a (some m)) w).2 (M + S * (many a (some m) * k)) (n + many a (some m) * s) rev .e0 (by rw [List.length_reverse, hlen]; exact Nat.le_refl _) (Nat.le_refl _) h1
    rw [List.length_reverse, hlen] at q
    exact ⟨q.1.more (by omega), q.2⟩
  | none =>
    subst hb
    show WOk (match (rep f (many a none) w).1.reverse with | [] => _ | c :: r => _ : Pt × Wp).2 _ _ ∧ POk _ _ (match (rep f (many a none) w).1.reverse with | [] => _ | c :: r => _ : Pt × Wp).1
    cases hr : (rep f (many a none) w).1.reverse with
    | nil => exact ⟨h1.more (by omega), .e0⟩
    | cons c r =>
      rw [hr] at rev
      obtain ⟨hc, hr2⟩ := rev
      have hl2 : r.length + 1 = many a none := by
        have := congrArg List.length hr
        rw [List.length_reverse, hlen] at this
        exact this.symm
      rw [hl2] at hc
      have e2 : many a none * s = r.length * s + s := by rw [← hl2, Nat.succ_mul]
      have hl : c.2.1.length ≤ S := by
        have := hc.f.len
        omega
      have w2 := h1.lnk (S := S) hc.l.nd (fun x hx => (hc.f.lt x hx).2) hl
      have ht : POk (n + r.length * s) (n + many a none * s) (if a > 0 then c else (true, c.2)) := by
        split
        · exact hc
        · exact hc.opt true
      have q := fin_ok (S := S) (n := n) (s := s) (N := n + many a none * s) r.length hS r (if a > 0 then c else (true, c.2)) ⟨(rep f (many a none) w).2.le, lnk (rep f (many a none) w).2.fo c.2.2 c.2.1⟩ (M + S * (many a none * k) + S) (n + many a none * s) hr2 ht (by omega) (Nat.le_refl _) w2
      refine ⟨q.1.more ?_, q.2⟩
      have e3 : S * many a none = S * r.length + S := by rw [← hl2, Nat.mul_succ]
      omega
theorem place_ok {S : Nat} (s : List Nat) : Good S 1 0 (pO (.place s)) := by
  intro w n M hw hS
  have one : Rg n (n + 1) [w.le.length] := ⟨List.nodup_cons.mpr ⟨List.not_mem_nil, List.nodup_nil⟩, fun x hx => by
    obtain rfl := List.mem_singleton.mp hx
    rw [hw.le]
    omega⟩
  refine ⟨⟨?_, ?_, fun r hr => ?_⟩, one, one⟩
  · show (w.le ++ [s]).length = _
    rw [List.length_append, hw.le] <;> rfl
  · show (w.fo ++ [[]]).length = _
    rw [List.length_append, hw.fo] <;> rfl
  · have hr : r ∈ w.fo ++ [[]] := hr
    rcases List.mem_append.mp hr with h | h
    · obtain ⟨a, b⟩ := hw.bd r h
      exact ⟨by omega, fun x hx => by have := b x hx; omega⟩
    · obtain rfl := List.mem_singleton.mp h
      exact ⟨Nat.zero_le _, fun _ h => nomatch h⟩
theorem any_ok {lo hi : Nat} : ∀ {l : List Pt}, True → True := fun _ => True.intro
/-- a row of parts, one behind the other -/
def Row (lo hi : Nat) : List Pt → Prop
  | [] => lo ≤ hi
  | c :: r => ∃ mid, lo ≤ mid ∧ POk lo mid c ∧ Row mid hi r
theorem Row.le {hi : Nat} : ∀ {l : List Pt} {lo : Nat}, Row lo hi l → lo ≤ hi
  | [], _, h => h
  | c :: r, _, ⟨m, h1, _, h3⟩ => Nat.le_trans h1 (Row.le h3)
theorem Row.flat {hi : Nat} (g : Pt → List Nat) (hg : ∀ {lo hi c}, POk lo hi c → Rg lo hi (g c)) : ∀ {l : List Pt} {lo : Nat}, Row lo hi l → Rg lo hi (l.flatMap g)
  | [], _, _ => .nil
  | c :: r, lo, ⟨m, h1, h2, h3⟩ => by
    rw [List.flatMap_cons]
    exact (hg h2).app (Row.flat g hg h3) h1 h3.le
mutual
theorem pO_ok {S : Nat} : ∀ t, Good S (sz t) (lks t) (pO t)
  | .place s => place_ok s
  | .empty => fun w n M hw _ => ⟨hw.more (by omega), .e0⟩
  | .capture n t => pO_ok t
  | .chain l => fun w n M hw hS => by
    have q := pCh_ok l e0 w n n M hw (Nat.le_refl _) .e0 hS
    exact q
  | .choice l => fun w n M hw hS => by
    obtain ⟨a, b⟩ := pL_ok l w n M hw hS
    exact ⟨a, b.flat (·.2.1) (fun h => h.f), b.flat (·.2.2) (fun h => h.l)⟩
  | .count a b t => cntd_ok (pO_ok t)
theorem pCh_ok {S : Nat} : ∀ (l : List Tr) (p : Pt) (w : Wp) (lo n M : Nat), WOk w n M → lo ≤ n → POk lo n p → n + szL l ≤ S → WOk (pCh l p w).2 (n + szL l) (M + S * (lksL l + l.length)) ∧ POk lo (n + szL l) (pCh l p w).1
  | [], p, w, lo, n, M, hw, h1, hp, _ => ⟨hw, hp⟩
  | t :: r, p, w, lo, n, M, hw, h1, hp, hS => by
    have hS : n + (sz t + szL r) ≤ S := hS
    obtain ⟨a, b⟩ := pO_ok (S := S) t w n M hw (by omega)
    have hl : (pO t w).1.2.1.length ≤ S := by
      have := b.f.len
      omega
    have w2 := a.lnk (S := S) hp.l.nd (fun x hx => (b.f.lt x hx).2) hl
    obtain ⟨c, d⟩ := pCh_ok (S := S) r (joinP p (pO t w).1) ⟨(pO t w).2.le, lnk (pO t w).2.fo p.2.2 (pO t w).1.2.1⟩ lo (n + sz t) (M + S * lks t + S) w2 (by omega) (hp.join (mid := n) (hi := n + sz t) b h1 (by omega)) (by omega)
    refine ⟨?_, ?_⟩
    · have e : M + S * (lksL (t :: r) + (t :: r).length) = M + S * lks t + S + S * (lksL r + r.length) := by
        show M + S * (lks t + lksL r + (r.length + 1)) = _
        rw [show lks t + lksL r + (r.length + 1) = lks t + 1 + (lksL r + r.length) by omega, Nat.mul_add, Nat.mul_add, Nat.mul_one]
        omega
      rw [e]
      show WOk _ (n + (sz t + szL r)) _
      rw [show n + (sz t + szL r) = n + sz t + szL r by omega]
      exact c
    · show POk lo (n + (sz t + szL r)) _
      rw [show n + (sz t + szL r) = n + sz t + szL r by omega]
      exact d
theorem pL_ok {S : Nat} : ∀ (l : List Tr) (w : Wp) (n M : Nat), WOk w n M → n + szL l ≤ S → WOk (pL l w).2 (n + szL l) (M + S * lksL l) ∧ Row n (n + szL l) (pL l w).1
  | [], w, n, M, hw, _ => ⟨hw, Nat.le_refl _⟩
  | t :: r, w, n, M, hw, hS => by
    have hS : n + (sz t + szL r) ≤ S := hS
    obtain ⟨a, b⟩ := pO_ok (S := S) t w n M hw (by omega)
    obtain ⟨c, d⟩ := pL_ok (S := S) r (pO t w).2 (n + sz t) (M + S * lks t) a (by omega)
    have e : M + S * lksL (t :: r) = M + S * lks t + S * lksL r := by
      show M + S * (lks t + lksL r) = _
      rw [Nat.mul_add]
      omega
    rw [e]
    show WOk _ (n + (sz t + szL r)) _ ∧ Row n (n + (sz t + szL r)) ((pO t w).1 :: _)
    rw [show n + (sz t + szL r) = n + sz t + szL r by omega]
    exact ⟨c, n + sz t, by omega, b, d⟩
end
/-! ### the letters -/
theorem rep_le {f : Wp → Pt × Wp} {ls : List (List Nat)} (hf : ∀ w, (f w).2.le = w.le ++ ls) : ∀ (m : Nat) (w : Wp), (rep f m w).2.le = w.le ++ (List.replicate m ls).flatten
  | 0, w => by
    show w.le = _
    rw [List.replicate_zero, List.flatten_nil, List.append_nil]
  | m + 1, w => by
    show (rep f m (f w).2).2.le = _
    rw [rep_le hf m, hf, List.replicate_succ, List.flatten_cons, List.append_assoc]
theorem cntd_le (a : Nat) (b : Option Nat) (z : List Pt × Wp) : (cntd a b z).2.le = z.2.le := by
  obtain ⟨cs, w⟩ := z
  cases b with
  | some m => rfl
  | none =>
    show (match cs.reverse with | [] => _ | c :: r => _ : Pt × Wp).2.le = _
    cases cs.reverse <;> rfl
mutual
theorem pO_le : ∀ (t : Tr) (w : Wp), (pO t w).2.le = w.le ++ spts t
  | .place s, w => rfl
  | .empty, w => (List.append_nil _).symm
  | .capture n t, w => pO_le t w
  | .chain l, w => pCh_le l e0 w
  | .choice l, w => pL_le l w
  | .count a b t, w => by
    show (cntd a b (rep (pO t) (many a b) w)).2.le = _
    rw [cntd_le, rep_le (pO_le t)] <;> rfl
theorem pCh_le : ∀ (l : List Tr) (p : Pt) (w : Wp), (pCh l p w).2.le = w.le ++ sptsL l
  | [], p, w => (List.append_nil _).symm
  | t :: r, p, w => by
    show (pCh r _ _).2.le = w.le ++ (spts t ++ sptsL r)
    rw [pCh_le r, pO_le t, List.append_assoc]
theorem pL_le : ∀ (l : List Tr) (w : Wp), (pL l w).2.le = w.le ++ sptsL l
  | [], w => (List.append_nil _).symm
  | t :: r, w => by
    show (pL r _).2.le = w.le ++ (spts t ++ sptsL r)
    rw [pL_le r, pO_le t, List.append_assoc]
end
end Sf4
/-! The object that writes out: its letters, its followers; link, joined. -/
namespace Sf4
open PySem PySem.Spec PyProof.Rows L2 Sf
abbrev sWI : Stmt := inClass cWr 0
abbrev sLink : Stmt := inClass cWr 1
abbrev sJoined : Stmt := inClass cWr 2
abbrev sPartOf : Stmt := inClass cWr 3
abbrev sCounted : Stmt := inClass cWr 4
structure WT (K : PySem.W.Frag) (mg : Str → Option Value) (C : Addr) (f : Nat → Addr) (fd : Nat → FuncData) (tk : Nat → Tok) : Prop where
  cl : Cls K C
  nLe : NoAttr K C "letters"
  nFo : NoAttr K C "followers"
  mI : Mt K C "__init__" "Written.__init__" sWI ["self"] (f 0) (fd 0)
  mLink : Mt K C "link" "Written.link" sLink ["self", "ahead", "later"] (f 1) (fd 1)
  mJoin : Mt K C "joined" "Written.joined" sJoined ["self", "one", "other"] (f 2) (fd 2)
  mPart : Mt K C "part_of" "Written.part_of" sPartOf ["self", "tree"] (f 3) (fd 3)
  mCount : Mt K C "counted" "Written.counted" sCounted ["self", "least", "most", "tree"] (f 4) (fd 4)
  mkC : Mk K C (f 0)
  gC : mg "Written" = some (.ref C)
  gPl : mg "PLACE" = some (.str plW (tk 9))
  gCh : mg "CHAIN" = some (.str chW (tk 10))
  gAl : mg "CHOICE" = some (.str alW (tk 11))
  gCo : mg "COUNT" = some (.str coW (tk 12))
  gCa : mg "CAPTURE" = some (.str caW (tk 13))
  zlen : mg "len" = none
  zany : mg "any" = none
  zmax : mg "max" = none
  zrange : mg "range" = none
  ztup : mg "tuple" = none
  zsorted : mg "sorted" = none
  zset : mg "set" = none
def nIs (l : List Nat) : List V := l.map fun (i : Nat) => V.int (i : Int)
theorem nIs_len (l : List Nat) : (nIs l).length = l.length := by
  unfold nIs
  rw [List.length_map]
theorem nIs_app (a b : List Nat) : nIs a ++ nIs b = nIs (a ++ b) := by
  unfold nIs
  rw [List.map_append]
def wf_ (la fa : Addr) : List (Str × V) := [("letters", .ref la), ("followers", .ref fa)]
theorem wf_le {la fa : Addr} : (wf_ la fa).lookup ("letters" : Str) = some (.ref la) := lk_eq
theorem wf_fo {la fa : Addr} : (wf_ la fa).lookup ("followers" : Str) = some (.ref fa) := (lk_ne (by decide +kernel)).trans lk_eq
theorem wf_no {la fa : Addr} {k : Str} (h1 : ¬ k = "letters") (h2 : ¬ k = "followers") : (wf_ la fa).lookup k = none := (lk_ne h1).trans ((lk_ne h2).trans rfl)
def Own (p la fa : Addr) (as : List Addr) (b : Addr) : Prop := b = p ∨ b = la ∨ b = fa ∨ b ∈ as
structure WrA (C p dx la fa : Addr) (H : Hp) (w : Wp) (as : List Addr) : Prop where
  e : H p = some (.ins C dx (wf_ la fa))
  l : H la = some (.lst (nmV w.le))
  f : H fa = some (.lst (as.map V.ref))
  ne : la ≠ fa
  nd : as.Nodup
  n : as.length = w.fo.length
  at_ : ∀ (i : Nat) (x : Addr) (r : List Nat), as[i]? = some x → w.fo[i]? = some r → H x = some (.lst (nIs r)) ∧ x ≠ la ∧ x ≠ fa
def KW (p la fa : Addr) (as : List Addr) (H H' : Hp) : Prop := ∀ b o, ¬ Own p la fa as b → H b = some o → H' b = some o
def Ext (H : Hp) (as as' : List Addr) : Prop := ∃ n, as' = as ++ n ∧ ∀ x ∈ n, H x = none
theorem Ext.refl {H : Hp} {as : List Addr} : Ext H as as := ⟨[], (List.append_nil _).symm, fun _ h => nomatch h⟩
section
variable {C p dx la fa : Addr} {H H' H1 H2 : Hp} {w w' : Wp} {as as1 as2 : List Addr}
theorem WrA.own (W : WrA C p dx la fa H w as) {b : Addr} (h : Own p la fa as b) : ∃ o, H b = some o ∧ ∀ xs, o ≠ .tup xs := by
  rcases h with rfl | rfl | rfl | h
  · exact ⟨_, W.e, fun _ z => by cases z⟩
  · exact ⟨_, W.l, fun _ z => by cases z⟩
  · exact ⟨_, W.f, fun _ z => by cases z⟩
  · obtain ⟨i, hi⟩ := List.mem_iff_getElem?.mp h
    have hl := (List.getElem?_eq_some_iff.mp hi).1
    rw [W.n] at hl
    obtain ⟨q, _⟩ := W.at_ i b _ hi (List.getElem?_eq_getElem hl)
    exact ⟨_, q, fun _ z => by cases z⟩
theorem WrA.no (W : WrA C p dx la fa H w as) {b : Addr} (h : H b = none) : ¬ Own p la fa as b := fun z => by
  obtain ⟨o, e, _⟩ := W.own z
  rw [h] at e
  cases e
theorem WrA.tup (W : WrA C p dx la fa H w as) {b : Addr} {xs : List V} (h : H b = some (.tup xs)) : ¬ Own p la fa as b := fun z => by
  obtain ⟨o, e, q⟩ := W.own z
  rw [h] at e
  exact q xs (Option.some.inj e).symm
theorem WrA.up (W : WrA C p dx la fa H w as) (k : Same H H') : WrA C p dx la fa H' w as := ⟨k _ _ W.e, k _ _ W.l, k _ _ W.f, W.ne, W.nd, W.n, fun i x r h1 h2 => by
  obtain ⟨a, b⟩ := W.at_ i x r h1 h2
  exact ⟨k _ _ a, b⟩⟩
/-- a store elsewhere -/
theorem WrA.wr (W : WrA C p dx la fa H w as) {b : Addr} {o : HO} (h : ¬ Own p la fa as b) : WrA C p dx la fa (upd H b o) w as := by
  have n : ∀ {c : Addr}, Own p la fa as c → c ≠ b := fun hc z => h (z ▸ hc)
  refine ⟨by rw [upd_ne (n (.inl rfl))]; exact W.e, by rw [upd_ne (n (.inr (.inl rfl)))]; exact W.l, by rw [upd_ne (n (.inr (.inr (.inl rfl))))]; exact W.f, W.ne, W.nd, W.n, fun i x r h1 h2 => ?_⟩
  obtain ⟨a, c⟩ := W.at_ i x r h1 h2
  refine ⟨?_, c⟩
  rw [upd_ne (n (.inr (.inr (.inr (List.mem_of_getElem? h1)))))]
  exact a
theorem KW.refl : KW p la fa as H H := fun _ _ _ h => h
theorem KW.same (k : Same H H') : KW p la fa as H H' := fun b o _ h => k b o h
theorem KW.trans (a : KW p la fa as H H1) (x : Ext H as as1) (b : KW p la fa as1 H1 H2) : KW p la fa as H H2 := fun c o n h => by
  obtain ⟨m, rfl, hm⟩ := x
  refine b c o (fun z => ?_) (a c o n h)
  rcases z with z | z | z | z
  · exact n (.inl z)
  · exact n (.inr (.inl z))
  · exact n (.inr (.inr (.inl z)))
  · rcases List.mem_append.mp z with z | z
    · exact n (.inr (.inr (.inr z)))
    · rw [hm c z] at h
      cases h
theorem KW.trans0 (a : KW p la fa as H H1) (b : KW p la fa as H1 H2) : KW p la fa as H H2 := a.trans .refl b
theorem Ext.trans (x : Ext H as as1) (a : KW p la fa as H H1) (W : WrA C p dx la fa H1 w as1) (y : Ext H1 as1 as2) : Ext H as as2 := by
  obtain ⟨m, rfl, hm⟩ := x
  obtain ⟨n, rfl, hn⟩ := y
  refine ⟨m ++ n, List.append_assoc .., fun c hc => ?_⟩
  rcases List.mem_append.mp hc with h | h
  · exact hm c h
  · have h0 := hn c h
    have nw := W.no h0
    cases e : H c with
    | none => rfl
    | some o =>
      have := a c o (fun z => nw (by
        rcases z with z | z | z | z
        · exact .inl z
        · exact .inr (.inl z)
        · exact .inr (.inr (.inl z))
        · exact .inr (.inr (.inr (List.mem_append.mpr (.inl z)))))) e
      rw [h0] at this
      cases this
theorem KW.kt (W : WrA C p dx la fa H w as) (k : KW p la fa as H H') : KT H H' := fun b xs h => k b _ (W.tup h) h
/-- a part on the heap, apart from some addresses -/
structure PtB (O : Addr → Prop) (H : Hp) (a f1 g1 : Addr) (c : Pt) : Prop where
  t : H a = some (.tup [.bl c.1, .ref f1, .ref g1])
  f : H f1 = some (.lst (nIs c.2.1))
  g : H g1 = some (.lst (nIs c.2.2))
  nt : ¬ O a
  nf : ¬ O f1
  ng : ¬ O g1
def PtO (O : Addr → Prop) (H : Hp) (x : V) (c : Pt) : Prop := ∃ a f g, x = .ref a ∧ PtB O H a f g c
theorem Ext.own (x : Ext H as as1) {b : Addr} {o : HO} (h : H b = some o) (n : ¬ Own p la fa as b) : ¬ Own p la fa as1 b := fun z => by
  obtain ⟨m, rfl, hm⟩ := x
  rcases z with z | z | z | z
  · exact n (.inl z)
  · exact n (.inr (.inl z))
  · exact n (.inr (.inr (.inl z)))
  · rcases List.mem_append.mp z with z | z
    · exact n (.inr (.inr (.inr z)))
    · rw [hm b z] at h
      cases h
theorem Ext.own2 (x : Ext H as as1) {b : Addr} (n : Own p la fa as b) : Own p la fa as1 b := by
  obtain ⟨m, rfl, hm⟩ := x
  rcases n with z | z | z | z
  · exact .inl z
  · exact .inr (.inl z)
  · exact .inr (.inr (.inl z))
  · exact .inr (.inr (.inr (List.mem_append.mpr (.inl z))))
theorem PtO.mono {O : Addr → Prop} {x : V} {c : Pt} (h : PtO O H x c) (k : ∀ b o, ¬ O b → H b = some o → H' b = some o) : PtO O H' x c := by
  obtain ⟨a, f, g, rfl, b⟩ := h
  exact ⟨a, f, g, rfl, k _ _ b.nt b.t, k _ _ b.nf b.f, k _ _ b.ng b.g, b.nt, b.nf, b.ng⟩
theorem PtO.sub {O O' : Addr → Prop} {x : V} {c : Pt} (h : PtO O H x c) (k : ∀ b o, ¬ O b → H b = some o → ¬ O' b) : PtO O' H x c := by
  obtain ⟨a, f, g, rfl, b⟩ := h
  exact ⟨a, f, g, rfl, b.t, b.f, b.g, k _ _ b.nt b.t, k _ _ b.nf b.f, k _ _ b.ng b.g⟩
theorem PtO.same {O : Addr → Prop} {x : V} {c : Pt} (h : PtO O H x c) (k : Same H H') : PtO O H' x c := h.mono fun b o _ e => k b o e
/-- what is kept apart: all that is owned, and all is there -/
structure Apt (p la fa : Addr) (as : List Addr) (H : Hp) (O : Addr → Prop) : Prop where
  sub : ∀ b, Own p la fa as b → O b
  all : ∀ b, O b → ∃ o, H b = some o
theorem Apt.no {O : Addr → Prop} (a : Apt p la fa as H O) {b : Addr} (h : H b = none) : ¬ O b := fun z => by
  obtain ⟨o, e⟩ := a.all b z
  rw [h] at e
  cases e
/-- one list is extended -/
theorem WrA.add (W : WrA C p dx la fa H w as) {i : Nat} {x : Addr} {r l : List Nat} (h1 : as[i]? = some x) (h2 : w.fo[i]? = some r) : WrA C p dx la fa (upd H x (.lst (nIs (r ++ l)))) ⟨w.le, addAt w.fo i l⟩ as := by
  obtain ⟨a, b, c⟩ := W.at_ i x r h1 h2
  have np : p ≠ x := ne_of W.e a (by intro z; cases z)
  refine ⟨by rw [upd_ne np]; exact W.e, by rw [upd_ne b.symm]; exact W.l, by rw [upd_ne c.symm]; exact W.f, W.ne, W.nd, W.n.trans (addAt_len _ _ _).symm, fun j y q h3 h4 => ?_⟩
  have h4 : (addAt w.fo i l)[j]? = some q := h4
  rw [addAt_get] at h4
  by_cases e : j = i
  · subst e
    rw [h1] at h3
    cases h3
    rw [if_pos rfl, h2] at h4
    cases h4
    exact ⟨upd_same, b, c⟩
  · rw [if_neg e] at h4
    obtain ⟨a2, b2⟩ := W.at_ j y q h3 h4
    refine ⟨?_, b2⟩
    have nxy : y ≠ x := fun z => by
      subst z
      exact e ((List.getElem?_inj (List.getElem?_eq_some_iff.mp h3).1 W.nd).mp (h3.trans h1.symm))
    rw [upd_ne nxy]
    exact a2
end
theorem scLink : FnScope ["self", "ahead", "later", "place"] ["self", "ahead", "later"] (defScope sLink) := ⟨rfl, rfl, rfl, by decide +kernel, rfl, by decide +kernel, by decide +kernel⟩
theorem scJoined : FnScope ["self", "one", "other", "first", "last"] ["self", "one", "other"] (defScope sJoined) := ⟨rfl, rfl, rfl, by decide +kernel, rfl, by decide +kernel, by decide +kernel⟩
theorem scWI : FnScope ["self"] ["self"] (defScope sWI) := ⟨rfl, rfl, rfl, by decide +kernel, rfl, by decide +kernel, by decide +kernel⟩
/-- bounds of the work -/
structure Bn (w : Wp) (ah lr : List Nat) : Prop where
  nd : ah.Nodup
  lt : ∀ x ∈ ah, x < w.fo.length
  la : ah.length ≤ 1000
  ll : lr.length ≤ 1000
  bd : ∀ r ∈ w.fo, r.length ≤ 10000
def spLink (C : Addr) : Sp := fun vs H Q _ => ∃ (p dx la fa a b : Addr) (w : Wp) (as : List Addr) (ah lt : List Nat), vs = [.ref p, .ref a, .ref b] ∧ WrA C p dx la fa H w as ∧ H a = some (.lst (nIs ah)) ∧ H b = some (.lst (nIs lt)) ∧ ¬ Own p la fa as a ∧ ¬ Own p la fa as b ∧ Bn w ah lt ∧
  ∀ H', WrA C p dx la fa H' ⟨w.le, lnk w.fo ah lt⟩ as → KW p la fa as H H' → Q .non H'
def spJoined (C : Addr) : Sp := fun vs H Q _ => ∃ (p dx la fa : Addr) (x y : V) (w : Wp) (as : List Addr) (c d : Pt) (O : Addr → Prop), vs = [.ref p, x, y] ∧ WrA C p dx la fa H w as ∧ Apt p la fa as H O ∧ PtO O H x c ∧ PtO O H y d ∧ Bn w c.2.2 d.2.1 ∧ c.2.1.length ≤ 1000 ∧ d.2.2.length ≤ 1000 ∧
  ∀ z H', PtO O H' z (joinP c d) → WrA C p dx la fa H' ⟨w.le, lnk w.fo c.2.2 d.2.1⟩ as → KW p la fa as H H' → Q z H'
def spWI (C : Addr) : Sp := fun vs H Q _ => ∃ (p dx : Addr), vs = [.ref p] ∧ H p = some (.ins C dx []) ∧
  ∀ la fa H', WrA C p dx la fa H' ⟨[], []⟩ [] → H la = none → H fa = none → (∀ b o, b ≠ p → H b = some o → H' b = some o) → Q .non H'
theorem lnk_snoc (fo : List (List Nat)) (ah la : List Nat) (i : Nat) : lnk fo (ah ++ [i]) la = addAt (lnk fo ah la) i la := by
  unfold lnk
  rw [List.foldl_append] <;> rfl
section
variable {P : Program} {w : World} {K : PySem.W.Frag} {mg : Str → Option Value} {base : Heap} {C : Addr} {f : Nat → Addr} {fd : Nat → FuncData} {tk : Nat → Tok}
theorem ok_wi (T : WT K mg C f fd tk) : FnOk P w K mg base CX0 1 (f 0) (fd 0) ["self"] (spWI C) := by
  refine T.mI.F.ok scWI (fun vs H Q E h => ?_) (fun cdv A outer s H vs Q E hr h => ?_)
  · obtain ⟨p, dx, rfl, _⟩ := h
    rfl
  · obtain ⟨p, dx, rfl, hp, q⟩ := h
    refine ⟨_, pss_cons (ps_fld (pv 0) (pe_lst pa_nil) rfl) (pss_one (ps_fld (pv 0) (pe_lst pa_nil) rfl)), ?_⟩
    refine ⟨Nat.zero_le _, fun l hl => ?_⟩
    have npl : p ≠ l := fun z => by
      rw [← z, hp] at hl
      cases hl
    refine ⟨_, rfl, p, C, dx, _, rfl, (upd_ne npl).trans hp, T.cl, T.nLe, (show 0 < 1000 by decide), ?_⟩
    refine ⟨Nat.zero_le _, fun m hm => ?_⟩
    have npm : p ≠ m := fun z => by
      rw [← z, upd_same] at hm
      cases hm
    have nlm : l ≠ m := fun z => by
      rw [← z, upd_ne npl.symm, upd_same] at hm
      cases hm
    have hm0 : H m = none := by
      rw [upd_ne npm.symm, upd_ne nlm.symm] at hm
      exact hm
    refine ⟨_, rfl, p, C, dx, _, rfl, (upd_ne npm).trans upd_same, T.cl, T.nFo, (show 1 < 1000 by decide), ?_⟩
    refine q l m _ ⟨by rw [upd_same] <;> rfl, by rw [upd_ne npl.symm, upd_ne nlm, upd_ne npl.symm, upd_same] <;> rfl, by rw [upd_ne npm.symm, upd_same] <;> rfl, nlm, List.nodup_nil, rfl, fun i x r h1 => by cases h1⟩ hl hm0 fun b o nb e => ?_
    rw [upd_ne nb, upd_ne (ne_of_none e hm0), upd_ne nb, upd_ne (ne_of_none e hl)]
    exact e
theorem ok_link (T : WT K mg C f fd tk) : FnOk P w K mg base CX0 1 (f 1) (fd 1) ["self", "ahead", "later"] (spLink C) := by
  refine T.mLink.F.ok scLink (fun vs H Q E h => ?_) (fun cdv A outer s H vs Q E hr h => ?_)
  · obtain ⟨p, dx, la, fa, a, b, w, as, ah, lt, rfl, _⟩ := h
    rfl
  · obtain ⟨p, dx, la, fa, a, b, w, as, ah, lt, rfl, W, ha, hb, na, nb, B, q⟩ := h
    refine ⟨_, pss_one (ps_for PassesOwn.never rfl (pi_list (pv 1)) (pg_name (i := 3) scLink.nd rfl (Or.inl rfl))
      (pss_one (ps_expr (pe_bm PySem.F.plainAttrs_list PySem.F.slot_list_extend PySem.F.type_list_extend mt_extend (pe_ix ix_list (pe_fld (pv 0) rfl) (pv 3) (fun _ _ => rfl)) (pa_cons (pv 2) pa_nil))))), ?_⟩
    refine ⟨_, rfl, a, rfl, ⟨_, .inl (.inl ha)⟩, for_list (K := K) (a := a) (xs := nIs ah) (fun i σ H1 => ∃ v, σ = [some (.ref p), some (.ref a), some (.ref b), v] ∧ WrA C p dx la fa H1 ⟨w.le, lnk w.fo (ah.take i) lt⟩ as ∧ KW p la fa as H H1)
      ⟨none, rfl, W, .refl⟩ (fun i σ H1 _ ⟨_, _, _, k⟩ => .inl (.inl (k _ _ na ha))) ?_ ?_⟩
    · rintro i y σ H1 hi ⟨v, rfl, W1, k1⟩
      obtain ⟨x, hx, rfl⟩ : ∃ x, ah[i]? = some x ∧ y = V.int (x : Int) := by
        unfold nIs at hi
        rw [List.getElem?_map] at hi
        cases e : ah[i]? with
        | none =>
          rw [e] at hi
          cases hi
        | some x =>
          rw [e] at hi
          exact ⟨x, rfl, (Option.some.inj hi).symm⟩
      have hlt := B.lt x (List.mem_of_getElem? hx)
      have hl := (List.getElem?_eq_some_iff.mp hx).1
      have ht : ah.take (i + 1) = ah.take i ++ [x] := by
        rw [List.take_succ_eq_append_getElem hl, (List.getElem?_eq_some_iff.mp hx).2]
      have nx : x ∉ ah.take i := fun z => by
        have := B.nd.sublist (List.take_sublist (i + 1) ah)
        rw [ht] at this
        exact (List.nodup_append.mp this).2.2 x z x List.mem_cons_self rfl
      have hr0 : (lnk w.fo (ah.take i) lt)[x]? = some w.fo[x] := by
        rw [lnk_get lt x _ _ (B.nd.sublist (List.take_sublist i ah)), if_neg nx, List.getElem?_eq_getElem hlt]
      have hla : x < as.length := by
        rw [W.n]
        exact hlt
      have hax := List.getElem?_eq_getElem hla
      obtain ⟨c1, c2, c3⟩ := W1.at_ x _ _ hax hr0
      have hbd := B.bd _ (List.getElem_mem hlt)
      have kb := k1 _ _ nb hb
      refine ⟨.ref p, rfl, p, C, dx, _, _, rfl, W1.e, T.cl, T.nFo, wf_fo, .int x, rfl, fa, _, x, .ref as[x], rfl, rfl, .inl (.inl W1.f), atI_nat (by rw [List.getElem?_map, hax] <;> rfl), .inl ⟨rfl, _, .inl (.inl c1)⟩, .ref b, rfl, as[x], b, _, _, rfl, rfl, c1, kb, ?_, ?_⟩
      · rw [nIs_len, nIs_len]
        have := B.ll
        exact Nat.le_trans (show w.fo[x].length + lt.length ≤ 20000 by omega) (by decide)
      · rw [nIs_app]
        refine ⟨_, rfl, ?_, fun d o nd e => ?_⟩
        · rw [ht, lnk_snoc]
          exact W1.add hax hr0
        · have nda : d ≠ as[x] := fun z => nd (.inr (.inr (.inr (by rw [z]; exact List.getElem_mem hla))))
          rw [upd_ne nda]
          exact k1 d o nd e
    · rintro σ H1 ⟨v, rfl, W1, k1⟩
      rw [nIs_len, List.take_of_length_le (Nat.le_refl _)] at W1
      exact q H1 W1 k1
theorem ok_joined (T : WT K mg C f fd tk) : FnOk P w K mg base CX0 2 (f 2) (fd 2) ["self", "one", "other"] (spJoined C) := by
  refine T.mJoin.F.ok scJoined (fun vs H Q E h => ?_) (fun cdv A outer s H vs Q E hr h => ?_)
  · obtain ⟨p, dx, la, fa, x, y, w, as, c, d, O, rfl, _⟩ := h
    rfl
  · obtain ⟨p, dx, la, fa, x, y, w, as, c, d, O, rfl, W, ap, ⟨a, f1, g1, rfl, pc⟩, ⟨b, f2, g2, rfl, pd⟩, B, l1, l2, q⟩ := h
    have un : ∀ {b : Addr}, ¬ O b → ¬ Own p la fa as b := fun h z => h (ap.sub _ z)
    have GL := ok_link (P := P) (base := base) (w := ‹World›) T
    refine ⟨_, pss_cons (ps_expr (pe_meth (pv 0) T.cl T.mLink.m GL hr T.mLink.b .nil pass0 (pa_cons (pe_ix ix_tup (pv 1) pe_int (fun _ _ => rfl)) (pa_cons (pe_ix ix_tup (pv 2) pe_int (fun _ _ => rfl)) pa_nil))))
      (Evl.pss_cut (ps_set (i := 3) scJoined.nd rfl (.inl rfl) (pe_ifExp (pt_val (pe_ix ix_tup (pv 1) pe_int (fun _ _ => rfl))) (pe_op op_cat (pe_ix ix_tup (pv 1) pe_int (fun _ _ => rfl)) (pe_ix ix_tup (pv 2) pe_int (fun _ _ => rfl))) (pe_ix ix_tup (pv 1) pe_int (fun _ _ => rfl))))
      (Evl.pss_cut (ps_set (i := 4) scJoined.nd rfl (.inl rfl) (pe_ifExp (pt_val (pe_ix ix_tup (pv 2) pe_int (fun _ _ => rfl))) (pe_op op_cat (pe_ix ix_tup (pv 1) pe_int (fun _ _ => rfl)) (pe_ix ix_tup (pv 2) pe_int (fun _ _ => rfl))) (pe_ix ix_tup (pv 2) pe_int (fun _ _ => rfl))))
      (pss_one (ps_ret (pe_tup (pa_cons (pe_and (pe_ix ix_tup (pv 1) pe_int (fun _ _ => rfl)) (pe_one (pe_ix ix_tup (pv 2) pe_int (fun _ _ => rfl)))) (pa_cons (pv 3) (pa_cons (pv 4) pa_nil)))))))), ?_⟩
    have ix : ∀ {H1 : Hp} {t : Addr} {u v z : V} {j : Nat} {r : V}, H1 t = some (.tup [u, v, z]) → [u, v, z][j]? = some r → rIxT K (.ref t) (.int (j : Int)) H1 = rIxT K (.ref t) (.int (j : Int)) H1 := fun _ _ => rfl
    have nL : (wf_ la fa).lookup ("link" : Str) = none := wf_no (by decide +kernel) (by decide +kernel)
    refine ⟨.ref p, rfl, p, dx, _, rfl, W.e, nL, .ref a, rfl, a, _, 2, _, rfl, rfl, .inl (.inl pc.t), atI_nat (j := 2) rfl, .ref b, rfl, b, _, 1, _, rfl, rfl, .inl (.inl pd.t), atI_nat (j := 1) rfl, ?_⟩
    refine ⟨p, dx, la, fa, g1, f2, w, as, _, _, rfl, W, pc.g, pd.f, un pc.ng, un pd.nf, B, fun H1 W1 k1 => ?_⟩
    have c1 : PtB O H1 a f1 g1 c := ⟨k1 _ _ (un pc.nt) pc.t, k1 _ _ (un pc.nf) pc.f, k1 _ _ (un pc.ng) pc.g, pc.nt, pc.nf, pc.ng⟩
    have d1 : PtB O H1 b f2 g2 d := ⟨k1 _ _ (un pd.nt) pd.t, k1 _ _ (un pd.nf) pd.f, k1 _ _ (un pd.ng) pd.g, pd.nt, pd.nf, pd.ng⟩
    have al1 : ∀ b, O b → ∃ o, H1 b = some o := fun b hb => by
      by_cases ho : Own p la fa as b
      · obtain ⟨o, e, _⟩ := W1.own ho
        exact ⟨o, e⟩
      · obtain ⟨o, e⟩ := ap.all b hb
        exact ⟨o, k1 b o ho e⟩
    have no1 : ∀ {H2 : Hp} {b : Addr}, Same H1 H2 → H2 b = none → ¬ O b := fun {H2 b} s h z => by
      obtain ⟨o, e⟩ := al1 b z
      rw [s b o e] at h
      cases h
    have B1 := B.la
    have B2 := B.ll
    refine ⟨fun σ H2 => ∃ f3, σ = [some (.ref p), some (.ref a), some (.ref b), some (.ref f3), none] ∧ Same H1 H2 ∧ H2 f3 = some (.lst (nIs (joinP c d).2.1)) ∧ ¬ O f3, ?_, fun σ H2 hM => ?_⟩
    · refine ⟨.ref a, rfl, a, _, 0, _, rfl, rfl, .inl (.inl c1.t), atI_nat (j := 0) rfl, c.1, rfl, ?_⟩
      unfold joinP
      cases c.1 with
      | true =>
        refine iteT ⟨.ref a, rfl, a, _, 1, _, rfl, rfl, .inl (.inl c1.t), atI_nat (j := 1) rfl, .ref b, rfl, b, _, 1, _, rfl, rfl, .inl (.inl d1.t), atI_nat (j := 1) rfl, f1, f2, _, _, rfl, rfl, c1.f, d1.f, ?_, fun f3 h3 => ?_⟩
        · rw [nIs_len, nIs_len]
          exact Nat.le_trans (show c.2.1.length + d.2.1.length ≤ 2000 by omega) (by decide)
        · rw [nIs_app]
          exact ⟨f3, rfl, smU h3, upd_same, no1 (Same.refl _) h3⟩
      | false => exact iteF ⟨.ref a, rfl, a, _, 1, _, rfl, rfl, .inl (.inl c1.t), atI_nat (j := 1) rfl, f1, rfl, Same.refl _, c1.f, c1.nf⟩
    obtain ⟨f3, rfl, s2, e3, n3⟩ := hM
    have c2 : PtB O H2 a f1 g1 c := ⟨s2 _ _ c1.t, s2 _ _ c1.f, s2 _ _ c1.g, c1.nt, c1.nf, c1.ng⟩
    have d2 : PtB O H2 b f2 g2 d := ⟨s2 _ _ d1.t, s2 _ _ d1.f, s2 _ _ d1.g, d1.nt, d1.nf, d1.ng⟩
    refine ⟨fun σ H3 => ∃ g3, σ = [some (.ref p), some (.ref a), some (.ref b), some (.ref f3), some (.ref g3)] ∧ Same H2 H3 ∧ H3 g3 = some (.lst (nIs (joinP c d).2.2)) ∧ ¬ O g3, ?_, fun σ H3 hM => ?_⟩
    · refine ⟨.ref b, rfl, b, _, 0, _, rfl, rfl, .inl (.inl d2.t), atI_nat (j := 0) rfl, d.1, rfl, ?_⟩
      unfold joinP
      cases d.1 with
      | true =>
        refine iteT ⟨.ref a, rfl, a, _, 2, _, rfl, rfl, .inl (.inl c2.t), atI_nat (j := 2) rfl, .ref b, rfl, b, _, 2, _, rfl, rfl, .inl (.inl d2.t), atI_nat (j := 2) rfl, g1, g2, _, _, rfl, rfl, c2.g, d2.g, ?_, fun g3 h3 => ?_⟩
        · rw [nIs_len, nIs_len]
          exact Nat.le_trans (show c.2.2.length + d.2.2.length ≤ 2000 by omega) (by decide)
        · rw [nIs_app]
          exact ⟨g3, rfl, smU h3, upd_same, no1 s2 h3⟩
      | false => exact iteF ⟨.ref b, rfl, b, _, 2, _, rfl, rfl, .inl (.inl d2.t), atI_nat (j := 2) rfl, g2, rfl, Same.refl _, d2.g, d2.ng⟩
    obtain ⟨g3, rfl, s3, e4, n4⟩ := hM
    have s23 := s2.trans s3
    have fin : ∀ b0 : Bool, b0 = (joinP c d).1 → ∀ t, H3 t = none → Q (.ref t) (upd H3 t (.tup [.bl b0, .ref f3, .ref g3])) := fun b0 eb t ht => by
      subst eb
      have s4 := smU (o := HO.tup [.bl (joinP c d).1, .ref f3, .ref g3]) ht
      exact q _ _ ⟨t, f3, g3, rfl, upd_same, s4 _ _ (s3 _ _ e3), s4 _ _ e4, no1 s23 ht, n3, n4⟩ (W1.up (s23.trans s4)) (k1.trans0 (KW.same (s23.trans s4)))
    refine ⟨.ref a, rfl, a, _, 0, _, rfl, rfl, .inl (.inl (s23 _ _ c1.t)), atI_nat (j := 0) rfl, c.1, rfl, ?_⟩
    have ej : (joinP c d).1 = (c.1 && d.1) := rfl
    rw [ej] at fin
    cases hc : c.1 with
    | true =>
      rw [hc, Bool.true_and] at fin
      exact iteT ⟨.ref b, rfl, b, _, 0, _, rfl, rfl, .inl (.inl (s23 _ _ d1.t)), atI_nat (j := 0) rfl, _, rfl, _, rfl, (show 3 ≤ sizeLine by decide), fin _ rfl⟩
    | false =>
      rw [hc, Bool.false_and] at fin
      exact iteF ⟨_, rfl, _, rfl, (show 3 ≤ sizeLine by decide), fin _ rfl⟩
end
end Sf4
namespace Sf4
open PySem PySem.Spec PyProof.Rows L2 Sf
mutual
def dep : Tr → Nat
  | .place _ => 0
  | .empty => 0
  | .capture _ t => dep t + 1
  | .chain l => depL l + 1
  | .choice l => depL l + 1
  | .count _ _ t => dep t + 1
def depL : List Tr → Nat
  | [] => 0
  | t :: r => max (dep t) (depL r)
end
mutual
/-- the longest row of parts, the greatest number of copies -/
def wid : Tr → Nat
  | .place _ => 0
  | .empty => 0
  | .capture _ t => wid t
  | .chain l => max l.length (widL l)
  | .choice l => max l.length (widL l)
  | .count a b t => max (many a b) (wid t)
def widL : List Tr → Nat
  | [] => 0
  | t :: r => max (wid t) (widL r)
end
theorem depL_get : ∀ {l : List Tr} {i : Nat} {t : Tr}, l[i]? = some t → dep t ≤ depL l ∧ wid t ≤ widL l
  | [], _, _, h => by cases h
  | t :: r, 0, _, h => by
    cases h
    exact ⟨Nat.le_max_left _ _, Nat.le_max_left _ _⟩
  | t :: r, i + 1, u, h => by
    obtain ⟨a, b⟩ := depL_get (l := r) (i := i) h
    exact ⟨Nat.le_trans a (Nat.le_max_right _ _), Nat.le_trans b (Nat.le_max_right _ _)⟩
theorem TrOs.get {H : Hp} : ∀ {ts : List Tr} {vs : List V} {i : Nat} {v : V}, TrOs H vs ts → vs[i]? = some v → ∃ t, ts[i]? = some t ∧ TrO H v t
  | [], _, _, _, h, e => by
    cases h
    cases e
  | t :: ts, _, 0, _, h, e => by
    cases h with
    | cons a r =>
      cases e
      exact ⟨t, rfl, a⟩
  | t :: ts, _, i + 1, _, h, e => by
    cases h with
    | cons a r => exact TrOs.get (i := i) r e
/-- parts on the heap -/
inductive PtOs (O : Addr → Prop) (H : Hp) : List V → List Pt → Prop
  | nil : PtOs O H [] []
  | cons {v : V} {vs : List V} {c : Pt} {cs : List Pt} : PtO O H v c → PtOs O H vs cs → PtOs O H (v :: vs) (c :: cs)
theorem PtOs.mono {O : Addr → Prop} {H H' : Hp} (k : ∀ b o, ¬ O b → H b = some o → H' b = some o) : ∀ {cs : List Pt} {vs : List V}, PtOs O H vs cs → PtOs O H' vs cs
  | [], _, h => by
    cases h
    exact .nil
  | c :: cs, _, h => by
    cases h with
    | cons a r => exact .cons (a.mono k) (PtOs.mono k r)
theorem PtOs.sub {O O' : Addr → Prop} {H : Hp} (k : ∀ b o, ¬ O b → H b = some o → ¬ O' b) : ∀ {cs : List Pt} {vs : List V}, PtOs O H vs cs → PtOs O' H vs cs
  | [], _, h => by
    cases h
    exact .nil
  | c :: cs, _, h => by
    cases h with
    | cons a r => exact .cons (a.sub k) (PtOs.sub k r)
theorem PtOs.snoc {O : Addr → Prop} {H : Hp} : ∀ {cs : List Pt} {vs : List V} {v : V} {c : Pt}, PtOs O H vs cs → PtO O H v c → PtOs O H (vs ++ [v]) (cs ++ [c])
  | [], _, _, _, h, k => by
    cases h
    exact .cons k .nil
  | c :: cs, _, _, _, h, k => by
    cases h with
    | cons a r => exact .cons a (r.snoc k)
theorem PtOs.len {O : Addr → Prop} {H : Hp} : ∀ {cs : List Pt} {vs : List V}, PtOs O H vs cs → vs.length = cs.length
  | [], _, h => by
    cases h
    rfl
  | c :: cs, _, h => by
    cases h with
    | cons a r => rw [List.length_cons, List.length_cons, r.len]
theorem PtOs.get {O : Addr → Prop} {H : Hp} : ∀ {cs : List Pt} {vs : List V} {i : Nat} {v : V}, PtOs O H vs cs → vs[i]? = some v → ∃ c, cs[i]? = some c ∧ PtO O H v c
  | [], _, _, _, h, e => by
    cases h
    cases e
  | c :: cs, _, 0, _, h, e => by
    cases h with
    | cons a r =>
      cases e
      exact ⟨c, rfl, a⟩
  | c :: cs, _, i + 1, _, h, e => by
    cases h with
    | cons a r => exact PtOs.get (i := i) r e
def NPart : List Str := ["self", "tree", "place", "found", "part", "parts", "first", "last"]
theorem scPartOf : FnScope NPart ["self", "tree"] (defScope sPartOf) := ⟨rfl, rfl, rfl, by decide +kernel, rfl, by decide +kernel, by decide +kernel⟩
/-- the bounds at which a part is written out -/
structure Fit (w : Wp) (s k S n M : Nat) : Prop where
  ok : WOk w n M
  le : n + s ≤ S
  top : S ≤ 1000
  bd : M + S * k ≤ 10000
/-- what comes of it -/
def Out (C p dx la fa : Addr) (as : List Addr) (O : Addr → Prop) (H : Hp) (r : Pt × Wp) (Q : VK) : Prop :=
  ∀ x H' as', PtO (fun b => O b ∨ b ∈ as') H' x r.1 → WrA C p dx la fa H' r.2 as' → Ext H as as' → KW p la fa as H H' → Q x H'
def spPO (C : Addr) (d : Nat) : Sp := fun vs H Q _ => ∃ (p dx la fa : Addr) (v : V) (t : Tr) (w : Wp) (as : List Addr) (O : Addr → Prop) (S n M : Nat), vs = [.ref p, v] ∧ dep t ≤ d ∧ wid t ≤ 1000 ∧ TrO H v t ∧ WrA C p dx la fa H w as ∧ Apt p la fa as H O ∧ Fit w (sz t) (lks t) S n M ∧
  Out C p dx la fa as O H (pO t w) Q
def spCnt (C : Addr) (d : Nat) : Sp := fun vs H Q _ => ∃ (p dx la fa : Addr) (a : Nat) (b : Option Nat) (v : V) (t : Tr) (w : Wp) (as : List Addr) (O : Addr → Prop) (S n M : Nat), vs = [.ref p, .int a, mst b, v] ∧ dep t ≤ d ∧ wid t ≤ 1000 ∧ many a b ≤ 1000 ∧ TrO H v t ∧ WrA C p dx la fa H w as ∧ Apt p la fa as H O ∧
  Fit w (many a b * sz t) (many a b * (lks t + 1) + 1) S n M ∧ Out C p dx la fa as O H (cntd a b (rep (pO t) (many a b) w)) Q
/-- two promises at one time: what may be called within a tree of this depth -/
def spIf (c : Bool) (sp : Sp) : Sp := fun vs H Q E => c = true ∧ sp vs H Q E
theorem KW.put {p la fa D : Addr} {as : List Addr} {H H0 H1 : Hp} {o : HO} (k : KW p la fa as H H1) (k0 : KW p la fa as H H0) (n : H0 D = none) : KW p la fa as H (upd H1 D o) := fun b u nb e => by
  rw [upd_ne (ne_of_none (k0 b u nb e) n)]
  exact k b u nb e
section
variable {P : Program} {w : World} {K : PySem.W.Frag} {mg : Str → Option Value} {base : Heap} {C : Addr} {f : Nat → Addr} {fd : Nat → FuncData} {tk : Nat → Tok}
theorem ok_partOf (T : WT K mg C f fd tk) {k d : Nat} {spA spB : Sp} (hk : 2 ≤ k) (GA : FnOk P w K mg base CX0 k (f 3) (fd 3) ["self", "tree"] spA) (GB : FnOk P w K mg base CX0 k (f 4) (fd 4) ["self", "least", "most", "tree"] spB)
    (hA : ∀ e vs H Q E, e + 1 ≤ d → spPO C e vs H Q E → spA vs H Q E) (hB : ∀ e vs H Q E, e + 1 ≤ d → spCnt C e vs H Q E → spB vs H Q E) : FnOk P w K mg base CX0 (k + 1) (f 3) (fd 3) ["self", "tree"] (spPO C d) := by
  refine T.mPart.F.ok scPartOf (fun vs H Q E h => ?_) (fun cdv A outer s H vs Q E hr h => ?_)
  · obtain ⟨p, dx, la, fa, v, t, w, as, O, S, n, M, rfl, _⟩ := h
    rfl
  · obtain ⟨p, dx, la, fa, v, t, w, as, O, S, n, M, rfl, hd, hw, ht, W, ap, ft, q⟩ := h
    have GJ := ok_joined (P := P) (base := base) (w := ‹World›) T
    refine ⟨_, pss_cons (ps_if (pt_cmpR op_eq (pe_ix ix_tup (pv 1) pe_int (fun _ _ => rfl)) (pe_glob (v := .str plW) rfl T.gPl ⟨_, rfl⟩) (nomark _))
          (pss_cons (ps_expr (pe_bm PySem.F.plainAttrs_list PySem.F.slot_list_append PySem.F.type_list_append mt_append (pe_fld (pv 0) rfl) (pa_cons (pe_ix ix_tup (pv 1) pe_int (fun _ _ => rfl)) pa_nil)))
          (pss_cons (ps_expr (pe_bm PySem.F.plainAttrs_list PySem.F.slot_list_append PySem.F.type_list_append mt_append (pe_fld (pv 0) rfl) (pa_cons (pe_lst pa_nil) pa_nil)))
          (pss_cons (ps_set (i := 2) scPartOf.nd rfl (.inl rfl) (pe_op op_sub (pe_callB call_len_seq (by rfl) T.zlen PySem.boot_len (pa_cons (pe_fld (pv 0) rfl) pa_nil)) pe_int))
          (pss_one (ps_ret (pe_tup (pa_cons pe_bl (pa_cons (pe_lst (pa_cons (pv 2) pa_nil)) (pa_cons (pe_lst (pa_cons (pv 2) pa_nil)) pa_nil))))))))) pss_nil)
      (pss_cons (ps_if (pt_cmpR op_eq (pe_ix ix_tup (pv 1) pe_int (fun _ _ => rfl)) (pe_glob (v := .str caW) rfl T.gCa ⟨_, rfl⟩) (nomark _))
          (pss_one (ps_ret (pe_meth (pv 0) T.cl T.mPart.m GA hr T.mPart.b .nil pass0 (pa_cons (pe_ix ix_tup (pv 1) pe_int (fun _ _ => rfl)) pa_nil)))) pss_nil)
      (pss_cons (ps_if (pt_cmpR op_eq (pe_ix ix_tup (pv 1) pe_int (fun _ _ => rfl)) (pe_glob (v := .str coW) rfl T.gCo ⟨_, rfl⟩) (nomark _))
          (pss_one (ps_ret (pe_meth (pv 0) T.cl T.mCount.m GB hr T.mCount.b .nil pass0 (pa_cons (pe_ix ix_tup (pv 1) pe_int (fun _ _ => rfl)) (pa_cons (pe_ix ix_tup (pv 1) pe_int (fun _ _ => rfl)) (pa_cons (pe_ix ix_tup (pv 1) pe_int (fun _ _ => rfl)) pa_nil)))))) pss_nil)
      (pss_cons (ps_set (i := 3) scPartOf.nd rfl (.inl rfl) (pe_tup (pa_cons pe_bl (pa_cons (pe_lst pa_nil) (pa_cons (pe_lst pa_nil) pa_nil)))))
      (Evl.pss_cut (ps_if (pt_cmpR op_eq (pe_ix ix_tup (pv 1) pe_int (fun _ _ => rfl)) (pe_glob (v := .str chW) rfl T.gCh ⟨_, rfl⟩) (nomark _))
          (pss_one (ps_for PassesOwn.never rfl (pi_tup (pe_ix ix_tup (pv 1) pe_int (fun _ _ => rfl))) (pg_name (i := 4) scPartOf.nd rfl (Or.inl rfl))
            (pss_one (ps_set (i := 3) scPartOf.nd rfl (.inl rfl) (pe_meth (pv 0) T.cl T.mJoin.m GJ (hr.mono hk) T.mJoin.b .nil pass0 (pa_cons (pv 3) (pa_cons (pe_meth (pv 0) T.cl T.mPart.m GA hr T.mPart.b .nil pass0 (pa_cons (pv 4) pa_nil)) pa_nil))))))) pss_nil)
      (Evl.pss_cut (ps_if (pt_cmpR op_eq (pe_ix ix_tup (pv 1) pe_int (fun _ _ => rfl)) (pe_glob (v := .str alW) rfl T.gAl ⟨_, rfl⟩) (nomark _))
          (pss_cons (ps_setLc (i := 5) (own := [("part", 4)]) (g := gName 4) (tt := tYes) (te := tMeth C "part_of" spA [] E0 (tVar 0) (tCons (tVar 4) tNil)) rfl scPartOf.nd rfl rfl (sw_true rfl rfl rfl (by decide +kernel)) (pi_tup (pe_ix ix_tup (pv 1) pe_int (fun _ _ => rfl))) (blkOk_by (N := NPart) (sc := defScope sPartOf) (by decide +kernel))
              (fun _ _ _ _ _ => pg_name (i := 4) scPartOf.nd rfl (Or.inl rfl)) (fun _ _ _ _ _ => pts_nil) (fun _ _ _ _ _ => pe_meth (pv 0) T.cl T.mPart.m GA hr T.mPart.b .nil pass0 (pa_cons (pv 4) pa_nil)))
          (pss_cons (ps_par (i := 6) (j := 7) rfl scPartOf.nd rfl rfl (by decide) rfl rfl (pa_cons (pe_lst pa_nil) (pa_cons (pe_lst pa_nil) pa_nil)) (by rfl))
          (pss_cons (ps_for PassesOwn.never rfl (pi_list (pv 5)) (pg_name (i := 4) scPartOf.nd rfl (Or.inl rfl))
            (pss_one (ps_par (i := 6) (j := 7) rfl scPartOf.nd rfl rfl (by decide) rfl rfl (pa_cons (pe_op op_cat (pv 6) (pe_ix ix_tup (pv 4) pe_int (fun _ _ => rfl))) (pa_cons (pe_op op_cat (pv 7) (pe_ix ix_tup (pv 4) pe_int (fun _ _ => rfl))) pa_nil)) (by rfl))))
          (pss_one (ps_set (i := 3) scPartOf.nd rfl (.inl rfl) (pe_tup (pa_cons (pe_callB (cr_any rfl) (by rfl) T.zany (by decide +kernel) (pa_cons (pe_lc (own := [("part", 4)]) (g := gName 4) (tt := tYes) (te := tOp (rIxT K) (tVar 4) (tC (.int 0))) rfl scPartOf.nd (pi_list (pv 5)) (blkOk_by (N := NPart) (sc := defScope sPartOf) (by decide +kernel))
              (fun _ _ _ _ _ => pg_name (i := 4) scPartOf.nd rfl (Or.inl rfl)) (fun _ _ _ _ _ => pts_nil) (fun _ _ _ _ _ => pe_ix ix_tup (pv 4) pe_int (fun _ _ => rfl))) pa_nil)) (pa_cons (pv 6) (pa_cons (pv 7) pa_nil))))))))) pss_nil)
      (pss_one (ps_ret (pv 3)))))))), ?_⟩
    have nP : (wf_ la fa).lookup ("part_of" : Str) = none := wf_no (by decide +kernel) (by decide +kernel)
    have nC : (wf_ la fa).lookup ("counted" : Str) = none := wf_no (by decide +kernel) (by decide +kernel)
    have nJ : (wf_ la fa).lookup ("joined" : Str) = none := wf_no (by decide +kernel) (by decide +kernel)
    have hle := ft.ok.le
    have hfo := ft.ok.fo
    have f1 := ft.le
    have f2 := ft.top
    have f3 := ft.bd
    by_cases hp : ∃ s, t = .place s
    · obtain ⟨s, rfl⟩ := hp
      cases ht with
      | place e =>
      rename_i a
      refine ⟨.ref a, rfl, a, _, 0, _, rfl, rfl, .inl (.inl e), atI_nat (j := 0) rfl, rfl, _, rfl, ?_⟩
      rw [decide_eq_true rfl]
      have hpl : p ≠ la := ne_of W.e W.l (by intro z; cases z)
      have hpf : p ≠ fa := ne_of W.e W.f (by intro z; cases z)
      have f1 : n + 1 ≤ S := f1
      refine iteT ⟨.ref p, rfl, p, C, dx, _, _, rfl, W.e, T.cl, T.nLe, wf_le, .inl ⟨rfl, _, .inl (.inl W.l)⟩, .ref a, rfl, a, _, 1, _, rfl, rfl, .inl (.inl e), atI_nat (j := 1) rfl, la, _, _, rfl, rfl, W.l, ?_, ?_⟩
      · unfold nmV
        rw [List.length_map, hle]
        exact Nat.lt_of_le_of_lt (show n ≤ 1000 by omega) (by decide)
      have e1 : upd H la (.lst (nmV w.le ++ [.str (tx s)])) p = some (.ins C dx (wf_ la fa)) := (upd_ne hpl).trans W.e
      have g1 : upd H la (.lst (nmV w.le ++ [.str (tx s)])) fa = some (.lst (as.map V.ref)) := (upd_ne W.ne.symm).trans W.f
      refine ⟨.ref p, rfl, p, C, dx, _, _, rfl, e1, T.cl, T.nFo, wf_fo, .inl ⟨rfl, _, .inl (.inl g1)⟩, Nat.zero_le _, fun b hb => ?_⟩
      have nbl : b ≠ la := fun z => by
        rw [z, upd_same] at hb
        cases hb
      have hb0 : H b = none := by
        rw [upd_ne nbl] at hb
        exact hb
      have nbp : b ≠ p := fun z => by
        rw [z, W.e] at hb0
        cases hb0
      have nbf : b ≠ fa := fun z => by
        rw [z, W.f] at hb0
        cases hb0
      refine ⟨fa, _, _, rfl, rfl, (upd_ne nbf.symm).trans g1, ?_, ?_⟩
      · rw [List.length_map, W.n, hfo]
        exact Nat.lt_of_le_of_lt (show n ≤ 1000 by omega) (by decide)
      have W3 : WrA C p dx la fa (upd (upd (upd H la (.lst (nmV w.le ++ [.str (tx s)]))) b (.lst [])) fa (.lst (as.map V.ref ++ [.ref b]))) ⟨w.le ++ [s], w.fo ++ [[]]⟩ (as ++ [b]) := by
        have nas : ∀ x ∈ as, x ≠ b := fun x hx z => by
          obtain ⟨o, e, _⟩ := W.own (b := x) (.inr (.inr (.inr hx)))
          rw [z, hb0] at e
          cases e
        refine ⟨?_, ?_, ?_, W.ne, ?_, ?_, fun i x r h1 h2 => ?_⟩
        · rw [upd_ne hpf, upd_ne nbp.symm]
          exact e1
        · rw [upd_ne W.ne, upd_ne nbl.symm, upd_same]
          unfold nmV
          rw [List.map_append] <;> rfl
        · rw [upd_same, List.map_append] <;> rfl
        · exact List.nodup_append.mpr ⟨W.nd, List.nodup_cons.mpr ⟨List.not_mem_nil, List.nodup_nil⟩, fun x hx y hy => by
            rw [List.mem_singleton.mp hy]
            exact nas x hx⟩
        · rw [List.length_append, List.length_append, W.n] <;> rfl
        · by_cases hi : i < as.length
          · rw [List.getElem?_append_left hi] at h1
            have h2 : (w.fo ++ [[]])[i]? = some r := h2
            rw [List.getElem?_append_left (by rw [← W.n]; exact hi)] at h2
            obtain ⟨c1, c2, c3⟩ := W.at_ i x r h1 h2
            refine ⟨?_, c2, c3⟩
            rw [upd_ne c3, upd_ne (nas x (List.mem_of_getElem? h1)), upd_ne c2]
            exact c1
          · have hl := (List.getElem?_eq_some_iff.mp h1).1
            rw [List.length_append, List.length_singleton] at hl
            obtain rfl : i = as.length := by omega
            have h2 : (w.fo ++ [[]])[as.length]? = some r := h2
            rw [List.getElem?_append_right (Nat.le_refl _), Nat.sub_self] at h1
            rw [W.n, List.getElem?_append_right (Nat.le_refl _), Nat.sub_self] at h2
            cases h1
            cases h2
            refine ⟨?_, nbl, nbf⟩
            rw [upd_ne nbf, upd_same] <;> rfl
      have k3 : KW p la fa as H (upd (upd (upd H la (.lst (nmV w.le ++ [.str (tx s)]))) b (.lst [])) fa (.lst (as.map V.ref ++ [.ref b]))) := fun c o nc e => by
        rw [upd_ne fun z => nc (.inr (.inr (.inl z))), upd_ne (ne_of_none e hb0), upd_ne fun z => nc (.inr (.inl z))]
        exact e
      generalize upd (upd (upd H la (.lst (nmV w.le ++ [.str (tx s)]))) b (.lst [])) fa (.lst (as.map V.ref ++ [.ref b])) = H3 at W3 k3 ⊢
      have x3 : Ext H as (as ++ [b]) := ⟨[b], rfl, fun x hx => by rw [List.mem_singleton.mp hx]; exact hb0⟩
      refine ⟨.ref p, rfl, p, C, dx, _, _, rfl, W3.e, T.cl, T.nLe, wf_le, la, _, rfl, .inl (.inl (.inl W3.l)), _, _, rfl, rfl, ?_⟩
      have el : (((nmV (w.le ++ [s])).length : Nat) : Int) - 1 = ((w.le.length : Nat) : Int) := by
        unfold nmV
        rw [List.length_map, List.length_append, List.length_singleton]
        omega
      refine ⟨_, rfl, (show 1 ≤ sizeLine by decide), fun c hc => ⟨_, rfl, (show 1 ≤ sizeLine by decide), fun g hg => ⟨(show 3 ≤ sizeLine by decide), fun x hx => ?_⟩⟩⟩
      have s1 := smU (o := HO.lst [.int ((((nmV (w.le ++ [s])).length : Nat) : Int) - 1)]) hc
      have s2 := smU (o := HO.lst [.int ((((nmV (w.le ++ [s])).length : Nat) : Int) - 1)]) hg
      have s3 := smU (o := HO.tup [.bl false, .ref c, .ref g]) hx
      have no : ∀ {H4 : Hp} {y : Addr}, Same H3 H4 → H4 y = none → ¬ (O y ∨ y ∈ as ++ [b]) := fun {H4 y} sm hy z => by
        have h3 : H3 y = none := sm.free hy
        rcases z with z | z
        · by_cases ho : Own p la fa as y
          · exact W3.no h3 (x3.own2 ho)
          · obtain ⟨o, e⟩ := ap.all y z
            rw [k3 y o ho e] at h3
            cases h3
        · exact W3.no h3 (.inr (.inr (.inr z)))
      have ec : nIs [w.le.length] = [V.int ((((nmV (w.le ++ [s])).length : Nat) : Int) - 1)] := by
        rw [el] <;> rfl
      exact q _ _ (as ++ [b]) ⟨x, c, g, rfl, upd_same, (s3 _ _ (s2 _ _ upd_same)).trans (congrArg (fun z => some (HO.lst z)) ec.symm), (s3 _ _ upd_same).trans (congrArg (fun z => some (HO.lst z)) ec.symm), no (s1.trans s2) hx, no (Same.refl _) hc, no s1 hg⟩ (W3.up (s1.trans (s2.trans s3))) x3 (k3.trans x3 (KW.same (s1.trans (s2.trans s3))))
    by_cases hp2 : ∃ m u, t = .capture m u
    · obtain ⟨m, u, rfl⟩ := hp2
      cases ht with
      | capture e r =>
      rename_i a v
      have hd : dep u + 1 ≤ d := hd
      refine ⟨.ref a, rfl, a, _, 0, _, rfl, rfl, .inl (.inl e), atI_nat (j := 0) rfl, rfl, _, rfl, ?_⟩
      rw [decide_eq_false (show ¬ (V.str caW = V.str plW) by decide +kernel)]
      refine iteF ⟨.ref a, rfl, a, _, 0, _, rfl, rfl, .inl (.inl e), atI_nat (j := 0) rfl, rfl, _, rfl, ?_⟩
      rw [decide_eq_true rfl]
      refine iteT ⟨.ref p, rfl, p, dx, _, rfl, W.e, nP, .ref a, rfl, a, _, 2, _, rfl, rfl, .inl (.inl e), atI_nat (j := 2) rfl, ?_⟩
      exact hA (dep u) _ _ _ _ hd ⟨p, dx, la, fa, v, u, w, as, O, S, n, M, rfl, Nat.le_refl _, hw, r, W, ap, ft, q⟩
    by_cases hp3 : ∃ a b u, t = .count a b u
    · obtain ⟨a0, b0, u, rfl⟩ := hp3
      cases ht with
      | count e r =>
      rename_i a v
      have hd : dep u + 1 ≤ d := hd
      have hw : max (many a0 b0) (wid u) ≤ 1000 := hw
      refine ⟨.ref a, rfl, a, _, 0, _, rfl, rfl, .inl (.inl e), atI_nat (j := 0) rfl, rfl, _, rfl, ?_⟩
      rw [decide_eq_false (show ¬ (V.str coW = V.str plW) by decide +kernel)]
      refine iteF ⟨.ref a, rfl, a, _, 0, _, rfl, rfl, .inl (.inl e), atI_nat (j := 0) rfl, rfl, _, rfl, ?_⟩
      rw [decide_eq_false (show ¬ (V.str coW = V.str caW) by decide +kernel)]
      refine iteF ⟨.ref a, rfl, a, _, 0, _, rfl, rfl, .inl (.inl e), atI_nat (j := 0) rfl, rfl, _, rfl, ?_⟩
      rw [decide_eq_true rfl]
      refine iteT ⟨.ref p, rfl, p, dx, _, rfl, W.e, nC, .ref a, rfl, a, _, 1, _, rfl, rfl, .inl (.inl e), atI_nat (j := 1) rfl, .ref a, rfl, a, _, 2, _, rfl, rfl, .inl (.inl e), atI_nat (j := 2) rfl, .ref a, rfl, a, _, 3, _, rfl, rfl, .inl (.inl e), atI_nat (j := 3) rfl, ?_⟩
      exact hB (dep u) _ _ _ _ hd ⟨p, dx, la, fa, a0, b0, v, u, w, as, O, S, n, M, rfl, Nat.le_refl _, by omega, by omega, r, W, ap, ft, q⟩
    obtain ⟨a, X, rest, rfl, e, n1, n2, n3, hX⟩ : ∃ a X rest, v = .ref a ∧ H a = some (.tup (.str X :: rest)) ∧ ¬ (V.str X = V.str plW) ∧ ¬ (V.str X = V.str caW) ∧ ¬ (V.str X = V.str coW) ∧
        ((t = .empty ∧ ¬ (V.str X = V.str chW) ∧ ¬ (V.str X = V.str alW)) ∨ (∃ b vs l, t = .chain l ∧ X = chW ∧ rest = [.ref b] ∧ H b = some (.tup vs) ∧ TrOs H vs l) ∨ (∃ b vs l, t = .choice l ∧ X = alW ∧ rest = [.ref b] ∧ H b = some (.tup vs) ∧ TrOs H vs l)) := by
      cases ht with
      | place e => exact absurd ⟨_, rfl⟩ hp
      | capture e r => exact absurd ⟨_, _, rfl⟩ hp2
      | count e r => exact absurd ⟨_, _, _, rfl⟩ hp3
      | empty e => exact ⟨_, _, _, rfl, e, by decide +kernel, by decide +kernel, by decide +kernel, .inl ⟨rfl, by decide +kernel, by decide +kernel⟩⟩
      | chain e e2 r => exact ⟨_, _, _, rfl, e, by decide +kernel, by decide +kernel, by decide +kernel, .inr (.inl ⟨_, _, _, rfl, rfl, rfl, e2, r⟩)⟩
      | choice e e2 r => exact ⟨_, _, _, rfl, e, by decide +kernel, by decide +kernel, by decide +kernel, .inr (.inr ⟨_, _, _, rfl, rfl, rfl, e2, r⟩)⟩
    refine ⟨.ref a, rfl, a, _, 0, _, rfl, rfl, .inl (.inl e), atI_nat (j := 0) rfl, rfl, _, rfl, ?_⟩
    rw [decide_eq_false n1]
    refine iteF ⟨.ref a, rfl, a, _, 0, _, rfl, rfl, .inl (.inl e), atI_nat (j := 0) rfl, rfl, _, rfl, ?_⟩
    rw [decide_eq_false n2]
    refine iteF ⟨.ref a, rfl, a, _, 0, _, rfl, rfl, .inl (.inl e), atI_nat (j := 0) rfl, rfl, _, rfl, ?_⟩
    rw [decide_eq_false n3]
    refine iteF ⟨Nat.zero_le _, fun c hc => ⟨Nat.zero_le _, fun g hg => ⟨(show 3 ≤ sizeLine by decide), fun x hx => ?_⟩⟩⟩
    have s1 := smU (o := HO.lst []) hc
    have s2 := smU (o := HO.lst []) hg
    have s3 := smU (o := HO.tup [.bl true, .ref c, .ref g]) hx
    have sA := s1.trans (s2.trans s3)
    have x0 : PtO O (upd (upd (upd H c (.lst [])) g (.lst [])) x (.tup [.bl true, .ref c, .ref g])) (.ref x) e0 :=
      ⟨x, c, g, rfl, upd_same, s3 _ _ (s2 _ _ upd_same), s3 _ _ upd_same, ap.no ((s1.trans s2).free hx), ap.no hc, ap.no (s1.free hg)⟩
    generalize upd (upd (upd H c (.lst [])) g (.lst [])) x (.tup [.bl true, .ref c, .ref g]) = H1 at sA x0 ⊢
    have W1 := W.up sA
    have e1 := sA _ _ e
    have apM : ∀ {H2 : Hp} {as1 : List Addr} {w1 : Wp}, WrA C p dx la fa H2 w1 as1 → Ext H as as1 → KW p la fa as H H2 → Apt p la fa as1 H2 (fun b => O b ∨ b ∈ as1) := fun {H2 as1 w1} W2 x2 k2 => by
      refine ⟨fun b hb => ?_, fun b hb => ?_⟩
      · rcases hb with h | h | h | h
        · exact .inl (ap.sub _ (.inl h))
        · exact .inl (ap.sub _ (.inr (.inl h)))
        · exact .inl (ap.sub _ (.inr (.inr (.inl h))))
        · exact .inr h
      · by_cases ho : Own p la fa as1 b
        · obtain ⟨o, e, _⟩ := W2.own ho
          exact ⟨o, e⟩
        · rcases hb with h | h
          · obtain ⟨o, e⟩ := ap.all b h
            exact ⟨o, k2 b o (fun z => ho (x2.own2 z)) e⟩
          · exact absurd (.inr (.inr (.inr h))) ho
    refine ⟨fun σ H2 => ∃ y x5 as1 w1 pt, σ = [some (.ref p), some (.ref a), none, some y, x5, none, none, none] ∧ PtO (fun b => O b ∨ b ∈ as1) H2 y pt ∧ WrA C p dx la fa H2 w1 as1 ∧ Ext H as as1 ∧ KW p la fa as H H2 ∧
        ((X = chW ∧ pO t w = (pt, w1)) ∨ (X ≠ chW ∧ y = .ref x ∧ w1 = w ∧ as1 = as ∧ Same H1 H2 ∧ pt = e0)), ?_, fun σ H2 hM => ?_⟩
    · refine ⟨.ref a, rfl, a, _, 0, _, rfl, rfl, .inl (.inl e1), atI_nat (j := 0) rfl, rfl, _, rfl, ?_⟩
      have x0' : PtO (fun b => O b ∨ b ∈ as) H1 (.ref x) e0 := x0.sub fun b o h _ z => z.elim h fun z => h (ap.sub b (.inr (.inr (.inr z))))
      by_cases hch : X = chW
      · rw [decide_eq_true (by rw [hch])]
        rcases hX with ⟨_, h, _⟩ | ⟨b, vs, l, rfl, _, rfl, eb, os⟩ | ⟨b, vs, l, _, h, _⟩
        · exact absurd (by rw [hch]) h
        · have hd : depL l + 1 ≤ d := hd
          have hw : max l.length (widL l) ≤ 1000 := hw
          have f3 : M + S * (lksL l + l.length) ≤ 10000 := f3
          refine iteT ⟨.ref a, rfl, a, _, 1, _, rfl, rfl, .inl (.inl e1), atI_nat (j := 1) rfl, b, rfl, ⟨_, .inl (.inl (sA _ _ eb))⟩, for_tup (K := K) (a := b) (xs := vs) (fun i σ H2 => ∃ y x4 as1 w1 pt ni Mi, σ = [some (.ref p), some (.ref a), none, some y, x4, none, none, none] ∧ PtO (fun b => O b ∨ b ∈ as1) H2 y pt ∧ WrA C p dx la fa H2 w1 as1 ∧ Ext H as as1 ∧ KW p la fa as H H2 ∧
              pCh l e0 w = pCh (l.drop i) pt w1 ∧ WOk w1 ni Mi ∧ POk n ni pt ∧ n ≤ ni ∧ ni + szL (l.drop i) ≤ S ∧ Mi + S * (lksL (l.drop i) + (l.drop i).length) ≤ 10000)
            ⟨_, _, as, w, e0, n, M, rfl, x0', W1, .refl, KW.same sA, rfl, ft.ok, .e0, Nat.le_refl _, f1, f3⟩ (fun i σ H2 _ ⟨_, _, _, _, _, _, _, _, _, W2, _, k2, _⟩ => .inl (.inl (k2.kt W _ _ eb))) ?_ ?_⟩
          · rintro i xi σ H2 hi ⟨y, x4, as1, w1, pt, ni, Mi, rfl, py, W2, x2, k2, ec, o2, pk, l2, b1, b2⟩
            obtain ⟨ti, hti, oti⟩ := os.get hi
            obtain ⟨d1, d2⟩ := depL_get hti
            obtain ⟨hil, hie⟩ := List.getElem?_eq_some_iff.mp hti
            have edr : l.drop i = ti :: l.drop (i + 1) := by rw [List.drop_eq_getElem_cons hil, hie]
            rw [edr] at ec b1 b2
            have b1 : ni + (sz ti + szL (l.drop (i + 1))) ≤ S := b1
            have b2 : Mi + S * (lks ti + lksL (l.drop (i + 1)) + ((l.drop (i + 1)).length + 1)) ≤ 10000 := b2
            have b3 : S * (lks ti + lksL (l.drop (i + 1)) + ((l.drop (i + 1)).length + 1)) = S * lks ti + S + S * (lksL (l.drop (i + 1)) + (l.drop (i + 1)).length) := by
              rw [show lks ti + lksL (l.drop (i + 1)) + ((l.drop (i + 1)).length + 1) = lks ti + 1 + (lksL (l.drop (i + 1)) + (l.drop (i + 1)).length) by omega, Nat.mul_add, Nat.mul_add, Nat.mul_one]
            obtain ⟨g1, g2⟩ := pO_ok (S := S) ti w1 ni Mi o2 (by omega)
            have ap2 := apM W2 x2 k2
            refine ⟨.ref p, rfl, p, dx, _, rfl, W2.e, nJ, y, rfl, .ref p, rfl, p, dx, _, rfl, W2.e, nP, xi, rfl, ?_⟩
            refine hA (depL l) _ _ _ _ hd ⟨p, dx, la, fa, xi, ti, w1, as1, _, S, ni, Mi, rfl, d1, by omega, oti.mono (k2.kt W), W2, ap2, ⟨o2, by omega, f2, by omega⟩, fun y2 H3 as2 py2 W3 x3 k3 => ?_⟩
            have x23 := x2.trans k2 W2 x3
            have k23 := k2.trans x2 k3
            have py' : PtO (fun b => O b ∨ b ∈ as2) H3 y pt := (py.sub fun b o h e z => by
                obtain ⟨m, rfl, hm⟩ := x3
                rcases z with z | z
                · exact h (.inl z)
                · rcases List.mem_append.mp z with z | z
                  · exact h (.inr z)
                  · rw [hm b z] at e
                    cases e).mono fun b o h e => k3 b o (fun z => h (by
                rcases x3.own2 z with z | z | z | z
                · exact .inl (ap.sub _ (.inl z))
                · exact .inl (ap.sub _ (.inr (.inl z)))
                · exact .inl (ap.sub _ (.inr (.inr (.inl z))))
                · exact .inr z)) e
            have py2' : PtO (fun b => O b ∨ b ∈ as2) H3 y2 (pO ti w1).1 := py2.sub fun b o h _ z => h (z.elim (fun z => .inl (.inl z)) .inr)
            have ln1 := pk.f.len
            have ln2 := pk.l.len
            have ln3 := g2.f.len
            have ln4 := g2.l.len
            refine ⟨p, dx, la, fa, y, y2, (pO ti w1).2, as2, pt, (pO ti w1).1, _, rfl, W3, apM W3 x23 k23, py', py2', ⟨pk.l.nd, fun x hx => ?_, by omega, by omega, fun r hr => ?_⟩, by omega, by omega, fun z H4 pz W4 k4 => ?_⟩
            · rw [g1.fo]
              have := pk.l.lt x hx
              omega
            · have := (g1.bd r hr).1
              omega
            · have w2 := g1.lnk (S := S) pk.l.nd (fun x hx => (g2.f.lt x hx).2) (by omega)
              exact ⟨z, _, as2, _, joinP pt (pO ti w1).1, ni + sz ti, _, rfl, pz, W4, x23, k23.trans x23 k4, ec, w2, pk.join g2 l2 (by omega), by omega, by omega, by omega⟩
          · rintro σ H2 ⟨y, x4, as1, w1, pt, ni, Mi, rfl, py, W2, x2, k2, ec, _⟩
            rw [os.len, List.drop_length] at ec
            exact ⟨y, x4, as1, w1, pt, rfl, py, W2, x2, k2, .inl ⟨hch, ec⟩⟩
        · rw [hch] at h
          exact absurd h (by decide +kernel)
      · rw [decide_eq_false fun z => hch (V.str.inj z)]
        exact iteF ⟨_, _, as, w, e0, rfl, x0', W1, .refl, KW.same sA, .inr ⟨hch, rfl, rfl, rfl, Same.refl _, rfl⟩⟩
    obtain ⟨y, x5, as1, w1, pt, rfl, py, W2, x2, k2, hc⟩ := hM
    have e2 : H2 a = some (.tup (.str X :: rest)) := k2.kt W _ _ e
    refine ⟨fun σ H3 => ∃ z s2 s4 s5 s6 s7 as3, σ = [some (.ref p), some (.ref a), s2, some z, s4, s5, s6, s7] ∧ PtO (fun b => O b ∨ b ∈ as3) H3 z (pO t w).1 ∧ WrA C p dx la fa H3 (pO t w).2 as3 ∧ Ext H as as3 ∧ KW p la fa as H H3, ?_, fun σ H3 hM => ?_⟩
    · refine ⟨.ref a, rfl, a, _, 0, _, rfl, rfl, .inl (.inl e2), atI_nat (j := 0) rfl, rfl, _, rfl, ?_⟩
      rcases hc with ⟨rfl, ec⟩ | ⟨hch, rfl, rfl, rfl, s12, rfl⟩
      · rw [decide_eq_false (show ¬ (V.str chW = V.str alW) by decide +kernel)]
        refine iteF ⟨y, _, _, _, _, _, as1, rfl, ?_, ?_, x2, k2⟩
        · rw [ec]
          exact py
        · rw [ec]
          exact W2
      by_cases hal : X = alW
      · rw [decide_eq_true (by rw [hal])]
        rcases hX with ⟨_, _, h⟩ | ⟨b, vs, l, _, h, _⟩ | ⟨b, vs, l, rfl, _, rfl, eb, os⟩
        · exact absurd (by rw [hal]) h
        · exact absurd h hch
        have hd : depL l + 1 ≤ d := hd
        have hw : max l.length (widL l) ≤ 1000 := hw
        have f3 : M + S * lksL l ≤ 10000 := f3
        have f1 : n + szL l ≤ S := f1
        have hvl := os.len
        refine iteT ⟨.ref a, rfl, a, _, 1, _, rfl, rfl, .inl (.inl e2), atI_nat (j := 1) rfl, b, rfl, ⟨_, .inl (.inl (k2.kt W _ _ eb))⟩, fun D hD => ?_⟩
        have nDo : ¬ Own p la fa as1 D := W2.no hD
        refine lc_it (walk_tup (K := K) (a := b) (xs := vs)) (fun i H3 => ∃ acc ps wi asi ni Mi, H3 D = some (.lst acc) ∧ acc.length = i ∧ PtOs (fun c => (O c ∨ c ∈ asi) ∨ c = D) H3 acc ps ∧ WrA C p dx la fa H3 wi asi ∧ ¬ Own p la fa asi D ∧ Ext H as1 asi ∧ KW p la fa as1 H H3 ∧
            pL l w1 = (ps ++ (pL (l.drop i) wi).1, (pL (l.drop i) wi).2) ∧ WOk wi ni Mi ∧ n ≤ ni ∧ ni + szL (l.drop i) ≤ S ∧ Mi + S * lksL (l.drop i) ≤ 10000 ∧ (∀ c ∈ ps, c.2.1.length ≤ 1000 ∧ c.2.2.length ≤ 1000))
          ⟨[], [], w1, as1, n, M, upd_same, rfl, .nil, W2.wr nDo, nDo, .refl, KW.put k2 k2 hD, rfl, ft.ok, Nat.le_refl _, f1, f3, fun _ h => nomatch h⟩ (fun i H3 _ ⟨_, _, _, _, _, _, _, _, _, _, _, _, k3, _⟩ => .inl (.inl (k3.kt W _ _ eb))) (fun i xi H3 H3' hi hP hy => ?_) (fun H3 hP => ?_)
        · obtain ⟨acc, ps, wi, asi, ni, Mi, eD, hai, pps, W3, nDi, x3, k3, ec, o2, l2, b1, b2, bp⟩ := hP
          obtain ⟨rfl, hxi⟩ := hy
          obtain ⟨ti, hti, oti⟩ := os.get hxi
          obtain ⟨d1, d2⟩ := depL_get hti
          obtain ⟨hil, hie⟩ := List.getElem?_eq_some_iff.mp hti
          have edr : l.drop i = ti :: l.drop (i + 1) := by rw [List.drop_eq_getElem_cons hil, hie]
          rw [edr] at ec b1 b2
          have b1 : ni + (sz ti + szL (l.drop (i + 1))) ≤ S := b1
          have b2 : Mi + S * (lks ti + lksL (l.drop (i + 1))) ≤ 10000 := b2
          rw [Nat.mul_add] at b2
          obtain ⟨g1, g2⟩ := pO_ok (S := S) ti wi ni Mi o2 (by omega)
          have ap3 := apM W3 x3 k3
          have ap4 : Apt p la fa asi H3' (fun c => (O c ∨ c ∈ asi) ∨ c = D) := ⟨fun c h => .inl (ap3.sub c h), fun c h => h.elim (ap3.all c) fun h => ⟨_, h ▸ eD⟩⟩
          refine ⟨rfl, .ref p, rfl, p, dx, _, rfl, W3.e, nP, xi, rfl, ?_⟩
          refine hA (depL l) _ _ _ _ hd ⟨p, dx, la, fa, xi, ti, wi, asi, _, S, ni, Mi, rfl, d1, by omega, oti.mono (k3.kt W), W3, ap4, ⟨o2, by omega, f2, by omega⟩, fun y2 H4 as2 py2 W4 x4 k4 => ?_⟩
          have nD2 : ¬ Own p la fa as2 D := x4.own eD nDi
          have eD4 := k4 D _ nDi eD
          have up : ∀ c o, ¬ ((O c ∨ c ∈ asi) ∨ c = D) → H3' c = some o → ¬ ((O c ∨ c ∈ as2) ∨ c = D) := fun c o h e z => by
            obtain ⟨m, rfl, hm⟩ := x4
            rcases z with (z | z) | z
            · exact h (.inl (.inl z))
            · rcases List.mem_append.mp z with z | z
              · exact h (.inl (.inr z))
              · rw [hm c z] at e
                cases e
            · exact h (.inr z)
          have st : ∀ c o, ¬ ((O c ∨ c ∈ as2) ∨ c = D) → H3' c = some o → upd H4 D (.lst (acc ++ [y2])) c = some o := fun c o h e => by
            rw [upd_ne fun z => h (.inr z)]
            exact k4 c o (fun z => h (.inl (by
              rcases x4.own2 z with z | z | z | z
              · exact .inl (ap.sub _ (.inl z))
              · exact .inl (ap.sub _ (.inr (.inl z)))
              · exact .inl (ap.sub _ (.inr (.inr (.inl z))))
              · exact .inr z))) e
          have py3 : PtO (fun c => (O c ∨ c ∈ as2) ∨ c = D) (upd H4 D (.lst (acc ++ [y2]))) y2 (pO ti wi).1 := (py2.sub (O' := fun c => (O c ∨ c ∈ as2) ∨ c = D) fun c o h _ z => h (by
              rcases z with (z | z) | z
              · exact .inl (.inl (.inl z))
              · exact .inr z
              · exact .inl (.inr z))).mono fun c o h e => by
                rw [upd_ne fun z => h (.inr z)]
                exact e
          have ln3 := g2.f.len
          have ln4 := g2.l.len
          refine ⟨acc, eD4, Nat.lt_of_le_of_lt (show acc.length ≤ 1000 by omega) (by decide), acc ++ [y2], ps ++ [(pO ti wi).1], (pO ti wi).2, as2, ni + sz ti, Mi + S * lks ti, upd_same, by rw [List.length_append, hai] <;> rfl, ((pps.sub up).mono st).snoc py3, W4.wr nD2, nD2, x3.trans k3 W3 x4, KW.put (k3.trans x3 k4) k2 hD, ?_, g1, by omega, by omega, by omega, fun c hc => ?_⟩
          · rw [ec]
            show (ps ++ ((pO ti wi).1 :: _), _) = ((ps ++ [(pO ti wi).1]) ++ _, _)
            rw [List.append_assoc] <;> rfl
          · rcases List.mem_append.mp hc with h | h
            · exact bp c h
            · obtain rfl := List.mem_singleton.mp h
              omega
        obtain ⟨acc, ps, wi, asi, ni, Mi, eD, hai, pps, W3, nDi, x3, k3, ec, _, _, _, _, bp⟩ := hP
        rw [hvl, List.drop_length] at ec
        have ec : pL l w1 = (ps ++ [], wi) := ec
        rw [List.append_nil] at ec
        have hlp := pps.len
        have pps2 : PtOs (fun c => O c ∨ c ∈ asi) H3 acc ps := pps.sub fun c o h _ z => h (.inl z)
        have ap3 := apM W3 x3 k3
        -- the rows of first and last places
        refine ⟨Nat.zero_le _, fun f6 hf6 => ⟨Nat.zero_le _, fun g6 hg6 => ⟨_, _, rfl, ?_⟩⟩⟩
        have s1 := smU (o := HO.lst []) hf6
        have s2 := smU (o := HO.lst []) hg6
        have s12' := s1.trans s2
        refine ⟨.ref D, rfl, D, rfl, ⟨_, .inl (.inl (s12' _ _ eD))⟩, for_list (K := K) (a := D) (xs := acc) (fun i σ H4 => ∃ s4 f7 g7, σ = [some (.ref p), some (.ref a), none, some (.ref x), s4, some (.ref D), some (.ref f7), some (.ref g7)] ∧ Same H3 H4 ∧ H4 f7 = some (.lst (nIs ((ps.take i).flatMap (·.2.1)))) ∧ H4 g7 = some (.lst (nIs ((ps.take i).flatMap (·.2.2)))) ∧ ¬ (O f7 ∨ f7 ∈ asi) ∧ ¬ (O g7 ∨ g7 ∈ asi) ∧
            ((ps.take i).flatMap (·.2.1)).length ≤ 1000 * i ∧ ((ps.take i).flatMap (·.2.2)).length ≤ 1000 * i)
          ⟨_, f6, g6, rfl, s12', s2 _ _ upd_same, upd_same, ap3.no hf6, ap3.no (s1.free hg6), Nat.zero_le _, Nat.zero_le _⟩ (fun i σ H4 _ ⟨_, _, _, _, s, _⟩ => .inl (.inl (s _ _ eD))) ?_ ?_⟩
        · rintro i yi σ H4 hi ⟨s4, f7, g7, rfl, s34, ef, eg, nf, ng, bf, bg⟩
          obtain ⟨c, hci, pc⟩ := pps2.get hi
          obtain ⟨hil, hie⟩ := List.getElem?_eq_some_iff.mp hci
          obtain ⟨ya, fy, gy, rfl, pb⟩ := pc.same s34
          obtain ⟨c1, c2⟩ := bp c (List.mem_of_getElem? hci)
          have ht : ps.take (i + 1) = ps.take i ++ [c] := by rw [List.take_succ_eq_append_getElem hil, hie]
          have hi2 : i < 1000 := by omega
          have m1 : ((ps.take i).flatMap (·.2.1) ++ c.2.1) = (ps.take (i + 1)).flatMap (·.2.1) := by
            rw [ht, List.flatMap_append, List.flatMap_cons, List.flatMap_nil, List.append_nil]
          have m2 : ((ps.take i).flatMap (·.2.2) ++ c.2.2) = (ps.take (i + 1)).flatMap (·.2.2) := by
            rw [ht, List.flatMap_append, List.flatMap_cons, List.flatMap_nil, List.append_nil]
          have q1 := congrArg List.length m1
          have q2 := congrArg List.length m2
          rw [List.length_append] at q1 q2
          refine ⟨.ref f7, rfl, .ref ya, rfl, ya, _, 1, _, rfl, rfl, .inl (.inl pb.t), atI_nat (j := 1) rfl, f7, fy, _, _, rfl, rfl, ef, pb.f, ?_, fun f8 hf8 => ?_⟩
          · rw [nIs_len, nIs_len]
            exact Nat.le_trans (show _ ≤ 1002000 by omega) (by decide)
          have s8 := smU (o := HO.lst (nIs ((ps.take i).flatMap (·.2.1)) ++ nIs c.2.1)) hf8
          refine ⟨.ref g7, rfl, .ref ya, rfl, ya, _, 2, _, rfl, rfl, .inl (.inl (s8 _ _ pb.t)), atI_nat (j := 2) rfl, g7, gy, _, _, rfl, rfl, s8 _ _ eg, s8 _ _ pb.g, ?_, fun g8 hg8 => ⟨_, _, rfl, ?_⟩⟩
          · rw [nIs_len, nIs_len]
            exact Nat.le_trans (show _ ≤ 1002000 by omega) (by decide)
          have s9 := smU (o := HO.lst (nIs ((ps.take i).flatMap (·.2.2)) ++ nIs c.2.2)) hg8
          refine ⟨_, f8, g8, rfl, s34.trans (s8.trans s9), ?_, ?_, ap3.no (s34.free hf8), ap3.no ((s34.trans s8).free hg8), by omega, by omega⟩
          · rw [s9 _ _ upd_same, nIs_app, m1]
          · rw [upd_same, nIs_app, m2]
        · rintro σ H4 ⟨s4, f7, g7, rfl, s34, ef, eg, nf, ng, bf, bg⟩
          rw [hlp, List.take_of_length_le (Nat.le_refl _)] at ef eg
          refine ⟨.ref D, rfl, D, rfl, ⟨_, .inl (.inl (s34 _ _ eD))⟩, fun E5 hE => ?_⟩
          refine lc_it (walk_list (K := K) (a := D) (xs := acc)) (fun i H5 => H5 E5 = some (.lst ((ps.take i).map fun c => V.bl c.1)) ∧ Same H4 H5)
            ⟨upd_same, smU hE⟩ (fun i H5 _ hP => .inl (.inl (hP.2 _ _ (s34 _ _ eD)))) (fun i yi H5 H5' hi hP hy => ?_) (fun H5 hP => ?_)
          · obtain ⟨e5, s5⟩ := hP
            obtain ⟨rfl, hyi⟩ := hy
            obtain ⟨c, hci, pc⟩ := pps2.get hyi
            obtain ⟨hil, hie⟩ := List.getElem?_eq_some_iff.mp hci
            obtain ⟨ya, fy, gy, rfl, pb⟩ := pc.same (s34.trans s5)
            have ht : ps.take (i + 1) = ps.take i ++ [c] := by rw [List.take_succ_eq_append_getElem hil, hie]
            refine ⟨rfl, .ref ya, rfl, ya, _, 0, _, rfl, rfl, .inl (.inl pb.t), atI_nat (j := 0) rfl, _, e5, ?_, ?_, fun c2 o2 h2 => ?_⟩
            · rw [List.length_map, List.length_take]
              exact Nat.lt_of_le_of_lt (show min i ps.length ≤ 1000 by omega) (by decide)
            · rw [upd_same, ht, List.map_append] <;> rfl
            · rw [upd_ne (ne_of_none h2 hE)]
              exact s5 _ _ h2
          · obtain ⟨e5, s5⟩ := hP
            rw [hlp, List.take_of_length_le (Nat.le_refl _), show (ps.map fun c => V.bl c.1) = (ps.map (·.1)).map V.bl by rw [List.map_map] <;> rfl] at e5
            refine ⟨E5, _, rfl, .inl (.inl e5), .ref f7, rfl, .ref g7, rfl, (show 3 ≤ sizeLine by decide), fun z hz => ?_⟩
            have s6 := smU (o := HO.tup [.bl ((ps.map (·.1)).any id), .ref f7, .ref g7]) hz
            have sF := s34.trans (s5.trans s6)
            have eP : pO (.choice l) w1 = ((ps.any (·.1), ps.flatMap (·.2.1), ps.flatMap (·.2.2)), wi) := by
              show (((pL l w1).1.any (·.1), (pL l w1).1.flatMap (·.2.1), (pL l w1).1.flatMap (·.2.2)), (pL l w1).2) = _
              rw [ec]
            have ea : (ps.map (·.1)).any id = ps.any (·.1) := by rw [List.any_map] <;> rfl
            refine ⟨.ref z, _, _, _, _, _, asi, rfl, ?_, ?_, x3, k3.trans x3 (KW.same sF)⟩
            · rw [eP]
              refine ⟨z, f7, g7, rfl, ?_, (s5.trans s6) _ _ ef, (s5.trans s6) _ _ eg, ap3.no ((s34.trans s5).free hz), nf, ng⟩
              rw [upd_same, ea]
            · rw [eP]
              exact W3.up sF
      · rw [decide_eq_false fun z => hal (V.str.inj z)]
        rcases hX with ⟨rfl, _, _⟩ | ⟨b, vs, l, _, h, _⟩ | ⟨b, vs, l, _, h, _⟩
        · exact iteF ⟨.ref x, _, _, _, _, _, as1, rfl, py, W2, x2, k2⟩
        · exact absurd h hch
        · exact absurd h hal
    obtain ⟨z, s2', s4', s5', s6', s7', as3, rfl, pz, W3, x3, k3⟩ := hM
    exact ⟨z, rfl, q z H3 as3 pz W3 x3 k3⟩
end
end Sf4
namespace Sf4
open PySem PySem.Spec PyProof.Rows L2 Sf
def iD (l : List Nat) : List PyData := l.map fun (i : Nat) => PyData.int (i : Int)
def ptD (c : Pt) : PyData := .tuple [.bool c.1, .list (iD c.2.1), .list (iD c.2.2)]
theorem iD_ok : ∀ l : List Nat, PyData.canLayAll0 (iD l) = true ∧ PyData.depthAll (iD l) = 0
  | [] => ⟨rfl, rfl⟩
  | i :: l => by
    obtain ⟨a, b⟩ := iD_ok l
    have e : iD (i :: l) = .int (i : Int) :: iD l := rfl
    rw [e]
    refine ⟨?_, ?_⟩
    · show (PyData.canLay0 (.int (i : Int)) && PyData.canLayAll0 (iD l)) = true
      rw [a] <;> rfl
    · show max (PyData.depth (.int (i : Int))) (PyData.depthAll (iD l)) = 0
      rw [b] <;> rfl
theorem ptD_ok (c : Pt) : PyData.canLay0 (ptD c) = true ∧ PyData.depth (ptD c) ≤ 2 := by
  obtain ⟨a1, b1⟩ := iD_ok c.2.1
  obtain ⟨a2, b2⟩ := iD_ok c.2.2
  refine ⟨?_, ?_⟩
  · simp only [ptD, PyData.canLay0, PyData.canLayAll0, a1, a2, Bool.and_true]
  · simp only [ptD, PyData.depth, PyData.depthAll, b1, b2]
    omega
theorem ptsD_ok : ∀ cs : List Pt, PyData.canLayAll0 (cs.map ptD) = true ∧ PyData.depthAll (cs.map ptD) ≤ 2
  | [] => ⟨rfl, Nat.zero_le _⟩
  | c :: cs => by
    obtain ⟨a, b⟩ := ptsD_ok cs
    obtain ⟨a2, b2⟩ := ptD_ok c
    refine ⟨?_, ?_⟩
    · show (PyData.canLay0 (ptD c) && PyData.canLayAll0 (cs.map ptD)) = true
      rw [a, a2] <;> rfl
    · show max (PyData.depth (ptD c)) (PyData.depthAll (cs.map ptD)) ≤ 2
      omega
theorem cpsD_shaped (cs : List Pt) : SeqAt.shaped (.list (cs.map ptD)) = true := by
  obtain ⟨a, b⟩ := ptsD_ok cs
  have h1 : PyData.canLay0 (.list (cs.map ptD)) = true := by simpa only [PyData.canLay0] using a
  have h2 : PyData.depth (.list (cs.map ptD)) ≤ 64 := by
    simp only [PyData.depth]
    omega
  unfold SeqAt.shaped
  rw [h1, decide_eq_true h2] <;> rfl
theorem ints_dp {K : PySem.W.Frag} {H : Hp} : ∀ l : List Nat, DpAll K H (nIs l) (iD l)
  | [] => .nil
  | i :: l => .cons (.int _) (ints_dp l)
theorem PtO.dp {K : PySem.W.Frag} {O : Addr → Prop} {H : Hp} {x : V} {c : Pt} (h : PtO O H x c) : Dp K H x (ptD c) := by
  obtain ⟨a, f, g, rfl, b⟩ := h
  exact .tup (.inl (.inl b.t)) (.cons (.bl _) (.cons (.lst (.inl (.inl b.f)) (ints_dp _)) (.cons (.lst (.inl (.inl b.g)) (ints_dp _)) .nil)))
theorem PtOs.dp {K : PySem.W.Frag} {O : Addr → Prop} {H : Hp} : ∀ {cs : List Pt} {vs : List V}, PtOs O H vs cs → DpAll K H vs (cs.map ptD)
  | [], _, h => by
    cases h
    exact .nil
  | c :: cs, _, h => by
    cases h with
    | cons a r => exact .cons a.dp r.dp
theorem cps_eqv (cs : List Pt) : PyData.eqv (.list (cs.map ptD)) (.list []) = cs.isEmpty := by
  cases cs <;> rfl
theorem PtOs.last {O : Addr → Prop} {H : Hp} : ∀ {cs : List Pt} {vs : List V} {c : Pt}, PtOs O H vs (cs ++ [c]) → ∃ us v, vs = us ++ [v] ∧ PtOs O H us cs ∧ PtO O H v c
  | [], _, _, h => by
    cases h with
    | cons a r =>
      cases r
      exact ⟨[], _, rfl, .nil, a⟩
  | d :: cs, _, _, h => by
    cases h with
    | cons a r =>
      obtain ⟨us, v, rfl, r1, r2⟩ := PtOs.last r
      exact ⟨_ :: us, v, rfl, .cons a r1, r2⟩
theorem atI_last {α : Type} (l : List α) (v : α) : atI (l ++ [v]) (-1) = some v := by
  unfold atI ixN
  have h1 : ¬ ((0 : Int) ≤ -1) := by decide
  rw [if_neg h1]
  have h2 : -((l ++ [v]).length : Int) ≤ -1 := by rw [List.length_append, List.length_singleton]; omega
  rw [if_pos h2]
  have h3 : (-1 + ((l ++ [v]).length : Int)).toNat = l.length := by rw [List.length_append, List.length_singleton]; omega
  show (some (-1 + ((l ++ [v]).length : Int)).toNat).bind (fun j => (l ++ [v])[j]?) = _
  rw [h3]
  show (l ++ [v])[l.length]? = some v
  rw [List.getElem?_append_right (Nat.le_refl _), Nat.sub_self] <;> rfl
/-- how far the copies are joined -/
structure Fs (n s e N S M : Nat) (cs : List Pt) (tl : Pt) (w : Wp) : Prop where
  rc : RCps n s cs.reverse
  tl : POk (n + cs.length * s) e tl
  le : n + cs.length * s ≤ e
  eN : e ≤ N
  ok : WOk w N M
  NS : N ≤ S
  top : S ≤ 1000
  bd : M + S * cs.length ≤ 10000
theorem Fs.step {n s e N S M : Nat} {cs : List Pt} {c tl : Pt} {w : Wp} (h : Fs n s e N S M (cs ++ [c]) tl w) (b : Bool) :
    Bn w c.2.2 tl.2.1 ∧ c.2.1.length ≤ 1000 ∧ tl.2.2.length ≤ 1000 ∧ Fs n s e N S (M + S) cs (if b = true then (true, (joinP c tl).2) else joinP c tl) ⟨w.le, lnk w.fo c.2.2 tl.2.1⟩ := by
  obtain ⟨rc, ht, le, eN, ok, NS, top, bd⟩ := h
  rw [List.reverse_append, List.reverse_singleton] at rc
  obtain ⟨hc, hr⟩ := (show POk (n + cs.reverse.length * s) (n + (cs.reverse.length + 1) * s) c ∧ RCps n s cs.reverse from rc)
  rw [List.length_reverse] at hc
  rw [List.length_append, List.length_singleton] at ht le bd
  have e1 : (cs.length + 1) * s = cs.length * s + s := Nat.succ_mul _ _
  have e2 : S * (cs.length + 1) = S * cs.length + S := Nat.mul_succ _ _
  have l1 := hc.f.len
  have l2 := hc.l.len
  have l3 := ht.f.len
  have l4 := ht.l.len
  refine ⟨⟨hc.l.nd, fun x hx => ?_, by omega, by omega, fun r hr => ?_⟩, by omega, by omega, hr, ?_, by omega, eN, ok.lnk hc.l.nd (fun x hx => by have := ht.f.lt x hx; omega) (by omega), NS, top, by omega⟩
  · rw [ok.fo]
    have := hc.l.lt x hx
    omega
  · have := (ok.bd r hr).1
    omega
  · have j := hc.join ht (by omega) le
    split
    · exact j.opt true
    · exact j
def NCnt : List Str := ["self", "least", "most", "tree", "many", "copies", "tail", "turn"]
theorem scCounted : FnScope NCnt ["self", "least", "most", "tree"] (defScope sCounted) := ⟨rfl, rfl, rfl, by decide +kernel, rfl, by decide +kernel, by decide +kernel⟩
theorem fin_step (least : Nat) (cs : List Pt) (c tl : Pt) (fo : List (List Nat)) : fin least (cs ++ [c]).reverse tl fo = fin least cs.reverse (if cs.length + 1 > least then (true, (joinP c tl).2) else joinP c tl) (lnk fo c.2.2 tl.2.1) := by
  rw [List.reverse_append, List.reverse_singleton]
  show fin least cs.reverse (if cs.reverse.length + 1 > least then (true, (joinP c tl).2) else joinP c tl) (lnk fo c.2.2 tl.2.1) = _
  rw [List.length_reverse]
theorem cntd_none (a : Nat) (cs : List Pt) (c : Pt) (w : Wp) : cntd a none (cs ++ [c], w) = ((fin cs.length cs.reverse (if a > 0 then c else (true, c.2)) (lnk w.fo c.2.2 c.2.1)).1, ⟨w.le, (fin cs.length cs.reverse (if a > 0 then c else (true, c.2)) (lnk w.fo c.2.2 c.2.1)).2⟩) := by
  show (match (cs ++ [c]).reverse with | [] => (e0, w) | c :: r => ((fin r.length r (if a > 0 then c else (true, c.2)) (lnk w.fo c.2.2 c.2.1)).1, ⟨w.le, (fin r.length r (if a > 0 then c else (true, c.2)) (lnk w.fo c.2.2 c.2.1)).2⟩) : Pt × Wp) = _
  have e : (cs ++ [c]).reverse = c :: cs.reverse := by rw [List.reverse_append, List.reverse_singleton] <;> rfl
  rw [e]
  dsimp only
  rw [List.length_reverse]
/-- the state of the loops that join the copies -/
def CSt (C p dx la fa D : Addr) (as asi : List Addr) (O1 : Addr → Prop) (H : Hp) (n s N S least : Nat) (R : Pt × Wp) (H5 : Hp) (cs : List Pt) (y : V) : Prop :=
  ∃ acc tl w' M', H5 D = some (.lst acc) ∧ PtOs O1 H5 acc cs ∧ PtO O1 H5 y tl ∧ WrA C p dx la fa H5 w' asi ∧ KW p la fa as H H5 ∧ Apt p la fa asi H5 O1 ∧ Fs n s N N S M' cs tl w' ∧ R = ((fin least cs.reverse tl w'.fo).1, ⟨w'.le, (fin least cs.reverse tl w'.fo).2⟩)
theorem CSt.pop {C p dx la fa D : Addr} {as asi : List Addr} {O1 : Addr → Prop} {H : Hp} {n s N S least : Nat} {R : Pt × Wp} {H5 : Hp} {cs : List Pt} {c : Pt} {y : V} (h : CSt C p dx la fa D as asi O1 H n s N S least R H5 (cs ++ [c]) y) (nD : ¬ Own p la fa asi D) (oD : O1 D) (hD : H D = none) (x : Ext H as asi) :
    ∃ us v tl w', H5 D = some (.lst (us ++ [v])) ∧ WrA C p dx la fa (upd H5 D (.lst us)) w' asi ∧ Apt p la fa asi (upd H5 D (.lst us)) O1 ∧ PtO O1 (upd H5 D (.lst us)) v c ∧ PtO O1 (upd H5 D (.lst us)) y tl ∧ Bn w' c.2.2 tl.2.1 ∧ c.2.1.length ≤ 1000 ∧ tl.2.2.length ≤ 1000 ∧
      ∀ z H7, WrA C p dx la fa H7 ⟨w'.le, lnk w'.fo c.2.2 tl.2.1⟩ asi → KW p la fa asi (upd H5 D (.lst us)) H7 → PtO O1 H7 z (joinP c tl) → (∀ z2 H8, Same H7 H8 → PtO O1 H8 z2 (if cs.length + 1 > least then (true, (joinP c tl).2) else joinP c tl) → CSt C p dx la fa D as asi O1 H n s N S least R H8 cs z2) := by
  obtain ⟨acc, tl, w', M', eD, pps, py, W, k, ap, fs, er⟩ := h
  obtain ⟨us, v, rfl, p1, p2⟩ := pps.last
  have st : ∀ b o, ¬ O1 b → H5 b = some o → upd H5 D (.lst us) b = some o := fun b o h e => by
    rw [upd_ne fun z => h (by rw [z]; exact oD)]
    exact e
  have ap6 : Apt p la fa asi (upd H5 D (.lst us)) O1 := ⟨ap.sub, fun b hb => by
    by_cases z : b = D
    · exact ⟨_, by rw [z]; exact upd_same⟩
    · rw [upd_ne z]
      exact ap.all b hb⟩
  obtain ⟨b1, b2, b3, b4⟩ := fs.step (decide (cs.length + 1 > least))
  refine ⟨us, v, tl, w', eD, W.wr nD, ap6, p2.mono st, py.mono st, b1, b2, b3, fun z H7 W7 k7 _ z2 H8 s8 pz => ?_⟩
  have un : ∀ {b : Addr}, ¬ O1 b → ¬ Own p la fa asi b := fun h z => h (ap.sub _ z)
  have fr : ∀ b o, ¬ O1 b → H5 b = some o → H8 b = some o := fun b o h e => s8 _ _ (k7 b o (un h) (st b o h e))
  have kk : KW p la fa as H H8 := ((KW.put k .refl hD).trans x k7).trans x (KW.same s8)
  refine ⟨us, _, ⟨w'.le, lnk w'.fo c.2.2 tl.2.1⟩, M' + S, s8 _ _ (k7 D _ nD upd_same), p1.mono fr, pz, W7.up s8, kk, ⟨ap.sub, fun b hb => ?_⟩, ?_, ?_⟩
  · by_cases ho : Own p la fa asi b
    · obtain ⟨o, e, _⟩ := W7.own ho
      exact ⟨o, s8 _ _ e⟩
    · obtain ⟨o, e⟩ := ap6.all b hb
      exact ⟨o, s8 _ _ (k7 b o ho e)⟩
  · by_cases hc : cs.length + 1 > least
    · rw [if_pos hc]
      rw [if_pos (decide_eq_true hc)] at b4
      exact b4
    · rw [if_neg hc]
      rw [if_neg (by rw [decide_eq_false hc]; decide)] at b4
      exact b4
  · rw [er, fin_step]
section
variable {P : Program} {w : World} {K : PySem.W.Frag} {mg : Str → Option Value} {base : Heap} {C : Addr} {f : Nat → Addr} {fd : Nat → FuncData} {tk : Nat → Tok}
theorem ok_counted (T : WT K mg C f fd tk) {k d : Nat} (hk : 2 ≤ k) (GA : FnOk P w K mg base CX0 k (f 3) (fd 3) ["self", "tree"] (spPO C d)) : FnOk P w K mg base CX0 (k + 1) (f 4) (fd 4) ["self", "least", "most", "tree"] (spCnt C d) := by
  refine T.mCount.F.ok scCounted (fun vs H Q E h => ?_) (fun cdv A outer s H vs Q E hr h => ?_)
  · obtain ⟨p, dx, la, fa, a, b, v, t, w, as, O, S, n, M, rfl, _⟩ := h
    rfl
  · obtain ⟨p, dx, la, fa, a, b, v, t, w, as, O, S, n, M, rfl, hd, hw, hm, ht, W, ap, ft, q⟩ := h
    have GJ := ok_joined (P := P) (base := base) (w := ‹World›) T
    have GL := ok_link (P := P) (base := base) (w := ‹World›) T
    have hu64 := hr.units
    refine ⟨_, Evl.pss_cut (ps_set (i := 4) scCounted.nd rfl (.inl rfl) (pe_ifExp (pt_cmpR op_isN (pv 2) pe_non (nomark _)) (pe_callB (call_max2 rfl) (by rfl) T.zmax (by decide +kernel) (pa_cons (pv 1) (pa_cons pe_int pa_nil))) (pv 2)))
      (pss_cons (ps_par (i := 5) (j := 6) rfl scCounted.nd rfl rfl (by decide) rfl rfl (pa_cons (pe_lc (own := [("turn", 7)]) (g := gName 7) (tt := tYes) (te := tMeth C "part_of" (spPO C d) [] E0 (tVar 0) (tCons (tVar 3) tNil)) rfl scCounted.nd (pi_range1 rfl T.zrange (pa_cons (pv 4) pa_nil)) (blkOk_by (N := NCnt) (sc := defScope sCounted) (by decide +kernel))
            (fun _ _ _ _ _ => pg_name (i := 7) scCounted.nd rfl (Or.inl rfl)) (fun _ _ _ _ _ => pts_nil) (fun _ _ _ _ _ => pe_meth (pv 0) T.cl T.mPart.m GA hr T.mPart.b .nil pass0 (pa_cons (pv 3) pa_nil)))
          (pa_cons (pe_tup (pa_cons pe_bl (pa_cons (pe_lst pa_nil) (pa_cons (pe_lst pa_nil) pa_nil)))) pa_nil)) (by rfl))
      (Evl.pss_cut (ps_if (pt_cmpR op_isN (pv 2) pe_non (nomark _))
          (pss_cons (ps_expr (pe_meth (pv 0) T.cl T.mLink.m GL (hr.mono (Nat.le_trans (by decide) hk)) T.mLink.b .nil pass0 (pa_cons (pe_ix ix_tup (pe_ix ix_list (pv 5) (pe_un un_neg pe_int) (fun _ _ => rfl)) pe_int (fun _ _ => rfl)) (pa_cons (pe_ix ix_tup (pe_ix ix_list (pv 5) (pe_un un_neg pe_int) (fun _ _ => rfl)) pe_int (fun _ _ => rfl)) pa_nil))))
          (pss_cons (ps_set (i := 6) scCounted.nd rfl (.inl rfl) (pe_ifExp (pt_cmpR op_gt (pv 1) pe_int (nomark _)) (pe_bm0 PySem.F.plainAttrs_list PySem.F.slot_list_pop PySem.F.type_list_pop mt_pop (pv 5))
              (pe_tup (pa_cons pe_bl (StX.pa_star (pe_slice sl_tup (pe_bm0 PySem.F.plainAttrs_list PySem.F.slot_list_pop PySem.F.type_list_pop mt_pop (pv 5)) (po_some pe_int) po_none) pa_nil)))))
          (pss_one (ps_set (i := 1) scCounted.nd rfl (.inl rfl) (pe_callB call_len_seq (by rfl) T.zlen PySem.boot_len (pa_cons (pv 5) pa_nil)))))) pss_nil)
      (Evl.pss_cut (ps_while PassesOwn.never (pt_cmpR op_gt (pe_callB call_len_seq (by rfl) T.zlen PySem.boot_len (pa_cons (pv 5) pa_nil)) (pv 1) (nomark _))
          (pss_cons (ps_set (i := 6) scCounted.nd rfl (.inl rfl) (pe_meth (pv 0) T.cl T.mJoin.m GJ (hr.mono hk) T.mJoin.b .nil pass0 (pa_cons (pe_bm0 PySem.F.plainAttrs_list PySem.F.slot_list_pop PySem.F.type_list_pop mt_pop (pv 5)) (pa_cons (pv 6) pa_nil))))
          (pss_one (ps_set (i := 6) scCounted.nd rfl (.inl rfl) (pe_tup (pa_cons pe_bl (pa_cons (pe_ix ix_tup (pv 6) pe_int (fun _ _ => rfl)) (pa_cons (pe_ix ix_tup (pv 6) pe_int (fun _ _ => rfl)) pa_nil))))))))
      (Evl.pss_cut (ps_while PassesOwn.never (pt_cmpR (op_neD hu64) (pv 5) (pe_lst pa_nil) (nomark _))
          (pss_one (ps_set (i := 6) scCounted.nd rfl (.inl rfl) (pe_meth (pv 0) T.cl T.mJoin.m GJ (hr.mono hk) T.mJoin.b .nil pass0 (pa_cons (pe_bm0 PySem.F.plainAttrs_list PySem.F.slot_list_pop PySem.F.type_list_pop mt_pop (pv 5)) (pa_cons (pv 6) pa_nil))))))
      (pss_one (ps_ret (pv 6))))))), ?_⟩
    have nP : (wf_ la fa).lookup ("part_of" : Str) = none := wf_no (by decide +kernel) (by decide +kernel)
    have nL : (wf_ la fa).lookup ("link" : Str) = none := wf_no (by decide +kernel) (by decide +kernel)
    have nJ : (wf_ la fa).lookup ("joined" : Str) = none := wf_no (by decide +kernel) (by decide +kernel)
    have f1 := ft.le
    have f2 := ft.top
    have f3 := ft.bd
    have f4 : S * (many a b * (lks t + 1) + 1) = S * (many a b * lks t) + S * many a b + S := by rw [Nat.mul_succ (many a b) (lks t), Nat.mul_add, Nat.mul_add, Nat.mul_one]
    refine ⟨fun σ H1 => σ = [some (.ref p), some (.int a), some (mst b), some v, some (.int (many a b : Nat)), none, none, none] ∧ H1 = H, ?_, fun σ H1 hM => ?_⟩
    · refine ⟨mst b, rfl, rfl, _, rfl, ?_⟩
      cases b with
      | none =>
        refine iteT ⟨_, rfl, (a : Int), 1, rfl, ?_, rfl⟩
        have e : (if (1 : Int) > (a : Int) then (1 : Int) else (a : Int)) = ((many a none : Nat) : Int) := by
          show _ = ((max a 1 : Nat) : Int)
          split <;> omega
        show [some (V.ref p), some (V.int a), some (mst none), some v, some (V.int (if (1 : Int) > (a : Int) then (1 : Int) else (a : Int))), none, none, none] = _
        rw [e]
      | some m => exact iteF ⟨_, rfl, rfl, rfl⟩
    obtain ⟨rfl, rfl⟩ := hM
    refine ⟨_, rfl, ((many a b : Nat) : Int), rfl, by omega, by omega, fun D hD => ?_⟩
    rw [Int.toNat_natCast]
    have nDo : ¬ Own p la fa as D := W.no hD
    refine lc_it (walk_range (lo := 0) (n := many a b)) (fun i H3 => ∃ acc ps wi asi ni Mi, H3 D = some (.lst acc) ∧ acc.length = i ∧ PtOs (fun c => (O c ∨ c ∈ asi) ∨ c = D) H3 acc ps ∧ WrA C p dx la fa H3 wi asi ∧ ¬ Own p la fa asi D ∧ Ext H1 as asi ∧ KW p la fa as H1 H3 ∧
        rep (pO t) (many a b) w = (ps ++ (rep (pO t) (many a b - i) wi).1, (rep (pO t) (many a b - i) wi).2) ∧ WOk wi ni Mi ∧ ni + (many a b - i) * sz t ≤ S ∧ Mi + S * ((many a b - i) * lks t) ≤ 10000 ∧ Apt p la fa asi H3 (fun c => (O c ∨ c ∈ asi) ∨ c = D))
      ⟨[], [], w, as, n, M, upd_same, rfl, .nil, W.wr nDo, nDo, .refl, KW.put .refl .refl hD, rfl, ft.ok, f1, by show M + S * (many a b * lks t) ≤ 10000; omega, ⟨fun c h => .inl (.inl (ap.sub c h)), fun c h => ?_⟩⟩ (fun _ _ _ _ => True.intro) (fun i xi H3 H3' hi hP hy => ?_) (fun H3 hP => ?_)
    · by_cases z : c = D
      · exact ⟨_, by rw [z]; exact upd_same⟩
      · rw [upd_ne z]
        rcases h with (h | h) | h
        · exact ap.all c h
        · obtain ⟨o, e, _⟩ := W.own (.inr (.inr (.inr h)))
          exact ⟨o, e⟩
        · exact absurd h z
    · obtain ⟨acc, ps, wi, asi, ni, Mi, eD, hai, pps, W3, nDi, x3, k3, ec, o2, b1, b2, ap4⟩ := hP
      obtain ⟨rfl, rfl⟩ := hy
      obtain ⟨m', hm'⟩ : ∃ m', many a b - i = m' + 1 := ⟨many a b - i - 1, by omega⟩
      have hm2 : many a b - (i + 1) = m' := by omega
      rw [hm'] at ec b1 b2
      have e1 : (m' + 1) * sz t = m' * sz t + sz t := Nat.succ_mul _ _
      have e2 : S * ((m' + 1) * lks t) = S * (m' * lks t) + S * lks t := by rw [Nat.succ_mul, Nat.mul_add]
      obtain ⟨g1, g2⟩ := pO_ok (S := S) t wi ni Mi o2 (by omega)
      refine ⟨rfl, .ref p, rfl, p, dx, _, rfl, W3.e, nP, v, rfl, ?_⟩
      refine ⟨p, dx, la, fa, v, t, wi, asi, _, S, ni, Mi, rfl, hd, hw, ht.mono (k3.kt W), W3, ap4, ⟨o2, by omega, f2, by omega⟩, fun y2 H4 as2 py2 W4 x4 k4 => ?_⟩
      have nD2 : ¬ Own p la fa as2 D := x4.own eD nDi
      have eD4 := k4 D _ nDi eD
      have up : ∀ c o, ¬ ((O c ∨ c ∈ asi) ∨ c = D) → H3' c = some o → ¬ ((O c ∨ c ∈ as2) ∨ c = D) := fun c o h e z => by
        obtain ⟨m, rfl, hm⟩ := x4
        rcases z with (z | z) | z
        · exact h (.inl (.inl z))
        · rcases List.mem_append.mp z with z | z
          · exact h (.inl (.inr z))
          · rw [hm c z] at e
            cases e
        · exact h (.inr z)
      have ow : ∀ c, Own p la fa as2 c → O c ∨ c ∈ as2 := fun c z => by
        rcases z with z | z | z | z
        · exact .inl (ap.sub _ (.inl z))
        · exact .inl (ap.sub _ (.inr (.inl z)))
        · exact .inl (ap.sub _ (.inr (.inr (.inl z))))
        · exact .inr z
      have st : ∀ c o, ¬ ((O c ∨ c ∈ as2) ∨ c = D) → H3' c = some o → upd H4 D (.lst (acc ++ [y2])) c = some o := fun c o h e => by
        rw [upd_ne fun z => h (.inr z)]
        exact k4 c o (fun z => h (.inl (ow c (x4.own2 z)))) e
      have py3 : PtO (fun c => (O c ∨ c ∈ as2) ∨ c = D) (upd H4 D (.lst (acc ++ [y2]))) y2 (pO t wi).1 := (py2.sub (O' := fun c => (O c ∨ c ∈ as2) ∨ c = D) fun c o h _ z => h (by
          rcases z with (z | z) | z
          · exact .inl (.inl (.inl z))
          · exact .inr z
          · exact .inl (.inr z))).mono fun c o h e => by
            rw [upd_ne fun z => h (.inr z)]
            exact e
      refine ⟨acc, eD4, Nat.lt_of_le_of_lt (show acc.length ≤ 1000 by omega) (by decide), acc ++ [y2], ps ++ [(pO t wi).1], (pO t wi).2, as2, ni + sz t, Mi + S * lks t, upd_same, by rw [List.length_append, hai] <;> rfl, ((pps.sub up).mono st).snoc py3, W4.wr nD2, nD2, x3.trans k3 W3 x4, KW.put (k3.trans x3 k4) .refl hD, ?_, g1, by rw [hm2]; omega, by rw [hm2]; omega, ⟨fun c h => .inl (ow c h), fun c h => ?_⟩⟩
      · rw [hm2, ec]
        show (ps ++ ((pO t wi).1 :: _), _) = ((ps ++ [(pO t wi).1]) ++ _, _)
        rw [List.append_assoc] <;> rfl
      · by_cases z : c = D
        · exact ⟨_, by rw [z]; exact upd_same⟩
        · rw [upd_ne z]
          by_cases ho : Own p la fa as2 c
          · obtain ⟨o, e, _⟩ := W4.own ho
            exact ⟨o, e⟩
          · rcases h with (h | h) | h
            · obtain ⟨o, e⟩ := ap4.all c (.inl (.inl h))
              exact ⟨o, k4 c o (fun z => ho (x4.own2 z)) e⟩
            · exact absurd (.inr (.inr (.inr h))) ho
            · exact absurd h z
    obtain ⟨acc, ps, wi, asi, ni, Mi, eD, hai, pps, W3, nDi, x3, k3, ec, _, _, _, ap3⟩ := hP
    rw [Nat.sub_self] at ec
    have ec : rep (pO t) (many a b) w = (ps ++ [], wi) := ec
    rw [List.append_nil] at ec
    obtain ⟨g1, g2⟩ := rep_ok (pO_ok (S := S) t) (many a b) w n M ft.ok f1
    have hpl := rep_len (pO t) (many a b) w
    rw [ec] at g1 g2 hpl
    have g1 : WOk wi (n + many a b * sz t) (M + S * (many a b * lks t)) := g1
    have g3 : RCps n (sz t) ps.reverse := Cps.rev (show Cps (sz t) n ps from g2)
    have hpl : ps.length = many a b := hpl
    have hR : cntd a b (rep (pO t) (many a b) w) = cntd a b (ps, wi) := by rw [ec]
    rw [hR] at q
    refine ⟨Nat.zero_le _, fun c hc => ⟨Nat.zero_le _, fun g hg => ⟨(show 3 ≤ sizeLine by decide), fun x hx => ⟨_, _, rfl, ?_⟩⟩⟩⟩
    have s1 := smU (o := HO.lst []) hc
    have s2 := smU (o := HO.lst []) hg
    have s3 := smU (o := HO.tup [.bl true, .ref c, .ref g]) hx
    have sA := s1.trans (s2.trans s3)
    have x0 : PtO (fun c => (O c ∨ c ∈ asi) ∨ c = D) (upd (upd (upd H3 c (.lst [])) g (.lst [])) x (.tup [.bl true, .ref c, .ref g])) (.ref x) e0 :=
      ⟨x, c, g, rfl, upd_same, s3 _ _ (s2 _ _ upd_same), s3 _ _ upd_same, ap3.no ((s1.trans s2).free hx), ap3.no hc, ap3.no (s1.free hg)⟩
    generalize upd (upd (upd H3 c (.lst [])) g (.lst [])) x (.tup [.bl true, .ref c, .ref g]) = H4 at sA x0 ⊢
    have W4 := W3.up sA
    have ap4 : Apt p la fa asi H4 (fun c => (O c ∨ c ∈ asi) ∨ c = D) := ⟨ap3.sub, fun b hb => by
      obtain ⟨o, e⟩ := ap3.all b hb
      exact ⟨o, sA _ _ e⟩⟩
    have pps4 := pps.mono fun b o _ e => sA b o e
    have k4 : KW p la fa as H1 H4 := k3.trans x3 (KW.same sA)
    have oD : (fun c => (O c ∨ c ∈ asi) ∨ c = D) D := .inr rfl
    refine ⟨fun σ H5 => ∃ (least : Nat) (cs : List Pt) (y : V), σ = [some (.ref p), some (.int least), some (mst b), some v, some (.int (many a b : Nat)), some (.ref D), some y, none] ∧ CSt C p dx la fa D as asi (fun c => (O c ∨ c ∈ asi) ∨ c = D) H1 n (sz t) (n + many a b * sz t) S least (cntd a b (ps, wi)) H5 cs y, ?_, fun σ H5 hM => ?_⟩
    · refine ⟨mst b, rfl, rfl, _, rfl, ?_⟩
      cases b with
      | some m =>
        refine iteF ⟨a, ps, .ref x, rfl, acc, e0, wi, M + S * (many a (some m) * lks t), sA _ _ eD, pps4, x0, W4, k4, ap4, ⟨g3, .e0, ?_, Nat.le_refl _, g1, f1, f2, ?_⟩, rfl⟩
        · rw [hpl]
          exact Nat.le_refl _
        · rw [hpl]
          omega
      | none =>
        obtain ⟨cs, c1, rfl⟩ : ∃ cs c, ps = cs ++ [c] := by
          have : ps ≠ [] := fun z => by
            rw [z] at hpl
            have : (0 : Nat) = max a 1 := hpl
            omega
          exact ⟨ps.dropLast, ps.getLast this, (List.dropLast_concat_getLast this).symm⟩
        obtain ⟨us, v1, rfl, p1, p2⟩ := pps4.last
        obtain ⟨pa, pf, pg, rfl, pb⟩ := p2
        have eD4 := sA _ _ eD
        have un : ∀ {b : Addr}, ¬ ((O b ∨ b ∈ asi) ∨ b = D) → ¬ Own p la fa asi b := fun h z => h (ap4.sub _ z)
        rw [List.reverse_append, List.reverse_singleton] at g3
        obtain ⟨h1, h2⟩ := (show POk (n + cs.reverse.length * sz t) (n + (cs.reverse.length + 1) * sz t) c1 ∧ RCps n (sz t) cs.reverse from g3)
        rw [List.length_reverse] at h1
        rw [List.length_append, List.length_singleton] at hpl
        have e1 : (cs.length + 1) * sz t = cs.length * sz t + sz t := Nat.succ_mul _ _
        have e2 : S * (cs.length + 1) = S * cs.length + S := Nat.mul_succ _ _
        rw [hpl] at h1 e1 e2
        have l1 := h1.f.len
        have l2 := h1.l.len
        have B : Bn wi c1.2.2 c1.2.1 := ⟨h1.l.nd, fun x hx => by
          rw [g1.fo]
          have := h1.l.lt x hx
          omega, by omega, by omega, fun r hr => by
          have := (g1.bd r hr).1
          omega⟩
        have w5 := g1.lnk (S := S) h1.l.nd (fun x hx => (h1.f.lt x hx).2) (by omega)
        refine iteT ⟨.ref p, rfl, p, dx, _, rfl, W4.e, nL, .ref D, rfl, 1, rfl, D, _, -1, _, rfl, rfl, .inl (.inl eD4), atI_last _ _, pa, _, 2, _, rfl, rfl, .inl (.inl pb.t), atI_nat (j := 2) rfl, .ref D, rfl, 1, rfl, D, _, -1, _, rfl, rfl, .inl (.inl eD4), atI_last _ _, pa, _, 1, _, rfl, rfl, .inl (.inl pb.t), atI_nat (j := 1) rfl, ?_⟩
        refine ⟨p, dx, la, fa, pg, pf, wi, asi, _, _, rfl, W4, pb.g, pb.f, un pb.ng, un pb.nf, B, fun H5 W5 k5 => ?_⟩
        have eD5 := k5 D _ nDi eD4
        have fr : ∀ b o, ¬ ((O b ∨ b ∈ asi) ∨ b = D) → H4 b = some o → upd H5 D (.lst us) b = some o := fun b o h e => by
          rw [upd_ne fun z => h (.inr z)]
          exact k5 b o (un h) e
        have lastE : (us ++ [V.ref pa])[(us ++ [V.ref pa]).length - 1]? = some (.ref pa) := by
          rw [List.length_append, List.length_singleton, Nat.add_sub_cancel, List.getElem?_append_right (Nat.le_refl _), Nat.sub_self] <;> rfl
        have dr : (us ++ [V.ref pa]).dropLast = us := List.dropLast_concat
        have hlu := p1.len
        have ap6 : ∀ {H6 : Hp}, Same (upd H5 D (.lst us)) H6 → Apt p la fa asi H6 (fun c => (O c ∨ c ∈ asi) ∨ c = D) := fun {H6} s6 => ⟨ap4.sub, fun b hb => by
          by_cases z : b = D
          · exact ⟨_, by rw [z]; exact s6 _ _ upd_same⟩
          · by_cases ho : Own p la fa asi b
            · obtain ⟨o, e, _⟩ := W5.own ho
              exact ⟨o, s6 _ _ (by rw [upd_ne z]; exact e)⟩
            · obtain ⟨o, e⟩ := ap4.all b hb
              exact ⟨o, s6 _ _ (by rw [upd_ne z]; exact k5 b o ho e)⟩⟩
        have pc1 : PtO (fun c => (O c ∨ c ∈ asi) ∨ c = D) H4 (.ref pa) c1 := ⟨pa, pf, pg, rfl, pb⟩
        have fin1 : ∀ (y : V) (tl : Pt) (H6 : Hp), Same (upd H5 D (.lst us)) H6 → PtO (fun c => (O c ∨ c ∈ asi) ∨ c = D) H6 y tl → tl = (if a > 0 then c1 else (true, c1.2)) → CSt C p dx la fa D as asi (fun c => (O c ∨ c ∈ asi) ∨ c = D) H1 n (sz t) (n + many a none * sz t) S cs.length (cntd a none (cs ++ [c1], wi)) H6 cs y := fun y tl H6 s6 py et => by
          refine ⟨us, tl, ⟨wi.le, lnk wi.fo c1.2.2 c1.2.1⟩, M + S * (many a none * lks t) + S, s6 _ _ upd_same, p1.mono fun b o h e => s6 _ _ (fr b o h e), py, (W5.wr nDi).up s6, (KW.put (k4.trans x3 k5) .refl hD).trans0 (KW.same s6), ap6 s6, ⟨h2, ?_, by omega, Nat.le_refl _, w5, f1, f2, by omega⟩, ?_⟩
          · rw [et]
            split
            · exact h1
            · exact h1.opt true
          · rw [et]
            exact cntd_none a cs c1 wi
        refine ⟨_, rfl, _, _, rfl, rfl, _, rfl, ite2 (fun ha => ?_) (fun ha => ?_)⟩
        · refine ⟨.ref D, rfl, .inl ⟨rfl, _, .inl (.inl eD5)⟩, D, _, _, rfl, rfl, eD5, lastE, ?_⟩
          rw [dr]
          refine ⟨.ref D, rfl, D, _, rfl, .inl (.inl (.inl upd_same)), cs.length, cs, .ref pa, by rw [hlu] <;> rfl, ?_⟩
          have ha2 : a > 0 := by
            have := of_decide_eq_true ha
            omega
          exact fin1 _ c1 _ (Same.refl _) (pc1.mono fr) (by rw [if_pos ha2])
        · refine ⟨.ref D, rfl, .inl ⟨rfl, _, .inl (.inl eD5)⟩, D, _, _, rfl, rfl, eD5, lastE, ?_⟩
          rw [dr]
          have pb5 : PtO (fun c => (O c ∨ c ∈ asi) ∨ c = D) (upd H5 D (.lst us)) (.ref pa) c1 := pc1.mono fr
          have tb : upd H5 D (.lst us) pa = some (.tup [.bl c1.1, .ref pf, .ref pg]) := fr _ _ pb.nt pb.t
          refine ⟨1, rfl, pa, _, rfl, .inl (.inl tb), ?_, fun t1 ht1 => ?_⟩
          · exact fun z => absurd z.1 (show ¬ (HT.sIx 3 0 (some 1) = 0) by decide)
          have s6 := smU (o := HO.tup (cutV [V.bl c1.1, .ref pf, .ref pg] (some 1) none)) ht1
          refine ⟨t1, _, rfl, .inl (.inl (.inl upd_same)), (show 3 ≤ sizeLine by decide), fun t2 ht2 => ?_⟩
          have s7 := smU (o := HO.tup (.bl true :: (cutV [V.bl c1.1, .ref pf, .ref pg] (some 1) none ++ []))) ht2
          refine ⟨.ref D, rfl, D, _, rfl, .inl (.inl (.inl ((s6.trans s7) _ _ upd_same))), cs.length, cs, .ref t2, by rw [hlu] <;> rfl, ?_⟩
          have ha2 : ¬ a > 0 := fun z => ha (decide_eq_true (by omega))
          exact fin1 _ (true, c1.2) _ (s6.trans s7) ⟨t2, pf, pg, rfl, upd_same, (s6.trans s7) _ _ (fr _ _ pb.nf pb.f), (s6.trans s7) _ _ (fr _ _ pb.ng pb.g), (ap6 s6).no ht2, pb.nf, pb.ng⟩ (by rw [if_neg ha2])
    obtain ⟨least, cs, y, rfl, st5⟩ := hM
    have un3 : ∀ {H6 : Hp} {b : Addr}, Apt p la fa asi H6 (fun c => (O c ∨ c ∈ asi) ∨ c = D) → ¬ ((O b ∨ b ∈ asi) ∨ b = D) → ¬ Own p la fa asi b := fun ap6 h z => h (ap6.sub _ z)
    have splt : ∀ cs : List Pt, cs ≠ [] → ∃ us c, cs = us ++ [c] := fun cs h => ⟨cs.dropLast, cs.getLast h, (List.dropLast_concat_getLast h).symm⟩
    have lastE : ∀ (us : List V) (z : V), (us ++ [z])[(us ++ [z]).length - 1]? = some z := fun us z => by
      rw [List.length_append, List.length_singleton, Nat.add_sub_cancel, List.getElem?_append_right (Nat.le_refl _), Nat.sub_self] <;> rfl
    refine ⟨fun σ H6 => ∃ (cs : List Pt) (y : V), cs.length ≤ least ∧ σ = [some (.ref p), some (.int least), some (mst b), some v, some (.int (many a b : Nat)), some (.ref D), some y, none] ∧ CSt C p dx la fa D as asi (fun c => (O c ∨ c ∈ asi) ∨ c = D) H1 n (sz t) (n + many a b * sz t) S least (cntd a b (ps, wi)) H6 cs y, ?_, fun σ H6 hM => ?_⟩
    · refine ⟨fun m σ H6 => ∃ (cs : List Pt) (y : V), m = cs.length ∧ σ = [some (.ref p), some (.int least), some (mst b), some v, some (.int (many a b : Nat)), some (.ref D), some y, none] ∧ CSt C p dx la fa D as asi (fun c => (O c ∨ c ∈ asi) ∨ c = D) H1 n (sz t) (n + many a b * sz t) S least (cntd a b (ps, wi)) H6 cs y, ⟨_, cs, y, rfl, rfl, st5⟩, ?_⟩
      rintro m σ H6 ⟨cs, y, rfl, rfl, st6⟩
      obtain ⟨acc6, tl6, w6, M6, eD6, pps6, py6, W6, k6, ap6, fs6, er6⟩ := id st6
      have hl6 := pps6.len
      refine ⟨.ref D, rfl, D, _, rfl, .inl (.inl (.inl eD6)), _, rfl, _, _, rfl, rfl, _, rfl, ite2 (fun hlt => ?_) (fun hlt => ?_)⟩
      · have hlt2 : least < cs.length := by
          have := of_decide_eq_true hlt
          omega
        obtain ⟨us0, c1, rfl⟩ := splt cs (fun z => by rw [z] at hlt2; exact absurd hlt2 (Nat.not_lt_zero _))
        obtain ⟨us, v1, tl, w', eD7, W7, ap7, pv7, py7, B, b2, b3, nxt⟩ := st6.pop nDi oD hD x3
        rw [List.length_append, List.length_singleton] at hlt2
        refine ⟨fun σ' H' => ∃ y', σ' = [some (.ref p), some (.int least), some (mst b), some v, some (.int (many a b : Nat)), some (.ref D), some y', none] ∧ CSt C p dx la fa D as asi (fun c => (O c ∨ c ∈ asi) ∨ c = D) H1 n (sz t) (n + many a b * sz t) S least (cntd a b (ps, wi)) H' us0 y', fun σ' H' ⟨y', h1, h2⟩ => ⟨us0.length, by rw [List.length_append, List.length_singleton]; omega, us0, y', rfl, h1, h2⟩, ?_⟩
        refine ⟨.ref p, rfl, p, dx, _, rfl, W6.e, nJ, .ref D, rfl, .inl ⟨rfl, _, .inl (.inl eD7)⟩, D, _, _, rfl, rfl, eD7, lastE us v1, ?_⟩
        rw [List.dropLast_concat]
        refine ⟨y, rfl, p, dx, la, fa, v1, y, w', asi, c1, tl, _, rfl, W7, ap7, pv7, py7, B, b2, b3, fun z H7 pz W8 k8 => ?_⟩
        obtain ⟨tz, zf, zg, rfl, zb⟩ := id pz
        refine ⟨.ref tz, rfl, tz, _, 1, _, rfl, rfl, .inl (.inl zb.t), atI_nat (j := 1) rfl, .ref tz, rfl, tz, _, 2, _, rfl, rfl, .inl (.inl zb.t), atI_nat (j := 2) rfl, (show 3 ≤ sizeLine by decide), fun t2 ht2 => ?_⟩
        have s7 := smU (o := HO.tup [.bl true, .ref zf, .ref zg]) ht2
        have st8 := nxt _ H7 W8 k8 pz
        have ap8 : Apt p la fa asi H7 (fun c => (O c ∨ c ∈ asi) ∨ c = D) := ⟨ap7.sub, fun c hc => by
          by_cases ho : Own p la fa asi c
          · obtain ⟨o, e, _⟩ := W8.own ho
            exact ⟨o, e⟩
          · obtain ⟨o, e⟩ := ap7.all c hc
            exact ⟨o, k8 c o ho e⟩⟩
        refine ⟨.ref t2, rfl, st8 _ _ s7 ?_⟩
        rw [if_pos (show us0.length + 1 > least from hlt2)]
        exact ⟨t2, zf, zg, rfl, upd_same, s7 _ _ zb.f, s7 _ _ zb.g, ap8.no ht2, zb.nf, zb.ng⟩
      · exact ⟨cs, y, by
          have : ¬ ((least : Int) < (acc6.length : Int)) := fun z => hlt (decide_eq_true z)
          omega, rfl, st6⟩
    obtain ⟨cs, y, hcl, rfl, st6⟩ := hM
    refine ⟨fun σ H7 => ∃ (y : V), σ = [some (.ref p), some (.int least), some (mst b), some v, some (.int (many a b : Nat)), some (.ref D), some y, none] ∧ CSt C p dx la fa D as asi (fun c => (O c ∨ c ∈ asi) ∨ c = D) H1 n (sz t) (n + many a b * sz t) S least (cntd a b (ps, wi)) H7 [] y, ?_, fun σ H7 hM => ?_⟩
    · refine ⟨fun m σ H6 => ∃ (cs : List Pt) (y : V), m = cs.length ∧ cs.length ≤ least ∧ σ = [some (.ref p), some (.int least), some (mst b), some v, some (.int (many a b : Nat)), some (.ref D), some y, none] ∧ CSt C p dx la fa D as asi (fun c => (O c ∨ c ∈ asi) ∨ c = D) H1 n (sz t) (n + many a b * sz t) S least (cntd a b (ps, wi)) H6 cs y, ⟨_, cs, y, rfl, hcl, rfl, st6⟩, ?_⟩
      rintro m σ H6 ⟨cs, y, rfl, hcl, rfl, st6⟩
      obtain ⟨acc6, tl6, w6, M6, eD6, pps6, py6, W6, k6, ap6, fs6, er6⟩ := id st6
      refine ⟨.ref D, rfl, Nat.zero_le _, fun e1 he1 => ?_⟩
      have s6 := smU (o := HO.lst []) he1
      have st7 : CSt C p dx la fa D as asi (fun c => (O c ∨ c ∈ asi) ∨ c = D) H1 n (sz t) (n + many a b * sz t) S least (cntd a b (ps, wi)) (upd H6 e1 (.lst [])) cs y :=
        ⟨acc6, tl6, w6, M6, s6 _ _ eD6, pps6.mono fun c o _ e => s6 c o e, py6.same s6, W6.up s6, k6.trans0 (KW.same s6), ⟨ap6.sub, fun c hc => by
          obtain ⟨o, e⟩ := ap6.all c hc
          exact ⟨o, s6 _ _ e⟩⟩, fs6, er6⟩
      refine ⟨.list (cs.map ptD), .list [], .lst (.inl (.inl (s6 _ _ eD6))) (pps6.mono fun c o _ e => s6 c o e).dp, .lst (.inl (.inl upd_same)) .nil, cpsD_shaped cs, by decide, _, rfl, ?_⟩
      rw [cps_eqv]
      cases hcs : cs with
      | nil =>
        subst hcs
        exact iteF ⟨y, rfl, st7⟩
      | cons c0 r0 =>
        have hne : cs ≠ [] := fun z => by rw [z] at hcs; cases hcs
        rw [← hcs]
        clear hcs
        obtain ⟨us0, c1, rfl⟩ := splt cs hne
        obtain ⟨us, v1, tl, w', eD7, W7, ap7, pv7, py7, B, b2, b3, nxt⟩ := st7.pop nDi oD hD x3
        rw [List.length_append, List.length_singleton] at hcl
        rw [show (us0 ++ [c1]).isEmpty = false by cases us0 <;> rfl]
        refine iteT ⟨fun σ' H' => ∃ y', σ' = [some (.ref p), some (.int least), some (mst b), some v, some (.int (many a b : Nat)), some (.ref D), some y', none] ∧ CSt C p dx la fa D as asi (fun c => (O c ∨ c ∈ asi) ∨ c = D) H1 n (sz t) (n + many a b * sz t) S least (cntd a b (ps, wi)) H' us0 y', fun σ' H' ⟨y', h1, h2⟩ => ⟨us0.length, by rw [List.length_append, List.length_singleton]; omega, us0, y', rfl, by omega, h1, h2⟩, ?_⟩
        refine ⟨.ref p, rfl, p, dx, _, rfl, s6 _ _ W6.e, nJ, .ref D, rfl, .inl ⟨rfl, _, .inl (.inl eD7)⟩, D, _, _, rfl, rfl, eD7, lastE us v1, ?_⟩
        rw [List.dropLast_concat]
        refine ⟨y, rfl, p, dx, la, fa, v1, y, w', asi, c1, tl, _, rfl, W7, ap7, pv7, py7, B, b2, b3, fun z H7 pz W8 k8 => ?_⟩
        refine ⟨z, rfl, nxt z H7 W8 k8 pz _ _ (Same.refl _) ?_⟩
        rw [if_neg (show ¬ us0.length + 1 > least by omega)]
        exact pz
    obtain ⟨y, rfl, acc7, tl7, w7, M7, eD7, pps7, py7, W7, k7, ap7, fs7, er7⟩ := hM
    have er7 : cntd a b (ps, wi) = (tl7, ⟨w7.le, w7.fo⟩) := er7
    refine ⟨y, rfl, q y H7 asi ?_ ?_ x3 k7⟩
    · rw [er7]
      exact py7.sub fun c o h _ z => h (.inl z)
    · rw [er7]
      exact W7
end
end Sf4
/-! set(list of ints), and how many its members are. -/
namespace Sf
open PySem PySem.Spec PyProof.Rows L2 PySem.Froz
theorem nodup_few : ∀ (m : Nat) (l : List Int), l.Nodup → (∀ k ∈ l, 0 ≤ k ∧ k < (m : Int)) → l.length ≤ m
  | 0, [], _, _ => Nat.le_refl 0
  | 0, x :: l, _, h => by
    have := h x List.mem_cons_self
    omega
  | m + 1, l, nd, h => by
    by_cases z : (m : Int) ∈ l
    · have q := nodup_few m (l.erase (m : Int)) (nd.erase _) fun k hk => by
        obtain ⟨h1, h2⟩ := (nd.mem_erase_iff).mp hk
        have := h k h2
        omega
      have e := List.length_erase_of_mem z
      omega
    · have q := nodup_few m l nd fun k hk => by
        have := h k hk
        have : k ≠ (m : Int) := fun e => z (e ▸ hk)
        omega
      omega
theorem setR_few {w : World} {h : Heap} {a : Addr} {ns : List Int} {c m : Nat} (R : SetR w h a (fun j => decide (j ∈ ns)) c) (hm : ∀ k ∈ ns, 0 ≤ k ∧ k < (m : Int)) : c ≤ m := by
  obtain ⟨o, es, ep, t, ho, hex, hd, g, nd, hk, hb, hf, hn, _⟩ := R
  have q := nodup_few m (es.toList.map keyOf) nd fun k hkm => hm k (of_decide_eq_true ((hk k).mpr hkm))
  rw [List.length_map, Array.length_toList, hn] at q
  exact q
section
variable {P : Program} {w : World} {A : Around} {E : Value → Shared → Prop} {s : Shared}
set_option maxHeartbeats 4000000 in
theorem call_setIL {l : Addr} {items : Array Value} (ns : List Int) {Q : Value → Shared → Prop} (hh : A.handled = none) (hli : s.heap.IsList l items) (hit : IntsAre items.toList ns) (hx : ns.length + 1 < scanBound)
    (h : ∀ (h' : Heap) (tk c : Nat), (∀ b o, s.heap.get? b = some o → h'.get? b = some o) → SetR w h' s.heap.objs.size (fun j => decide (j ∈ ns)) c → c ≤ ns.length → Q (.ref s.heap.objs.size) { s with heap := h', toks := tk }) :
    wpAny (model P w) A (call (.type "set") [.ref l]) Q E s := by
  obtain ⟨c, tl, hmro⟩ := PySem.F.called_set.mro
  have q1 := PySem.F.called_set.made
  have q2 := PySem.F.called_set.sub
  have q3 := PySem.F.called_set.notType
  have q4 := PySem.F.called_set.canCreate
  have q5 := PySem.F.typeCall_set_1 (.ref l)
  refine wpAny_call (codeAny_of_tree (wpAny_pure ⟨Code.quiet_builtin _ (by decide +kernel), codeAny_builtin PySem.F.entry_type_call ?_⟩))
  rw [Around.under_plain (weight_type_call_type "set" [.ref l] []) rfl]
  repeat (any_goals (first | assumption | wp_step))
  generalize hO : ({ cls := .type "set", dict := none, data := .set #[] 0 (.fresh 0 0 (!w.params.followText "set-order")) } : Obj) = O
  have hS : (s.heap.push O).get? s.heap.objs.size = some O := Heap.get?_push_size _ (by rw [← hO]; rfl)
  have hT : Shared.TypeIs { s with heap := s.heap.push O } (.ref s.heap.objs.size) "set" := ⟨_, hS, by rw [← hO]⟩
  refine codeAny_mono (code_set_led1 (.ref l) (E := E) (Q₁ := fun obj s₁ => obj = .ref s.heap.objs.size ∧ s₁ = { s with heap := s.heap.push O }) ⟨rfl, by rw [hO]⟩) fun r s₁ hr => ?_
  cases r with
  | error e => exact hr
  | ok fl =>
    cases fl with
    | ret obj =>
      obtain ⟨rfl, rfl⟩ := hr
      have q6 := PySem.F.called_set.init.lookup
      have q7 := PySem.F.called_set.init.bind (.ref s.heap.objs.size)
      repeat (any_goals (first | assumption | wp_step))
      refine codeAny_mono (codeAny_call_builtin (R := wants (fun r s₂ => r = .none ∧ ∃ h' tk c, s₂ = { s with heap := h', toks := tk } ∧ (∀ b o, s.heap.get? b = some o → h'.get? b = some o) ∧ SetR w h' s.heap.objs.size (fun j => decide (j ∈ ns)) c ∧ c ≤ ns.length) E)
        PySem.F.called_set.init.plain PySem.F.entry_set_init (check_set_init_1 hT ?_)) fun r₂ s₂ hr₂ => ?_
      · have hneI : ∀ {b : Addr} {o : Obj}, s.heap.get? b = some o → b ≠ (s.heap.push O).objs.size := fun e => by
          rw [Heap.size_push]
          exact Nat.ne_of_lt (Nat.lt_succ_of_lt (Heap.lt_size e))
        have hh3 : A.in1.in1.in1.handled = none := by simp [hh]
        have hsz : items.size = ns.length := by
          have q := IntsAre.length hit
          rw [Array.length_toList] at q
          exact q
        have hv : ∀ (i : Nat) (v : Value), items[i]? = some v → ∃ k t, ns[i]? = some k ∧ v = .int k t := fun i v e => by
          have hi : i < ns.length := hsz ▸ (Array.getElem?_eq_some_iff.mp e).1
          obtain ⟨t, e2⟩ := PyProof.Rows.IntsAre.int_at hit i v (by rw [Array.getElem?_toList]; exact e)
          exact ⟨ns[i], t, List.getElem?_eq_getElem hi, by rw [e2, List.getD_eq_getElem?_getD, List.getElem?_eq_getElem hi] <;> rfl⟩
        obtain ⟨ol, hol, hcl, nl, hdl⟩ := id hli
        obtain ⟨ocls, odict, odata, oslots⟩ := ol
        simp only at hcl hdl
        subst hcl; subst hdl
        have hol' : (s.heap.push O).get? l = some { cls := .type "list", dict := odict, data := .seq items nl, slots := oslots } := Heap.get?_push_of_some _ hol
        have q8 := PySem.F.sub_list_set
        have q9 := PySem.F.sub_list_frozenset
        have q10 : (Value.type "list" == Value.type "dict") = false := by decide
        have hl1 : (s.heap.push O).IsList l items := ⟨_, hol', rfl, nl, rfl⟩
        have nf : s.heap.objs.size ∉ [(s.heap.push O).objs.size, l] := by
          rw [Heap.size_push, List.mem_cons, List.mem_singleton, not_or]
          exact ⟨Nat.ne_of_lt (Nat.lt_succ_self _), Nat.ne_of_gt (Heap.lt_size hol)⟩
        have W := (Walks.list (prog := P) (w := w) hh3 (s.heap.push O).objs.size l (hneI hol) items).toS
        subst hO
        unfold Builtin.«set.__init__» noKeywords Builtin.Frozenset.updateFrom
        generalize hPI : pyIter = PI
        wp_walk
        subst hPI
        refine wpAny_pyIter_list hl1 ?_
        refine wpAny_bind (wpAny_runValue ?_)
        refine set_update_ints W s.heap.objs.size nf ns hsz hx hv items.size 0 _ (Nat.sub_zero _) (Nat.zero_le _) ⟨⟨_, Heap.get?_push_size _ rfl, rfl, rfl⟩, hl1.push _⟩ ⟨0, Nat.le_refl 0, setR_new_at (Heap.get?_push_of_some _ hS)⟩ fun s3 c3 hm hc hS3 => ?_
        obtain ⟨h', g2, d', tk', os'⟩ := s3
        have eg : g2 = s.gens := hm.gens
        have ed : d' = s.drawn := hm.drawn
        have eo : os' = s.os := hm.os
        subst eg; subst ed; subst eo
        rw [hsz] at hc
        refine wpAny_pure (wpAny_pure ⟨rfl, h', tk', c3, rfl, fun b o e => ?_, hS3, hc⟩)
        refine hm.heap b o (fun z => ?_) (Heap.get?_push_of_some _ (Heap.get?_push_of_some _ e))
        rcases List.mem_cons.mp z with z | z
        · exact Nat.ne_of_lt (Heap.lt_size e) z
        · exact hneI e (List.mem_singleton.mp z)
      · cases r₂ with
        | error e => exact hr₂
        | ok fl₂ =>
          cases fl₂ with
          | ret r =>
            obtain ⟨rfl, h', tk, c2, rfl, k, T, hc⟩ := hr₂
            repeat (any_goals (first | assumption | wp_step))
            exact h _ _ _ k T hc
          | _ => exact hr₂.elim
    | _ => exact hr.elim
end
section
variable {X : Cx}
/-- set(ints below m) -/
def rSetIL (K : PySem.W.Frag) (w : World) : List V → Hp → VK → Prop := fun vs H Q => ∃ (a : Addr) (ns : List Int) (m : Nat), vs = [.ref a] ∧ SqL K H a (ns.map V.int) ∧ ns.length + 1 < scanBound ∧ (∀ k ∈ ns, 0 ≤ k ∧ k < (m : Int)) ∧
  ∀ p n, H p = none → n ≤ m → Q (.ref p) (upd H p (SetO w p (fun j => decide (j ∈ ns)) n))
theorem cr_setIL (hc : X.calm = true) : CallR X (.type "set") (rSetIL X.K X.w) := by
  intro pins s σ H vs us Q I r h
  obtain ⟨a, ns, m, rfl, hs, hx, hm, q⟩ := h
  rw [Vals.ref1 r]
  obtain ⟨its, rv, pl, _⟩ := I.list hs
  refine call_setIL ns (I.ok.hd hc) pl.isList rv.ints hx fun h' tk c k T hcn => ?_
  exact ⟨.ref _, upd H s.heap.objs.size (SetO X.w s.heap.objs.size (fun j => decide (j ∈ ns)) c), I.laid (t' := tk) k (Nat.le_refl _) (setO_new T), rfl, q _ _ (I.hok.fresh (Nat.le_refl _)) (setR_few T hm)⟩
end
end Sf
namespace Sf4
open PySem PySem.Spec PyProof.Rows L2 Sf
/-- the members below n, ascending -/
def ascL (n : Nat) (l : List Nat) : List Nat := (List.range n).filter fun i => decide (i ∈ l)
def zI (l : List Nat) : List Int := l.map fun (i : Nat) => (i : Int)
theorem nIs_z (l : List Nat) : nIs l = (zI l).map V.int := by
  unfold nIs zI
  rw [List.map_map] <;> rfl
theorem zI_mem {l : List Nat} {k : Int} : k ∈ zI l ↔ ∃ i, i ∈ l ∧ k = (i : Int) := by
  unfold zI
  rw [List.mem_map]
  exact ⟨fun ⟨a, b, c⟩ => ⟨a, b, c.symm⟩, fun ⟨a, b, c⟩ => ⟨a, b, c.symm⟩⟩
theorem asc_pw (n : Nat) (l : List Nat) : (zI (ascL n l)).Pairwise (· < ·) := by
  unfold zI ascL
  rw [List.pairwise_map]
  exact (List.Pairwise.filter _ List.pairwise_lt_range).imp fun h => by omega
theorem asc_uniq {ms : List Int} {n : Nat} {l : List Nat} (h1 : ms.Pairwise (· < ·)) (h2 : ∀ k : Int, k ∈ ms ↔ decide (k ∈ zI l) = true) (h3 : ∀ i ∈ l, i < n) : ms = zI (ascL n l) := by
  have h4 := asc_pw n l
  have nd1 : ms.Nodup := h1.imp fun h => by omega
  have nd2 : (zI (ascL n l)).Nodup := h4.imp fun h => by omega
  refine List.Perm.eq_of_pairwise (le := (· < ·)) (fun a b _ _ x y => by omega) h1 h4 ((List.perm_ext_iff_of_nodup nd1 nd2).mpr fun k => ?_)
  rw [h2, decide_eq_true_iff, zI_mem, zI_mem]
  refine ⟨fun ⟨i, h, e⟩ => ⟨i, List.mem_filter.mpr ⟨List.mem_range.mpr (h3 i h), decide_eq_true h⟩, e⟩, fun ⟨i, h, e⟩ => ⟨i, of_decide_eq_true (List.mem_filter.mp h).2, e⟩⟩
theorem spPO_mono {C : Addr} {e d : Nat} (h : e ≤ d) {vs : List V} {H : Hp} {Q : VK} {E : XK} (q : spPO C e vs H Q E) : spPO C d vs H Q E := by
  obtain ⟨p, dx, la, fa, v, t, w, as, O, S, n, M, r, hd, q⟩ := q
  exact ⟨p, dx, la, fa, v, t, w, as, O, S, n, M, r, Nat.le_trans hd h, q⟩
theorem spCnt_mono {C : Addr} {e d : Nat} (h : e ≤ d) {vs : List V} {H : Hp} {Q : VK} {E : XK} (q : spCnt C e vs H Q E) : spCnt C d vs H Q E := by
  obtain ⟨p, dx, la, fa, a, b, v, t, w, as, O, S, n, M, r, hd, q⟩ := q
  exact ⟨p, dx, la, fa, a, b, v, t, w, as, O, S, n, M, r, Nat.le_trans hd h, q⟩
/-- a tuple of tuples of ints -/
def BehT (H : Hp) (b : Addr) (ls : List (List Nat)) : Prop := ∃ bs : List Addr, H b = some (.tup (bs.map V.ref)) ∧ bs.length = ls.length ∧ ∀ (j : Nat) (x : Addr) (r : List Nat), bs[j]? = some x → ls[j]? = some r → H x = some (.tup (nIs r))
theorem BehT.mono {H H' : Hp} {b : Addr} {ls : List (List Nat)} (h : BehT H b ls) (k : KT H H') : BehT H' b ls := by
  obtain ⟨bs, h1, h2, h3⟩ := h
  exact ⟨bs, k _ _ h1, h2, fun j x r a b => k _ _ (h3 j x r a b)⟩
def w0 : Wp := ⟨[], []⟩
theorem w0_ok : WOk w0 0 0 := ⟨rfl, rfl, fun _ h => nomatch h⟩
/-- the four rows that are written -/
structure WrOut (H : Hp) (a : Addr) (t : Tr) : Prop where
  ex : ∃ l f g b, H a = some (.tup [.ref l, .ref f, .ref g, .ref b]) ∧ H l = some (.tup (nmV (spts t))) ∧ H f = some (.tup (nIs (ascL (sz t) (pO t w0).1.2.1))) ∧ H g = some (.tup (nIs (ascL (sz t) (pO t w0).1.2.2))) ∧ BehT H b ((pO t w0).2.fo.map (ascL (sz t)))
/-- the bounds of a tree that is written out -/
structure Sml (t : Tr) : Prop where
  d : dep t ≤ 40
  w : wid t ≤ 1000
  s : sz t ≤ 24
  l : 24 * lks t ≤ 4000
def spWrt : Sp := fun vs H Q _ => ∃ (v : V) (t : Tr), vs = [v] ∧ TrO H v t ∧ Sml t ∧ ∀ a H', WrOut H' a t → Same H H' → Q (.ref a) H'
def NWrt : List Str := ["tree", "here", "can_be_empty", "first", "last", "behind", "later"]
theorem scWrt : FnScope NWrt ["tree"] (defScope sWrt) := ⟨rfl, rfl, rfl, by decide +kernel, rfl, by decide +kernel, by decide +kernel⟩
section
variable {P : Program} {w : World} {K : PySem.W.Frag} {mg : Str → Option Value} {base : Heap} {C : Addr} {f : Nat → Addr} {fd : Nat → FuncData} {tk : Nat → Tok}
theorem ok_po (T : WT K mg C f fd tk) : ∀ d, FnOk P w K mg base CX0 (3 + 2 * d) (f 3) (fd 3) ["self", "tree"] (spPO C d)
  | 0 => ok_partOf T (k := 2) (d := 0) (spA := spNo) (spB := spNo) (by decide) ok_no ok_no (fun e _ _ _ _ h => absurd h (by omega)) (fun e _ _ _ _ h => absurd h (by omega))
  | d + 1 => by
    have GA := ok_po T d
    have GB := ok_counted T (k := 3 + 2 * d) (by omega) GA
    have G := ok_partOf T (k := 4 + 2 * d) (d := d + 1) (spA := spPO C d) (spB := spCnt C d) (by omega) (GA.mono (by omega)) (GB.mono (by omega)) (fun e _ _ _ _ h q => spPO_mono (by omega) q) (fun e _ _ _ _ h q => spCnt_mono (by omega) q)
    exact G.mono (by omega)
theorem ok_written (T : WT K mg C f fd tk) {g : Addr} {gd : FuncData} (F : Fun K "written" "written" sWrt g gd) : FnOk P w K mg base CX0 84 g gd ["tree"] spWrt := by
  refine F.ok scWrt (fun vs H Q E h => ?_) (fun cdv A outer s H vs Q E hr h => ?_)
  · obtain ⟨v, t, rfl, _⟩ := h
    rfl
  · obtain ⟨v, t, rfl, ht, hs, q⟩ := h
    have GI := ok_wi (P := P) (w := w) (base := base) T
    have GP := ok_po (P := P) (w := w) (base := base) T 40
    refine ⟨_, pss_cons (ps_set (i := 1) scWrt.nd rfl (.inl rfl) (pe_make0 T.mkC GI (hr.mono (by decide)) rfl T.gC T.mI.b .nil pass0))
      (pss_cons (ps_asg (pe_meth (pv 1) T.cl T.mPart.m GP hr T.mPart.b .nil pass0 (pa_cons (pv 0) pa_nil)) (pg_tup rfl (pgs_cons (pg_name (i := 2) scWrt.nd rfl (.inl rfl)) (pgs_cons (pg_name (i := 3) scWrt.nd rfl (.inl rfl)) (pgs_cons (pg_name (i := 4) scWrt.nd rfl (.inl rfl)) pgs_nil)))))
      (pss_cons (ps_set (i := 5) scWrt.nd rfl (.inl rfl) (pe_tupleOf (by rfl) T.ztup (pe_lc (own := [("later", 6)]) (g := gName 6) (tt := tYes) (te := tThen (tCB (rSortedSet w) (tCons (tCB (rSetIL K w) (tCons (tVar 6) tNil)) tNil)) (kTup K)) rfl scWrt.nd (pi_list (pe_fld (pv 1) rfl)) (blkOk_by (N := NWrt) (sc := defScope sWrt) (by decide +kernel))
          (fun _ _ _ _ _ => pg_name (i := 6) scWrt.nd rfl (Or.inl rfl)) (fun _ _ _ _ _ => pts_nil)
          (fun _ _ _ _ _ => pe_tupleOf (by rfl) T.ztup (pe_callB (cr_sortedSet rfl) (by rfl) T.zsorted (by decide +kernel) (pa_cons (pe_callTy (cr_setIL rfl) (by rfl) T.zset PySem.Pv.boot_set (pa_cons (pv 6) pa_nil)) pa_nil))))))
      (pss_one (ps_ret (pe_tup (pa_cons (pe_tupleOf (by rfl) T.ztup (pe_fld (pv 1) rfl))
        (pa_cons (pe_tupleOf (by rfl) T.ztup (pe_callB (cr_sortedSet rfl) (by rfl) T.zsorted (by decide +kernel) (pa_cons (pe_callTy (cr_setIL rfl) (by rfl) T.zset PySem.Pv.boot_set (pa_cons (pv 3) pa_nil)) pa_nil)))
        (pa_cons (pe_tupleOf (by rfl) T.ztup (pe_callB (cr_sortedSet rfl) (by rfl) T.zsorted (by decide +kernel) (pa_cons (pe_callTy (cr_setIL rfl) (by rfl) T.zset PySem.Pv.boot_set (pa_cons (pv 4) pa_nil)) pa_nil)))
        (pa_cons (pv 5) pa_nil))))))))), ?_⟩
    have nP : ∀ {la fa : Addr}, (wf_ la fa).lookup ("part_of" : Str) = none := wf_no (by decide +kernel) (by decide +kernel)
    intro x dx nx ndx nex
    refine ⟨x, dx, rfl, upd_same, fun la fa H1 W1 nla nfa k1 => ⟨rfl, ?_⟩⟩
    have s1 : Same H H1 := fun b o e => k1 b o (ne_of_none e nx) (by
      rw [upd_ne (ne_of_none e nx), upd_ne (ne_of_none e ndx)]
      exact e)
    have free : ∀ {b : Addr}, upd (upd H dx (.own x)) x (.ins C dx []) b = none → H b = none := fun {b} h => by
      by_cases z : b = x
      · exact z ▸ nx
      · rw [upd_ne z] at h
        by_cases z2 : b = dx
        · exact z2 ▸ ndx
        · rw [upd_ne z2] at h
          exact h
    have s1' : ∀ b o, H b = some o → ¬ Own x la fa [] b := fun b o e z => by
      rcases z with z | z | z | z
      · rw [z, nx] at e
        cases e
      · rw [z, free nla] at e
        cases e
      · rw [z, free nfa] at e
        cases e
      · cases z
    have b1 := hs.s
    have b2 := hs.l
    refine ⟨.ref x, rfl, x, dx, _, rfl, W1.e, nP, v, rfl, ?_⟩
    refine ⟨x, dx, la, fa, v, t, w0, [], Own x la fa [], 24, 0, 0, rfl, hs.d, hs.w, ht.mono (KT.same s1), W1, ⟨fun _ h => h, fun b h => ?_⟩, ⟨w0_ok, by omega, by decide, by omega⟩, fun y H2 as2 py W2 x2 k2 => ?_⟩
    · obtain ⟨o, e, _⟩ := W1.own h
      exact ⟨o, e⟩
    obtain ⟨pa, pf, pg, rfl, pb⟩ := py
    obtain ⟨g1, g2⟩ := pO_ok (S := 24) t w0 0 0 w0_ok (by omega)
    rw [Nat.zero_add] at g1 g2
    have hfo := g1.fo
    have s2 : Same H H2 := fun b o e => k2 b o (s1' b o e) (s1 b o e)
    refine ⟨pa, _, rfl, .inl (.inl pb.t), rfl, _, _, rfl, _, _, rfl, _, _, rfl, rfl, ?_⟩
    have ms : ∀ {H3 : Hp} {b : Addr} {l : List Nat} {R : V → Hp → Prop}, H3 b = some (.lst (nIs l)) → (∀ i ∈ l, i < sz t) → l.length ≤ 4000 → (∀ T H', Same H3 H' → H3 T = none → H' T = some (.tup (nIs (ascL (sz t) l))) → R (.ref T) H') →
        rSetIL K w [.ref b] H3 fun v1 H4 => rSortedSet w [v1] H4 fun v2 H5 => kTup K v2 H5 R := fun {H3 b l R} e hl hn hR => by
      refine ⟨b, zI l, sz t, rfl, .inl (.inl (by rw [← nIs_z]; exact e)), ?_, fun k hk => ?_, fun S c hS hc => ?_⟩
      · unfold zI
        rw [List.length_map]
        exact Nat.lt_of_le_of_lt (show l.length + 1 ≤ 4001 by omega) (by decide)
      · obtain ⟨i, h1, rfl⟩ := zI_mem.mp hk
        have := hl i h1
        omega
      refine ⟨S, _, c, rfl, upd_same, by omega, fun ns L pw mem len hL => ?_⟩
      obtain rfl := asc_uniq pw mem hl
      refine .inl ⟨L, _, rfl, .inl (.inl upd_same), fun T hT => ?_⟩
      have s3 := smU (o := SetO w S (fun j => decide (j ∈ zI l)) c) hS
      have s4 := smU (o := HO.lst ((zI (ascL (sz t) l)).map V.int)) hL
      have s5 := smU (o := HO.tup ((zI (ascL (sz t) l)).map V.int)) hT
      exact hR T _ (s3.trans (s4.trans s5)) ((s3.trans s4).free hT) (by rw [upd_same, nIs_z])
    refine ⟨.ref x, rfl, x, C, dx, _, _, rfl, W2.e, T.cl, T.nFo, wf_fo, fa, rfl, ⟨_, .inl (.inl W2.f)⟩, fun D hD => ?_⟩
    refine lc_it (walk_list (K := K) (a := fa) (xs := as2.map V.ref)) (fun i H3 => ∃ bs : List Addr, H3 D = some (.lst (bs.map V.ref)) ∧ bs.length = i ∧ Same H2 H3 ∧ ∀ (j : Nat) (b : Addr) (r : List Nat), bs[j]? = some b → (pO t w0).2.fo[j]? = some r → H3 b = some (.tup (nIs (ascL (sz t) r))))
      ⟨[], upd_same, rfl, smU hD, fun j b r h => by cases h⟩ (fun i H3 _ ⟨_, _, _, s3, _⟩ => .inl (.inl (s3 _ _ W2.f))) (fun i xi H3 H3' hi hP hy => ?_) (fun H3 hP => ?_)
    · obtain ⟨bs, eD, hbl, s3, hb⟩ := hP
      obtain ⟨rfl, hxi⟩ := hy
      rw [List.getElem?_map] at hxi
      obtain ⟨ai, hai, rfl⟩ : ∃ ai, as2[i]? = some ai ∧ xi = .ref ai := by
        cases e : as2[i]? with
        | none =>
          rw [e] at hxi
          cases hxi
        | some ai =>
          rw [e] at hxi
          exact ⟨ai, rfl, (Option.some.inj hxi).symm⟩
      have hil : i < (pO t w0).2.fo.length := by
        rw [← W2.n]
        exact (List.getElem?_eq_some_iff.mp hai).1
      obtain ⟨c1, _, _⟩ := W2.at_ i ai _ hai (List.getElem?_eq_getElem hil)
      obtain ⟨d1, d2⟩ := g1.bd _ (List.getElem_mem hil)
      refine ⟨rfl, .ref ai, rfl, ?_⟩
      have mm := ms (R := fun y H' => ∃ acc, H' D = some (.lst acc) ∧ acc.length < sizeLine ∧ ∃ bs : List Addr, upd H' D (.lst (acc ++ [y])) D = some (.lst (bs.map V.ref)) ∧ bs.length = i + 1 ∧ Same H2 (upd H' D (.lst (acc ++ [y]))) ∧ ∀ (j : Nat) (b : Addr) (r : List Nat), bs[j]? = some b → (pO t w0).2.fo[j]? = some r → upd H' D (.lst (acc ++ [y])) b = some (.tup (nIs (ascL (sz t) r)))) (s3 _ _ c1) d2 (by omega) fun T H' sm hT e => ?_
      · exact mm
      · have nTD : ∀ {c : Addr} {xs : List V}, H' c = some (.tup xs) → c ≠ D := fun h => ne_of h (sm _ _ eD) (by intro z; cases z)
        refine ⟨bs.map V.ref, sm _ _ eD, ?_, bs ++ [T], by rw [upd_same, List.map_append] <;> rfl, by rw [List.length_append, hbl] <;> rfl, fun c o h => ?_, fun j b r h1 h2 => ?_⟩
        · rw [List.length_map, hbl]
          exact Nat.lt_of_le_of_lt (show i ≤ 24 by omega) (by decide)
        · rw [upd_ne (ne_of_none h hD)]
          exact sm _ _ (s3 _ _ h)
        · by_cases hj : j < bs.length
          · rw [List.getElem?_append_left hj] at h1
            have := sm _ _ (hb j b r h1 h2)
            rw [upd_ne (nTD this)]
            exact this
          · have hl := (List.getElem?_eq_some_iff.mp h1).1
            rw [List.length_append, List.length_singleton] at hl
            obtain rfl : j = i := by omega
            rw [List.getElem?_append_right (by omega), hbl, Nat.sub_self] at h1
            cases h1
            rw [List.getElem?_eq_getElem hil] at h2
            cases h2
            rw [upd_ne (nTD e)]
            exact e
    obtain ⟨bs, eD, hbl, s3, hb⟩ := hP
    have hal := W2.n
    rw [List.length_map] at hbl
    refine .inl ⟨D, _, rfl, .inl (.inl eD), fun B hB => ?_⟩
    have sB := smU (o := HO.tup (bs.map V.ref)) hB
    have W4 := (W2.up s3).up sB
    have s4 := s3.trans sB
    refine ⟨.ref x, rfl, x, C, dx, _, _, rfl, W4.e, T.cl, T.nLe, wf_le, .inl ⟨la, _, rfl, .inl (.inl W4.l), fun L hL => ?_⟩⟩
    have sL := smU (o := HO.tup (nmV (pO t w0).2.le)) hL
    have lf := g2.f.len
    have ll := g2.l.len
    refine ⟨.ref pf, rfl, ms (R := fun y H' => _) ((s4.trans sL) _ _ pb.f) (fun i hi => (g2.f.lt i hi).2) (by omega) fun F1 H5 s5 nF eF => ?_⟩
    refine ⟨.ref pg, rfl, ms (R := fun y H' => _) ((s4.trans (sL.trans s5)) _ _ pb.g) (fun i hi => (g2.l.lt i hi).2) (by omega) fun G1 H6 s6 nG eG => ?_⟩
    refine ⟨.ref B, rfl, (show 4 ≤ sizeLine by decide), fun a ha => ?_⟩
    have sa := smU (o := HO.tup [.ref L, .ref F1, .ref G1, .ref B]) ha
    have sT := sL.trans (s5.trans (s6.trans sa))
    refine q a _ ⟨L, F1, G1, B, upd_same, ?_, (s6.trans sa) _ _ eF, sa _ _ eG, bs, sT _ _ upd_same, ?_, fun j b r h1 h2 => ?_⟩ (s2.trans (s4.trans sT))
    · have e := (s5.trans (s6.trans sa)) _ _ (upd_same (H := _) (a := L) (o := HO.tup (nmV (pO t w0).2.le)))
      rw [pO_le] at e
      exact e
    · rw [hbl, List.length_map, hal]
    · rw [List.getElem?_map] at h2
      cases e : (pO t w0).2.fo[j]? with
      | none =>
        rw [e] at h2
        cases h2
      | some r0 =>
        rw [e] at h2
        cases h2
        exact (sB.trans sT) _ _ (hb j b r0 h1 e)
end
end Sf4
namespace Sf4
open PySem PySem.Spec PyProof.Rows L2 Sf
/-! ### a target that is an attribute -/
def gFld (K : PySem.W.Frag) (to : TE) (f : Str) : TG := fun v σ H Q => to σ H fun x H1 => ∃ a C dx fs, x = .ref a ∧ H1 a = some (.ins C dx fs) ∧ Cls K C ∧ NoAttr K C f ∧ fs.length < 1000 ∧ Q σ (upd H1 a (.ins C dx (putF f v fs)))
theorem pg_fld {X : Cx} {o : Expr} {f : Str} {pos : Pos} {to : TE} (ho : PE X o to)
    (ha : ∀ v, assign (.Attribute o f pos) X.env v = (do
      let ov ← holding [v] (eval o X.env)
      standAt pos.atName
      holding [v, ov] (setAttr ov f v)
      release [v, ov] []) := by intro _; rfl) : PG X (.Attribute o f pos) (gFld X.K to f) := by
  refine ⟨fun pins s σ H v u Q I r h => ?_⟩
  rw [ha]
  refine wpAny_bind (wpAny_holding (thn (ho.run pins s σ H _ I h) fun ov s1 ⟨x, H1, I1, r1, a, C, dx, fs, ex, ea, c, n, l, q⟩ => ?_))
  subst ex
  obtain rfl : ov = Value.ref a := r1
  refine wpAny_bind (wpAny_standAt (wpAny_bind (wpAny_holding (setattr_ok I1 ea c n l r fun s2 I2 => ?_))))
  exact wpAny_release ⟨σ, _, I2, q⟩
/-! ### how many places -/
def NSz : List Str := ["tree", "part", "least", "most"]
theorem scSize : FnScope NSz ["tree"] (defScope sSize) := ⟨rfl, rfl, rfl, by decide +kernel, rfl, by decide +kernel, by decide +kernel⟩
def spSize (d : Nat) : Sp := fun vs H Q _ => ∃ (v : V) (t : Tr), vs = [v] ∧ dep t ≤ d ∧ wid t ≤ 1000 ∧ TrO H v t ∧ ∀ H', Same H H' → Q (.int (sz t)) H'
structure ST (K : PySem.W.Frag) (mg : Str → Option Value) (tk : Nat → Tok) (g : Addr) (gd : FuncData) : Prop where
  F : Fun K "size_of" "size_of" sSize g gd
  b : Binds K gd ["tree"] []
  gg : mg "size_of" = some (.ref g)
  gPl : mg "PLACE" = some (.str plW (tk 9))
  gCh : mg "CHAIN" = some (.str chW (tk 10))
  gAl : mg "CHOICE" = some (.str alW (tk 11))
  gCo : mg "COUNT" = some (.str coW (tk 12))
  gCa : mg "CAPTURE" = some (.str caW (tk 13))
  zsum : mg "sum" = none
  zmax : mg "max" = none
section
variable {P : Program} {w : World} {K : PySem.W.Frag} {mg : Str → Option Value} {base : Heap} {tk : Nat → Tok} {g : Addr} {gd : FuncData}
theorem szL_sum : ∀ l : List Tr, ((l.map fun t => ((sz t : Nat) : Int)).sum) = ((szL l : Nat) : Int)
  | [] => rfl
  | t :: r => by
    rw [List.map_cons, List.sum_cons, szL_sum r]
    show _ = ((sz t + szL r : Nat) : Int)
    omega
theorem ok_size1 (T : ST K mg tk g gd) {k d : Nat} {spA : Sp} (G : FnOk P w K mg base CX0 k g gd ["tree"] spA) (hA : ∀ e vs H Q E, e + 1 ≤ d → spSize e vs H Q E → spA vs H Q E) : FnOk P w K mg base CX0 (k + 1) g gd ["tree"] (spSize d) := by
  refine T.F.ok scSize (fun vs H Q E h => ?_) (fun cdv A outer s H vs Q E hr h => ?_)
  · obtain ⟨v, t, rfl, _⟩ := h
    rfl
  · obtain ⟨v, t, rfl, hd, hw, ht, q⟩ := h
    refine ⟨_, pss_cons (ps_if (pt_cmpR op_eq (pe_ix ix_tup (pv 0) pe_int (fun _ _ => rfl)) (pe_glob (v := .str plW) rfl T.gPl ⟨_, rfl⟩) (nomark _)) (pss_one (ps_ret pe_int)) pss_nil)
      (pss_cons (ps_if (pt_cmpR op_in_seq (pe_ix ix_tup (pv 0) pe_int (fun _ _ => rfl)) (pe_tup (pa_cons (pe_glob (v := .str chW) rfl T.gCh ⟨_, rfl⟩) (pa_cons (pe_glob (v := .str alW) rfl T.gAl ⟨_, rfl⟩) pa_nil))) rfl)
          (pss_one (ps_ret (pe_callB (cr_sum rfl) (by rfl) T.zsum (by decide +kernel) (pa_cons (pe_lc (own := [("part", 1)]) (g := gName 1) (tt := tYes) (te := tCall spA [] E0 (tCons (tVar 1) tNil)) rfl scSize.nd (pi_tup (pe_ix ix_tup (pv 0) pe_int (fun _ _ => rfl))) (blkOk_by (N := NSz) (sc := defScope sSize) (by decide +kernel))
              (fun _ _ _ _ _ => pg_name (i := 1) scSize.nd rfl (Or.inl rfl)) (fun _ _ _ _ _ => pts_nil) (fun _ _ _ _ _ => pe_call G hr (by rfl) T.gg T.F.kp T.b .nil pass0 (pa_cons (pv 1) pa_nil))) pa_nil)))) pss_nil)
      (pss_cons (ps_if (pt_cmpR op_eq (pe_ix ix_tup (pv 0) pe_int (fun _ _ => rfl)) (pe_glob (v := .str caW) rfl T.gCa ⟨_, rfl⟩) (nomark _)) (pss_one (ps_ret (pe_call G hr (by rfl) T.gg T.F.kp T.b .nil pass0 (pa_cons (pe_ix ix_tup (pv 0) pe_int (fun _ _ => rfl)) pa_nil)))) pss_nil)
      (pss_cons (ps_if (pt_cmpR op_ne (pe_ix ix_tup (pv 0) pe_int (fun _ _ => rfl)) (pe_glob (v := .str coW) rfl T.gCo ⟨_, rfl⟩) (nomark _)) (pss_one (ps_ret pe_int)) pss_nil)
      (pss_cons (ps_asg (pe_slice sl_tup (pv 0) (po_some pe_int) po_none) (pg_tup rfl (pgs_cons (pg_name (i := 2) scSize.nd rfl (.inl rfl)) (pgs_cons (pg_name (i := 3) scSize.nd rfl (.inl rfl)) (pgs_cons (pg_name (i := 1) scSize.nd rfl (.inl rfl)) pgs_nil)))))
      (pss_one (ps_ret (pe_op op_mul (pe_ifExp (pt_cmpR op_isN (pv 3) pe_non (nomark _)) (pe_callB (call_max2 rfl) (by rfl) T.zmax (by decide +kernel) (pa_cons (pv 2) (pa_cons pe_int pa_nil))) (pv 3)) (pe_call G hr (by rfl) T.gg T.F.kp T.b .nil pass0 (pa_cons (pv 1) pa_nil))))))))), ?_⟩
    by_cases hp : ∃ s, t = .place s
    · obtain ⟨s, rfl⟩ := hp
      cases ht with
      | place e =>
      rename_i a
      refine ⟨.ref a, rfl, a, _, 0, _, rfl, rfl, .inl (.inl e), atI_nat (j := 0) rfl, rfl, _, rfl, ?_⟩
      rw [decide_eq_true rfl]
      exact iteT (q H (Same.refl H))
    obtain ⟨a, X, rest, rfl, e, n1, hX⟩ : ∃ a X rest, v = .ref a ∧ H a = some (.tup (.str X :: rest)) ∧ ¬ (V.str X = V.str plW) ∧
        ((t = .empty ∧ X = emW) ∨ (∃ b vs l, (t = .chain l ∧ X = chW ∨ t = .choice l ∧ X = alW) ∧ rest = [.ref b] ∧ H b = some (.tup vs) ∧ TrOs H vs l) ∨ (∃ n z u, t = .capture n u ∧ X = caW ∧ rest = [.str (tx n), z] ∧ TrO H z u) ∨ (∃ a b z u, t = .count a b u ∧ X = coW ∧ rest = [.int a, mst b, z] ∧ TrO H z u)) := by
      cases ht with
      | place e => exact absurd ⟨_, rfl⟩ hp
      | capture e r => exact ⟨_, _, _, rfl, e, by decide +kernel, .inr (.inr (.inl ⟨_, _, _, rfl, rfl, rfl, r⟩))⟩
      | count e r => exact ⟨_, _, _, rfl, e, by decide +kernel, .inr (.inr (.inr ⟨_, _, _, _, rfl, rfl, rfl, r⟩))⟩
      | empty e => exact ⟨_, _, _, rfl, e, by decide +kernel, .inl ⟨rfl, rfl⟩⟩
      | chain e e2 r => exact ⟨_, _, _, rfl, e, by decide +kernel, .inr (.inl ⟨_, _, _, .inl ⟨rfl, rfl⟩, rfl, e2, r⟩)⟩
      | choice e e2 r => exact ⟨_, _, _, rfl, e, by decide +kernel, .inr (.inl ⟨_, _, _, .inr ⟨rfl, rfl⟩, rfl, e2, r⟩)⟩
    refine ⟨.ref a, rfl, a, _, 0, _, rfl, rfl, .inl (.inl e), atI_nat (j := 0) rfl, rfl, _, rfl, ?_⟩
    rw [decide_eq_false n1]
    refine iteF ⟨.ref a, rfl, a, _, 0, _, rfl, rfl, .inl (.inl e), atI_nat (j := 0) rfl, (show 2 ≤ sizeLine by decide), fun T0 h0 => ?_⟩
    have s0 := smU (o := HO.tup [.str chW, .str alW]) h0
    refine ⟨T0, _, rfl, .inr (.inl (.inl upd_same)), rfl, rfl, _, rfl, ?_⟩
    show if inV (V.str X) [V.str chW, V.str alW] = true then _ else _
    have e1 := s0 _ _ e
    rcases hX with ⟨rfl, rfl⟩ | ⟨b, vs, l, hXl, rfl, eb, os⟩ | ⟨n, z, u, rfl, rfl, rfl, r⟩ | ⟨a0, b0, z, u, rfl, rfl, rfl, r⟩
    · rw [show inV (V.str emW) [V.str chW, V.str alW] = false by decide +kernel]
      refine iteF ⟨.ref a, rfl, a, _, 0, _, rfl, rfl, .inl (.inl e1), atI_nat (j := 0) rfl, rfl, _, rfl, ?_⟩
      rw [decide_eq_false (show ¬ (V.str emW = V.str caW) by decide +kernel)]
      refine iteF ⟨.ref a, rfl, a, _, 0, _, rfl, rfl, .inl (.inl e1), atI_nat (j := 0) rfl, rfl, _, rfl, ?_⟩
      rw [decide_eq_false (show ¬ (V.str emW = V.str coW) by decide +kernel)]
      exact iteT (q _ s0)
    · have hin : inV (V.str X) [V.str chW, V.str alW] = true := by
        rcases hXl with ⟨_, rfl⟩ | ⟨_, rfl⟩ <;> decide +kernel
      have hd : depL l + 1 ≤ d := by
        rcases hXl with ⟨rfl, _⟩ | ⟨rfl, _⟩ <;> exact hd
      have hw : max l.length (widL l) ≤ 1000 := by
        rcases hXl with ⟨rfl, _⟩ | ⟨rfl, _⟩ <;> exact hw
      have hsz : sz t = szL l := by
        rcases hXl with ⟨rfl, _⟩ | ⟨rfl, _⟩ <;> rfl
      rw [hin]
      have hvl := os.len
      refine iteT ⟨.ref a, rfl, a, _, 1, _, rfl, rfl, .inl (.inl e1), atI_nat (j := 1) rfl, b, rfl, ⟨_, .inl (.inl (s0 _ _ eb))⟩, fun D hD => ?_⟩
      refine lc_it (walk_tup (K := K) (a := b) (xs := vs)) (fun i H3 => H3 D = some (.lst (((l.take i).map fun t => ((sz t : Nat) : Int)).map V.int)) ∧ Same H H3)
        ⟨upd_same, s0.trans (smU hD)⟩ (fun i H3 _ hP => .inl (.inl (hP.2 _ _ eb))) (fun i xi H3 H3' hi hP hy => ?_) (fun H3 hP => ?_)
      · obtain ⟨eD, s3⟩ := hP
        obtain ⟨rfl, hxi⟩ := hy
        obtain ⟨ti, hti, oti⟩ := os.get hxi
        obtain ⟨d1, d2⟩ := depL_get hti
        obtain ⟨hil, hie⟩ := List.getElem?_eq_some_iff.mp hti
        have ht : l.take (i + 1) = l.take i ++ [ti] := by rw [List.take_succ_eq_append_getElem hil, hie]
        refine ⟨rfl, xi, rfl, hA (depL l) _ _ _ _ hd ⟨xi, ti, rfl, d1, by omega, oti.mono (KT.same s3), fun H4 s4 => ?_⟩⟩
        refine ⟨_, s4 _ _ eD, ?_, ?_, fun c o h => ?_⟩
        · rw [List.length_map, List.length_map, List.length_take]
          exact Nat.lt_of_le_of_lt (show min i l.length ≤ 1000 by omega) (by decide)
        · rw [upd_same, ht, List.map_append, List.map_append] <;> rfl
        · rw [upd_ne (ne_of_none (s0 _ _ h) hD)]
          exact s4 _ _ (s3 _ _ h)
      · obtain ⟨eD, s3⟩ := hP
        rw [hvl, List.take_of_length_le (Nat.le_refl _)] at eD
        refine ⟨D, _, rfl, .inl (.inl eD), ?_⟩
        rw [szL_sum, ← hsz]
        exact q _ s3
    · have hd : dep u + 1 ≤ d := hd
      rw [show inV (V.str caW) [V.str chW, V.str alW] = false by decide +kernel]
      refine iteF ⟨.ref a, rfl, a, _, 0, _, rfl, rfl, .inl (.inl e1), atI_nat (j := 0) rfl, rfl, _, rfl, ?_⟩
      rw [decide_eq_true rfl]
      refine iteT ⟨.ref a, rfl, a, _, 2, _, rfl, rfl, .inl (.inl e1), atI_nat (j := 2) rfl, ?_⟩
      exact hA (dep u) _ _ _ _ hd ⟨z, u, rfl, Nat.le_refl _, hw, r.mono (KT.same s0), fun H4 s4 => q H4 (s0.trans s4)⟩
    · have hd : dep u + 1 ≤ d := hd
      have hw : max (many a0 b0) (wid u) ≤ 1000 := hw
      rw [show inV (V.str coW) [V.str chW, V.str alW] = false by decide +kernel]
      refine iteF ⟨.ref a, rfl, a, _, 0, _, rfl, rfl, .inl (.inl e1), atI_nat (j := 0) rfl, rfl, _, rfl, ?_⟩
      rw [decide_eq_false (show ¬ (V.str coW = V.str caW) by decide +kernel)]
      refine iteF ⟨.ref a, rfl, a, _, 0, _, rfl, rfl, .inl (.inl e1), atI_nat (j := 0) rfl, rfl, _, rfl, ?_⟩
      rw [decide_eq_true rfl]
      refine iteF ⟨.ref a, rfl, 1, rfl, a, _, rfl, .inl (.inl e1), fun z => absurd z.1 (show ¬ (HT.sIx 4 0 (some 1) = 0) by decide), fun T1 h1 => ?_⟩
      have s1 := smU (o := HO.tup (cutV [V.str coW, .int a0, mst b0, z] (some 1) none)) h1
      refine ⟨T1, _, rfl, .inl (.inl upd_same), rfl, _, _, rfl, _, _, rfl, _, _, rfl, rfl, ?_⟩
      have mm : ∀ (Q2 : VK), Q2 (.int (many a0 b0 : Nat)) (upd (upd H T0 (.tup [.str chW, .str alW])) T1 (.tup (cutV [V.str coW, .int a0, mst b0, z] (some 1) none))) → tIf (tTest (tOp (fun x y H Q => y = V.non ∧ Q (V.bl (decide (x = V.non))) H) (tVar 3) (tC V.non))) (tCB (fun xs H Q => ∃ i j, xs = [V.int i, V.int j] ∧ Q (V.int (if j > i then j else i)) H) (tCons (tVar 2) (tCons (tC (V.int 1)) tNil))) (tVar 3) [some (.ref a), some z, some (.int a0), some (mst b0)] (upd (upd H T0 (.tup [.str chW, .str alW])) T1 (.tup (cutV [V.str coW, .int a0, mst b0, z] (some 1) none))) Q2 := fun Q2 h2 => by
        refine ⟨mst b0, rfl, rfl, _, rfl, ?_⟩
        cases b0 with
        | none =>
          refine iteT ⟨_, rfl, (a0 : Int), 1, rfl, ?_⟩
          have e : (if (1 : Int) > (a0 : Int) then (1 : Int) else (a0 : Int)) = ((many a0 none : Nat) : Int) := by
            show _ = ((max a0 1 : Nat) : Int)
            split <;> omega
          rw [e]
          exact h2
        | some m => exact iteF ⟨_, rfl, h2⟩
      refine mm _ ?_
      refine ⟨z, rfl, hA (dep u) _ _ _ _ hd ⟨z, u, rfl, Nat.le_refl _, by omega, r.mono (KT.same (s0.trans s1)), fun H4 s4 => ?_⟩⟩
      refine ⟨_, _, rfl, rfl, .inl ⟨by omega, by omega⟩, ?_⟩
      have q1 := q H4 ((s0.trans s1).trans s4)
      have e5 : ((sz (.count a0 b0 u) : Nat) : Int) = ((many a0 b0 : Nat) : Int) * ((sz u : Nat) : Int) := by
        show ((many a0 b0 * sz u : Nat) : Int) = _
        rw [Int.natCast_mul]
      rw [e5] at q1
      exact q1
theorem ok_size (T : ST K mg tk g gd) : ∀ d, FnOk P w K mg base CX0 (1 + d) g gd ["tree"] (spSize d)
  | 0 => ok_size1 T (k := 0) (d := 0) (spA := spNo) ok_no (fun e _ _ _ _ h => absurd h (by omega))
  | d + 1 => (ok_size1 T (d := d + 1) (spA := spSize d) (ok_size T d) (fun e vs H Q E h ⟨v, t, r, hd, q⟩ => ⟨v, t, r, Nat.le_trans hd (by omega), q⟩)).mono (by omega)
end
end Sf4
namespace Sf4
open PySem PySem.Spec PyProof.Rows L2 Sf
abbrev sPI : Stmt := inClass cPat 0
abbrev sPEq : Stmt := inClass cPat 1
/-- what Pattern's methods find -/
structure PatT (K : PySem.W.Frag) (mg : Str → Option Value) (C : Addr) (f : Nat → Addr) (fd : Nat → FuncData) (tk : Nat → Tok) (gR gW : Addr) (dR dW : FuncData) : Prop where
  cl : Cls K C
  n1 : NoAttr K C "is_bound_left"
  n2 : NoAttr K C "tree"
  n3 : NoAttr K C "is_bound_right"
  n4 : NoAttr K C "string"
  n5 : NoAttr K C "names"
  n6 : NoAttr K C "places"
  n7 : NoAttr K C "first"
  n8 : NoAttr K C "last"
  n9 : NoAttr K C "later_places"
  mI : Mt K C "__init__" "Pattern.__init__" sPI ["self", "string"] (f 0) (fd 0)
  mE : Mt K C "__eq__" "Pattern.__eq__" sPEq ["self", "other"] (f 1) (fd 1)
  mkC : Mk K C (f 0)
  gC : mg "Pattern" = some (.ref C)
  FR : Fun K "read_pattern" "read_pattern" sRp gR dR
  bR : Binds K dR ["value"] []
  gR_ : mg "read_pattern" = some (.ref gR)
  FW : Fun K "written" "written" sWrt gW dW
  bW : Binds K dW ["tree"] []
  gW_ : mg "written" = some (.ref gW)
  gMP : mg "MOST_PLACES_patterns" = some (.int 24 (tk 15))
  ztup : mg "tuple" = none
  zisi : mg "isinstance" = none
  ha : PySem.W.findIn K (.ref C) "__class__" = some (some (.builtin "object.__class__"))
  hn : PySem.W.specialIn K (.builtin "object.__class__") "__get__" = some (some (.builtin "getset_descriptor.__get__"))
  ht : PySem.W.takesIn K (.builtin "object.__class__") = some true
  hm : PySem.W.mroIn K C (.type "object") = some true
  k1 : PySem.W.kitOne K (.ref C) (.ref C) = some true
  k2 : PySem.W.kitOne K (.type "str") (.ref C) = some false
  sb : PySem.W.subIn K (.type "str") (.ref C) = some false
def pf9 (l r : Bool) (tv : V) (Z : List Nat) (nm pl fi la be : Addr) : List (Str × V) := [("is_bound_left", .bl l), ("tree", tv), ("is_bound_right", .bl r), ("string", .str (tx Z)), ("names", .ref nm), ("places", .ref pl), ("first", .ref fi), ("last", .ref la), ("later_places", .ref be)]
/-- the pattern of a string at x -/
def PatO (C : Addr) (H : Hp) (x : Addr) (Z : List Nat) (l : Bool) (t : Tr) (r : Bool) (nm : Nm) : Prop := ∃ dx tv na pl fi la be, H x = some (.ins C dx (pf9 l r tv Z na pl fi la be)) ∧ TrO H tv t ∧ H na = some (.tup (nmV nm)) ∧ H pl = some (.tup (nmV (spts t))) ∧
  H fi = some (.tup (nIs (ascL (sz t) (pO t w0).1.2.1))) ∧ H la = some (.tup (nIs (ascL (sz t) (pO t w0).1.2.2))) ∧ BehT H be ((pO t w0).2.fo.map (ascL (sz t)))
theorem PatO.mono {C : Addr} {H H' : Hp} {x : Addr} {Z : List Nat} {l : Bool} {t : Tr} {r : Bool} {nm : Nm} (h : PatO C H x Z l t r nm) (k : Same H H') : PatO C H' x Z l t r nm := by
  obtain ⟨dx, tv, na, pl, fi, la, be, h1, h2, h3, h4, h5, h6, h7⟩ := h
  exact ⟨dx, tv, na, pl, fi, la, be, k _ _ h1, h2.mono (KT.same k), k _ _ h3, k _ _ h4, k _ _ h5, k _ _ h6, h7.mono (KT.same k)⟩
def spPI (C : Addr) : Sp := fun vs H Q _ => ∃ (Z : List Nat) (x dx : Addr) (l : Bool) (t : Tr) (r : Bool) (nm : Nm), vs = [.ref x, .str (tx Z)] ∧ H x = some (.ins C dx []) ∧ Z.length ≤ 60 ∧ RWhole Z l t r nm ∧ Sml t ∧
  ∀ H', PatO C H' x Z l t r nm → (∀ b o, b ≠ x → H b = some o → H' b = some o) → Q .non H'
theorem scPI : FnScope ["self", "string", "reader", "parts"] ["self", "string"] (defScope sPI) := ⟨rfl, rfl, rfl, by decide +kernel, rfl, by decide +kernel, by decide +kernel⟩
theorem scPEq : FnScope ["self", "other"] ["self", "other"] (defScope sPEq) := ⟨rfl, rfl, rfl, by decide +kernel, rfl, by decide +kernel, by decide +kernel⟩
theorem KT.ins {H : Hp} {a C dx dx' : Addr} {fs gs : List (Str × V)} (h : H a = some (.ins C dx fs)) : KT H (upd H a (.ins C dx' gs)) := fun b zs e => by
  rw [upd_ne (ne_of e h (by intro z; cases z))]
  exact e
section
variable {P : Program} {w : World} {K : PySem.W.Frag} {mg : Str → Option Value} {base : Heap} {C : Addr} {f : Nat → Addr} {fd : Nat → FuncData} {tk : Nat → Tok} {gR gW gS : Addr} {dR dW dS : FuncData}
variable {RC WC : Addr} {rf_ wf' : Nat → Addr} {rd wd : Nat → FuncData} {cd : Addr} {ces : Array DictEntry} {cn : Nat} {ct : Nat → Addr}
theorem ok_pi (T : PatT K mg C f fd tk gR gW dR dW) (TR : RT K w mg RC rf_ rd tk cd ces cn ct) (TW : WT K mg WC wf' wd tk) (TS : ST K mg tk gS dS) : FnOk P w K mg base CX0 85 (f 0) (fd 0) ["self", "string"] (spPI C) := by
  refine T.mI.F.ok scPI (fun vs H Q E h => ?_) (fun cdv A outer s H vs Q E hr h => ?_)
  · obtain ⟨Z, x, dx, l, t, r, nm, rfl, _⟩ := h
    rfl
  · obtain ⟨Z, x, dx, l, t, r, nm, rfl, hx, hZ, hw, hs, q⟩ := h
    have GR := ok_rp (P := P) (base := base) TR T.FR
    have GW := ok_written (P := P) (w := w) (base := base) TW T.FW
    have GS := ok_size (P := P) (w := w) (base := base) TS 40
    refine ⟨_, pss_cons (ps_asg (pe_call GR (hr.mono (by decide)) rfl T.gR_ T.FR.kp T.bR .nil pass0 (pa_cons (pv 1) pa_nil)) (pg_tup rfl (pgs_cons (pg_name (i := 2) scPI.nd rfl (.inl rfl)) (pgs_cons (pg_name (i := 3) scPI.nd rfl (.inl rfl)) pgs_nil))))
      (pss_cons (ps_asg (pv 3) (pg_tup rfl (pgs_cons (pg_fld (pv 0)) (pgs_cons (pg_fld (pv 0)) (pgs_cons (pg_fld (pv 0)) pgs_nil)))))
      (pss_cons (ps_if (pt_cmpR op_gt (pe_call GS (hr.mono (by decide)) rfl TS.gg TS.F.kp TS.b .nil pass0 (pa_cons (pe_fld (pv 0) rfl) pa_nil)) (pe_glob (v := .int 24) rfl T.gMP ⟨_, rfl⟩) (nomark _)) pss_never pss_nil)
      (pss_cons (ps_fld (pv 0) (pv 1) rfl)
      (pss_cons (ps_fld (pv 0) (pe_tupleOf (by rfl) T.ztup (pe_fld (pv 2) rfl)) rfl)
      (pss_one (ps_asg (pe_call GW hr rfl T.gW_ T.FW.kp T.bW .nil pass0 (pa_cons (pe_fld (pv 0) rfl) pa_nil)) (pg_tup rfl (pgs_cons (pg_fld (pv 0)) (pgs_cons (pg_fld (pv 0)) (pgs_cons (pg_fld (pv 0)) (pgs_cons (pg_fld (pv 0)) pgs_nil))))))))))), ?_⟩
    refine ⟨.str (tx Z), rfl, Z, l, t, r, nm, rfl, hZ, hw, fun a b p rx rl v H1 ea eb ot R s1 => ⟨a, _, rfl, .inl (.inl ea), rfl, _, _, rfl, _, _, rfl, rfl, ?_⟩⟩
    have hx1 := s1 _ _ hx
    -- three attributes
    refine ⟨.ref b, rfl, b, _, rfl, .inl (.inl eb), rfl, _, _, rfl, .ref x, rfl, x, C, dx, _, rfl, hx1, T.cl, T.n1, (show 0 < 1000 by decide), _, _, rfl, .ref x, rfl, x, C, dx, _, rfl, upd_same, T.cl, T.n2, (show 1 < 1000 by decide), _, _, rfl, .ref x, rfl, x, C, dx, _, rfl, upd_same, T.cl, T.n3, (show 2 < 1000 by decide), rfl, ?_⟩
    have pnx : p ≠ x := fun z => by
      have e := R.e
      rw [z, hx1] at e
      cases e
    have lnx : rl ≠ x := ne_of R.n hx1 (by intro z; cases z)
    have kt1 : KT H1 (upd (upd (upd H1 x (.ins C dx (putF "is_bound_left" (.bl l) []))) x (.ins C dx (putF "tree" v (putF "is_bound_left" (.bl l) [])))) x (.ins C dx (putF "is_bound_right" (.bl r) (putF "tree" v (putF "is_bound_left" (.bl l) []))))) := ((KT.ins hx1).trans (KT.ins upd_same)).trans (KT.ins upd_same)
    have st1 : ∀ c o, c ≠ x → H1 c = some o → (upd (upd (upd H1 x (.ins C dx (putF "is_bound_left" (.bl l) []))) x (.ins C dx (putF "tree" v (putF "is_bound_left" (.bl l) [])))) x (.ins C dx (putF "is_bound_right" (.bl r) (putF "tree" v (putF "is_bound_left" (.bl l) []))))) c = some o := fun c o n e => by
      rw [upd_ne n, upd_ne n, upd_ne n]
      exact e
    have e1 : (upd (upd (upd H1 x (.ins C dx (putF "is_bound_left" (.bl l) []))) x (.ins C dx (putF "tree" v (putF "is_bound_left" (.bl l) [])))) x (.ins C dx (putF "is_bound_right" (.bl r) (putF "tree" v (putF "is_bound_left" (.bl l) []))))) x = some (.ins C dx (([("is_bound_left", V.bl l), ("tree", v), ("is_bound_right", V.bl r)] : List (Str × V)))) := upd_same.trans rfl
    generalize (upd (upd (upd H1 x (.ins C dx (putF "is_bound_left" (.bl l) []))) x (.ins C dx (putF "tree" v (putF "is_bound_left" (.bl l) [])))) x (.ins C dx (putF "is_bound_right" (.bl r) (putF "tree" v (putF "is_bound_left" (.bl l) []))))) = H2 at kt1 st1 e1 ⊢
    -- not too many places
    refine ⟨.ref x, rfl, x, C, dx, _, v, rfl, e1, T.cl, T.n2, rfl, v, t, rfl, hs.d, hs.w, ot.mono kt1, fun H3 s3 => ⟨_, _, rfl, rfl, _, rfl, ?_⟩⟩
    have b1 := hs.s
    rw [decide_eq_false (show ¬ ((24 : Int) < ((sz t : Nat) : Int)) by omega)]
    refine iteF ⟨.str (tx Z), rfl, .ref x, rfl, x, C, dx, _, rfl, s3 _ _ e1, T.cl, T.n4, (show 3 < 1000 by decide), ?_⟩
    have kt3 : KT H1 (upd H3 x (.ins C dx (putF "string" (.str (tx Z)) ([("is_bound_left", V.bl l), ("tree", v), ("is_bound_right", V.bl r)] : List (Str × V))))) := (kt1.trans (KT.same s3)).trans (KT.ins (s3 _ _ e1))
    have st3 : ∀ c o, c ≠ x → H1 c = some o → (upd H3 x (.ins C dx (putF "string" (.str (tx Z)) ([("is_bound_left", V.bl l), ("tree", v), ("is_bound_right", V.bl r)] : List (Str × V))))) c = some o := fun c o n e => by
      rw [upd_ne n]
      exact s3 _ _ (st1 c o n e)
    have e3 : (upd H3 x (.ins C dx (putF "string" (.str (tx Z)) ([("is_bound_left", V.bl l), ("tree", v), ("is_bound_right", V.bl r)] : List (Str × V))))) x = some (.ins C dx ([("is_bound_left", V.bl l), ("tree", v), ("is_bound_right", V.bl r), ("string", .str (tx Z))] : List (Str × V))) := upd_same.trans rfl
    generalize (upd H3 x (.ins C dx (putF "string" (.str (tx Z)) ([("is_bound_left", V.bl l), ("tree", v), ("is_bound_right", V.bl r)] : List (Str × V))))) = H4 at kt3 st3 e3 ⊢
    refine ⟨.ref p, rfl, p, RC, rx, _, _, rfl, st3 _ _ pnx R.e, TR.cl, TR.nNm, rf_names, .inl ⟨rl, _, rfl, .inl (.inl (st3 _ _ lnx R.n)), fun na hna => ?_⟩⟩
    have sn := smU (o := HO.tup (nmV nm)) hna
    refine ⟨.ref x, rfl, x, C, dx, _, rfl, sn _ _ e3, T.cl, T.n5, (show 4 < 1000 by decide), ?_⟩
    have nna : na ≠ x := fun z => by
      rw [z, e3] at hna
      cases hna
    have kt5 : KT H1 (upd (upd H4 na (.tup (nmV nm))) x (.ins C dx (putF "names" (.ref na) ([("is_bound_left", V.bl l), ("tree", v), ("is_bound_right", V.bl r), ("string", .str (tx Z))] : List (Str × V))))) := (kt3.trans (KT.same sn)).trans (KT.ins (sn _ _ e3))
    have st5 : ∀ c o, c ≠ x → H1 c = some o → (upd (upd H4 na (.tup (nmV nm))) x (.ins C dx (putF "names" (.ref na) ([("is_bound_left", V.bl l), ("tree", v), ("is_bound_right", V.bl r), ("string", .str (tx Z))] : List (Str × V))))) c = some o := fun c o n e => by
      rw [upd_ne n]
      exact sn _ _ (st3 c o n e)
    have e5 : (upd (upd H4 na (.tup (nmV nm))) x (.ins C dx (putF "names" (.ref na) ([("is_bound_left", V.bl l), ("tree", v), ("is_bound_right", V.bl r), ("string", .str (tx Z))] : List (Str × V))))) x = some (.ins C dx ([("is_bound_left", V.bl l), ("tree", v), ("is_bound_right", V.bl r), ("string", .str (tx Z)), ("names", .ref na)] : List (Str × V))) := upd_same.trans rfl
    have en : (upd (upd H4 na (.tup (nmV nm))) x (.ins C dx (putF "names" (.ref na) ([("is_bound_left", V.bl l), ("tree", v), ("is_bound_right", V.bl r), ("string", .str (tx Z))] : List (Str × V))))) na = some (.tup (nmV nm)) := (upd_ne nna).trans upd_same
    generalize (upd (upd H4 na (.tup (nmV nm))) x (.ins C dx (putF "names" (.ref na) ([("is_bound_left", V.bl l), ("tree", v), ("is_bound_right", V.bl r), ("string", .str (tx Z))] : List (Str × V))))) = H5 at kt5 st5 e5 en ⊢
    refine ⟨.ref x, rfl, x, C, dx, _, v, rfl, e5, T.cl, T.n2, rfl, v, t, rfl, ot.mono kt5, hs, fun a4 H6 wo s6 => ?_⟩
    obtain ⟨pl, fi, la, be, h1, h2, h3, h4, h5⟩ := wo.ex
    have e6 := s6 _ _ e5
    refine ⟨a4, _, rfl, .inl (.inl h1), rfl, _, _, rfl, .ref x, rfl, x, C, dx, _, rfl, e6, T.cl, T.n6, (show 5 < 1000 by decide), _, _, rfl, .ref x, rfl, x, C, dx, _, rfl, upd_same, T.cl, T.n7, (show 6 < 1000 by decide), _, _, rfl, .ref x, rfl, x, C, dx, _, rfl, upd_same, T.cl, T.n8, (show 7 < 1000 by decide), _, _, rfl, .ref x, rfl, x, C, dx, _, rfl, upd_same, T.cl, T.n9, (show 8 < 1000 by decide), rfl, ?_⟩
    have kt6 : KT H6 _ := (((KT.ins (dx' := dx) (gs := putF "places" (.ref pl) ([("is_bound_left", V.bl l), ("tree", v), ("is_bound_right", V.bl r), ("string", .str (tx Z)), ("names", .ref na)] : List (Str × V))) e6).trans (KT.ins (dx' := dx) (gs := putF "first" (.ref fi) (putF "places" (.ref pl) ([("is_bound_left", V.bl l), ("tree", v), ("is_bound_right", V.bl r), ("string", .str (tx Z)), ("names", .ref na)] : List (Str × V)))) upd_same)).trans (KT.ins (dx' := dx) (gs := putF "last" (.ref la) (putF "first" (.ref fi) (putF "places" (.ref pl) ([("is_bound_left", V.bl l), ("tree", v), ("is_bound_right", V.bl r), ("string", .str (tx Z)), ("names", .ref na)] : List (Str × V))))) upd_same)).trans
      (KT.ins (dx' := dx) (gs := putF "later_places" (.ref be) (putF "last" (.ref la) (putF "first" (.ref fi) (putF "places" (.ref pl) ([("is_bound_left", V.bl l), ("tree", v), ("is_bound_right", V.bl r), ("string", .str (tx Z)), ("names", .ref na)] : List (Str × V)))))) upd_same)
    refine q _ ⟨dx, v, na, pl, fi, la, be, upd_same.trans rfl, ((ot.mono kt5).mono (KT.same s6)).mono kt6, kt6 _ _ (s6 _ _ en), kt6 _ _ h2, kt6 _ _ h3, kt6 _ _ h4, h5.mono kt6⟩ fun c o n e => ?_
    rw [upd_ne n, upd_ne n, upd_ne n, upd_ne n]
    exact s6 _ _ (st5 c o n (s1 _ _ e))
/-! ### equal patterns -/
def spPEq (C : Addr) : Sp := fun vs H Q _ => ∃ (a dx : Addr) (fs : List (Str × V)) (y : V) (z : Str) (b : Bool), vs = [.ref a, y] ∧ H a = some (.ins C dx fs) ∧ fs.lookup ("string" : Str) = some (.str z) ∧
  ((∃ c dy gs u, y = .ref c ∧ H c = some (.ins C dy gs) ∧ gs.lookup ("string" : Str) = some (.str u) ∧ b = decide (V.str z = V.str u)) ∨ (∃ u, y = .str u ∧ b = false)) ∧ Q (.bl b) H
theorem ok_peq (T : PatT K mg C f fd tk gR gW dR dW) : FnOk P w K mg base CX0 1 (f 1) (fd 1) ["self", "other"] (spPEq C) := by
  refine T.mE.F.ok scPEq (fun vs H Q E h => ?_) (fun cdv A outer s H vs Q E hr h => ?_)
  · obtain ⟨a, dx, fs, y, z, b, rfl, _⟩ := h
    rfl
  · obtain ⟨a, dx, fs, y, z, b, rfl, ha, hl, hy, q⟩ := h
    refine ⟨_, pss_one (ps_ret (pe_and (pe_callB call_isi (by rfl) T.zisi PyProof.Rows.boot_isinstance (pa_cons (pv 1) (pa_cons (pe_glob (v := .ref C) rfl T.gC rfl) pa_nil))) (pe_one (pe_cmpR op_eq (pe_fld (pv 0) rfl) (pe_fld (pv 1) rfl) (nomark _))))), ?_⟩
    rcases hy with ⟨c, dy, gs, u, rfl, hc, hg, rfl⟩ | ⟨u, rfl, rfl⟩
    · refine ⟨.ref c, rfl, .ref c, .ref C, _, _, true, rfl, .own C, .base (.ins hc T.cl T.ha T.hn T.ht T.hm), T.k1, true, rfl, iteT ?_⟩
      exact ⟨.ref a, rfl, a, C, dx, fs, _, rfl, ha, T.cl, T.n4, hl, .ref c, rfl, c, C, dy, gs, _, rfl, hc, T.cl, T.n4, hg, rfl, q⟩
    · exact ⟨.str u, rfl, .str u, .ref C, _, _, false, rfl, .own C, .base (.str u), T.k2, false, rfl, iteF q⟩
/-- == by an own __eq__ -/
theorem op_eqOwn {X : Cx} {n : Nat} {g : Addr} {gd : FuncData} {ps : List Str} {sp : Sp} {D : Addr} (F : FnOk X.prog X.w X.K X.mg X.base CX0 n g gd ps sp) (hs : PySem.W.findIn X.K (.ref D) "__eq__" = some (some (.ref g))) (hf : PySem.W.isFn X.K (.ref g) = true) (hb : Binds X.K gd ps []) (hr : Room n X.A) (hsub : PySem.W.subIn X.K (.type "str") (.ref D) = some false) :
    OpR X (compareOp .Eq) (fun x y H Q => ∃ a dx fs, x = .ref a ∧ H a = some (.ins D dx fs) ∧ ((∃ c dy gs, y = .ref c ∧ H c = some (.ins D dy gs)) ∨ ∃ u, y = .str u) ∧ sp [x, y] H (fun v H' => (∃ b, v = .bl b) ∧ Q v H') E0) := by
  intro pins s σ H x y u1 u2 Q I rx ry hq
  obtain ⟨a, dx, fs, rfl, ha, hy, hsp⟩ := hq
  cases rx
  obtain ⟨mA, J, _⟩ := ins_get I.hok ha
  obtain ⟨od, J, _⟩ := J.look
  obtain ⟨m, hF⟩ := I.fr
  have r2 : Vals [V.ref a, y] [Value.ref a, u2] := .cons rfl (.cons ry .nil)
  have hl := F.len _ _ _ _ hsp
  have go : wpAny (model X.prog X.w) X.A (call (.ref g) [.ref a, u2]) (PySem.W.CmpBack (EP X pins σ Q)) X.xe s := by
    refine wpAny_call (codeAny_mono (F.run X.A X.stack s H ⟨[.ref a, u2], []⟩ [.ref a, u2] [.ref a, y] _ E0 hr I.env0 (by
      have := hb s [.ref a, u2] I.kIn (by simpa using hl)
      simpa using this) r2 hsp) fun r s' hq => ?_)
    cases r with
    | error e => exact False.elim hq
    | ok fl =>
      cases fl with
      | ret w =>
        obtain ⟨z, H', I', rz, ⟨b, ez⟩, ex⟩ := I.after hq
        subst ez
        cases rz
        exact ⟨.bl b, H', I', rfl, ex⟩
      | next => exact False.elim hq
      | brk => exact False.elim hq
      | cont => exact False.elim hq
  show wpAny (model X.prog X.w) X.A (richCompare .Eq (.ref a) u2) (EP X pins σ Q) X.xe s
  rcases hy with ⟨c, dy, gs, rfl, hc⟩ | ⟨z, rfl⟩
  · cases ry
    obtain ⟨mB, J', _⟩ := ins_get I.hok hc
    obtain ⟨od', J', _⟩ := J'.look
    exact PySem.W.cmp_K (op := .Eq) (tb := .ref D) hr.units0 hF I.ok.mod.kin J J'.type (by simp [PySem.W.notFirst]) hs hf go
  · obtain ⟨t, rfl⟩ := ry
    exact PySem.W.cmp_K (op := .Eq) (tb := .type "str") hr.units0 hF I.ok.mod.kin J (PySem.W.Looks.of_pure rfl) (by simp [PySem.W.notFirst, hsub]) hs hf go
end
end Sf4
/-! The law's pot: drawn numbers. -/
namespace Sf4
open PySem PySem.Spec PyProof.Rows L2 Sf
abbrev sPot : Stmt := topS 64
abbrev sDraw : Stmt := topS 66
abbrev sAny : Stmt := topS 67
abbrev sLets : Stmt := topS 68
theorem scPot : FnScope ["_law_script", "_law_k", "_law_cell", "_law_own"] ["_law_script", "_law_k"] (defScope sPot) := ⟨rfl, rfl, rfl, by decide +kernel, rfl, by decide +kernel, by decide +kernel⟩
theorem scDraw : FnScope ["_law_pot_here", "_law_many", "_law_digit", "_law_prime", "_law_made_here"] ["_law_pot_here", "_law_many"] (defScope sDraw) := ⟨rfl, rfl, rfl, by decide +kernel, rfl, by decide +kernel, by decide +kernel⟩
theorem scAny : FnScope ["_law_pot_here", "_law_items"] ["_law_pot_here", "_law_items"] (defScope sAny) := ⟨rfl, rfl, rfl, by decide +kernel, rfl, by decide +kernel, by decide +kernel⟩
theorem scLets : FnScope [] [] (defScope sLets) := ⟨rfl, rfl, rfl, by decide +kernel, rfl, by decide +kernel, by decide +kernel⟩
theorem str_len (x : Str) : x.length = x.cps.toList.length := TL.len_tl x
/-! ### the pot -/
/-- a pot out of which at most n mixed numbers were drawn -/
def Pot (H : Hp) (p : Addr) (n : Int) : Prop := ∃ a b c : Int, H p = some (.lst [.int a, .int b, .int c]) ∧ 0 ≤ a ∧ 0 ≤ b ∧ b < 2305843009213693951 ∧ 0 ≤ c ∧ c ≤ n
theorem Pot.mono {H : Hp} {p : Addr} {n m : Int} (h : Pot H p n) (l : n ≤ m) : Pot H p m := by
  obtain ⟨a, b, c, e, h1, h2, h3, h4, h5⟩ := h
  exact ⟨a, b, c, e, h1, h2, h3, h4, by omega⟩
/-- all but the pot stands as it stood -/
def Kp (p : Addr) (H H' : Hp) : Prop := ∀ b o, b ≠ p → H b = some o → H' b = some o
theorem Kp.refl (p : Addr) (H : Hp) : Kp p H H := fun _ _ _ h => h
theorem Kp.trans {p : Addr} {H H1 H2 : Hp} (a : Kp p H H1) (b : Kp p H1 H2) : Kp p H H2 := fun c o n h => b c o n (a c o n h)
theorem Kp.same {p : Addr} {H H1 : Hp} (a : Same H H1) : Kp p H H1 := fun c o _ h => a c o h
theorem Kp.pot {p : Addr} {H : Hp} {o : HO} : Kp p H (upd H p o) := fun c u n h => by
  rw [upd_ne n]
  exact h
theorem sq_le {c : Int} (h0 : 0 ≤ c) (h1 : c ≤ 1000000) : 0 ≤ 99991 * c * c ∧ 99991 * c * c ≤ 99991000000000000 := by
  have h2 : 0 ≤ c * c := Int.mul_nonneg h0 h0
  have h3 : c * c ≤ 1000000 * 1000000 := Int.mul_le_mul h1 h1 h0 (by decide)
  rw [Int.mul_assoc]
  omega
def spDraw : Sp := fun vs H Q _ => ∃ (p : Addr) (n m : Int), vs = [.ref p, .int m] ∧ Pot H p n ∧ n < 1000000 ∧ 0 < m ∧ m < 1073741824 ∧
  ∀ (r : Int) (H' : Hp), 0 ≤ r → r < m → Pot H' p (n + 1) → Kp p H H' → Q (.int r) H'
section
variable {P : Program} {w : World} {K : PySem.W.Frag} {mg : Str → Option Value} {base : Heap}
theorem ok_draw {f : Addr} {fd : FuncData} {k : Nat} (F : Fun K "_law_draw" "_law_draw" sDraw f fd) (mi : mg "int" = none) : FnOk P w K mg base CX0 (k + 1) f fd ["_law_pot_here", "_law_many"] spDraw := by
  refine F.ok scDraw (fun vs H Q E h => ?_) (fun cdv A outer s H vs Q E hr h => ?_)
  · obtain ⟨p, n, m, rfl, _⟩ := h
    rfl
  · obtain ⟨p, n, m, rfl, ⟨a, b, c, hp, ha, hb0, hb1, hc0, hc1⟩, hn, hm0, hm1, q⟩ := h
    refine ⟨_, pss_cons (ps_if (pt_cmpR op_gt (pe_ix ix_list (pv 0) pe_int (fun _ _ => rfl)) pe_int (nomark _))
        (pss_cons (ps_set (i := 2) scDraw.nd rfl (.inl rfl) (pe_op op_mod (pe_callTy call_int1 (by rfl) mi PySem.Pv.boot_int (pa_cons (pe_ix ix_list (pv 0) pe_int (fun _ _ => rfl)) pa_nil)) (pv 1)))
        (pss_cons (ps_asg (pe_op op_fdiv (pe_ix ix_list (pv 0) pe_int (fun _ _ => rfl)) (pv 1)) (pg_sub (pv 0) pe_int set_list (fun _ => rfl)))
        (pss_one (ps_ret (pv 2)))))
        pss_nil)
      (pss_cons (ps_asg (pe_op op_add (pe_ix ix_list (pv 0) pe_int (fun _ _ => rfl)) pe_int) (pg_sub (pv 0) pe_int set_list (fun _ => rfl)))
      (pss_cons (ps_set (i := 3) scDraw.nd rfl (.inl rfl) (pe_ix ix_list (pe_lst (pa_cons pe_int (pa_cons pe_int (pa_cons pe_int (pa_cons pe_int (pa_cons pe_int pa_nil))))))
          (pe_op op_mod (pe_callTy call_int1 (by rfl) mi PySem.Pv.boot_int (pa_cons (pe_ix ix_list (pv 0) pe_int (fun _ _ => rfl)) pa_nil)) pe_int) (fun _ _ => rfl)))
      (pss_cons (ps_set (i := 4) scDraw.nd rfl (.inl rfl) (pe_op op_mod (pe_callTy call_int1 (by rfl) mi PySem.Pv.boot_int (pa_cons
          (pe_op op_pow (pe_op op_add (pe_op op_add (pe_ix ix_list (pv 0) pe_int (fun _ _ => rfl)) (pe_op op_mul (pe_op op_mul pe_int (pe_ix ix_list (pv 0) pe_int (fun _ _ => rfl))) (pe_ix ix_list (pv 0) pe_int (fun _ _ => rfl)))) pe_int) pe_int) pa_nil)) (pv 3)))
      (pss_cons (ps_set (i := 4) scDraw.nd rfl (.inl rfl) (pe_op op_mod (pe_callTy call_int1 (by rfl) mi PySem.Pv.boot_int (pa_cons
          (pe_op op_mul (pv 4) (pe_op op_add (pe_op op_mod (pe_callTy call_int1 (by rfl) mi PySem.Pv.boot_int (pa_cons (pv 4) pa_nil)) pe_int) (pe_op op_mul pe_int (pe_ix ix_list (pv 0) pe_int (fun _ _ => rfl))))) pa_nil)) pe_int))
      (pss_one (ps_ret (pe_op op_mod (pe_callTy call_int1 (by rfl) mi PySem.Pv.boot_int (pa_cons (pe_op op_fdiv (pv 4) pe_int) pa_nil)) (pv 1)))))))), ?_⟩
    have hS : ∀ {H1 : Hp} {xs : List V}, H1 p = some (.lst xs) → SqL K H1 p xs := fun h => .inl (.inl h)
    -- pot[0] > 0
    refine ⟨.ref p, rfl, p, _, 0, _, rfl, rfl, hS hp, rfl, _, _, rfl, rfl, _, rfl, ?_⟩
    refine ite2 (fun h => ?_) (fun h => ?_)
    · have h0 : 0 < a := of_decide_eq_true h
      -- digit
      refine ⟨.ref p, rfl, p, _, 0, _, rfl, rfl, hS hp, rfl, .inl ⟨_, rfl, .int m, rfl, _, _, rfl, rfl, hm0, ?_⟩⟩
      -- pot[0] = pot[0] // many
      refine ⟨.ref p, rfl, p, _, 0, _, rfl, rfl, hS hp, rfl, .int m, rfl, _, _, rfl, rfl, ⟨hm0, hm1⟩, ?_⟩
      refine ⟨.ref p, rfl, p, _, 0, 0, rfl, rfl, hp, rfl, ?_⟩
      refine ⟨_, rfl, q _ _ (Int.emod_nonneg _ (by omega)) (Int.emod_lt_of_pos _ hm0) ⟨a / m, b, c, upd_same, Int.ediv_nonneg ha (by omega), hb0, hb1, hc0, by omega⟩ Kp.pot⟩
    · have h0 : ¬ 0 < a := fun z => h (decide_eq_true z)
      -- pot[2] = pot[2] + 1
      refine ⟨.ref p, rfl, p, _, 2, _, rfl, rfl, hS hp, rfl, _, _, rfl, rfl, .ref p, rfl, p, _, 2, 2, rfl, rfl, hp, rfl, ?_⟩
      have e1 : upd H p (.lst [.int a, .int b, .int (c + 1)]) p = some (.lst [.int a, .int b, .int (c + 1)]) := upd_same
      -- prime
      refine ⟨by show 5 ≤ sizeLine; decide, fun l hl => ?_⟩
      have nlp : p ≠ l := ne_of_none e1 hl
      have e2 : upd (upd H p (.lst [.int a, .int b, .int (c + 1)])) l (.lst [.int 2147483647, .int 2147483629, .int 2147483587, .int 2147483579, .int 2147483563]) p = some (.lst [.int a, .int b, .int (c + 1)]) := by
        rw [upd_ne nlp]
        exact e1
      have kp : Kp p H (upd (upd H p (.lst [.int a, .int b, .int (c + 1)])) l (.lst [.int 2147483647, .int 2147483629, .int 2147483587, .int 2147483579, .int 2147483563])) := by
        intro b' o nb hb
        have nl : H l = none := by
          rw [upd_ne nlp.symm] at hl
          exact hl
        rw [upd_ne (ne_of_none hb nl), upd_ne nb]
        exact hb
      obtain ⟨pr, hpr, p0⟩ : ∃ pr : Int, atI [V.int 2147483647, V.int 2147483629, V.int 2147483587, V.int 2147483579, V.int 2147483563] ((c + 1) % 5) = some (.int pr) ∧ 0 < pr ∧ pr ≤ 2147483647 := by
        have h1 : 0 ≤ (c + 1) % 5 := Int.emod_nonneg _ (by decide)
        have h2 : (c + 1) % 5 < 5 := Int.emod_lt_of_pos _ (by decide)
        generalize (c + 1) % 5 = r at h1 h2
        have : r = 0 ∨ r = 1 ∨ r = 2 ∨ r = 3 ∨ r = 4 := by omega
        rcases this with rfl | rfl | rfl | rfl | rfl
        · exact ⟨2147483647, rfl, by decide⟩
        · exact ⟨2147483629, rfl, by decide⟩
        · exact ⟨2147483587, rfl, by decide⟩
        · exact ⟨2147483579, rfl, by decide⟩
        · exact ⟨2147483563, rfl, by decide⟩
      refine ⟨.ref p, rfl, p, _, 2, _, rfl, rfl, hS e2, rfl, .inl ⟨_, rfl, _, _, rfl, rfl, by show (0 : Int) < 5; decide, l, _, _, _, rfl, rfl, .inl (.inl upd_same), hpr, ?_⟩⟩
      -- made
      refine ⟨.ref p, rfl, p, _, 1, _, rfl, rfl, hS e2, rfl, .ref p, rfl, p, _, 2, _, rfl, rfl, hS e2, rfl, _, _, rfl, rfl, .inl ⟨by decide, by decide⟩, .ref p, rfl, p, _, 2, _, rfl, rfl, hS e2, rfl, _, _, rfl, rfl, .inl ⟨?_, ?_⟩, _, _, rfl, rfl, _, _, rfl, rfl, ?_⟩
      · omega
      · omega
      refine ⟨_, _, rfl, rfl, ⟨by decide, by decide, ?_⟩, .inl ⟨_, rfl, _, rfl, _, _, rfl, rfl, p0.1, ?_⟩⟩
      · have hq := sq_le (c := c + 1) (by omega) (by omega)
        show (b + 99991 * (c + 1) * (c + 1) + 61).natAbs < 2 ^ 64
        omega
      generalize (b + 99991 * (c + 1) * (c + 1) + 61) ^ Int.toNat 3 = X
      have hM0 : 0 ≤ X % pr := Int.emod_nonneg _ (by omega)
      have hM1 : X % pr < pr := Int.emod_lt_of_pos _ p0.1
      refine ⟨.int (X % pr), rfl, .int (X % pr), rfl, .inl ⟨_, rfl, _, _, rfl, rfl, by show (0 : Int) < 10007; decide, .ref p, rfl, p, _, 2, _, rfl, rfl, hS e2, rfl, _, _, rfl, rfl, .inl ⟨by decide, by decide⟩, _, _, rfl, rfl, _, _, rfl, rfl, .inl ⟨by omega, by omega⟩, .inl ⟨_, rfl, _, _, rfl, rfl, by show (0 : Int) < 2305843009213693907; decide, ?_⟩⟩⟩
      generalize X % pr * (X % pr % 10007 + 83 * (c + 1)) = Y
      refine ⟨.int (Y % 2305843009213693907), rfl, _, _, rfl, rfl, ⟨by decide, by decide⟩, .inl ⟨_, rfl, .int m, rfl, _, _, rfl, rfl, hm0, ?_⟩⟩
      exact q _ _ (Int.emod_nonneg _ (by omega)) (Int.emod_lt_of_pos _ hm0) ⟨a, b, c + 1, e2, ha, hb0, hb1, by omega, by omega⟩ kp
end
/-! ### powers of greater numbers -/
def CPw (i j : Int) : Prop := 0 ≤ j ∧ (Builtin.Int.intBits i : Int) * j ≤ 2 ^ 27
section
variable {X : Cx}
theorem op_powW : OpR X (binaryOp .Pow) (rI CPw fun i j => .int (i ^ j.toNat)) := opI fun _ _ _ _ _ _ _ hc q => pow_int hc.1 hc.2 q
end
section
variable {P : Program} {w : World} {K : PySem.W.Frag} {mg : Str → Option Value} {base : Heap}
/-! ### _law_pot -/
def spPot (K : PySem.W.Frag) : Sp := fun vs H Q _ => ∃ (a : Addr) (ns : List Int) (k : Nat), vs = [.ref a, .int (k : Int)] ∧ SqL K H a (ns.map V.int) ∧ k ≤ 2 ∧ ∀ (p : Addr) H', H p = none → Same H H' → Pot H' p 0 → Q (.ref p) H'
theorem ok_pot {f : Addr} {fd : FuncData} {k : Nat} (F : Fun K "_law_pot" "_law_pot" sPot f fd) (mi : mg "int" = none) (ma : mg "abs" = none) (ml : mg "len" = none) : FnOk P w K mg base CX0 (k + 1) f fd ["_law_script", "_law_k"] (spPot K) := by
  refine F.ok scPot (fun vs H Q E h => ?_) (fun cdv A outer s H vs Q E hr h => ?_)
  · obtain ⟨a, ns, k, rfl, _⟩ := h
    rfl
  · obtain ⟨a, ns, k, rfl, hS, hk, q⟩ := h
    refine ⟨_, Evl.pss_cut (ps_set (i := 2) scPot.nd rfl (.inl rfl) (pe_ifExp (pt_cmpR op_lt (pv 1) (pe_callB call_len_seq (by rfl) ml PySem.boot_len (pa_cons (pv 0) pa_nil)) (nomark _))
        (pe_ix ix_list (pv 0) (pv 1) (fun _ _ => rfl)) (pe_op op_add (pe_op op_mul pe_int (pv 1)) pe_int)))
      (pss_cons (ps_set (i := 3) scPot.nd rfl (.inl rfl) (pe_op op_mul (pe_op op_mod (pe_callTy call_int1 (by rfl) mi PySem.Pv.boot_int (pa_cons (pe_callB call_abs (by rfl) ma (by decide +kernel) (pa_cons (pv 2) pa_nil)) pa_nil))
          (pe_op op_powW (pe_op op_pow pe_int pe_int) pe_int))
        (pe_callTy call_int1 (by rfl) mi PySem.Pv.boot_int (pa_cons (pe_cmpR op_ge (pe_callB call_abs (by rfl) ma (by decide +kernel) (pa_cons (pv 2) pa_nil)) (pe_op op_pow pe_int pe_int) (nomark _)) pa_nil))))
      (pss_one (ps_ret (pe_lst (pa_cons (pv 3) (pa_cons (pe_op op_mod (pe_callTy call_int1 (by rfl) mi PySem.Pv.boot_int (pa_cons
          (pe_op op_add (pe_op op_add (pe_op op_mul (pe_op op_mod (pe_callTy call_int1 (by rfl) mi PySem.Pv.boot_int (pa_cons (pv 2) pa_nil)) pe_int) pe_int) (pe_op op_mul (pe_op op_mul pe_int (pv 1)) (pv 1))) pe_int) pa_nil)) pe_int)
        (pa_cons pe_int pa_nil))))))), ?_⟩
    refine ⟨fun σ H' => ∃ c : Int, σ = [some (.ref a), some (.int k), some (.int c), none] ∧ H' = H, ?_, fun σ H' hM => ?_⟩
    · refine ⟨.int k, rfl, .ref a, rfl, a, _, rfl, .inl hS, _, _, rfl, rfl, _, rfl, ?_⟩
      refine ite2 (fun h => ?_) (fun h => ?_)
      · have h1 : (k : Int) < ((ns.map V.int).length : Int) := of_decide_eq_true h
        rw [List.length_map] at h1
        have hk2 : k < ns.length := by omega
        exact ⟨.ref a, rfl, .int k, rfl, a, _, k, .int ns[k], rfl, rfl, hS, atI_nat (by rw [List.getElem?_map, List.getElem?_eq_getElem hk2] <;> rfl), ns[k], rfl, rfl⟩
      · exact ⟨.int k, rfl, _, _, rfl, rfl, .inl ⟨by decide, by decide⟩, _, _, rfl, rfl, _, rfl, rfl⟩
    · obtain ⟨c, rfl, rfl⟩ := hM
      have p0 : (0 : Int) < (10 ^ Int.toNat 60) ^ Int.toNat 5 := by decide +kernel
      have m0 : ∀ z : Int, 0 ≤ z % (10 ^ Int.toNat 60) ^ Int.toNat 5 := fun z => Int.emod_nonneg _ (by omega)
      have b0 : ∀ b : Bool, (0 : Int) ≤ (if b = true then 1 else 0) ∧ (if b = true then (1 : Int) else 0) < 2 ^ 64 := fun b => by cases b <;> decide
      have c0 : 0 ≤ c % 2305843009213693951 ∧ c % 2305843009213693951 < 2305843009213693951 := ⟨Int.emod_nonneg _ (by decide), Int.emod_lt_of_pos _ (by decide)⟩
      refine ⟨.int c, rfl, c, rfl, .inl ⟨_, rfl, _, _, rfl, rfl, ⟨by decide, by decide, by decide⟩, _, _, rfl, rfl, ⟨by decide, by decide +kernel⟩, _, _, rfl, rfl, p0,
        .int c, rfl, c, rfl, _, _, rfl, rfl, ⟨by decide, by decide, by decide⟩, _, _, rfl, rfl, .inr ⟨_, rfl, _, _, rfl, rfl, .inr ⟨Int.lt_of_lt_of_le (by decide) (b0 _).1, (b0 _).2⟩, ?_⟩⟩⟩
      refine ⟨_, rfl, .int c, rfl, .inl ⟨_, rfl, _, _, rfl, rfl, by show (0 : Int) < 2305843009213693951; decide, _, _, rfl, rfl, .inr ⟨by decide, by decide⟩,
        .int k, rfl, _, _, rfl, rfl, .inl ⟨by decide, by decide⟩, .int k, rfl, _, _, rfl, rfl, .inl ⟨by omega, by omega⟩, _, _, rfl, rfl, _, _, rfl, rfl,
        .inl ⟨_, rfl, _, _, rfl, rfl, by show (0 : Int) < 2305843009213693921; decide, by show 3 ≤ sizeLine; decide, fun p np => q p _ np (smU np) ?_⟩⟩⟩
      refine ⟨_, _, 0, upd_same, Int.mul_nonneg (m0 _) (b0 _).1, Int.emod_nonneg _ (by decide), Int.lt_trans (Int.emod_lt_of_pos _ (by decide)) (by decide), Int.le_refl _, Int.le_refl _⟩
/-! ### _law_any -/
def spAny (K : PySem.W.Frag) : Sp := fun vs H Q _ => ∃ (p : Addr) (n : Int) (x : V), vs = [.ref p, x] ∧ Pot H p n ∧ n < 1000000 ∧
  ((∃ z : Str, x = .str z ∧ 0 < z.length ∧ z.length ≤ 1000 ∧ ∀ (c : Nat) H', c ∈ z.cps.toList → Pot H' p (n + 1) → Kp p H H' → Q (.str ⟨#[c]⟩) H') ∨
   (∃ (a : Addr) (xs : List V), x = .ref a ∧ (∀ {H'}, Kp p H H' → SqL K H' a xs) ∧ 0 < xs.length ∧ xs.length ≤ 1000 ∧ ∀ (v : V) H', v ∈ xs → Pot H' p (n + 1) → Kp p H H' → Q v H'))
theorem atI_of {α : Type} {xs : List α} {r : Int} (h0 : 0 ≤ r) (h1 : r < (xs.length : Int)) : ∃ x, atI xs r = some x ∧ x ∈ xs := by
  obtain ⟨n, rfl⟩ := Int.eq_ofNat_of_zero_le h0
  have hn : n < xs.length := by omega
  exact ⟨xs[n], atI_nat (List.getElem?_eq_getElem hn), List.getElem_mem hn⟩
theorem ok_any {f fD : Addr} {fd fdD : FuncData} {k : Nat} (F : Fun K "_law_any" "_law_any" sAny f fd) (FD : Fun K "_law_draw" "_law_draw" sDraw fD fdD) (bD : Binds K fdD ["_law_pot_here", "_law_many"] []) (gD : mg "_law_draw" = some (.ref fD))
    (GD : FnOk P w K mg base CX0 (k + 1) fD fdD ["_law_pot_here", "_law_many"] spDraw) (ml : mg "len" = none) : FnOk P w K mg base CX0 (k + 2) f fd ["_law_pot_here", "_law_items"] (spAny K) := by
  refine F.ok scAny (fun vs H Q E h => ?_) (fun cdv A outer s H vs Q E hr h => ?_)
  · obtain ⟨p, n, x, rfl, _⟩ := h
    rfl
  · obtain ⟨p, n, x, rfl, hp, hn, h⟩ := h
    refine ⟨_, pss_one (ps_ret (pe_ix ix_seq (pv 1) (pe_call GD hr (by rfl) gD FD.kp bD .nil pass0 (pa_cons (pv 0) (pa_cons (pe_callB (CallR.or call_len_seq call_len_str) (by rfl) ml PySem.boot_len (pa_cons (pv 1) pa_nil)) pa_nil))) (fun _ _ => rfl))), ?_⟩
    rcases h with ⟨z, rfl, z0, z1, q⟩ | ⟨a, xs, rfl, hS, x0, x1, q⟩
    · have zl : z.length ≤ sizeLine := Nat.le_trans z1 (by decide)
      refine ⟨.str z, rfl, .ref p, rfl, .str z, rfl, .inr ⟨z, rfl, zl, p, n, _, rfl, hp, hn, by omega, by omega, fun r H' h0 h1 hp' hk => ?_⟩⟩
      rw [str_len] at h1
      obtain ⟨c, e, hc⟩ := atI_of h0 h1
      exact .inr (.inr ⟨z, r, c, rfl, rfl, zl, e, q c H' hc hp' hk⟩)
    · refine ⟨.ref a, rfl, .ref p, rfl, .ref a, rfl, .inl ⟨a, xs, rfl, .inl (hS (Kp.refl p H)), p, n, _, rfl, hp, hn, by omega, by omega, fun r H' h0 h1 hp' hk => ?_⟩⟩
      obtain ⟨v, e, hv⟩ := atI_of h0 h1
      exact .inl ⟨a, xs, r, v, rfl, rfl, hS hk, e, q v H' hv hp' hk⟩

def spLets : Sp := fun vs H Q _ => vs = [] ∧ Q (.str LSs) H
theorem ok_lets {f : Addr} {fd : FuncData} {k : Nat} (F : Fun K "_law_all_letters" "_law_all_letters" sLets f fd) : FnOk P w K mg base CX0 (k + 1) f fd [] spLets := by
  refine F.ok scLets (fun vs H Q E h => ?_) (fun cdv A outer s H vs Q E hr h => ?_)
  · obtain ⟨rfl, _⟩ := h
    rfl
  · obtain ⟨rfl, q⟩ := h
    exact ⟨_, pss_one (ps_ret pe_str), q⟩
end
theorem Pot.up {H : Hp} {p D : Addr} {o : HO} {n : Int} (h : Pot H p n) (hD : H D = none) : Pot (upd H D o) p n := by
  obtain ⟨a, b, c, e, r⟩ := h
  refine ⟨a, b, c, ?_, r⟩
  rw [upd_ne (ne_of_none e hD)]
  exact e
theorem Pot.ne {H : Hp} {p D : Addr} {n : Int} (h : Pot H p n) (hD : H D = none) : D ≠ p := by
  obtain ⟨a, b, c, e, r⟩ := h
  exact (ne_of_none e hD).symm
theorem Pot.wr {H : Hp} {p D : Addr} {o : HO} {n : Int} (h : Pot H p n) (hD : D ≠ p) : Pot (upd H D o) p n := by
  obtain ⟨a, b, c, e, r⟩ := h
  refine ⟨a, b, c, ?_, r⟩
  rw [upd_ne hD.symm]
  exact e
end Sf4
/-! The law's drawn trees. -/
namespace Sf4
open PySem PySem.Spec PyProof.Rows L2 Sf
/-- text * 0, text * 1 -/
theorem op_mul_s {X : Cx} : OpR X (binaryOp .Mult) (fun x y H Q => ∃ (i : Str) (n : Int), x = .str i ∧ y = .int n ∧ (n = 0 ∨ n = 1) ∧ Q (.str (if n = 0 then Str.empty else i)) H) := by
  intro pins s σ H x y v u Q I rx ry h
  obtain ⟨i, n, rfl, rfl, hn, q⟩ := h
  obtain ⟨t, rfl⟩ := rx
  obtain ⟨t', rfl⟩ := ry
  refine PySem.SB.mul (n := n) ⟨?_, fun h1 h2 => ?_, fun h1 h2 => ?_⟩ fun t' k => ?_
  · rcases hn with rfl | rfl <;> decide
  · rcases hn with rfl | rfl
    · exact absurd (by decide) h1
    · rw [show ((1 : Int) == 1) = true by decide] at h2
      cases h2
  · rcases hn with rfl | rfl
    · exact absurd (by decide) h1
    · rw [show ((1 : Int) == 1) = true by decide] at h2
      cases h2
  · have e : Txt.mul i n = if n = 0 then Str.empty else i := by
      unfold Txt.mul
      rcases hn with rfl | rfl
      · rw [if_pos (by decide), if_pos rfl]
      · rw [if_neg (show ¬ ((1 : Int) < 1) by decide), show ((1 : Int) == 1) = true by decide, Bool.true_or, if_pos rfl]
        rfl
    rw [e]
    exact ⟨.str (if n = 0 then Str.empty else i), H, I.tok _, ⟨_, rfl⟩, q⟩
/-! ### bounds of drawn trees -/
def lb : Nat → Nat
  | 0 => 0
  | d + 1 => 3 * (lb d + 1) + 1
def pb : Nat → Nat
  | 0 => 40
  | d + 1 => 3 * (pb d + 3)
def cst : Nat → Nat
  | 0 => 41
  | d + 1 => 3 * cst d + 2
structure Dr (d : Nat) (t : Tr) : Prop where
  w : wf t
  dd : dep t ≤ d
  wd : wid t ≤ 3
  l : lks t ≤ lb d
  p : (prn t).length ≤ pb d
def DrL (d : Nat) (l : List Tr) : Prop := ∀ t ∈ l, Dr d t
theorem DrL.wf {d : Nat} : ∀ {l : List Tr}, DrL d l → wfL l
  | [], _ => True.intro
  | t :: r, h => ⟨(h t List.mem_cons_self).w, DrL.wf fun u hu => h u (List.mem_cons_of_mem _ hu)⟩
theorem DrL.dep {d : Nat} : ∀ {l : List Tr}, DrL d l → depL l ≤ d
  | [], _ => Nat.zero_le _
  | t :: r, h => Nat.max_le.mpr ⟨(h t List.mem_cons_self).dd, DrL.dep fun u hu => h u (List.mem_cons_of_mem _ hu)⟩
theorem DrL.wid {d : Nat} : ∀ {l : List Tr}, DrL d l → widL l ≤ 3
  | [], _ => Nat.zero_le _
  | t :: r, h => Nat.max_le.mpr ⟨(h t List.mem_cons_self).wd, DrL.wid fun u hu => h u (List.mem_cons_of_mem _ hu)⟩
theorem DrL.lks {d : Nat} : ∀ {l : List Tr}, DrL d l → lksL l ≤ l.length * lb d
  | [], _ => Nat.zero_le _
  | t :: r, h => by
    have a := (h t List.mem_cons_self).l
    have b := DrL.lks fun u hu => h u (List.mem_cons_of_mem _ hu)
    show Sf4.lks t + lksL r ≤ (r.length + 1) * lb d
    rw [Nat.succ_mul]
    omega
theorem grp_len (b : Bool) (x : List Nat) : (grp b x).length ≤ x.length + 2 := by
  unfold grp
  split
  · rw [List.length_cons, List.length_append, List.length_singleton]
    omega
  · omega
theorem DrL.ch {d : Nat} : ∀ {l : List Tr}, DrL d l → (prnCh l).length ≤ l.length * (pb d + 3)
  | [], _ => Nat.zero_le _
  | t :: r, h => by
    have a := (h t List.mem_cons_self).p
    have b := DrL.ch fun u hu => h u (List.mem_cons_of_mem _ hu)
    have c := grp_len (isCh t || isAl t) (prn t)
    show (grp (isCh t || isAl t) (prn t) ++ prnCh r).length ≤ (r.length + 1) * (pb d + 3)
    rw [Nat.succ_mul, List.length_append]
    omega
theorem DrL.mo {d : Nat} : ∀ {l : List Tr}, DrL d l → (prnMo l).length ≤ l.length * (pb d + 3)
  | [], _ => Nat.zero_le _
  | t :: r, h => by
    have a := (h t List.mem_cons_self).p
    have b := DrL.mo fun u hu => h u (List.mem_cons_of_mem _ hu)
    have c := grp_len (isAl t) (prn t)
    show (124 :: (grp (isAl t) (prn t) ++ prnMo r)).length ≤ (r.length + 1) * (pb d + 3)
    rw [Nat.succ_mul, List.length_cons, List.length_append]
    omega
theorem DrL.al {d : Nat} : ∀ {l : List Tr}, DrL d l → (prnAl l).length ≤ l.length * (pb d + 3)
  | [], _ => Nat.zero_le _
  | t :: r, h => by
    have a := (h t List.mem_cons_self).p
    have b := DrL.mo fun u hu => h u (List.mem_cons_of_mem _ hu)
    have c := grp_len (isAl t) (prn t)
    show (grp (isAl t) (prn t) ++ prnMo r).length ≤ (r.length + 1) * (pb d + 3)
    rw [Nat.succ_mul, List.length_append]
    omega
theorem Dr.up {d : Nat} {t : Tr} (h : Dr d t) : Dr (d + 1) t := ⟨h.w, Nat.le_succ_of_le h.dd, h.wd, Nat.le_trans h.l (by show lb d ≤ 3 * (lb d + 1) + 1; omega), Nat.le_trans h.p (by show pb d ≤ 3 * (pb d + 3); omega)⟩
theorem lb_mono : ∀ d, 0 ≤ lb d := fun _ => Nat.zero_le _
theorem pb_40 : ∀ d, 40 ≤ pb d
  | 0 => Nat.le_refl _
  | d + 1 => by
    have := pb_40 d
    show 40 ≤ 3 * (pb d + 3)
    omega
theorem dr_empty {d : Nat} : Dr d .empty := ⟨True.intro, Nat.zero_le _, Nat.zero_le _, Nat.zero_le _, by
  have := pb_40 d
  show 2 ≤ pb d
  omega⟩
theorem dr_place {d : Nat} {s : List Nat} (h : s ≠ []) (hs : (LETc.filter fun c => decide (c ∈ s)) = s) : Dr d (.place s) := by
  refine ⟨⟨h, hs⟩, Nat.zero_le _, Nat.zero_le _, Nat.zero_le _, ?_⟩
  have l : s.length ≤ 38 := by
    rw [← hs]
    exact Nat.le_trans (List.length_filter_le _ _) (by decide +kernel)
  have := pb_40 d
  unfold prn
  split
  · show 1 ≤ _
    omega
  · split
    · omega
    · rw [List.length_cons, List.length_append, List.length_singleton]
      omega
theorem dr_chain {d : Nat} {l : List Tr} (h : DrL d l) (h2 : 2 ≤ l.length) (h3 : l.length ≤ 3) : Dr (d + 1) (.chain l) := by
  have a := h.dep
  have b := h.wid
  have c := h.lks
  have e := h.ch
  have m1 : l.length * lb d ≤ 3 * lb d := Nat.mul_le_mul_right _ h3
  have m2 : l.length * (pb d + 3) ≤ 3 * (pb d + 3) := Nat.mul_le_mul_right _ h3
  exact ⟨⟨h2, h.wf⟩, Nat.succ_le_succ a, Nat.max_le.mpr ⟨h3, b⟩, by show lksL l + l.length ≤ 3 * (lb d + 1) + 1; omega, by show (prnCh l).length ≤ 3 * (pb d + 3); omega⟩
theorem dr_choice {d : Nat} {l : List Tr} (h : DrL d l) (h2 : 2 ≤ l.length) (h3 : l.length ≤ 3) : Dr (d + 1) (.choice l) := by
  have a := h.dep
  have b := h.wid
  have c := h.lks
  have e := h.al
  have m1 : l.length * lb d ≤ 3 * lb d := Nat.mul_le_mul_right _ h3
  have m2 : l.length * (pb d + 3) ≤ 3 * (pb d + 3) := Nat.mul_le_mul_right _ h3
  exact ⟨⟨h2, h.wf⟩, Nat.succ_le_succ a, Nat.max_le.mpr ⟨h3, b⟩, by show lksL l ≤ 3 * (lb d + 1) + 1; omega, by show (prnAl l).length ≤ 3 * (pb d + 3); omega⟩
theorem dr_capture {d : Nat} {n : List Nat} {t : Tr} (h : Dr d t) (h1 : 1 ≤ n.length) (h2 : n.length ≤ 8) (h3 : ∀ c ∈ n, small c) : Dr (d + 1) (.capture n t) := by
  have a := h.dd
  have b := h.l
  have c := h.p
  refine ⟨⟨h1, h2, h3, h.w⟩, Nat.succ_le_succ a, h.wd, by show lks t ≤ 3 * (lb d + 1) + 1; omega, ?_⟩
  have := pb_40 d
  show (60 :: (n ++ 58 :: (prn t ++ [62]))).length ≤ 3 * (pb d + 3)
  simp only [List.length_cons, List.length_append, List.length_nil]
  omega
theorem num_len (n : Nat) : (num n).length ≤ 2 := by
  unfold num
  split
  · exact Nat.le_succ 1
  · exact Nat.le_refl 2
theorem cntS_len (a : Nat) (b : Option Nat) : (cntS a b).length ≤ 7 := by
  have h1 := num_len a
  unfold cntS
  cases b with
  | none =>
    dsimp only
    split
    · decide
    · split
      · decide
      · simp only [List.length_cons, List.length_append, List.length_nil]
        omega
  | some b =>
    have h2 := num_len b
    dsimp only
    split
    · decide
    · split
      · simp only [List.length_cons, List.length_append, List.length_nil]
        omega
      · simp only [List.length_cons, List.length_append, List.length_nil]
        omega
theorem dr_count {d a : Nat} {b : Option Nat} {t : Tr} (h : Dr d t) (h1 : a ≤ 20) (h2 : ∀ c, b = some c → a ≤ c ∧ c ≤ 20) (h3 : many a b ≤ 3) : Dr (d + 1) (.count a b t) := by
  have x := h.dd
  have y := h.l
  have z := h.p
  have m1 : many a b * (lks t + 1) ≤ 3 * (lb d + 1) := Nat.mul_le_mul h3 (by omega)
  refine ⟨⟨h1, h2, h.w⟩, Nat.succ_le_succ x, Nat.max_le.mpr ⟨h3, h.wd⟩, by show many a b * (lks t + 1) + 1 ≤ 3 * (lb d + 1) + 1; omega, ?_⟩
  have := pb_40 d
  have c := grp_len (isCh t || isAl t || isCo t) (prn t)
  have e := cntS_len a b
  show (grp (isCh t || isAl t || isCo t) (prn t) ++ cntS a b).length ≤ 3 * (pb d + 3)
  rw [List.length_append]
  omega
/-! parentheses open within one another -/
mutual
theorem opn_dep : ∀ t : Tr, opn t ≤ dep t + 1
  | .place _ => Nat.zero_le _
  | .empty => Nat.le_refl _
  | .capture _ t => Nat.succ_le_succ (opn_dep t)
  | .chain l => opnCh_dep l
  | .choice l => opnAl_dep l
  | .count _ _ t => by
    have := opn_dep t
    show opn t + (if isCh t || isAl t || isCo t then 1 else 0) ≤ dep t + 1 + 1
    split <;> omega
theorem opnCh_dep : ∀ l : List Tr, opnCh l ≤ depL l + 1 + 1
  | [] => Nat.zero_le _
  | t :: r => by
    have a := opn_dep t
    have b := opnCh_dep r
    show max (opn t + (if isCh t || isAl t then 1 else 0)) (opnCh r) ≤ max (dep t) (depL r) + 1 + 1
    split <;> omega
theorem opnAl_dep : ∀ l : List Tr, opnAl l ≤ depL l + 1 + 1
  | [] => Nat.zero_le _
  | t :: r => by
    have a := opn_dep t
    have b := opnAl_dep r
    show max (opn t + (if isAl t then 1 else 0)) (opnAl r) ≤ max (dep t) (depL r) + 1 + 1
    split <;> omega
end
end Sf4
namespace Sf4
open PySem PySem.Spec PyProof.Rows L2 Sf
abbrev sTree : Stmt := topS 69
abbrev sMany : Stmt := topS 70
abbrev sGrouped : Stmt := topS 71
abbrev sString : Stmt := topS 72
abbrev sWholeL : Stmt := topS 73
abbrev sPatS : Stmt := topS 65
/-- a def of the law, where it stands -/
structure Fd (K : PySem.W.Frag) (mg : Str → Option Value) (x : Str) (st : Stmt) (ps : List Str) (f : Addr) (fd : FuncData) : Prop where
  F : Fun K x x st f fd
  b : Binds K fd ps []
  g : mg x = some (.ref f)
structure LawT (K : PySem.W.Frag) (mg : Str → Option Value) (f : Nat → Addr) (fd : Nat → FuncData) : Prop where
  pot : Fd K mg "_law_pot" sPot ["_law_script", "_law_k"] (f 0) (fd 0)
  draw : Fd K mg "_law_draw" sDraw ["_law_pot_here", "_law_many"] (f 1) (fd 1)
  any : Fd K mg "_law_any" sAny ["_law_pot_here", "_law_items"] (f 2) (fd 2)
  lets : Fd K mg "_law_all_letters" sLets [] (f 3) (fd 3)
  tree : Fd K mg "_law_tree" sTree ["_law_pot_here", "_law_deep", "_law_letters", "_law_names"] (f 4) (fd 4)
  many : Fd K mg "_law_many_places" sMany ["_law_tree_here"] (f 5) (fd 5)
  grouped : Fd K mg "_law_grouped" sGrouped ["_law_tree_here", "_law_words"] (f 6) (fd 6)
  string : Fd K mg "_law_string" sString ["_law_tree_here"] (f 7) (fd 7)
  whole : Fd K mg "_law_whole" sWholeL ["_law_pot_here", "_law_letters", "_law_most", "_law_names"] (f 8) (fd 8)
  pats : Fd K mg "_law_pattern_string" sPatS ["_law_whole_here"] (f 9) (fd 9)
  zint : mg "int" = none
  zabs : mg "abs" = none
  zlen : mg "len" = none
  zmax : mg "max" = none
  zmin : mg "min" = none
  zrange : mg "range" = none
  zsum : mg "sum" = none
  ztup : mg "tuple" = none
  zstr : mg "str" = none
  zrepr : mg "repr" = none
def NTree : List Str := ["_law_pot_here", "_law_deep", "_law_letters", "_law_names", "_law_way", "_law_some", "_law_sound", "_law_least", "_law_most", "_law_name", "_law_turn"]
theorem scTree : FnScope NTree ["_law_pot_here", "_law_deep", "_law_letters", "_law_names"] (defScope sTree) := ⟨rfl, rfl, rfl, by decide +kernel, rfl, by decide +kernel, by decide +kernel⟩
def okNm (nm : Nm) : Prop := ∀ n ∈ nm, 1 ≤ n.length ∧ n.length ≤ 8 ∧ ∀ c ∈ n, small c
def CTb : List (Nat × Option Nat) := [(0, none), (1, none), (0, some 1), (2, some 2), (0, some 2), (1, some 3), (2, none), (0, some 0), (1, some 1)]
theorem ctb_ok : ∀ x ∈ CTb, x.1 ≤ 20 ∧ (∀ c, x.2 = some c → x.1 ≤ c ∧ c ≤ 20) ∧ many x.1 x.2 ≤ 3 := by
  intro x hx
  simp only [CTb, List.mem_cons, List.not_mem_nil, or_false] at hx
  rcases hx with rfl | rfl | rfl | rfl | rfl | rfl | rfl | rfl | rfl <;> exact ⟨by decide, fun c h => by cases h <;> decide, by decide⟩
theorem one_let : ∀ c ∈ LETc, (LETc.filter fun e => decide (e ∈ [c])) = [c] := by decide +kernel
theorem all_let : (LETc.filter fun e => decide (e ∈ LETc)) = LETc := by decide +kernel
theorem nd_let : LETc.Nodup := by decide +kernel
theorem sub_filter {l m : List Nat} (h : l.Sublist m) : m.Nodup → (m.filter fun e => decide (e ∈ l)) = l := by
  induction h with
  | slnil => intro _; rfl
  | cons a h ih =>
    rename_i l1 l2
    intro nd
    obtain ⟨h1, h2⟩ := List.nodup_cons.mp nd
    rw [List.filter_cons, decide_eq_false (fun z => h1 (h.subset z)), if_neg Bool.false_ne_true]
    exact ih h2
  | cons_cons a h ih =>
    rename_i l1 l2
    intro nd
    obtain ⟨h1, h2⟩ := List.nodup_cons.mp nd
    rw [List.filter_cons, decide_eq_true List.mem_cons_self, if_pos rfl]
    congr 1
    rw [← ih h2]
    refine List.filter_congr fun e he => ?_
    have hne : e ≠ a := fun z => h1 (z ▸ he)
    rw [ih h2]
    simp only [List.mem_cons, hne, false_or]
theorem nmsL_snoc : ∀ (ts : List Tr) (t : Tr), nmsL (ts ++ [t]) = nmsL ts ++ nms t
  | [], t => List.append_nil _
  | u :: r, t => by
    show nms u ++ nmsL (r ++ [t]) = nms u ++ nmsL r ++ nms t
    rw [nmsL_snoc r t, List.append_assoc]
def nmD (nm : Nm) : List PyData := nm.map fun n => PyData.str (tx n)
theorem nm_dp {K : PySem.W.Frag} {H : Hp} : ∀ nm : Nm, DpAll K H (nmV nm) (nmD nm)
  | [] => .nil
  | n :: r => .cons (.str _) (nm_dp r)
theorem nmD_lay : ∀ {nm : Nm}, okNm nm → PyData.canLayAll0 (nmD nm) = true ∧ PyData.depthAll (nmD nm) = 0
  | [], _ => ⟨rfl, rfl⟩
  | n :: r, h => by
    obtain ⟨a, b⟩ := nmD_lay (nm := r) fun m hm => h m (List.mem_cons_of_mem _ hm)
    obtain ⟨_, _, hs⟩ := h n List.mem_cons_self
    have e : PyData.canLay0 (.str (tx n)) = true := by
      show (n.toArray).all (· < 0x110000) = true
      rw [List.all_toArray, List.all_eq_true]
      intro c hc
      have := (hs c hc).2
      exact decide_eq_true (by omega)
    refine ⟨?_, ?_⟩
    · show (PyData.canLay0 (.str (tx n)) && PyData.canLayAll0 (nmD r)) = true
      rw [a, e] <;> rfl
    · show max 0 (PyData.depthAll (nmD r)) = 0
      rw [b] <;> rfl
theorem nmD_shaped {nm : Nm} (h : okNm nm) : SeqAt.shaped (.list (nmD nm)) = true := by
  obtain ⟨a, b⟩ := nmD_lay h
  have h1 : PyData.canLay0 (.list (nmD nm)) = true := by simpa only [PyData.canLay0] using a
  have h2 : PyData.depth (.list (nmD nm)) ≤ 64 := by
    simp only [PyData.depth]
    omega
  unfold SeqAt.shaped
  rw [h1, decide_eq_true h2] <;> rfl
theorem nmD_eqv (nm : Nm) : PyData.eqv (.list (nmD nm)) (.list []) = nm.isEmpty := by
  cases nm <;> rfl
theorem Kp.k2 {p q : Addr} {H H' : Hp} (k : Kp p H H') : K2 p q H H' := fun b o n _ h => k b o n h
theorem Pot.kt {p : Addr} {n : Int} {H H' : Hp} (h : Pot H p n) (k : Kp p H H') : KT H H' := fun b xs e => k b _ (by
  obtain ⟨a, b', c, e2, _⟩ := h
  exact ne_of e e2 (by intro z; cases z)) e
theorem Pot.same {p : Addr} {n : Int} {H H' : Hp} (h : Pot H p n) (k : Same H H') : Pot H' p n := by
  obtain ⟨a, b, c, e, r⟩ := h
  exact ⟨a, b, c, k _ _ e, r⟩
theorem kt2 {p q : Addr} {n : Int} {H H' : Hp} {ys : List V} (h : Pot H p n) (hq : H q = some (.lst ys)) (k : K2 p q H H') : KT H H' := fun b xs e => k b _ (by
  obtain ⟨a, b', c, e2, _⟩ := h
  exact ne_of e e2 (by intro z; cases z)) (ne_of e hq (by intro z; cases z)) e
def spTree (d : Nat) : Sp := fun vs H Q _ => ∃ (p q : Addr) (n : Int) (L : List Nat) (nm : Nm), vs = [.ref p, .int (d : Int), .str (tx L), .ref q] ∧ Pot H p n ∧ n + (cst d : Nat) < 1000000 ∧ H q = some (.lst (nmV nm)) ∧ okNm nm ∧ p ≠ q ∧ L ≠ [] ∧ L.length ≤ 38 ∧ (∀ c ∈ L, c ∈ LETc) ∧
  ∀ v t H' nm', TrO H' v t → Dr d t → nm = nms t ++ nm' → Pot H' p (n + (cst d : Nat)) → H' q = some (.lst (nmV nm')) → K2 p q H H' → Q v H'
section
variable {P : Program} {w : World} {K : PySem.W.Frag} {mg : Str → Option Value} {base : Heap} {f : Nat → Addr} {fd : Nat → FuncData}
theorem law_draw (T : LawT K mg f fd) : FnOk P w K mg base CX0 1 (f 1) (fd 1) ["_law_pot_here", "_law_many"] spDraw := ok_draw (k := 0) T.draw.F T.zint
theorem law_any (T : LawT K mg f fd) : FnOk P w K mg base CX0 2 (f 2) (fd 2) ["_law_pot_here", "_law_items"] (spAny K) := ok_any (k := 0) T.any.F T.draw.F T.draw.b T.draw.g (law_draw T) T.zlen
theorem law_lets (T : LawT K mg f fd) : FnOk P w K mg base CX0 1 (f 3) (fd 3) [] spLets := ok_lets (k := 0) T.lets.F
theorem cst_pos : ∀ d, 41 ≤ cst d
  | 0 => Nat.le_refl _
  | d + 1 => by
    have := cst_pos d
    show 41 ≤ 3 * cst d + 2
    omega
theorem ok_tree1 (T : LawT K mg f fd) {k d : Nat} {spT : Sp} (hk : 2 ≤ k) (GT : FnOk P w K mg base CX0 k (f 4) (fd 4) ["_law_pot_here", "_law_deep", "_law_letters", "_law_names"] spT) (hT : ∀ e vs H Q E, e + 1 = d → spTree e vs H Q E → spT vs H Q E) :
    FnOk P w K mg base CX0 (k + 1) (f 4) (fd 4) ["_law_pot_here", "_law_deep", "_law_letters", "_law_names"] (spTree d) := by
  refine T.tree.F.ok scTree (fun vs H Q E h => ?_) (fun cdv A outer s H vs Q E hr h => ?_)
  · obtain ⟨p, q, n, L, nm, rfl, _⟩ := h
    rfl
  · obtain ⟨p, q, n, L, nm, rfl, hp, hn, hq, hnm, npq, hL, hL2, hL3, fin⟩ := h
    have GD := law_draw (P := P) (w := w) (base := base) T
    have GA := law_any (P := P) (w := w) (base := base) T
    have GL := law_lets (P := P) (w := w) (base := base) T
    have h1 : 1 ≤ k := Nat.le_trans (by decide) hk
    have hu := hr.units
    refine ⟨_, Evl.pss_cut (ps_set (i := 4) scTree.nd rfl (.inl rfl) (pe_ifExp (pt_cmpR op_gt (pv 1) pe_int (nomark _)) (pe_call GD (hr.mono h1) (by rfl) T.draw.g T.draw.F.kp T.draw.b .nil pass0 (pa_cons (pv 0) (pa_cons pe_int pa_nil))) (pe_call GD (hr.mono h1) (by rfl) T.draw.g T.draw.F.kp T.draw.b .nil pass0 (pa_cons (pv 0) (pa_cons pe_int pa_nil)))))
      (pss_cons (ps_if (pt_cmpR op_lt (pv 4) pe_int (nomark _)) (pss_one (ps_ret (pe_tup (pa_cons pe_str (pa_cons (pe_call GA (hr.mono hk) (by rfl) T.any.g T.any.F.kp T.any.b .nil pass0 (pa_cons (pv 0) (pa_cons (pv 2) pa_nil))) pa_nil))))) pss_nil)
      (pss_cons (ps_if (pt_cmpR op_eq (pv 4) pe_int (nomark _))
          (pss_cons (ps_set (i := 5) scTree.nd rfl (.inl rfl) pe_str)
          (pss_cons (ps_for PassesOwn.never rfl (pi_str (pe_call0 GL (hr.mono h1) (by rfl) T.lets.g T.lets.F.kp T.lets.b .nil pass0)) (pg_name (i := 6) scTree.nd rfl (Or.inl rfl))
            (pss_one (ps_if (pt_cmpR op_inS (pv 6) (pv 2) rfl) (pss_one (ps_set (i := 5) scTree.nd rfl (.inl rfl) (pe_op op_add_str (pv 5) (pe_op op_mul_s (pv 6) (pe_call GD (hr.mono h1) (by rfl) T.draw.g T.draw.F.kp T.draw.b .nil pass0 (pa_cons (pv 0) (pa_cons pe_int pa_nil))))))) pss_nil)))
          (pss_one (ps_ret (pe_tup (pa_cons pe_str (pa_cons (pe_call GA (hr.mono hk) (by rfl) T.any.g T.any.F.kp T.any.b .nil pass0 (pa_cons (pv 0) (pa_cons (pe_lst (pa_cons (pe_call0 GL (hr.mono h1) (by rfl) T.lets.g T.lets.F.kp T.lets.b .nil pass0)
            (pa_cons (pe_ifExp (pt_cmpR op_ne (pv 5) pe_str (nomark _)) (pv 5) (pe_ix ix_str (pv 2) pe_int (fun _ _ => rfl))) pa_nil))) pa_nil))) pa_nil))))))) pss_nil)
      (pss_cons (ps_if (pt_cmpR op_lt (pv 4) pe_int (nomark _)) (pss_one (ps_ret (pe_tup (pa_cons pe_str (pa_cons (pe_tupleOf (by rfl) T.ztup (pe_lc (own := [("_law_turn", 10)]) (g := gName 10) (tt := tYes) (te := tCall spT [] E0 (tCons (tVar 0) (tCons (tOp (rI0 fun i j => .int (i - j)) (tVar 1) (tC (.int 1))) (tCons (tVar 2) (tCons (tVar 3) tNil))))) rfl scTree.nd
          (pi_range1 rfl T.zrange (pa_cons (pe_op op_add pe_int (pe_call GD (hr.mono h1) (by rfl) T.draw.g T.draw.F.kp T.draw.b .nil pass0 (pa_cons (pv 0) (pa_cons pe_int pa_nil)))) pa_nil)) (blkOk_by (N := NTree) (sc := defScope sTree) (by decide +kernel))
          (fun _ _ _ _ _ => pg_name (i := 10) scTree.nd rfl (Or.inl rfl)) (fun _ _ _ _ _ => pts_nil) (fun _ _ _ _ _ => (pe_call GT hr (by rfl) T.tree.g T.tree.F.kp T.tree.b .nil pass0 (pa_cons (pv 0) (pa_cons (pe_op op_sub (pv 1) pe_int) (pa_cons (pv 2) (pa_cons (pv 3) pa_nil)))))))) pa_nil))))) pss_nil)
      (pss_cons (ps_if (pt_cmpR op_eq (pv 4) pe_int (nomark _)) (pss_one (ps_ret (pe_tup (pa_cons pe_str (pa_cons (pe_tupleOf (by rfl) T.ztup (pe_lc (own := [("_law_turn", 10)]) (g := gName 10) (tt := tYes) (te := tCall spT [] E0 (tCons (tVar 0) (tCons (tOp (rI0 fun i j => .int (i - j)) (tVar 1) (tC (.int 1))) (tCons (tVar 2) (tCons (tVar 3) tNil))))) rfl scTree.nd
          (pi_range1 rfl T.zrange (pa_cons (pe_op op_add pe_int (pe_call GD (hr.mono h1) (by rfl) T.draw.g T.draw.F.kp T.draw.b .nil pass0 (pa_cons (pv 0) (pa_cons pe_int pa_nil)))) pa_nil)) (blkOk_by (N := NTree) (sc := defScope sTree) (by decide +kernel))
          (fun _ _ _ _ _ => pg_name (i := 10) scTree.nd rfl (Or.inl rfl)) (fun _ _ _ _ _ => pts_nil) (fun _ _ _ _ _ => (pe_call GT hr (by rfl) T.tree.g T.tree.F.kp T.tree.b .nil pass0 (pa_cons (pv 0) (pa_cons (pe_op op_sub (pv 1) pe_int) (pa_cons (pv 2) (pa_cons (pv 3) pa_nil)))))))) pa_nil))))) pss_nil)
      (pss_cons (ps_if (pt_cmpR op_lt (pv 4) pe_int (nomark _))
          (pss_cons (ps_asg (pe_call GA (hr.mono hk) (by rfl) T.any.g T.any.F.kp T.any.b .nil pass0 (pa_cons (pv 0) (pa_cons (pe_lst (pa_cons (pe_tup (pa_cons pe_int (pa_cons pe_non pa_nil))) (pa_cons (pe_tup (pa_cons pe_int (pa_cons pe_non pa_nil))) (pa_cons (pe_tup (pa_cons pe_int (pa_cons pe_int pa_nil))) (pa_cons (pe_tup (pa_cons pe_int (pa_cons pe_int pa_nil))) (pa_cons (pe_tup (pa_cons pe_int (pa_cons pe_int pa_nil))) (pa_cons (pe_tup (pa_cons pe_int (pa_cons pe_int pa_nil))) (pa_cons (pe_tup (pa_cons pe_int (pa_cons pe_non pa_nil))) (pa_cons (pe_tup (pa_cons pe_int (pa_cons pe_int pa_nil))) (pa_cons (pe_tup (pa_cons pe_int (pa_cons pe_int pa_nil))) pa_nil)))))))))) pa_nil))) (pg_tup rfl (pgs_cons (pg_name (i := 7) scTree.nd rfl (.inl rfl)) (pgs_cons (pg_name (i := 8) scTree.nd rfl (.inl rfl)) pgs_nil))))
          (pss_one (ps_ret (pe_tup (pa_cons pe_str (pa_cons (pv 7) (pa_cons (pv 8) (pa_cons (pe_call GT hr (by rfl) T.tree.g T.tree.F.kp T.tree.b .nil pass0 (pa_cons (pv 0) (pa_cons (pe_op op_sub (pv 1) pe_int) (pa_cons (pv 2) (pa_cons (pv 3) pa_nil))))) pa_nil)))))))) pss_nil)
      (pss_cons (ps_if (PW.pt (pw_and (pt_cmpR op_eq (pv 4) pe_int (nomark _)) (pw_and1 (pt_cmpR (op_neD hu) (pv 3) (pe_lst pa_nil) (nomark _)))))
          (pss_cons (ps_set (i := 9) scTree.nd rfl (.inl rfl) (pe_bm PySem.F.plainAttrs_list PySem.F.slot_list_pop PySem.F.type_list_pop mt_popAt (pv 3) (pa_cons pe_int pa_nil)))
          (pss_one (ps_ret (pe_tup (pa_cons pe_str (pa_cons (pv 9) (pa_cons (pe_call GT hr (by rfl) T.tree.g T.tree.F.kp T.tree.b .nil pass0 (pa_cons (pv 0) (pa_cons (pe_op op_sub (pv 1) pe_int) (pa_cons (pv 2) (pa_cons (pv 3) pa_nil))))) pa_nil))))))) pss_nil)
      (pss_one (ps_ret (pe_tup (pa_cons pe_str pa_nil)))))))))), ?_⟩
    have cp := cst_pos d
    refine ⟨fun σ H1 => ∃ r : Int, 0 ≤ r ∧ r < 12 ∧ (d = 0 → r < 4) ∧ σ = [some (.ref p), some (.int (d : Int)), some (.str (tx L)), some (.ref q), some (.int r), none, none, none, none, none, none] ∧ Pot H1 p (n + 1) ∧ Kp p H H1, ?_, fun σ H1 hM => ?_⟩
    · refine ⟨_, rfl, _, _, rfl, rfl, _, rfl, ite2 (fun hd => ?_) (fun hd => ?_)⟩
      · refine ⟨.ref p, rfl, p, n, 12, rfl, hp, by omega, by decide, by decide, fun r H1 r0 r1 hp1 k1 => ⟨r, r0, r1, fun z => ?_, rfl, hp1, k1⟩⟩
        have := of_decide_eq_true hd
        omega
      · exact ⟨.ref p, rfl, p, n, 4, rfl, hp, by omega, by decide, by decide, fun r H1 r0 r1 hp1 k1 => ⟨r, r0, by omega, fun _ => r1, rfl, hp1, k1⟩⟩
    obtain ⟨r, r0, r1, rd, rfl, hp1, k1⟩ := hM
    have hq1 : H1 q = some (.lst (nmV nm)) := k1 q _ npq.symm hq
    refine ⟨_, rfl, _, _, rfl, rfl, _, rfl, ite2 (fun h => ?_) (fun h => ?_)⟩
    · -- a letter
      refine ⟨.ref p, rfl, .str (tx L), rfl, p, _, .str (tx L), rfl, hp1, by omega, .inl ⟨tx L, rfl, ?_, ?_, fun c H2 hc hp2 k2 => ⟨(show 2 ≤ sizeLine by decide), fun b hb => ?_⟩⟩⟩
      · rw [tx_len]
        exact List.length_pos_iff.mpr hL
      · rw [tx_len]
        omega
      have s2 := smU (o := HO.tup [.str plW, .str ⟨#[c]⟩]) hb
      refine fin _ (.place [c]) _ nm (.place upd_same) (dr_place (by intro z; cases z) (one_let c (hL3 c hc))) rfl ((hp2.up hb).mono (by omega)) (s2 _ _ (k2 q _ npq.symm hq1)) ((k1.trans (k2.trans (Kp.same s2))).k2)
    refine ⟨_, rfl, rfl, _, rfl, ite2 (fun h3 => ?_) (fun h3 => ?_)⟩
    · refine ⟨rfl, LSs, rfl, for_it (walk_str (z := LSs)) (fun i σ H2 => ∃ S x6, σ = [some (.ref p), some (.int (d : Int)), some (.str (tx L)), some (.ref q), some (.int r), some (.str (tx S)), x6, none, none, none, none] ∧ S.Sublist (LETc.take i) ∧ Pot H2 p (n + 1 + i) ∧ Kp p H H2)
        ⟨[], _, rfl, List.nil_sublist _, hp1.mono (by omega), k1⟩ (fun _ _ _ _ _ => True.intro) (fun i xi σ H2 H2' hi hP hy => ?_) (fun σ H2 hP => ?_)⟩
      · obtain ⟨S, x6, rfl, hS, hp2, k2⟩ := hP
        obtain ⟨rfl, c, hc, rfl⟩ := hy
        have hc : LETc[i]? = some c := by
          rw [← LS_cps, Array.getElem?_toList]
          exact hc
        obtain ⟨hil, hie⟩ := List.getElem?_eq_some_iff.mp hc
        have ht : LETc.take (i + 1) = LETc.take i ++ [c] := by rw [List.take_succ_eq_append_getElem hil, hie]
        have hil2 : i < 38 := hil
        have hSl : S.length ≤ 38 := Nat.le_trans hS.length_le (Nat.le_trans (List.length_take_le' _ _) (by decide +kernel))
        refine ⟨.str ⟨#[c]⟩, rfl, .str (tx L), rfl, c, _, rfl, rfl, _, rfl, ite2 (fun hin => ?_) (fun hin => ?_)⟩
        · refine ⟨.str (tx S), rfl, .str ⟨#[c]⟩, rfl, .ref p, rfl, p, _, 2, rfl, hp2, by omega, by decide, by decide, fun m H3 m0 m1 hp3 k3 => ⟨⟨#[c]⟩, m, rfl, rfl, by omega, tx S, _, rfl, rfl, ?_, ?_⟩⟩
          · have : (if m = 0 then Str.empty else (⟨#[c]⟩ : Str)).length ≤ 1 := by
              split
              · exact Nat.zero_le _
              · exact Nat.le_refl 1
            rw [tx_len]
            exact Nat.le_trans (show S.length + (if m = 0 then Str.empty else (⟨#[c]⟩ : Str)).length ≤ 100 by omega) (by decide)
          · by_cases hm : m = 0
            · rw [if_pos hm, show Str.empty = tx [] from rfl, tx_app, List.append_nil]
              exact ⟨S, _, rfl, hS.trans (by rw [ht]; exact List.sublist_append_left _ _), hp3.mono (by omega), k2.trans k3⟩
            · rw [if_neg hm, show (⟨#[c]⟩ : Str) = tx [c] from rfl, tx_app]
              exact ⟨S ++ [c], _, rfl, by rw [ht]; exact hS.append (List.Sublist.refl _), hp3.mono (by omega), k2.trans k3⟩
        · exact ⟨S, _, rfl, hS.trans (by rw [ht]; exact List.sublist_append_left _ _), hp2.mono (by omega), k2⟩
      · obtain ⟨S, x6, rfl, hS, hp2, k2⟩ := hP
        have hS : S.Sublist LETc := by
          rw [List.take_of_length_le (by decide +kernel)] at hS
          exact hS
        have hp2 : Pot H2 p (n + 39) := hp2.mono (by have : LSs.cps.size = 38 := by decide +kernel
                                                     omega)
        obtain ⟨c0, L', rfl⟩ : ∃ c L', L = c :: L' := by
          cases L with
          | nil => exact absurd rfl hL
          | cons c L' => exact ⟨c, L', rfl⟩
        have mid : ∀ (s : List Nat), s ≠ [] → (LETc.filter fun e => decide (e ∈ s)) = s → ∀ l, H2 l = none → spAny K [.ref p, .ref l] (upd H2 l (.lst [.str LSs, .str (tx s)])) (fun v H' => 2 ≤ sizeLine ∧ ∀ b, H' b = none → Q (.ref b) (upd H' b (.tup [.str (Str.ofString "place"), v]))) E0 := fun s hs1 hs2 l hl => by
          have sl := smU (o := HO.lst [.str LSs, .str (tx s)]) hl
          refine ⟨p, _, .ref l, rfl, hp2.same sl, by omega, .inr ⟨l, _, rfl, fun hK => .inl (.inl (hK l _ (hp2.ne hl) upd_same)), (show 0 < 2 by decide), (show 2 ≤ 1000 by decide), fun v H4 hv hp4 k4 => ⟨by decide, fun b hb => ?_⟩⟩⟩
          obtain ⟨s', rfl, hd1⟩ : ∃ s', v = .str (tx s') ∧ Dr d (.place s') := by
            rcases List.mem_cons.mp hv with rfl | hv
            · exact ⟨LETc, by decide +kernel, dr_place (by decide) all_let⟩
            · exact ⟨s, List.mem_singleton.mp hv, dr_place hs1 hs2⟩
          have sb := smU (o := HO.tup [.str plW, .str (tx s')]) hb
          exact fin _ (.place s') _ nm (.place upd_same) hd1 rfl ((hp4.up hb).mono (by omega)) (sb _ _ (k4 q _ npq.symm (sl _ _ (k2 q _ npq.symm hq)))) ((k2.trans ((Kp.same sl).trans (k4.trans (Kp.same sb)))).k2)
        refine ⟨.ref p, rfl, rfl, _, rfl, rfl, _, rfl, ?_⟩
        by_cases he : S = []
        · subst he
          rw [decide_eq_true em_eq]
          refine iteF ⟨.str (tx (c0 :: L')), rfl, tx (c0 :: L'), 0, c0, rfl, rfl, ?_, atI_nat (j := 0) rfl, (show 2 ≤ sizeLine by decide), fun l hl => ?_⟩
          · rw [tx_len]
            exact Nat.le_trans hL2 (by decide)
          · exact mid [c0] (by intro z; cases z) (one_let c0 (hL3 c0 List.mem_cons_self)) l hl
        · obtain ⟨c1, S', rfl⟩ : ∃ c S', S = c :: S' := by
            cases S with
            | nil => exact absurd rfl he
            | cons c S' => exact ⟨c, S', rfl⟩
          rw [decide_eq_false em_ne]
          exact iteT ⟨_, rfl, (show 2 ≤ sizeLine by decide), fun l hl => mid (c1 :: S') he (sub_filter hS nd_let) l hl⟩
    refine ⟨_, rfl, _, _, rfl, rfl, _, rfl, ite2 (fun h4 => ?_) (fun h4 => ?_)⟩
    · obtain ⟨e, rfl⟩ : ∃ e, d = e + 1 := by
        cases d with
        | zero =>
          have := rd rfl
          have a1 : ¬ (r < 3) := fun z => h (decide_eq_true z)
          have a2 : ¬ (V.int r = V.int 3) := fun z => h3 (decide_eq_true z)
          exact absurd (show V.int r = V.int 3 by rw [show r = 3 by omega]) a2
        | succ e => exact ⟨e, rfl⟩
      have ee : (((e + 1 : Nat) : Int) - 1) = (e : Int) := by omega
      have ec : cst (e + 1) = 3 * cst e + 2 := rfl
      refine ⟨.ref p, rfl, p, _, 2, rfl, hp1, by omega, by decide, by decide, fun m H2 m0 m1 hp2 k2 => ⟨_, _, rfl, rfl, _, rfl, by omega, by omega, fun D hD => ?_⟩⟩
      obtain ⟨j, rfl⟩ := Int.eq_ofNat_of_zero_le m0
      rw [show (2 + (j : Int)).toNat = 2 + j by omega]
      have nDp := hp2.ne hD
      have hq2 := k2 q _ npq.symm hq1
      have nDq : D ≠ q := fun z => by
        rw [z, hq2] at hD
        cases hD
      have kk2 : K2 p q H H2 := (k1.trans k2).k2
      refine lc_it (walk_range (lo := 0) (n := 2 + j)) (fun i H3 => ∃ acc ts nm', H3 D = some (.lst acc) ∧ acc.length = i ∧ TrOs H3 acc ts ∧ DrL e ts ∧ nm = nmsL ts ++ nm' ∧ Pot H3 p (n + 2 + ((i * cst e : Nat) : Int)) ∧ H3 q = some (.lst (nmV nm')) ∧ K2 p q H H3)
        ⟨[], [], nm, upd_same, rfl, .nil, (fun _ h => nomatch h), rfl, (hp2.up hD).mono (by omega), (by rw [upd_ne nDq.symm]; exact hq2), K2.trans kk2 (K2.same (smU hD))⟩ (fun _ _ _ _ => True.intro) (fun i xi H3 H3' hi hP hy => ?_) (fun H3 hP => ?_)
      · obtain ⟨acc, ts, nm', eD, hai, os, dl, en, hp3, hq3, k3⟩ := hP
        obtain ⟨rfl, rfl⟩ := hy
        have eim : (i + 1) * cst e = i * cst e + cst e := Nat.succ_mul _ _
        have ile : i * cst e ≤ 2 * cst e := Nat.mul_le_mul_right _ (by omega)
        refine ⟨rfl, .ref p, rfl, _, rfl, _, _, rfl, rfl, .str (tx L), rfl, .ref q, rfl, hT e _ _ _ _ rfl ⟨p, q, _, L, nm', by show [V.ref p, V.int (((e + 1 : Nat) : Int) - 1), V.str (tx L), V.ref q] = _; rw [ee], hp3, by omega, hq3, fun a ha => hnm a (by rw [en]; exact List.mem_append.mpr (.inr ha)), npq, hL, hL2, hL3, fun z u H4 nm2 oz du en2 hp4 hq4 k4 => ?_⟩⟩
        have eD4 := k4 D _ nDp nDq eD
        refine ⟨acc, eD4, Nat.lt_of_le_of_lt (show acc.length ≤ 10 by omega) (by decide), acc ++ [z], ts ++ [u], nm2, upd_same, by rw [List.length_append, hai] <;> rfl, ((os.mono (kt2 hp3 hq3 k4)).mono (KT.lst eD4)).snoc (oz.mono (KT.lst eD4)), fun a ha => ?_, ?_, (hp4.wr nDp).mono (by omega), (by rw [upd_ne nDq.symm]; exact hq4), fun c o c1 c2 hc => ?_⟩
        · rcases List.mem_append.mp ha with z | z
          · exact dl a z
          · exact List.mem_singleton.mp z ▸ du
        · rw [nmsL_snoc, List.append_assoc, ← en2]
          exact en
        · rw [upd_ne (ne_of_none (kk2 c o c1 c2 hc) hD)]
          exact k4 c o c1 c2 (k3 c o c1 c2 hc)
      · obtain ⟨acc, ts, nm', eD, hai, os, dl, en, hp3, hq3, k3⟩ := hP
        have hlt := os.len
        have jle : (2 + j) * cst e ≤ 3 * cst e := Nat.mul_le_mul_right _ (by omega)
        refine .inl ⟨D, _, rfl, .inl (.inl eD), fun B hB => ⟨(show 2 ≤ sizeLine by decide), fun b hb => ?_⟩⟩
        have s4 := smU (o := HO.tup acc) hB
        have s5 := smU (o := HO.tup [.str chW, .ref B]) hb
        exact fin _ (.chain ts) _ nm' (.chain upd_same (s5 _ _ upd_same) (os.mono (KT.same (s4.trans s5)))) (dr_chain dl (by omega) (by omega)) en ((hp3.same (s4.trans s5)).mono (by omega)) ((s4.trans s5) _ _ hq3) (k3.trans (K2.same (s4.trans s5)))
    refine ⟨_, rfl, rfl, _, rfl, ite2 (fun h5 => ?_) (fun h5 => ?_)⟩
    · obtain ⟨e, rfl⟩ : ∃ e, d = e + 1 := by
        cases d with
        | zero =>
          have := rd rfl
          have a1 : ¬ (r < 3) := fun z => h (decide_eq_true z)
          have a2 : ¬ (V.int r = V.int 3) := fun z => h3 (decide_eq_true z)
          exact absurd (show V.int r = V.int 3 by rw [show r = 3 by omega]) a2
        | succ e => exact ⟨e, rfl⟩
      have ee : (((e + 1 : Nat) : Int) - 1) = (e : Int) := by omega
      have ec : cst (e + 1) = 3 * cst e + 2 := rfl
      refine ⟨.ref p, rfl, p, _, 2, rfl, hp1, by omega, by decide, by decide, fun m H2 m0 m1 hp2 k2 => ⟨_, _, rfl, rfl, _, rfl, by omega, by omega, fun D hD => ?_⟩⟩
      obtain ⟨j, rfl⟩ := Int.eq_ofNat_of_zero_le m0
      rw [show (2 + (j : Int)).toNat = 2 + j by omega]
      have nDp := hp2.ne hD
      have hq2 := k2 q _ npq.symm hq1
      have nDq : D ≠ q := fun z => by
        rw [z, hq2] at hD
        cases hD
      have kk2 : K2 p q H H2 := (k1.trans k2).k2
      refine lc_it (walk_range (lo := 0) (n := 2 + j)) (fun i H3 => ∃ acc ts nm', H3 D = some (.lst acc) ∧ acc.length = i ∧ TrOs H3 acc ts ∧ DrL e ts ∧ nm = nmsL ts ++ nm' ∧ Pot H3 p (n + 2 + ((i * cst e : Nat) : Int)) ∧ H3 q = some (.lst (nmV nm')) ∧ K2 p q H H3)
        ⟨[], [], nm, upd_same, rfl, .nil, (fun _ h => nomatch h), rfl, (hp2.up hD).mono (by omega), (by rw [upd_ne nDq.symm]; exact hq2), K2.trans kk2 (K2.same (smU hD))⟩ (fun _ _ _ _ => True.intro) (fun i xi H3 H3' hi hP hy => ?_) (fun H3 hP => ?_)
      · obtain ⟨acc, ts, nm', eD, hai, os, dl, en, hp3, hq3, k3⟩ := hP
        obtain ⟨rfl, rfl⟩ := hy
        have eim : (i + 1) * cst e = i * cst e + cst e := Nat.succ_mul _ _
        have ile : i * cst e ≤ 2 * cst e := Nat.mul_le_mul_right _ (by omega)
        refine ⟨rfl, .ref p, rfl, _, rfl, _, _, rfl, rfl, .str (tx L), rfl, .ref q, rfl, hT e _ _ _ _ rfl ⟨p, q, _, L, nm', by show [V.ref p, V.int (((e + 1 : Nat) : Int) - 1), V.str (tx L), V.ref q] = _; rw [ee], hp3, by omega, hq3, fun a ha => hnm a (by rw [en]; exact List.mem_append.mpr (.inr ha)), npq, hL, hL2, hL3, fun z u H4 nm2 oz du en2 hp4 hq4 k4 => ?_⟩⟩
        have eD4 := k4 D _ nDp nDq eD
        refine ⟨acc, eD4, Nat.lt_of_le_of_lt (show acc.length ≤ 10 by omega) (by decide), acc ++ [z], ts ++ [u], nm2, upd_same, by rw [List.length_append, hai] <;> rfl, ((os.mono (kt2 hp3 hq3 k4)).mono (KT.lst eD4)).snoc (oz.mono (KT.lst eD4)), fun a ha => ?_, ?_, (hp4.wr nDp).mono (by omega), (by rw [upd_ne nDq.symm]; exact hq4), fun c o c1 c2 hc => ?_⟩
        · rcases List.mem_append.mp ha with z | z
          · exact dl a z
          · exact List.mem_singleton.mp z ▸ du
        · rw [nmsL_snoc, List.append_assoc, ← en2]
          exact en
        · rw [upd_ne (ne_of_none (kk2 c o c1 c2 hc) hD)]
          exact k4 c o c1 c2 (k3 c o c1 c2 hc)
      · obtain ⟨acc, ts, nm', eD, hai, os, dl, en, hp3, hq3, k3⟩ := hP
        have hlt := os.len
        have jle : (2 + j) * cst e ≤ 3 * cst e := Nat.mul_le_mul_right _ (by omega)
        refine .inl ⟨D, _, rfl, .inl (.inl eD), fun B hB => ⟨(show 2 ≤ sizeLine by decide), fun b hb => ?_⟩⟩
        have s4 := smU (o := HO.tup acc) hB
        have s5 := smU (o := HO.tup [.str alW, .ref B]) hb
        exact fin _ (.choice ts) _ nm' (.choice upd_same (s5 _ _ upd_same) (os.mono (KT.same (s4.trans s5)))) (dr_choice dl (by omega) (by omega)) en ((hp3.same (s4.trans s5)).mono (by omega)) ((s4.trans s5) _ _ hq3) (k3.trans (K2.same (s4.trans s5)))
    refine ⟨_, rfl, _, _, rfl, rfl, _, rfl, ite2 (fun h6 => ?_) (fun h6 => ?_)⟩
    · obtain ⟨e, rfl⟩ : ∃ e, d = e + 1 := by
        cases d with
        | zero =>
          have := rd rfl
          have a1 : ¬ (r < 3) := fun z => h (decide_eq_true z)
          have a2 : ¬ (V.int r = V.int 3) := fun z => h3 (decide_eq_true z)
          exact absurd (show V.int r = V.int 3 by rw [show r = 3 by omega]) a2
        | succ e => exact ⟨e, rfl⟩
      have ee : (((e + 1 : Nat) : Int) - 1) = (e : Int) := by omega
      have ec : cst (e + 1) = 3 * cst e + 2 := rfl
      have cpe := cst_pos e
      refine ⟨.ref p, rfl, (show 2 ≤ sizeLine by decide), fun T1 n1 => ⟨(show 2 ≤ sizeLine by decide), fun T2 n2 => ⟨(show 2 ≤ sizeLine by decide), fun T3 n3 => ⟨(show 2 ≤ sizeLine by decide), fun T4 n4 => ⟨(show 2 ≤ sizeLine by decide), fun T5 n5 => ⟨(show 2 ≤ sizeLine by decide), fun T6 n6 => ⟨(show 2 ≤ sizeLine by decide), fun T7 n7 => ⟨(show 2 ≤ sizeLine by decide), fun T8 n8 => ⟨(show 2 ≤ sizeLine by decide), fun T9 n9 => ⟨(show 9 ≤ sizeLine by decide), fun l nl => ?_⟩⟩⟩⟩⟩⟩⟩⟩⟩⟩
      have t1 := smU (o := HO.tup [.int 0, .non]) n1
      have t2 := smU (o := HO.tup [.int 1, .non]) n2
      have t3 := smU (o := HO.tup [.int 0, .int 1]) n3
      have t4 := smU (o := HO.tup [.int 2, .int 2]) n4
      have t5 := smU (o := HO.tup [.int 0, .int 2]) n5
      have t6 := smU (o := HO.tup [.int 1, .int 3]) n6
      have t7 := smU (o := HO.tup [.int 2, .non]) n7
      have t8 := smU (o := HO.tup [.int 0, .int 0]) n8
      have t9 := smU (o := HO.tup [.int 1, .int 1]) n9
      have tl := smU (o := HO.lst [.ref T1, .ref T2, .ref T3, .ref T4, .ref T5, .ref T6, .ref T7, .ref T8, .ref T9]) nl
      have u9 := tl
      have u8 := t9.trans u9
      have u7 := t8.trans u8
      have u6 := t7.trans u7
      have u5 := t6.trans u6
      have u4 := t5.trans u5
      have u3 := t4.trans u4
      have u2 := t3.trans u3
      have u1 := t2.trans u2
      have u0 := t1.trans u1
      have nlp : l ≠ p := (hp1.same (t1.trans (t2.trans (t3.trans (t4.trans (t5.trans (t6.trans (t7.trans (t8.trans (t9)))))))))).ne nl
      refine ⟨p, _, .ref l, rfl, hp1.same u0, by omega, .inr ⟨l, _, rfl, fun hK => .inl (.inl (hK l _ nlp upd_same)), (show 0 < 9 by decide), (show 9 ≤ 1000 by decide), fun v H3 hv hp3 k3 => ?_⟩⟩
      obtain ⟨a, b, T0, rfl, eT3, hab⟩ : ∃ (a : Nat) (b : Option Nat) (T0 : Addr), v = .ref T0 ∧ H3 T0 = some (.tup [.int (a : Int), mst b]) ∧ (a, b) ∈ CTb := by
        simp only [List.mem_cons, List.not_mem_nil, or_false] at hv
        rcases hv with rfl | rfl | rfl | rfl | rfl | rfl | rfl | rfl | rfl
        · exact ⟨0, none, T1, rfl, (hp1.same u0).kt k3 _ _ (u1 T1 _ upd_same), by decide⟩
        · exact ⟨1, none, T2, rfl, (hp1.same u0).kt k3 _ _ (u2 T2 _ upd_same), by decide⟩
        · exact ⟨0, some 1, T3, rfl, (hp1.same u0).kt k3 _ _ (u3 T3 _ upd_same), by decide⟩
        · exact ⟨2, some 2, T4, rfl, (hp1.same u0).kt k3 _ _ (u4 T4 _ upd_same), by decide⟩
        · exact ⟨0, some 2, T5, rfl, (hp1.same u0).kt k3 _ _ (u5 T5 _ upd_same), by decide⟩
        · exact ⟨1, some 3, T6, rfl, (hp1.same u0).kt k3 _ _ (u6 T6 _ upd_same), by decide⟩
        · exact ⟨2, none, T7, rfl, (hp1.same u0).kt k3 _ _ (u7 T7 _ upd_same), by decide⟩
        · exact ⟨0, some 0, T8, rfl, (hp1.same u0).kt k3 _ _ (u8 T8 _ upd_same), by decide⟩
        · exact ⟨1, some 1, T9, rfl, (hp1.same u0).kt k3 _ _ (u9 T9 _ upd_same), by decide⟩
      obtain ⟨c1, c2, c3⟩ := ctb_ok _ hab
      have hq3 := k3 q _ npq.symm (u0 _ _ hq1)
      have kk3 : K2 p q H H3 := (k1.trans ((Kp.same u0).trans k3)).k2
      refine ⟨T0, _, rfl, .inl (.inl eT3), rfl, _, _, rfl, _, _, rfl, rfl, ?_⟩
      refine ⟨_, rfl, _, rfl, .ref p, rfl, _, rfl, _, _, rfl, rfl, .str (tx L), rfl, .ref q, rfl, hT e _ _ _ _ rfl ⟨p, q, _, L, nm, by show [V.ref p, V.int (((e + 1 : Nat) : Int) - 1), V.str (tx L), V.ref q] = _; rw [ee], hp3, by omega, hq3, hnm, npq, hL, hL2, hL3, fun z u H4 nm' oz du en hp4 hq4 k4 => ⟨(show 4 ≤ sizeLine by decide), fun b' hb => ?_⟩⟩⟩
      have sb := smU (o := HO.tup [.str coW, .int a, mst b, z]) hb
      exact fin _ (.count a b u) _ nm' (.count upd_same (oz.mono (KT.same sb))) (dr_count du c1 c2 c3) en ((hp4.up hb).mono (by omega)) (sb _ _ hq4) ((kk3.trans k4).trans (K2.same sb))
    have emp : ∀ (H2 : Hp), Same H1 H2 → 1 ≤ sizeLine ∧ ∀ b, H2 b = none → Q (.ref b) (upd H2 b (.tup [.str emW])) := fun H2 s2 => ⟨by decide, fun b hb => by
      have sb := smU (o := HO.tup [.str emW]) hb
      exact fin _ .empty _ nm (.empty upd_same) dr_empty rfl (((hp1.same s2).up hb).mono (by omega)) ((s2.trans sb) _ _ hq1) ((k1.trans (Kp.same (s2.trans sb))).k2)⟩
    refine ⟨_, rfl, rfl, _, rfl, ?_⟩
    by_cases h10 : V.int r = V.int 10
    · rw [decide_eq_true h10]
      refine iteT ⟨.ref q, rfl, Nat.zero_le _, fun e1 he1 => ?_⟩
      have s1 := smU (o := HO.lst []) he1
      refine ⟨.list (nmD nm), .list [], .lst (.inl (.inl (s1 _ _ hq1))) (nm_dp nm), .lst (.inl (.inl upd_same)) .nil, nmD_shaped hnm, by decide, _, rfl, ?_⟩
      rw [nmD_eqv]
      cases nm with
      | nil => exact iteF (emp _ s1)
      | cons n0 nr =>
        obtain ⟨e, rfl⟩ : ∃ e, d = e + 1 := by
          cases d with
          | zero =>
            have := rd rfl
            have := V.int.inj h10
            omega
          | succ e => exact ⟨e, rfl⟩
        have ee : (((e + 1 : Nat) : Int) - 1) = (e : Int) := by omega
        have ec : cst (e + 1) = 3 * cst e + 2 := rfl
        obtain ⟨m1, m2, m3⟩ := hnm n0 List.mem_cons_self
        have hsx : seqIndex? (0 : Int) (nmV (n0 :: nr)).length = some 0 := by
          have := seqIndex_of (k := 0) (n := (nmV (n0 :: nr)).length) (Int.le_refl 0) (by show (0 : Int) < ((nr.map (fun n => V.str (tx n))).length + 1 : Nat); omega)
          exact this
        refine iteT ⟨.ref q, rfl, .inl ⟨rfl, _, .inl (.inl (s1 _ _ hq1))⟩, q, _, 0, 0, .str (tx n0), rfl, rfl, s1 _ _ hq1, by decide, by decide, hsx, rfl, ?_⟩
        have hp2 := hp1.same s1
        have npq2 : q ≠ p := npq.symm
        have kk : K2 p q H (upd (upd H1 e1 (.lst [])) q (.lst ((nmV (n0 :: nr)).eraseIdx 0))) := (k1.trans (Kp.same s1)).k2.trans K2.l
        refine ⟨_, rfl, .ref p, rfl, _, rfl, _, _, rfl, rfl, .str (tx L), rfl, .ref q, rfl, hT e _ _ _ _ rfl ⟨p, q, _, L, nr, by show [V.ref p, V.int (((e + 1 : Nat) : Int) - 1), V.str (tx L), V.ref q] = _; rw [ee], hp2.wr npq2, by omega, upd_same, fun a ha => hnm a (List.mem_cons_of_mem _ ha), npq, hL, hL2, hL3, fun z u H4 nm' oz du en hp4 hq4 k4 => ⟨(show 3 ≤ sizeLine by decide), fun b' hb => ?_⟩⟩⟩
        have sb := smU (o := HO.tup [.str caW, .str (tx n0), z]) hb
        exact fin _ (.capture n0 u) _ nm' (.capture upd_same (oz.mono (KT.same sb))) (dr_capture du m1 m2 m3) (by rw [en] <;> rfl) ((hp4.up hb).mono (by omega)) (sb _ _ hq4) ((kk.trans k4).trans (K2.same sb))
    · rw [decide_eq_false h10]
      exact iteF (iteF (emp _ (Same.refl _)))
end
end Sf4
/-! A dict display whose keys are tuples of None, ints and texts; its get with a default. -/
namespace Sf
open PySem PySem.Spec PyProof.Rows L2
def oV : Option Key → V
  | none => .non
  | some k => kV k
abbrev NKd (P : Program) (w : World) : HeapKind P w (List (Option Key)) := tupleKind (noneKind P w)
theorem oV_is {P : Program} {w : World} {k : Option Key} {v : Value} (r : RelV (oV k) v) : (noneKind P w).is k v = true := by
  cases k with
  | none =>
    cases (show v = Value.none from r)
    rfl
  | some k => exact kV_is (P := P) (w := w) r
theorem itemsN_are {P : Program} {w : World} : ∀ {ks : List (Option Key)} {its : List Value}, Vals (ks.map oV) its → ItemsAre (noneKind P w) ks its
  | [], _, h => by
    cases h
    exact .nil
  | k :: ks, _, h => by
    cases h with
    | cons r t => exact .cons (oV_is r) (itemsN_are t)
theorem keyN_of {P : Program} {w : World} {H : Hp} {h : Heap} {a : Addr} {ks : List (Option Key)} (ok : HOk P w H h) (e : H a = some (.tup (ks.map oV))) : (NKd P w).is h ks a := by
  obtain ⟨_, its, r, o, h1, h2, n, h3⟩ := (show ObjOk P w H h a (.tup (ks.map oV)) from ok a _ e)
  exact ⟨o, its.toArray, n, h1, h2, h3, by simpa using itemsN_are (P := P) (w := w) r⟩
/-- such a dict, by its entries -/
def DkN (P : Program) (w : World) (d : Addr) (xs : List (List (Option Key) × Addr × Value)) : HO := .ext fun h => (d == sysModules) = false ∧ ∃ o es ep, h.get? d = some o ∧ o.ExactDict ∧ o.data = .dict es ep ∧ es.toList = xs.map (entryOfKey (NKd P w)) ∧ (xs.map (·.1)).Nodup
theorem dkN_ok {P : Program} {w : World} {H : Hp} {h : Heap} {d : Addr} {xs : List (List (Option Key) × Addr × Value)} (hd : (d == sysModules) = false) (R : h.DictOfH (NKd P w) d xs) : ObjOk P w H h d (DkN P w d xs) := by
  obtain ⟨o, es, ep, h1, h2, h3, h4, h5, h6⟩ := R
  refine ⟨⟨hd, o, es, ep, h1, h2, h3, h4, h6⟩, ⟨o, h1⟩, fun a b p k => ?_⟩
  obtain ⟨_, o, es, ep, g1, g2, g3, g4, g5⟩ := p
  exact ⟨hd, o, es, ep, k o g1, g2, g3, g4, g5⟩
theorem dkN_get {P : Program} {w : World} {H : Hp} {h : Heap} {d : Addr} {xs : List (List (Option Key) × Addr × Value)} (ok : HOk P w H h) (e : H d = some (DkN P w d xs)) (hk : ∀ x ∈ xs, H x.2.1 = some (.tup (x.1.map oV))) : (d == sysModules) = false ∧ h.DictOfH (NKd P w) d xs := by
  obtain ⟨⟨hd, o, es, ep, g1, g2, g3, g4, g5⟩, _⟩ := (show ObjOk P w H h d (DkN P w d xs) from ok d _ e)
  exact ⟨hd, o, es, ep, g1, g2, g3, g4, fun x hx => keyN_of ok (hk x hx), g5⟩
theorem atKey_app {K : Type} [DecidableEq K] {xs ys : List (K × Addr × Value)} {k : K} (h : k ∉ xs.map (·.1)) : atKey (xs ++ ys) k = atKey ys k := by
  unfold atKey
  rw [List.find?_append]
  have e : (xs.find? fun x => decide (x.1 = k)) = none := List.find?_eq_none.mpr fun x hx z => h (List.mem_map.mpr ⟨x, hx, of_decide_eq_true z⟩)
  rw [e] <;> rfl
theorem storedAll_nodup {K : Type} [DecidableEq K] : ∀ (ps acc : List (K × Addr × Value)), ((acc ++ ps).map (·.1)).Nodup → storedAllH acc ps = acc ++ ps
  | [], acc, _ => (List.append_nil acc).symm
  | p :: ps, acc, h => by
    have hn : p.1 ∉ acc.map (·.1) := fun z => by
      rw [List.map_append] at h
      exact (List.nodup_append.mp h).2.2 p.1 z p.1 List.mem_cons_self rfl
    have e : atKey acc p.1 = none := by
      have q := atKey_app (ys := []) hn
      rw [List.append_nil] at q
      rw [q] <;> rfl
    show storedAllH (storedH acc p.1 p.2.1 p.2.2) ps = _
    rw [storedH_new e, storedAll_nodup ps (acc ++ [(p.1, p.2.1, p.2.2)]) (by rw [List.append_assoc]; exact h), List.append_assoc] <;> rfl
/-- what a pair of the display is -/
abbrev RelP (k : (List (Option Key) × Addr) × V) (x : List (Option Key) × Addr × Value) : Prop := k.1.1 = x.1 ∧ k.1.2 = x.2.1 ∧ RelV k.2 x.2.2
theorem relP_keys : ∀ {ks : List ((List (Option Key) × Addr) × V)} {xs : List (List (Option Key) × Addr × Value)}, Paired RelP ks xs → ks.map (·.1.1) = xs.map (·.1)
  | _, _, .nil => rfl
  | _, _, .cons h t => by
    rw [List.map_cons, List.map_cons, relP_keys t, h.1]
theorem relP_at {H : Hp} : ∀ {ks : List ((List (Option Key) × Addr) × V)} {xs : List (List (Option Key) × Addr × Value)}, Paired RelP ks xs → (∀ k ∈ ks, H k.1.2 = some (.tup (k.1.1.map oV))) → ∀ x ∈ xs, H x.2.1 = some (.tup (x.1.map oV))
  | _, _, .nil, _ => fun _ h => nomatch h
  | _, _, .cons h t, q => fun x hx => by
    rcases List.mem_cons.mp hx with rfl | hx
    · have := q _ List.mem_cons_self
      rw [h.1, h.2.1] at this
      exact this
    · exact relP_at t (fun k hk => q k (List.mem_cons_of_mem _ hk)) x hx
theorem carriesN {P : Program} {w : World} {H : Hp} {h : Heap} (ok : HOk P w H h) : ∀ {ks : List ((List (Option Key) × Addr) × V)} {ws : List (Value × Value)}, VV (ks.map fun k => (V.ref k.1.2, k.2)) ws → (∀ k ∈ ks, H k.1.2 = some (.tup (k.1.1.map oV))) → ∃ xs, CarriesH (NKd P w) h ws xs ∧ Paired RelP ks xs
  | [], _, r, _ => by
    cases r
    exact ⟨[], True.intro, .nil⟩
  | k :: ks, _, r, q => by
    cases r with
    | @cons a b as bs h0 t =>
      obtain ⟨xs, c, p⟩ := carriesN ok t fun j hj => q j (List.mem_cons_of_mem _ hj)
      obtain ⟨b1, b2⟩ := b
      refine ⟨(k.1.1, k.1.2, b2) :: xs, ⟨h0.1, rfl, keyN_of ok (q k List.mem_cons_self), c⟩, .cons ⟨rfl, rfl, h0.2⟩ p⟩
def tDispN (P : Program) (w : World) (trs : List (TE × TE)) : TE := fun σ H Q => ∀ p, H p = none → tPairs trs σ (upd H p (.dT [])) fun ps H2 => H2 p = some (.dT []) ∧ ∃ ks : List ((List (Option Key) × Addr) × V), ps = ks.map (fun k => (V.ref k.1.2, k.2)) ∧ (ks.map (·.1.1)).Nodup ∧
  (∀ k ∈ ks, H2 k.1.2 = some (.tup (k.1.1.map oV))) ∧ ∀ xs, Paired RelP ks xs → Q (.ref p) (upd H2 p (DkN P w p xs))
theorem pe_dispN {X : Cx} {pos : Pos} {keys : List (Option Expr)} {values : List Expr} {trs : List (TE × TE)} (hu : X.A.units < cLine) (h : PPs X pos keys values trs) (hall : keys.all (·.isSome) = true) (hl : keys.length = values.length) (h0 : keys ≠ [])
    (h15 : keys.length ≤ 15) : PE X (.Dict keys values pos) (tDispN X.prog X.w trs) := by
  refine ⟨fun pins s σ H Q I q => ?_⟩
  have hn := I.hok.fresh (Nat.le_refl s.heap.objs.size)
  have I1 := I.laid (a := s.heap.objs.size) (o := .dT []) (h' := s.heap.push { cls := .type "dict", data := .dict #[] }) (t' := s.toks) (fun _ _ q => Heap.get?_push_of_some _ q) (Nat.le_refl _) (dt_empty s.heap I.big)
  have hpl := pairTrees_length keys values X.env pos hall hl
  have hp0 : pairTrees keys values X.env pos ≠ [] := fun z => by
    rw [z] at hpl
    exact h0 (List.length_eq_zero_iff.mp hpl.symm)
  rw [arm_eval_Dict, zip_pairTrees keys values X.env pos hall hl, dictDisplay_pairs _ hp0 (by omega)]
  refine wpAny_bind (wpAny_standAt (wpAny_bind (wpAny_subDictH (knd := NKd X.prog X.w) (Q := fun d s' => wpAny (model X.prog X.w) X.A (pure (Value.ref d)) (EP X pins σ Q) X.xe s') hu (by omega)
    (thn (h.run pins _ σ _ _ I1 (q _ hn)) fun ws s2 ⟨ps, H2, I2, rel, e, ks, ep, nd, hk, q2⟩ => ?_))))
  subst ep
  obtain ⟨xs, c, rp⟩ := carriesN (P := X.prog) (w := X.w) I2.hok rel hk
  obtain ⟨z, hd, xs0, r0, dd⟩ := dt_of I2.hok e
  cases r0
  obtain ⟨o, es, ep, g1, g2, g3, g4, _, _⟩ := dd
  refine ⟨xs, c, ⟨o, es, ep, g1, g2, g3, g4, (fun _ h => nomatch h), List.nodup_nil⟩, fun h' tk dd' hs => wpAny_pure ⟨.ref s.heap.objs.size, _, ?_, rfl, q2 xs rp⟩⟩
  rw [storedAll_nodup xs [] (by rw [List.nil_append, ← relP_keys rp]; exact nd), List.nil_append] at dd'
  have he : ∃ q, h'.get? s.heap.objs.size = some q := let ⟨q, _, _, hq, _⟩ := dd'; ⟨q, hq⟩
  exact d_write I2 (by rw [e]; exact True.intro) hs he (dkN_ok hd dd')
/-- what get tells of such a dict -/
def tGetN (P : Program) (w : World) (td ty tx : TE) : TE := fun σ H Q => td σ H fun x H1 => (∃ d xs, x = .ref d ∧ H1 d = some (DkN P w d xs) ∧ ∀ y ∈ xs, H1 y.2.1 = some (.tup (y.1.map oV))) ∧ ty σ H1 fun y H2 => tx σ H2 fun z H3 =>
  ∃ d ks xs b k r, x = .ref d ∧ H3 d = some (DkN P w d xs) ∧ Paired RelP ks xs ∧ (∀ y ∈ xs, H3 y.2.1 = some (.tup (y.1.map oV))) ∧ y = .ref b ∧ H3 b = some (.tup (k.map oV)) ∧ (ks.find? fun j => decide (j.1.1 = k)).map (·.2) = r ∧ Q (r.getD z) H3
theorem find_rel {k : List (Option Key)} : ∀ {ks : List ((List (Option Key) × Addr) × V)} {xs : List (List (Option Key) × Addr × Value)}, Paired RelP ks xs → RelO ((ks.find? fun j => decide (j.1.1 = k)).map (·.2)) ((atKey xs k).map (·.2))
  | _, _, .nil => trivial
  | k0 :: ks, x0 :: xs, .cons h t => by
    unfold atKey
    rw [List.find?_cons, List.find?_cons]
    by_cases e : k0.1.1 = k
    · rw [decide_eq_true e, decide_eq_true (h.1 ▸ e)]
      exact h.2.2
    · rw [decide_eq_false e, decide_eq_false (h.1 ▸ e)]
      exact find_rel t
theorem relO_getD {a : Option V} {b : Option Value} {z : V} {u : Value} (h : RelO a b) (r : RelV z u) : RelV (a.getD z) (b.getD u) := by
  cases a <;> cases b <;> first | exact h.elim | exact r | exact h
theorem pe_dgetN {X : Cx} {o e f : Expr} {apos cpos : Pos} {td ty tx : TE} (hu : X.A.units + 1 < cLine) (ho : PE X o td) (he : PE X e ty) (hf : PE X f tx) (m : M2 X o "get" apos e f cpos) : PE X (.Call (.Attribute o "get" apos) [e, f] [] cpos) (tGetN X.prog X.w td ty tx) := by
  refine ⟨fun pins s σ H Q I h => ?_⟩
  refine wpAny_Call_method m.base m.few m.line PySem.F.plainAttrs_dict PySem.F.slot_dict_get PySem.F.type_dict_get (thn (ho.run pins s σ H _ I h) fun u s1 ⟨x, H1, I1, rx, ⟨d, xs, ex, ed, hk⟩, q1⟩ => ?_)
  subst ex
  obtain rfl : u = Value.ref d := rx
  obtain ⟨hd, dd⟩ := dkN_get I1.hok ed hk
  refine ⟨dd.typeIs, fun b q => ?_, ?_⟩
  · cases q
    obtain ⟨ob, _, _, h1, h2, _⟩ := dd
    exact ⟨ob, h1, h2.2.1⟩
  rw [m.trees]
  refine Calls.callWith_builtin rfl (Calls.evalArgs_plain (Calls.spliced_cons (thn (he.run pins s1 σ H1 _ I1 q1) fun iv s2 ⟨y, H2, I2, ry, q2⟩ =>
    Calls.spliced_cons (thn (hf.run pins s2 σ H2 _ I2 q2) fun fv s3 ⟨z, H3, I3, rz, d', ks, xs', b, k, r, ex, ed3, rp, hk3, ey, eb, er, q3⟩ => Calls.spliced_nil ?_))))
  cases ex
  subst ey
  obtain rfl : iv = Value.ref b := ry
  obtain ⟨hd, dd3⟩ := dkN_get I3.hok ed3 hk3
  refine call_meetsIn PySem.F.slot_dict_get dd3.typeIs PySem.F.entry_dict_get (PySem.F.args_dict_get_3 _ _ _) (meetsH_dict_get_default (NKd X.prog X.w) d b hd fv) ⟨tupleKind_room_in1 hu, k, xs', keyN_of I3.hok eb, dd3, ⟨_, H3, I3.tok _, ?_, q3⟩⟩
  rw [← er]
  exact relO_getD (find_rel rp) rz
end Sf
namespace Sf4
open PySem PySem.Spec PyProof.Rows L2 Sf
def NMany : List Str := ["_law_tree_here", "_law_part"]
theorem scMany : FnScope NMany ["_law_tree_here"] (defScope sMany) := ⟨rfl, rfl, rfl, by decide +kernel, rfl, by decide +kernel, by decide +kernel⟩
section
variable {P : Program} {w : World} {K : PySem.W.Frag} {mg : Str → Option Value} {base : Heap} {f : Nat → Addr} {fd : Nat → FuncData}
theorem ok_tree (T : LawT K mg f fd) : ∀ d, FnOk P w K mg base CX0 (3 + d) (f 4) (fd 4) ["_law_pot_here", "_law_deep", "_law_letters", "_law_names"] (spTree d)
  | 0 => ok_tree1 T (k := 2) (d := 0) (spT := spNo) (by decide) ok_no (fun e _ _ _ _ h => absurd h (by omega))
  | d + 1 => (ok_tree1 T (k := 3 + d) (d := d + 1) (spT := spTree d) (by omega) (ok_tree T d) (fun e vs H Q E h q => by
      obtain rfl : e = d := by omega
      exact q)).mono (by omega)
theorem ok_many1 (T : LawT K mg f fd) {k d : Nat} {spA : Sp} (G : FnOk P w K mg base CX0 k (f 5) (fd 5) ["_law_tree_here"] spA) (hA : ∀ e vs H Q E, e + 1 ≤ d → spSize e vs H Q E → spA vs H Q E) : FnOk P w K mg base CX0 (k + 1) (f 5) (fd 5) ["_law_tree_here"] (spSize d) := by
  refine T.many.F.ok scMany (fun vs H Q E h => ?_) (fun cdv A outer s H vs Q E hr h => ?_)
  · obtain ⟨v, t, rfl, _⟩ := h
    rfl
  · obtain ⟨v, t, rfl, hd, hw, ht, q⟩ := h
    have gM := T.many.g
    have kM := T.many.F.kp
    have bM := T.many.b
    refine ⟨_, pss_cons (ps_if (pt_cmpR op_eq (pe_ix ix_tup (pv 0) pe_int (fun _ _ => rfl)) pe_str (nomark _)) (pss_one (ps_ret pe_int)) pss_nil)
      (pss_cons (ps_if (pt_cmpR op_in_seq (pe_ix ix_tup (pv 0) pe_int (fun _ _ => rfl)) (pe_tup (pa_cons pe_str (pa_cons pe_str pa_nil))) rfl)
          (pss_one (ps_ret (pe_callB (cr_sum rfl) (by rfl) T.zsum (by decide +kernel) (pa_cons (pe_lc (own := [("_law_part", 1)]) (g := gName 1) (tt := tYes) (te := tCall spA [] E0 (tCons (tVar 1) tNil)) rfl scMany.nd (pi_tup (pe_ix ix_tup (pv 0) pe_int (fun _ _ => rfl))) (blkOk_by (N := NMany) (sc := defScope sMany) (by decide +kernel))
              (fun _ _ _ _ _ => pg_name (i := 1) scMany.nd rfl (Or.inl rfl)) (fun _ _ _ _ _ => pts_nil) (fun _ _ _ _ _ => pe_call G hr (by rfl) gM kM bM .nil pass0 (pa_cons (pv 1) pa_nil))) pa_nil)))) pss_nil)
      (pss_cons (ps_if (pt_cmpR op_eq (pe_ix ix_tup (pv 0) pe_int (fun _ _ => rfl)) pe_str (nomark _)) (pss_one (ps_ret (pe_call G hr (by rfl) gM kM bM .nil pass0 (pa_cons (pe_ix ix_tup (pv 0) pe_int (fun _ _ => rfl)) pa_nil)))) pss_nil)
      (pss_cons (ps_if (pt_cmpR op_eq (pe_ix ix_tup (pv 0) pe_int (fun _ _ => rfl)) pe_str (nomark _)) (pss_one (ps_ret pe_int)) pss_nil)
      (pss_one (ps_ret (pe_op op_mul (pe_ifExp (pt_cmpR op_isN (pe_ix ix_tup (pv 0) pe_int (fun _ _ => rfl)) pe_non (nomark _)) (pe_callB (call_max2 rfl) (by rfl) T.zmax (by decide +kernel) (pa_cons (pe_ix ix_tup (pv 0) pe_int (fun _ _ => rfl)) (pa_cons pe_int pa_nil))) (pe_ix ix_tup (pv 0) pe_int (fun _ _ => rfl)))
        (pe_call G hr (by rfl) gM kM bM .nil pass0 (pa_cons (pe_ix ix_tup (pv 0) pe_int (fun _ _ => rfl)) pa_nil)))))))), ?_⟩
    by_cases hp : ∃ s, t = .place s
    · obtain ⟨s, rfl⟩ := hp
      cases ht with
      | place e =>
      rename_i a
      refine ⟨.ref a, rfl, a, _, 0, _, rfl, rfl, .inl (.inl e), atI_nat (j := 0) rfl, rfl, _, rfl, ?_⟩
      rw [decide_eq_true (show V.str plW = V.str (Str.ofString "place") from rfl)]
      exact iteT (q H (Same.refl H))
    obtain ⟨a, X, rest, rfl, e, n1, hX⟩ : ∃ a X rest, v = .ref a ∧ H a = some (.tup (.str X :: rest)) ∧ ¬ (V.str X = V.str plW) ∧
        ((t = .empty ∧ X = emW) ∨ (∃ b vs l, (t = .chain l ∧ X = chW ∨ t = .choice l ∧ X = alW) ∧ rest = [.ref b] ∧ H b = some (.tup vs) ∧ TrOs H vs l) ∨ (∃ n z u, t = .capture n u ∧ X = caW ∧ rest = [.str (tx n), z] ∧ TrO H z u) ∨ (∃ a b z u, t = .count a b u ∧ X = coW ∧ rest = [.int a, mst b, z] ∧ TrO H z u)) := by
      cases ht with
      | place e => exact absurd ⟨_, rfl⟩ hp
      | capture e r => exact ⟨_, _, _, rfl, e, by decide +kernel, .inr (.inr (.inl ⟨_, _, _, rfl, rfl, rfl, r⟩))⟩
      | count e r => exact ⟨_, _, _, rfl, e, by decide +kernel, .inr (.inr (.inr ⟨_, _, _, _, rfl, rfl, rfl, r⟩))⟩
      | empty e => exact ⟨_, _, _, rfl, e, by decide +kernel, .inl ⟨rfl, rfl⟩⟩
      | chain e e2 r => exact ⟨_, _, _, rfl, e, by decide +kernel, .inr (.inl ⟨_, _, _, .inl ⟨rfl, rfl⟩, rfl, e2, r⟩)⟩
      | choice e e2 r => exact ⟨_, _, _, rfl, e, by decide +kernel, .inr (.inl ⟨_, _, _, .inr ⟨rfl, rfl⟩, rfl, e2, r⟩)⟩
    refine ⟨.ref a, rfl, a, _, 0, _, rfl, rfl, .inl (.inl e), atI_nat (j := 0) rfl, rfl, _, rfl, ?_⟩
    rw [decide_eq_false (show ¬ (V.str X = V.str (Str.ofString "place")) from n1)]
    refine iteF ⟨.ref a, rfl, a, _, 0, _, rfl, rfl, .inl (.inl e), atI_nat (j := 0) rfl, (show 2 ≤ sizeLine by decide), fun T0 h0 => ?_⟩
    have s0 := smU (o := HO.tup [.str chW, .str alW]) h0
    refine ⟨T0, _, rfl, .inr (.inl (.inl upd_same)), rfl, rfl, _, rfl, ?_⟩
    show if inV (V.str X) [V.str chW, V.str alW] = true then _ else _
    have e1 := s0 _ _ e
    rcases hX with ⟨rfl, rfl⟩ | ⟨b, vs, l, hXl, rfl, eb, os⟩ | ⟨n, z, u, rfl, rfl, rfl, r⟩ | ⟨a0, b0, z, u, rfl, rfl, rfl, r⟩
    · rw [show inV (V.str emW) [V.str chW, V.str alW] = false by decide +kernel]
      refine iteF ⟨.ref a, rfl, a, _, 0, _, rfl, rfl, .inl (.inl e1), atI_nat (j := 0) rfl, rfl, _, rfl, ?_⟩
      rw [decide_eq_false (show ¬ (V.str emW = V.str (Str.ofString "capture")) by decide +kernel)]
      refine iteF ⟨.ref a, rfl, a, _, 0, _, rfl, rfl, .inl (.inl e1), atI_nat (j := 0) rfl, rfl, _, rfl, ?_⟩
      rw [decide_eq_true (show V.str emW = V.str (Str.ofString "empty") from rfl)]
      exact iteT (q _ s0)
    · have hin : inV (V.str X) [V.str chW, V.str alW] = true := by
        rcases hXl with ⟨_, rfl⟩ | ⟨_, rfl⟩ <;> decide +kernel
      have hd : depL l + 1 ≤ d := by
        rcases hXl with ⟨rfl, _⟩ | ⟨rfl, _⟩ <;> exact hd
      have hw : max l.length (widL l) ≤ 1000 := by
        rcases hXl with ⟨rfl, _⟩ | ⟨rfl, _⟩ <;> exact hw
      have hsz : sz t = szL l := by
        rcases hXl with ⟨rfl, _⟩ | ⟨rfl, _⟩ <;> rfl
      rw [hin]
      have hvl := os.len
      refine iteT ⟨.ref a, rfl, a, _, 1, _, rfl, rfl, .inl (.inl e1), atI_nat (j := 1) rfl, b, rfl, ⟨_, .inl (.inl (s0 _ _ eb))⟩, fun D hD => ?_⟩
      refine lc_it (walk_tup (K := K) (a := b) (xs := vs)) (fun i H3 => H3 D = some (.lst (((l.take i).map fun t => ((sz t : Nat) : Int)).map V.int)) ∧ Same H H3)
        ⟨upd_same, s0.trans (smU hD)⟩ (fun i H3 _ hP => .inl (.inl (hP.2 _ _ eb))) (fun i xi H3 H3' hi hP hy => ?_) (fun H3 hP => ?_)
      · obtain ⟨eD, s3⟩ := hP
        obtain ⟨rfl, hxi⟩ := hy
        obtain ⟨ti, hti, oti⟩ := os.get hxi
        obtain ⟨d1, d2⟩ := depL_get hti
        obtain ⟨hil, hie⟩ := List.getElem?_eq_some_iff.mp hti
        have ht : l.take (i + 1) = l.take i ++ [ti] := by rw [List.take_succ_eq_append_getElem hil, hie]
        refine ⟨rfl, xi, rfl, hA (depL l) _ _ _ _ hd ⟨xi, ti, rfl, d1, by omega, oti.mono (KT.same s3), fun H4 s4 => ?_⟩⟩
        refine ⟨_, s4 _ _ eD, ?_, ?_, fun c o h => ?_⟩
        · rw [List.length_map, List.length_map, List.length_take]
          exact Nat.lt_of_le_of_lt (show min i l.length ≤ 1000 by omega) (by decide)
        · rw [upd_same, ht, List.map_append, List.map_append] <;> rfl
        · rw [upd_ne (ne_of_none (s0 _ _ h) hD)]
          exact s4 _ _ (s3 _ _ h)
      · obtain ⟨eD, s3⟩ := hP
        rw [hvl, List.take_of_length_le (Nat.le_refl _)] at eD
        refine ⟨D, _, rfl, .inl (.inl eD), ?_⟩
        rw [szL_sum, ← hsz]
        exact q _ s3
    · have hd : dep u + 1 ≤ d := hd
      rw [show inV (V.str caW) [V.str chW, V.str alW] = false by decide +kernel]
      refine iteF ⟨.ref a, rfl, a, _, 0, _, rfl, rfl, .inl (.inl e1), atI_nat (j := 0) rfl, rfl, _, rfl, ?_⟩
      rw [decide_eq_true (show V.str caW = V.str (Str.ofString "capture") from rfl)]
      refine iteT ⟨.ref a, rfl, a, _, 2, _, rfl, rfl, .inl (.inl e1), atI_nat (j := 2) rfl, ?_⟩
      exact hA (dep u) _ _ _ _ hd ⟨z, u, rfl, Nat.le_refl _, hw, r.mono (KT.same s0), fun H4 s4 => q H4 (s0.trans s4)⟩
    · have hd : dep u + 1 ≤ d := hd
      have hw : max (many a0 b0) (wid u) ≤ 1000 := hw
      rw [show inV (V.str coW) [V.str chW, V.str alW] = false by decide +kernel]
      refine iteF ⟨.ref a, rfl, a, _, 0, _, rfl, rfl, .inl (.inl e1), atI_nat (j := 0) rfl, rfl, _, rfl, ?_⟩
      rw [decide_eq_false (show ¬ (V.str coW = V.str (Str.ofString "capture")) by decide +kernel)]
      refine iteF ⟨.ref a, rfl, a, _, 0, _, rfl, rfl, .inl (.inl e1), atI_nat (j := 0) rfl, rfl, _, rfl, ?_⟩
      rw [decide_eq_false (show ¬ (V.str coW = V.str (Str.ofString "empty")) by decide +kernel)]
      refine iteF ⟨.ref a, rfl, a, _, 2, _, rfl, rfl, .inl (.inl e1), atI_nat (j := 2) rfl, rfl, _, rfl, ?_⟩
      have tail : ∀ y : V, y = .int ((many a0 b0 : Nat) : Int) → (tCall spA [] E0 (tCons (tOp (rIxT K) (tVar 0) (tC (.int 3))) tNil)) [some (.ref a), none] (upd H T0 (.tup [.str chW, .str alW])) (fun z2 H2 => rI CMul (fun i j => .int (i * j)) y z2 H2 Q) := fun y hy => by
        subst hy
        refine ⟨.ref a, rfl, a, _, 3, _, rfl, rfl, .inl (.inl e1), atI_nat (j := 3) rfl, hA (dep u) _ _ _ _ hd ⟨z, u, rfl, Nat.le_refl _, by omega, r.mono (KT.same s0), fun H4 s4 => ?_⟩⟩
        refine ⟨_, _, rfl, rfl, .inl ⟨by omega, by omega⟩, ?_⟩
        have q1 := q H4 (s0.trans s4)
        have e5 : ((sz (.count a0 b0 u) : Nat) : Int) = ((many a0 b0 : Nat) : Int) * ((sz u : Nat) : Int) := by
          show ((many a0 b0 * sz u : Nat) : Int) = _
          rw [Int.natCast_mul]
        rw [e5] at q1
        exact q1
      cases b0 with
      | none =>
        refine iteT ⟨.ref a, rfl, a, _, 1, _, rfl, rfl, .inl (.inl e1), atI_nat (j := 1) rfl, (a0 : Int), 1, rfl, ?_⟩
        refine tail _ ?_
        have e : (if (1 : Int) > (a0 : Int) then (1 : Int) else (a0 : Int)) = ((many a0 none : Nat) : Int) := by
          show _ = ((max a0 1 : Nat) : Int)
          split <;> omega
        rw [e]
      | some m => exact iteF ⟨.ref a, rfl, a, _, 2, _, rfl, rfl, .inl (.inl e1), atI_nat (j := 2) rfl, tail _ rfl⟩
theorem ok_many (T : LawT K mg f fd) : ∀ d, FnOk P w K mg base CX0 (1 + d) (f 5) (fd 5) ["_law_tree_here"] (spSize d)
  | 0 => ok_many1 T (k := 0) (d := 0) (spA := spNo) ok_no (fun e _ _ _ _ h => absurd h (by omega))
  | d + 1 => (ok_many1 T (d := d + 1) (spA := spSize d) (ok_many T d) (fun e vs H Q E h ⟨v, t, r, hd, q⟩ => ⟨v, t, r, Nat.le_trans hd (by omega), q⟩)).mono (by omega)
end
end Sf4
/-! The law's strings of trees. -/
namespace Sf4
open PySem PySem.Spec PyProof.Rows L2 Sf
def hdT : Tr → Str
  | .place _ => plW
  | .empty => emW
  | .capture _ _ => caW
  | .chain _ => chW
  | .choice _ => alW
  | .count _ _ _ => coW
theorem TrO.head {H : Hp} {v : V} {t : Tr} (h : TrO H v t) : ∃ a rest, v = .ref a ∧ H a = some (.tup (.str (hdT t) :: rest)) := by
  cases h with
  | place e => exact ⟨_, _, rfl, e⟩
  | capture e r => exact ⟨_, _, rfl, e⟩
  | count e r => exact ⟨_, _, rfl, e⟩
  | empty e => exact ⟨_, _, rfl, e⟩
  | chain e e2 r => exact ⟨_, _, rfl, e⟩
  | choice e e2 r => exact ⟨_, _, rfl, e⟩
def inW (t : Tr) (ws : List Str) : Bool := inV (.str (hdT t)) (ws.map V.str)
theorem inW_ch (t : Tr) : inW t [chW, alW] = (isCh t || isAl t) := by
  cases t
  · exact (by decide +kernel : inV (V.str plW) [V.str chW, V.str alW] = false)
  · exact (by decide +kernel : inV (V.str chW) [V.str chW, V.str alW] = true)
  · exact (by decide +kernel : inV (V.str alW) [V.str chW, V.str alW] = true)
  · exact (by decide +kernel : inV (V.str coW) [V.str chW, V.str alW] = false)
  · exact (by decide +kernel : inV (V.str caW) [V.str chW, V.str alW] = false)
  · exact (by decide +kernel : inV (V.str emW) [V.str chW, V.str alW] = false)
theorem inW_al (t : Tr) : inW t [alW] = isAl t := by
  cases t
  · exact (by decide +kernel : inV (V.str plW) [V.str alW] = false)
  · exact (by decide +kernel : inV (V.str chW) [V.str alW] = false)
  · exact (by decide +kernel : inV (V.str alW) [V.str alW] = true)
  · exact (by decide +kernel : inV (V.str coW) [V.str alW] = false)
  · exact (by decide +kernel : inV (V.str caW) [V.str alW] = false)
  · exact (by decide +kernel : inV (V.str emW) [V.str alW] = false)
theorem inW_co (t : Tr) : inW t [chW, alW, coW] = (isCh t || isAl t || isCo t) := by
  cases t
  · exact (by decide +kernel : inV (V.str plW) [V.str chW, V.str alW, V.str coW] = false)
  · exact (by decide +kernel : inV (V.str chW) [V.str chW, V.str alW, V.str coW] = true)
  · exact (by decide +kernel : inV (V.str alW) [V.str chW, V.str alW, V.str coW] = true)
  · exact (by decide +kernel : inV (V.str coW) [V.str chW, V.str alW, V.str coW] = true)
  · exact (by decide +kernel : inV (V.str caW) [V.str chW, V.str alW, V.str coW] = false)
  · exact (by decide +kernel : inV (V.str emW) [V.str chW, V.str alW, V.str coW] = false)
def gC (t : Tr) : List Nat := grp (isCh t || isAl t) (prn t)
def gA (t : Tr) : List Nat := grp (isAl t) (prn t)
theorem grp_ge (b : Bool) (x : List Nat) : x.length ≤ (grp b x).length := by
  unfold grp
  split
  · rw [List.length_cons, List.length_append]
    omega
  · exact Nat.le_refl _
theorem ch_flat : ∀ l : List Tr, prnCh l = (l.map gC).flatten
  | [] => rfl
  | t :: r => by
    show gC t ++ prnCh r = _
    rw [ch_flat r] <;> rfl
theorem mo_len : ∀ l : List Tr, ((l.map gA).map List.length).sum + l.length = (prnMo l).length
  | [] => rfl
  | t :: r => by
    have := mo_len r
    show (gA t).length + ((r.map gA).map List.length).sum + (r.length + 1) = (124 :: (gA t ++ prnMo r)).length
    rw [List.length_cons, List.length_append]
    omega
theorem al_len : ∀ l : List Tr, ((l.map gA).map List.length).sum + l.length ≤ (prnAl l).length + 1
  | [] => Nat.zero_le _
  | t :: r => by
    have := mo_len r
    show (gA t).length + ((r.map gA).map List.length).sum + (r.length + 1) ≤ (gA t ++ prnMo r).length + 1
    rw [List.length_append]
    omega
theorem ch_part : ∀ {l : List Tr} {i : Nat} {t : Tr}, l[i]? = some t → (prn t).length ≤ (prnCh l).length
  | [], _, _, h => by cases h
  | t :: r, 0, _, h => by
    cases h
    have := grp_ge (isCh t || isAl t) (prn t)
    show _ ≤ (gC t ++ prnCh r).length
    rw [List.length_append]
    exact Nat.le_trans this (Nat.le_add_right _ _)
  | t :: r, i + 1, u, h => by
    have := ch_part (l := r) (i := i) h
    show _ ≤ (gC t ++ prnCh r).length
    rw [List.length_append]
    omega
theorem mo_part : ∀ {l : List Tr} {i : Nat} {t : Tr}, l[i]? = some t → (prn t).length ≤ (prnMo l).length
  | [], _, _, h => by cases h
  | t :: r, 0, _, h => by
    cases h
    have : (prn t).length ≤ (gA t).length := grp_ge (isAl t) (prn t)
    show _ ≤ (124 :: (gA t ++ prnMo r)).length
    rw [List.length_cons, List.length_append]
    exact Nat.le_trans this (by omega)
  | t :: r, i + 1, u, h => by
    have := mo_part (l := r) (i := i) h
    show _ ≤ (124 :: (gA t ++ prnMo r)).length
    rw [List.length_cons, List.length_append]
    omega
theorem al_part : ∀ {l : List Tr} {i : Nat} {t : Tr}, l[i]? = some t → (prn t).length ≤ (prnAl l).length
  | [], _, _, h => by cases h
  | t :: r, 0, _, h => by
    cases h
    have : (prn t).length ≤ (gA t).length := grp_ge (isAl t) (prn t)
    show _ ≤ (gA t ++ prnMo r).length
    rw [List.length_append]
    exact Nat.le_trans this (by omega)
  | t :: r, i + 1, u, h => by
    have := mo_part (l := r) (i := i) h
    show _ ≤ (gA t ++ prnMo r).length
    rw [List.length_append]
    omega
theorem wfL_get : ∀ {l : List Tr} {i : Nat} {t : Tr}, wfL l → l[i]? = some t → wf t
  | [], _, _, _, h => by cases h
  | t :: r, 0, _, w, h => by
    cases h
    exact w.1
  | t :: r, i + 1, u, w, h => wfL_get (l := r) (i := i) w.2 h
theorem joinL_nil : ∀ ls : List (List Nat), TL.joinL [] ls = ls.flatten
  | [] => rfl
  | [c] => by
    show c = _
    rw [List.flatten_cons, List.flatten_nil, List.append_nil]
  | c :: d :: r => by
    show c ++ ([] ++ TL.joinL [] (d :: r)) = _
    rw [joinL_nil (d :: r)] <;> rfl
theorem joinL_al : ∀ (t : Tr) (r : List Tr), TL.joinL [124] ((t :: r).map gA) = gA t ++ prnMo r
  | t, [] => (List.append_nil _).symm
  | t, u :: r => by
    show gA t ++ ([124] ++ TL.joinL [124] ((u :: r).map gA)) = _
    rw [joinL_al u r] <;> rfl
theorem join_tx (s : List Nat) (S : Str) (hS : S.cps.toList = s) (ls : List (List Nat)) : Txt.join S (ls.map tx) = tx (TL.joinL s ls) := by
  rw [TL.join_eq]
  refine TL.ext_tl ?_
  rw [TL.tl_join, TL.tl, hS, List.map_map]
  have e : List.map (TL.tl ∘ tx) ls = ls := by
    have : (TL.tl ∘ tx) = id := rfl
    rw [this, List.map_id]
  rw [e] <;> rfl
theorem num_str : ∀ n, n < 21 → (Str.ofString (toString ((n : Nat) : Int))) = tx (num n) := by decide +kernel
theorem num_log : ∀ n, n < 21 → ((n : Nat) : Int).natAbs.log2 < 1920 := by decide +kernel
/-- the count, told in full -/
def told (a : Nat) (b : Option Nat) : List Nat := if mst b ≠ .int a then 123 :: (num a ++ 44 :: ((match b with | none => [] | some b => num b) ++ [125])) else 123 :: (num a ++ [125])
def kB : Option Nat → Option Key
  | none => none
  | some b => some (.inl (b : Int))
theorem oV_kB (b : Option Nat) : oV (kB b) = mst b := by cases b <;> rfl
def spStr (d : Nat) : Sp := fun vs H Q _ => ∃ (v : V) (t : Tr), vs = [v] ∧ dep t ≤ d ∧ wid t ≤ 1000 ∧ (prn t).length ≤ 5000 ∧ wf t ∧ TrO H v t ∧ ∀ H', Same H H' → Q (.str (tx (prn t))) H'
def spGrp (d : Nat) : Sp := fun vs H Q _ => ∃ (v : V) (t : Tr) (wt : Addr) (ws : List Str), vs = [v, .ref wt] ∧ H wt = some (.tup (ws.map V.str)) ∧ dep t ≤ d ∧ wid t ≤ 1000 ∧ (prn t).length ≤ 5000 ∧ wf t ∧ TrO H v t ∧ ∀ H', Same H H' → Q (.str (tx (grp (inW t ws) (prn t)))) H'
theorem scGrouped : FnScope ["_law_tree_here", "_law_words"] ["_law_tree_here", "_law_words"] (defScope sGrouped) := ⟨rfl, rfl, rfl, by decide +kernel, rfl, by decide +kernel, by decide +kernel⟩
def NStr : List Str := ["_law_tree_here", "_law_least", "_law_most", "_law_short", "_law_told", "_law_part"]
theorem scString : FnScope NStr ["_law_tree_here"] (defScope sString) := ⟨rfl, rfl, rfl, by decide +kernel, rfl, by decide +kernel, by decide +kernel⟩
theorem k60 : Str.ofString "<" = tx [60] := by decide +kernel
theorem k62 : Str.ofString ">" = tx [62] := by decide +kernel
theorem k58 : Str.ofString ":" = tx [58] := by decide +kernel
theorem k91 : Str.ofString "[" = tx [91] := by decide +kernel
theorem k93 : Str.ofString "]" = tx [93] := by decide +kernel
theorem k123 : Str.ofString "{" = tx [123] := by decide +kernel
theorem k125 : Str.ofString "}" = tx [125] := by decide +kernel
theorem k44 : Str.ofString "," = tx [44] := by decide +kernel
theorem kem : Str.ofString "" = tx [] := by decide +kernel
theorem sl20 {n : Nat} (h : n ≤ 20000) : n ≤ sizeLine := Nat.le_trans h (by decide)
theorem tx_lens (ls : List (List Nat)) : (ls.map tx).map (·.length) = ls.map List.length := by
  rw [List.map_map]
  exact List.map_congr_left fun c _ => tx_len c
theorem told_len (a : Nat) (b : Option Nat) : (told a b).length ≤ 8 := by
  have h1 := num_len a
  unfold told
  split
  · cases b with
    | none => simp only [List.length_cons, List.length_append, List.length_nil]; omega
    | some b =>
      have := num_len b
      simp only [List.length_cons, List.length_append, List.length_nil]
      omega
  · simp only [List.length_cons, List.length_append, List.length_nil]
    omega
theorem told_none (a : Nat) : told a none = 123 :: (num a ++ [44, 125]) := if_pos (show ¬ (mst none = V.int (a : Int)) from fun z => by cases z)
theorem told_some (a b : Nat) : told a (some b) = if a = b then 123 :: (num a ++ [125]) else 123 :: (num a ++ 44 :: (num b ++ [125])) := by
  by_cases h : a = b
  · rw [if_pos h]
    exact if_neg (show ¬ ¬ (mst (some b) = V.int (a : Int)) from fun z => z (by rw [h] <;> rfl))
  · rw [if_neg h]
    exact if_pos (show ¬ (mst (some b) = V.int (a : Int)) from fun z => h (by have := V.int.inj z; omega))
abbrev shK (A1 A2 A3 : Addr) : List ((List (Option Key) × Addr) × V) := [(([some (.inl 0), none], A1), .str (Str.ofString "*")), (([some (.inl 1), none], A2), .str (Str.ofString "+")), (([some (.inl 0), some (.inl 1)], A3), .str (Str.ofString "?"))]
theorem short_get (A1 A2 A3 : Addr) (n : Nat) (m : Option Nat) : (((shK A1 A2 A3).find? fun j => decide (j.1.1 = [some (.inl (n : Int)), kB m])).map (·.2)).getD (.str (tx (told n m))) = .str (tx (cntS n m)) := by
  have e1 : V.str (Str.ofString "*") = V.str (tx [42]) := by decide +kernel
  have e2 : V.str (Str.ofString "+") = V.str (tx [43]) := by decide +kernel
  have e3 : V.str (Str.ofString "?") = V.str (tx [63]) := by decide +kernel
  unfold shK
  rw [e1, e2, e3, List.find?_cons, List.find?_cons, List.find?_cons, List.find?_nil]
  cases m with
  | none =>
    have hc : cntS n none = if n = 0 then [42] else if n = 1 then [43] else 123 :: (num n ++ [44, 125]) := rfl
    have n3 : ¬ ([some (Sum.inl (0 : Int)), some (Sum.inl 1)] : List (Option Key)) = [some (.inl (n : Int)), kB none] := fun z => by
      simp only [kB, List.cons.injEq] at z
      cases z.2.1
    have i1 : ([some (Sum.inl (0 : Int)), none] : List (Option Key)) = [some (.inl (n : Int)), kB none] ↔ n = 0 := by
      simp only [kB, List.cons.injEq, Option.some.injEq, Sum.inl.injEq, and_true]
      omega
    have i2 : ([some (Sum.inl (1 : Int)), none] : List (Option Key)) = [some (.inl (n : Int)), kB none] ↔ n = 1 := by
      simp only [kB, List.cons.injEq, Option.some.injEq, Sum.inl.injEq, and_true]
      omega
    rw [hc]
    by_cases h0 : n = 0
    · rw [decide_eq_true (i1.mpr h0), if_pos h0] <;> rfl
    · rw [decide_eq_false (fun z => h0 (i1.mp z)), if_neg h0]
      by_cases h1 : n = 1
      · rw [decide_eq_true (i2.mpr h1), if_pos h1] <;> rfl
      · rw [decide_eq_false (fun z => h1 (i2.mp z)), decide_eq_false n3, if_neg h1, told_none] <;> rfl
  | some b =>
    have hc : cntS n (some b) = if n = 0 ∧ b = 1 then [63] else if n = b then 123 :: (num n ++ [125]) else 123 :: (num n ++ 44 :: (num b ++ [125])) := rfl
    have n1 : ∀ i : Int, ¬ ([some (Sum.inl i), none] : List (Option Key)) = [some (.inl (n : Int)), kB (some b)] := fun i z => by
      simp only [kB, List.cons.injEq] at z
      cases z.2.1
    have i3 : ([some (Sum.inl (0 : Int)), some (Sum.inl 1)] : List (Option Key)) = [some (.inl (n : Int)), kB (some b)] ↔ n = 0 ∧ b = 1 := by
      simp only [kB, List.cons.injEq, Option.some.injEq, Sum.inl.injEq, and_true]
      omega
    rw [hc, decide_eq_false (n1 0), decide_eq_false (n1 1)]
    by_cases h : n = 0 ∧ b = 1
    · rw [decide_eq_true (i3.mpr h), if_pos h] <;> rfl
    · rw [decide_eq_false (fun z => h (i3.mp z)), if_neg h, told_some] <;> rfl
theorem cnt_len (n : Nat) (m : Option Nat) : (cntS n m).length ≤ 8 := by
  have h1 := num_len n
  cases m with
  | none =>
    show (if n = 0 then [42] else if n = 1 then [43] else 123 :: (num n ++ [44, 125])).length ≤ 8
    split
    · decide
    · split
      · decide
      · simp only [List.length_cons, List.length_append, List.length_nil]
        omega
  | some b =>
    have h2 := num_len b
    show (if n = 0 ∧ b = 1 then [63] else if n = b then 123 :: (num n ++ [125]) else 123 :: (num n ++ 44 :: (num b ++ [125]))).length ≤ 8
    split
    · decide
    · split <;> simp only [List.length_cons, List.length_append, List.length_nil] <;> omega
section
variable {P : Program} {w : World} {K : PySem.W.Frag} {mg : Str → Option Value} {base : Heap} {f : Nat → Addr} {fd : Nat → FuncData}
theorem ok_grouped (T : LawT K mg f fd) {k d : Nat} (G : FnOk P w K mg base CX0 k (f 7) (fd 7) ["_law_tree_here"] (spStr d)) : FnOk P w K mg base CX0 (k + 1) (f 6) (fd 6) ["_law_tree_here", "_law_words"] (spGrp d) := by
  refine T.grouped.F.ok scGrouped (fun vs H Q E h => ?_) (fun cdv A outer s H vs Q E hr h => ?_)
  · obtain ⟨v, t, wt, ws, rfl, _⟩ := h
    rfl
  · obtain ⟨v, t, wt, ws, rfl, hwt, hd, hw, hl, hf, ht, q⟩ := h
    have gS := T.string.g
    have kS := T.string.F.kp
    have bS := T.string.b
    refine ⟨_, pss_one (ps_ret (pe_ifExp (pt_cmpR op_in_seq (pe_ix ix_tup (pv 0) pe_int (fun _ _ => rfl)) (pv 1) rfl) (pe_op op_add_str (pe_op op_add_str pe_str (pe_call G hr (by rfl) gS kS bS .nil pass0 (pa_cons (pv 0) pa_nil))) pe_str) (pe_call G hr (by rfl) gS kS bS .nil pass0 (pa_cons (pv 0) pa_nil)))), ?_⟩
    obtain ⟨a, rest, rfl, e⟩ := ht.head
    refine ⟨.ref a, rfl, a, _, 0, _, rfl, rfl, .inl (.inl e), atI_nat (j := 0) rfl, .ref wt, rfl, wt, _, rfl, .inr (.inl (.inl hwt)), rfl, ?_, _, rfl, ?_⟩
    · exact List.all_eq_true.mpr fun y hy => by
        obtain ⟨m, _, rfl⟩ := List.mem_map.mp hy
        rfl
    show if inW t ws = true then _ else _
    cases hb : inW t ws with
    | true =>
      rw [hb] at q
      refine iteT ⟨.ref a, rfl, .ref a, t, rfl, hd, hw, hl, hf, ht, fun H1 s1 => ⟨_, _, rfl, rfl, ?_, _, _, rfl, rfl, ?_, ?_⟩⟩
      · rw [tx_len]
        exact Nat.le_trans (show (Str.ofString "(").length + (prn t).length ≤ 10000 by rw [show (Str.ofString "(").length = 1 by decide +kernel]; omega) (by decide)
      · rw [TL.len_tl, TL.tl_append, List.length_append]
        show 1 + (prn t).length + 1 ≤ _
        exact Nat.le_trans (show 1 + (prn t).length + 1 ≤ 10000 by omega) (by decide)
      · have e3 : Str.ofString "(" ++ tx (prn t) ++ Str.ofString ")" = tx (grp true (prn t)) := by
          rw [show Str.ofString "(" = tx [40] by decide +kernel, show Str.ofString ")" = tx [41] by decide +kernel, tx_app, tx_app] <;> rfl
        rw [e3]
        exact q H1 s1
    | false =>
      rw [hb] at q
      exact iteF ⟨.ref a, rfl, .ref a, t, rfl, hd, hw, hl, hf, ht, q⟩
theorem ok_string1 (T : LawT K mg f fd) {k d : Nat} {spA spB : Sp} (hk : 1 ≤ k) (GA : FnOk P w K mg base CX0 k (f 7) (fd 7) ["_law_tree_here"] spA) (GB : FnOk P w K mg base CX0 k (f 6) (fd 6) ["_law_tree_here", "_law_words"] spB)
    (hA : ∀ e vs H Q E, e + 1 ≤ d → spStr e vs H Q E → spA vs H Q E) (hB : ∀ e vs H Q E, e + 1 ≤ d → spGrp e vs H Q E → spB vs H Q E) : FnOk P w K mg base CX0 (k + 1) (f 7) (fd 7) ["_law_tree_here"] (spStr d) := by
  refine T.string.F.ok scString (fun vs H Q E h => ?_) (fun cdv A outer s H vs Q E hr h => ?_)
  · obtain ⟨v, t, rfl, _⟩ := h
    rfl
  · obtain ⟨v, t, rfl, hd, hw, hl, hf, ht, q⟩ := h
    have gS := T.string.g
    have kS := T.string.F.kp
    have bS := T.string.b
    have gG := T.grouped.g
    have kG := T.grouped.F.kp
    have bG := T.grouped.b
    have GL := law_lets (P := P) (w := w) (base := base) T
    have hu := hu_of hr
    have hu0 := hr.units0
    refine ⟨_, pss_cons (ps_if (pt_cmpR op_eq (pe_ix ix_tup (pv 0) pe_int (fun _ _ => rfl)) pe_str (nomark _))
          (pss_one (ps_ret (pe_ifExp (pt_cmpR op_eq (pe_ix ix_tup (pv 0) pe_int (fun _ _ => rfl)) (pe_call0 GL (hr.mono hk) (by rfl) T.lets.g T.lets.F.kp T.lets.b .nil pass0) (nomark _)) pe_str
            (pe_ifExp (pt_cmpR op_eq (pe_callB call_len_str (by rfl) T.zlen PySem.boot_len (pa_cons (pe_ix ix_tup (pv 0) pe_int (fun _ _ => rfl)) pa_nil)) pe_int (nomark _)) (pe_ix ix_tup (pv 0) pe_int (fun _ _ => rfl))
              (pe_op op_add_str (pe_op op_add_str pe_str (pe_ix ix_tup (pv 0) pe_int (fun _ _ => rfl))) pe_str))))) pss_nil)
      (pss_cons (ps_if (pt_cmpR op_eq (pe_ix ix_tup (pv 0) pe_int (fun _ _ => rfl)) pe_str (nomark _)) (pss_one (ps_ret pe_str)) pss_nil)
      (pss_cons (ps_if (pt_cmpR op_eq (pe_ix ix_tup (pv 0) pe_int (fun _ _ => rfl)) pe_str (nomark _))
          (pss_one (ps_ret (pe_op op_add_str (pe_op op_add_str (pe_op op_add_str (pe_op op_add_str pe_str (pe_ix ix_tup (pv 0) pe_int (fun _ _ => rfl))) pe_str) (pe_call GA hr (by rfl) gS kS bS .nil pass0 (pa_cons (pe_ix ix_tup (pv 0) pe_int (fun _ _ => rfl)) pa_nil))) pe_str))) pss_nil)
      (pss_cons (ps_if (pt_cmpR op_eq (pe_ix ix_tup (pv 0) pe_int (fun _ _ => rfl)) pe_str (nomark _))
          (pss_one (ps_ret (pe_join pe_str (pe_lc (own := [("_law_part", 5)]) (g := gName 5) (tt := tYes) (te := tCall spB [] E0 (tCons (tVar 5) (tCons (tTup (tCons (tC (.str (Str.ofString "chain"))) (tCons (tC (.str (Str.ofString "choice"))) tNil))) tNil))) rfl scString.nd (pi_tup (pe_ix ix_tup (pv 0) pe_int (fun _ _ => rfl))) (blkOk_by (N := NStr) (sc := defScope sString) (by decide +kernel))
              (fun _ _ _ _ _ => pg_name (i := 5) scString.nd rfl (Or.inl rfl)) (fun _ _ _ _ _ => pts_nil) (fun _ _ _ _ _ => pe_call GB hr (by rfl) gG kG bG .nil pass0 (pa_cons (pv 5) (pa_cons (pe_tup (pa_cons pe_str (pa_cons pe_str pa_nil))) pa_nil))))))) pss_nil)
      (pss_cons (ps_if (pt_cmpR op_eq (pe_ix ix_tup (pv 0) pe_int (fun _ _ => rfl)) pe_str (nomark _))
          (pss_one (ps_ret (pe_join pe_str (pe_lc (own := [("_law_part", 5)]) (g := gName 5) (tt := tYes) (te := tCall spB [] E0 (tCons (tVar 5) (tCons (tTup (tCons (tC (.str (Str.ofString "choice"))) tNil)) tNil))) rfl scString.nd (pi_tup (pe_ix ix_tup (pv 0) pe_int (fun _ _ => rfl))) (blkOk_by (N := NStr) (sc := defScope sString) (by decide +kernel))
              (fun _ _ _ _ _ => pg_name (i := 5) scString.nd rfl (Or.inl rfl)) (fun _ _ _ _ _ => pts_nil) (fun _ _ _ _ _ => pe_call GB hr (by rfl) gG kG bG .nil pass0 (pa_cons (pv 5) (pa_cons (pe_tup (pa_cons pe_str pa_nil)) pa_nil))))))) pss_nil)
      (pss_cons (ps_par (i := 1) (j := 2) rfl scString.nd rfl rfl (by decide) rfl rfl (pa_cons (pe_ix ix_tup (pv 0) pe_int (fun _ _ => rfl)) (pa_cons (pe_ix ix_tup (pv 0) pe_int (fun _ _ => rfl)) pa_nil)) (by rfl))
      (pss_cons (ps_set (i := 3) scString.nd rfl (.inl rfl) (pe_dispN hu0 (pps_cons (pe_tup (pa_cons pe_int (pa_cons pe_non pa_nil))) pe_str (pps_cons (pe_tup (pa_cons pe_int (pa_cons pe_non pa_nil))) pe_str (pps_cons (pe_tup (pa_cons pe_int (pa_cons pe_int pa_nil))) pe_str pps_nil))) rfl rfl (by simp) (by decide)))
      (Evl.pss_cut (ps_set (i := 4) scString.nd rfl (.inl rfl) (pe_ifExp (pt_cmpR op_ne (pv 1) (pv 2) (nomark _))
          (pe_op op_add_str (pe_op op_add_str (pe_op op_add_str (pe_op op_add_str pe_str (pe_callTy call_str_int (by rfl) T.zstr PySem.Pv.boot_str (pa_cons (pv 1) pa_nil))) pe_str)
            (pe_callTy (CallR.or call_str_int SkE.call_str_str) (by rfl) T.zstr PySem.Pv.boot_str (pa_cons (pe_ifExp (pt_cmpR op_isN (pv 2) pe_non (nomark _)) pe_str (pv 2)) pa_nil))) pe_str)
          (pe_op op_add_str (pe_op op_add_str pe_str (pe_callTy call_str_int (by rfl) T.zstr PySem.Pv.boot_str (pa_cons (pv 1) pa_nil))) pe_str)))
      (pss_one (ps_ret (pe_op op_add_str (pe_call GB hr (by rfl) gG kG bG .nil pass0 (pa_cons (pe_ix ix_tup (pv 0) pe_int (fun _ _ => rfl)) (pa_cons (pe_tup (pa_cons pe_str (pa_cons pe_str (pa_cons pe_str pa_nil)))) pa_nil)))
        (pe_dgetN hu (pv 3) (pe_tup (pa_cons (pv 1) (pa_cons (pv 2) pa_nil))) (pv 4) ⟨rfl, rfl, rfl, rfl⟩))))))))))), ?_⟩
    cases ht with
    | place e =>
      rename_i a s
      refine ⟨.ref a, rfl, a, _, 0, _, rfl, rfl, .inl (.inl e), atI_nat (j := 0) rfl, rfl, _, rfl, ?_⟩
      rw [decide_eq_true (show V.str plW = V.str (Str.ofString "place") from rfl)]
      refine iteT ⟨.ref a, rfl, a, _, 1, _, rfl, rfl, .inl (.inl e), atI_nat (j := 1) rfl, rfl, rfl, _, rfl, ?_⟩
      have q0 := q H (Same.refl H)
      have hp : prn (.place s) = if s = LETc then [46] else if s.length = 1 then s else 91 :: (s ++ [93]) := rfl
      have hs38 : s.length ≤ 38 := by
        have h1 := List.length_filter_le (fun c => decide (c ∈ s)) LETc
        rw [hf.2] at h1
        exact Nat.le_trans h1 (by decide)
      by_cases hL : s = LETc
      · subst hL
        rw [hp, if_pos rfl] at q0
        rw [decide_eq_true (show V.str (tx LETc) = V.str LSs by decide +kernel)]
        refine iteT ?_
        have : V.str (Str.ofString ".") = V.str (tx [46]) := by decide +kernel
        show Q (V.str (Str.ofString ".")) H
        rw [this]
        exact q0
      · have hne : ¬ (V.str (tx s) = V.str LSs) := fun z => hL (by
          have z2 : tx s = LSs := V.str.inj z
          have : (tx s).cps.toList = LSs.cps.toList := by rw [z2]
          rw [LS_cps] at this
          exact this)
        rw [hp, if_neg hL] at q0
        rw [decide_eq_false hne]
        refine iteF ⟨.ref a, rfl, a, _, 1, _, rfl, rfl, .inl (.inl e), atI_nat (j := 1) rfl, tx s, rfl, tx_len60 (by omega), rfl, _, rfl, ?_⟩
        rw [tx_len]
        by_cases h1 : s.length = 1
        · rw [if_pos h1] at q0
          rw [h1]
          refine iteT ⟨.ref a, rfl, a, _, 1, _, rfl, rfl, .inl (.inl e), atI_nat (j := 1) rfl, q0⟩
        · rw [if_neg h1] at q0
          rw [decide_eq_false (show ¬ (V.int (s.length : Nat) = V.int 1) from fun z => h1 (by have := V.int.inj z; omega))]
          refine iteF ⟨.ref a, rfl, a, _, 1, _, rfl, rfl, .inl (.inl e), atI_nat (j := 1) rfl, _, _, rfl, rfl, ?_, _, _, rfl, rfl, ?_, ?_⟩
          · (simp only [k60, k62, k58, k91, k93, k123, k125, k44, kem, tx_app, tx_len, List.length_append, List.length_cons, List.length_nil]; exact sl20 (by omega))
          · (simp only [k60, k62, k58, k91, k93, k123, k125, k44, kem, tx_app, tx_len, List.length_append, List.length_cons, List.length_nil]; exact sl20 (by omega))
          · rw [k91, k93, tx_app, tx_app]
            exact q0
    | empty e =>
      rename_i a
      refine ⟨.ref a, rfl, a, _, 0, _, rfl, rfl, .inl (.inl e), atI_nat (j := 0) rfl, rfl, _, rfl, ?_⟩
      rw [decide_eq_false (show ¬ (V.str emW = V.str (Str.ofString "place")) by decide +kernel)]
      refine iteF ⟨.ref a, rfl, a, _, 0, _, rfl, rfl, .inl (.inl e), atI_nat (j := 0) rfl, rfl, _, rfl, ?_⟩
      rw [decide_eq_true (show V.str emW = V.str (Str.ofString "empty") from rfl)]
      refine iteT ?_
      have : V.str (Str.ofString "()") = V.str (tx [40, 41]) := by decide +kernel
      show Q (V.str (Str.ofString "()")) H
      rw [this]
      exact q H (Same.refl H)
    | capture e r =>
      rename_i a n v t
      refine ⟨.ref a, rfl, a, _, 0, _, rfl, rfl, .inl (.inl e), atI_nat (j := 0) rfl, rfl, _, rfl, ?_⟩
      rw [decide_eq_false (show ¬ (V.str caW = V.str (Str.ofString "place")) by decide +kernel)]
      refine iteF ⟨.ref a, rfl, a, _, 0, _, rfl, rfl, .inl (.inl e), atI_nat (j := 0) rfl, rfl, _, rfl, ?_⟩
      rw [decide_eq_false (show ¬ (V.str caW = V.str (Str.ofString "empty")) by decide +kernel)]
      refine iteF ⟨.ref a, rfl, a, _, 0, _, rfl, rfl, .inl (.inl e), atI_nat (j := 0) rfl, rfl, _, rfl, ?_⟩
      rw [decide_eq_true (show V.str caW = V.str (Str.ofString "capture") from rfl)]
      have hp : prn (.capture n t) = 60 :: (n ++ 58 :: (prn t ++ [62])) := rfl
      have hn : n.length ≤ 8 := hf.2.1
      have hl2 : (prn t).length ≤ 5000 := by
        rw [hp] at hl
        simp only [List.length_cons, List.length_append] at hl
        omega
      refine iteT ⟨.ref a, rfl, a, _, 1, _, rfl, rfl, .inl (.inl e), atI_nat (j := 1) rfl, _, _, rfl, rfl, ?_, _, _, rfl, rfl, ?_, .ref a, rfl, a, _, 2, _, rfl, rfl, .inl (.inl e), atI_nat (j := 2) rfl, hA (dep t) _ _ _ _ hd ⟨v, t, rfl, Nat.le_refl _, hw, hl2, hf.2.2.2, r, fun H4 s4 => ⟨_, _, rfl, rfl, ?_, _, _, rfl, rfl, ?_, ?_⟩⟩⟩
      · (simp only [k60, k62, k58, k91, k93, k123, k125, k44, kem, tx_app, tx_len, List.length_append, List.length_cons, List.length_nil]; exact sl20 (by omega))
      · (simp only [k60, k62, k58, k91, k93, k123, k125, k44, kem, tx_app, tx_len, List.length_append, List.length_cons, List.length_nil]; exact sl20 (by omega))
      · (simp only [k60, k62, k58, k91, k93, k123, k125, k44, kem, tx_app, tx_len, List.length_append, List.length_cons, List.length_nil]; exact sl20 (by omega))
      · (simp only [k60, k62, k58, k91, k93, k123, k125, k44, kem, tx_app, tx_len, List.length_append, List.length_cons, List.length_nil]; exact sl20 (by omega))
      · rw [k60, k58, k62, tx_app, tx_app, tx_app, tx_app]
        have : [60] ++ n ++ [58] ++ prn t ++ [62] = prn (.capture n t) := by
          rw [hp]
          simp only [List.cons_append, List.nil_append, List.append_assoc]
        rw [this]
        exact q H4 s4
    | chain e e2 os =>
      rename_i a b vs l
      have eP : prn (.chain l) = TL.joinL [] (l.map gC) := by
        rw [joinL_nil]
        exact ch_flat l
      have hln : (l.map gC).length = l.length := List.length_map ..
      refine ⟨.ref a, rfl, a, _, 0, _, rfl, rfl, .inl (.inl e), atI_nat (j := 0) rfl, rfl, _, rfl, ?_⟩
      rw [decide_eq_false (show ¬ (V.str chW = V.str (Str.ofString "place")) by decide +kernel)]
      refine iteF ⟨.ref a, rfl, a, _, 0, _, rfl, rfl, .inl (.inl e), atI_nat (j := 0) rfl, rfl, _, rfl, ?_⟩
      rw [decide_eq_false (show ¬ (V.str chW = V.str (Str.ofString "empty")) by decide +kernel)]
      refine iteF ⟨.ref a, rfl, a, _, 0, _, rfl, rfl, .inl (.inl e), atI_nat (j := 0) rfl, rfl, _, rfl, ?_⟩
      rw [decide_eq_false (show ¬ (V.str chW = V.str (Str.ofString "capture")) by decide +kernel)]
      refine iteF ⟨.ref a, rfl, a, _, 0, _, rfl, rfl, .inl (.inl e), atI_nat (j := 0) rfl, rfl, _, rfl, ?_⟩
      rw [decide_eq_true (show V.str chW = V.str (Str.ofString "chain") from rfl)]
      have hd : depL l + 1 ≤ d := hd
      have hw : max l.length (widL l) ≤ 1000 := hw
      have hvl := os.len
      refine iteT ⟨⟨_, rfl⟩, .ref a, rfl, a, _, 1, _, rfl, rfl, .inl (.inl e), atI_nat (j := 1) rfl, b, rfl, ⟨_, .inl (.inl e2)⟩, fun D hD => ?_⟩
      refine lc_it (walk_tup (K := K) (a := b) (xs := vs)) (fun i H3 => H3 D = some (.lst (((l.take i).map gC).map fun c => V.str (tx c))) ∧ Same H H3)
        ⟨upd_same, smU hD⟩ (fun i H3 _ hP => .inl (.inl (hP.2 _ _ e2))) (fun i xi H3 H3' hi hP hy => ?_) (fun H3 hP => ?_)
      · obtain ⟨eD, s3⟩ := hP
        obtain ⟨rfl, hxi⟩ := hy
        obtain ⟨ti, hti, oti⟩ := os.get hxi
        obtain ⟨d1, d2⟩ := depL_get hti
        obtain ⟨hil, hie⟩ := List.getElem?_eq_some_iff.mp hti
        have ht : l.take (i + 1) = l.take i ++ [ti] := by rw [List.take_succ_eq_append_getElem hil, hie]
        have hli : (prn ti).length ≤ 5000 := Nat.le_trans (ch_part hti) hl
        refine ⟨rfl, xi, rfl, (show 2 ≤ sizeLine by decide), fun T0 h0 => ?_⟩
        have s0 := smU (o := HO.tup [.str chW, .str alW]) h0
        refine hB (depL l) _ _ _ _ hd ⟨xi, ti, T0, [chW, alW], rfl, upd_same, d1, by omega, hli, wfL_get hf.2 hti, oti.mono (KT.same (s3.trans s0)), fun H4 s4 => ?_⟩
        refine ⟨_, s4 _ _ (s0 _ _ eD), ?_, ?_, fun c o h => ?_⟩
        · rw [List.length_map, List.length_map, List.length_take]
          exact Nat.lt_of_le_of_lt (show min i l.length ≤ 1000 by omega) (by decide)
        · rw [upd_same, ht, List.map_append, List.map_append, inW_ch] <;> rfl
        · rw [upd_ne (ne_of_none h hD)]
          exact s4 _ _ (s0 _ _ (s3 _ _ h))
      · obtain ⟨eD, s3⟩ := hP
        rw [hvl, List.take_of_length_le (Nat.le_refl _)] at eD
        refine ⟨_, D, (l.map gC).map tx, rfl, rfl, .inl (.inl (.inl (by rw [List.map_map]; exact eD))), ?_, ?_⟩
        · rw [tx_lens, ← List.length_flatten, ← ch_flat]
          show _ + _ * 0 ≤ _
          have : (prnCh l).length ≤ 5000 := hl
          omega
        · have := join_tx [] (Str.ofString "") (by rfl) (l.map gC)
          rw [← eP] at this
          rw [this]
          exact q _ s3
    | choice e e2 os =>
      rename_i a b vs l
      have eP : prn (.choice l) = TL.joinL [124] (l.map gA) := by
        cases l with
        | nil => exact absurd hf.1 (by decide)
        | cons t r => exact (joinL_al t r).symm
      have hln : (l.map gA).length = l.length := List.length_map ..
      refine ⟨.ref a, rfl, a, _, 0, _, rfl, rfl, .inl (.inl e), atI_nat (j := 0) rfl, rfl, _, rfl, ?_⟩
      rw [decide_eq_false (show ¬ (V.str alW = V.str (Str.ofString "place")) by decide +kernel)]
      refine iteF ⟨.ref a, rfl, a, _, 0, _, rfl, rfl, .inl (.inl e), atI_nat (j := 0) rfl, rfl, _, rfl, ?_⟩
      rw [decide_eq_false (show ¬ (V.str alW = V.str (Str.ofString "empty")) by decide +kernel)]
      refine iteF ⟨.ref a, rfl, a, _, 0, _, rfl, rfl, .inl (.inl e), atI_nat (j := 0) rfl, rfl, _, rfl, ?_⟩
      rw [decide_eq_false (show ¬ (V.str alW = V.str (Str.ofString "capture")) by decide +kernel)]
      refine iteF ⟨.ref a, rfl, a, _, 0, _, rfl, rfl, .inl (.inl e), atI_nat (j := 0) rfl, rfl, _, rfl, ?_⟩
      rw [decide_eq_false (show ¬ (V.str alW = V.str (Str.ofString "chain")) by decide +kernel)]
      refine iteF ⟨.ref a, rfl, a, _, 0, _, rfl, rfl, .inl (.inl e), atI_nat (j := 0) rfl, rfl, _, rfl, ?_⟩
      rw [decide_eq_true (show V.str alW = V.str (Str.ofString "choice") from rfl)]
      have hd : depL l + 1 ≤ d := hd
      have hw : max l.length (widL l) ≤ 1000 := hw
      have hvl := os.len
      refine iteT ⟨⟨_, rfl⟩, .ref a, rfl, a, _, 1, _, rfl, rfl, .inl (.inl e), atI_nat (j := 1) rfl, b, rfl, ⟨_, .inl (.inl e2)⟩, fun D hD => ?_⟩
      refine lc_it (walk_tup (K := K) (a := b) (xs := vs)) (fun i H3 => H3 D = some (.lst (((l.take i).map gA).map fun c => V.str (tx c))) ∧ Same H H3)
        ⟨upd_same, smU hD⟩ (fun i H3 _ hP => .inl (.inl (hP.2 _ _ e2))) (fun i xi H3 H3' hi hP hy => ?_) (fun H3 hP => ?_)
      · obtain ⟨eD, s3⟩ := hP
        obtain ⟨rfl, hxi⟩ := hy
        obtain ⟨ti, hti, oti⟩ := os.get hxi
        obtain ⟨d1, d2⟩ := depL_get hti
        obtain ⟨hil, hie⟩ := List.getElem?_eq_some_iff.mp hti
        have ht : l.take (i + 1) = l.take i ++ [ti] := by rw [List.take_succ_eq_append_getElem hil, hie]
        have hli : (prn ti).length ≤ 5000 := Nat.le_trans (al_part hti) hl
        refine ⟨rfl, xi, rfl, (show 1 ≤ sizeLine by decide), fun T0 h0 => ?_⟩
        have s0 := smU (o := HO.tup [.str alW]) h0
        refine hB (depL l) _ _ _ _ hd ⟨xi, ti, T0, [alW], rfl, upd_same, d1, by omega, hli, wfL_get hf.2 hti, oti.mono (KT.same (s3.trans s0)), fun H4 s4 => ?_⟩
        refine ⟨_, s4 _ _ (s0 _ _ eD), ?_, ?_, fun c o h => ?_⟩
        · rw [List.length_map, List.length_map, List.length_take]
          exact Nat.lt_of_le_of_lt (show min i l.length ≤ 1000 by omega) (by decide)
        · rw [upd_same, ht, List.map_append, List.map_append, inW_al] <;> rfl
        · rw [upd_ne (ne_of_none h hD)]
          exact s4 _ _ (s0 _ _ (s3 _ _ h))
      · obtain ⟨eD, s3⟩ := hP
        rw [hvl, List.take_of_length_le (Nat.le_refl _)] at eD
        refine ⟨_, D, (l.map gA).map tx, rfl, rfl, .inl (.inl (.inl (by rw [List.map_map]; exact eD))), ?_, ?_⟩
        · rw [tx_lens, List.length_map, hln]
          have h1 := al_len l
          have h2 : (prnAl l).length ≤ 5000 := hl
          show _ + _ * 1 ≤ _
          omega
        · have := join_tx [124] (Str.ofString "|") (by rfl) (l.map gA)
          rw [← eP] at this
          rw [this]
          exact q _ s3
    | count e r =>
      rename_i a n m v t
      refine ⟨.ref a, rfl, a, _, 0, _, rfl, rfl, .inl (.inl e), atI_nat (j := 0) rfl, rfl, _, rfl, ?_⟩
      rw [decide_eq_false (show ¬ (V.str coW = V.str (Str.ofString "place")) by decide +kernel)]
      refine iteF ⟨.ref a, rfl, a, _, 0, _, rfl, rfl, .inl (.inl e), atI_nat (j := 0) rfl, rfl, _, rfl, ?_⟩
      rw [decide_eq_false (show ¬ (V.str coW = V.str (Str.ofString "empty")) by decide +kernel)]
      refine iteF ⟨.ref a, rfl, a, _, 0, _, rfl, rfl, .inl (.inl e), atI_nat (j := 0) rfl, rfl, _, rfl, ?_⟩
      rw [decide_eq_false (show ¬ (V.str coW = V.str (Str.ofString "capture")) by decide +kernel)]
      refine iteF ⟨.ref a, rfl, a, _, 0, _, rfl, rfl, .inl (.inl e), atI_nat (j := 0) rfl, rfl, _, rfl, ?_⟩
      rw [decide_eq_false (show ¬ (V.str coW = V.str (Str.ofString "chain")) by decide +kernel)]
      refine iteF ⟨.ref a, rfl, a, _, 0, _, rfl, rfl, .inl (.inl e), atI_nat (j := 0) rfl, rfl, _, rfl, ?_⟩
      rw [decide_eq_false (show ¬ (V.str coW = V.str (Str.ofString "choice")) by decide +kernel)]
      have hd : dep t + 1 ≤ d := hd
      have hw : max (many n m) (wid t) ≤ 1000 := hw
      obtain ⟨hn, hm, hft⟩ : n ≤ 20 ∧ (∀ c, m = some c → n ≤ c ∧ c ≤ 20) ∧ wf t := hf
      refine iteF ⟨.ref a, rfl, a, _, 1, _, rfl, rfl, .inl (.inl e), atI_nat (j := 1) rfl, .ref a, rfl, a, _, 2, _, rfl, rfl, .inl (.inl e), atI_nat (j := 2) rfl, _, _, rfl, fun p hp => ?_⟩
      refine ⟨(show 2 ≤ sizeLine by decide), fun A1 h1 => ⟨(show 2 ≤ sizeLine by decide), fun A2 h2 => ⟨(show 2 ≤ sizeLine by decide), fun A3 h3 => ?_⟩⟩⟩
      have u0 := smU (o := HO.dT []) hp
      have u1 := smU (o := HO.tup [.int 0, .non]) h1
      have u2 := smU (o := HO.tup [.int 1, .non]) h2
      have u3 := smU (o := HO.tup [.int 0, .int 1]) h3
      generalize hH3 : upd (upd (upd (upd H p (HO.dT [])) A1 (HO.tup [.int 0, .non])) A2 (HO.tup [.int 1, .non])) A3 (HO.tup [.int 0, .int 1]) = H3
      have g0 : H3 p = some (HO.dT []) := hH3 ▸ u3 _ _ (u2 _ _ (u1 _ _ upd_same))
      have g1 : H3 A1 = some (HO.tup [.int 0, .non]) := hH3 ▸ u3 _ _ (u2 _ _ upd_same)
      have g2 : H3 A2 = some (HO.tup [.int 1, .non]) := hH3 ▸ u3 _ _ upd_same
      have g3 : H3 A3 = some (HO.tup [.int 0, .int 1]) := hH3 ▸ upd_same
      have sH : Same H H3 := hH3 ▸ (u0.trans (u1.trans (u2.trans u3)))
      refine ⟨g0, [(([some (.inl 0), none], A1), .str (Str.ofString "*")), (([some (.inl 1), none], A2), .str (Str.ofString "+")), (([some (.inl 0), some (.inl 1)], A3), .str (Str.ofString "?"))], rfl, (show ([[some (Sum.inl 0), none], [some (Sum.inl 1), none], [some (Sum.inl 0), some (Sum.inl 1)]] : List (List (Option Key))).Nodup by decide +kernel), ?_, fun xs rp => ?_⟩
      · intro k hk
        simp only [List.mem_cons, List.not_mem_nil, or_false] at hk
        rcases hk with rfl | rfl | rfl
        · exact g1
        · exact g2
        · exact g3
      have gp : (upd H3 p (DkN P w p xs)) p = some (DkN P w p xs) := upd_same
      have s4 : Same H (upd H3 p (DkN P w p xs)) := fun c o h => by
        rw [upd_ne (ne_of_none h hp)]
        exact sH _ _ h
      have hk4 : ∀ y ∈ xs, (upd H3 p (DkN P w p xs)) y.2.1 = some (.tup (y.1.map oV)) := by
        refine relP_at rp fun k hk => ?_
        simp only [List.mem_cons, List.not_mem_nil, or_false] at hk
        have np : ∀ {b : Addr} {o : List V}, H3 b = some (.tup o) → b ≠ p := fun h => ne_of h g0 (by intro z; cases z)
        rcases hk with rfl | rfl | rfl
        · exact (upd_ne (np g1)).trans g1
        · exact (upd_ne (np g2)).trans g2
        · exact (upd_ne (np g3)).trans g3
      generalize hH4 : upd H3 p (DkN P w p xs) = H4
      rw [hH4] at gp s4 hk4
      refine ⟨fun σ H' => σ = [some (.ref a), some (.int n), some (mst m), some (.ref p), some (.str (tx (told n m))), none] ∧ H' = H4, ?_, fun σ H' hM => ?_⟩
      · have hlg := num_log n (by omega)
        have hst := num_str n (by omega)
        have nl := num_len n
        refine ⟨_, rfl, _, rfl, (by cases m <;> rfl), _, rfl, ?_⟩
        by_cases hnm : V.int (n : Int) = mst m
        · have et : told n m = 123 :: (num n ++ [125]) := by
            unfold told
            rw [if_neg (fun z => z hnm.symm)]
          rw [decide_eq_true hnm, et]
          refine iteF ⟨_, rfl, _, rfl, hlg, _, _, rfl, rfl, ?_, _, _, rfl, rfl, ?_, ?_⟩
          · rw [hst]
            (simp only [k60, k62, k58, k91, k93, k123, k125, k44, kem, tx_app, tx_len, List.length_append, List.length_cons, List.length_nil]; exact sl20 (by omega))
          · rw [hst]
            (simp only [k60, k62, k58, k91, k93, k123, k125, k44, kem, tx_app, tx_len, List.length_append, List.length_cons, List.length_nil]; exact sl20 (by omega))
          · rw [hst]
            exact ⟨congrArg (fun z => [some (V.ref a), some (V.int (n : Int)), some (mst m), some (V.ref p), some (V.str z), none]) (by simp only [k123, k125, k44, kem, tx_app, List.append_assoc, List.cons_append, List.nil_append, List.append_nil]), hH4⟩
        · have et : told n m = 123 :: (num n ++ 44 :: ((match m with | none => [] | some b => num b) ++ [125])) := by
            unfold told
            rw [if_pos (fun z => hnm z.symm)]
          rw [decide_eq_false hnm, et]
          refine iteT ⟨_, rfl, _, rfl, hlg, _, _, rfl, rfl, ?_, _, _, rfl, rfl, ?_, ?_⟩
          · rw [hst]
            (simp only [k60, k62, k58, k91, k93, k123, k125, k44, kem, tx_app, tx_len, List.length_append, List.length_cons, List.length_nil]; exact sl20 (by omega))
          · rw [hst]
            (simp only [k60, k62, k58, k91, k93, k123, k125, k44, kem, tx_app, tx_len, List.length_append, List.length_cons, List.length_nil]; exact sl20 (by omega))
          rw [hst]
          cases m with
          | none =>
            refine ⟨_, rfl, rfl, _, rfl, iteT (.inr ⟨_, rfl, _, _, rfl, rfl, ?_, _, _, rfl, rfl, ?_, ?_⟩)⟩
            · (simp only [k60, k62, k58, k91, k93, k123, k125, k44, kem, tx_app, tx_len, List.length_append, List.length_cons, List.length_nil]; exact sl20 (by omega))
            · (simp only [k60, k62, k58, k91, k93, k123, k125, k44, kem, tx_app, tx_len, List.length_append, List.length_cons, List.length_nil]; exact sl20 (by omega))
            · exact ⟨congrArg (fun z => [some (V.ref a), some (V.int (n : Int)), some V.non, some (V.ref p), some (V.str z), none]) (by simp only [k123, k125, k44, kem, tx_app, List.append_assoc, List.cons_append, List.nil_append, List.append_nil]), hH4⟩
          | some b =>
            have hb : b ≤ 20 := (hm b rfl).2
            have bl := num_len b
            have hsb := num_str b (by omega)
            refine ⟨_, rfl, rfl, _, rfl, iteF ⟨_, rfl, .inl ⟨_, rfl, num_log b (by omega), _, _, rfl, rfl, ?_, _, _, rfl, rfl, ?_, ?_⟩⟩⟩
            · rw [hsb]
              (simp only [k60, k62, k58, k91, k93, k123, k125, k44, kem, tx_app, tx_len, List.length_append, List.length_cons, List.length_nil]; exact sl20 (by omega))
            · rw [hsb]
              (simp only [k60, k62, k58, k91, k93, k123, k125, k44, kem, tx_app, tx_len, List.length_append, List.length_cons, List.length_nil]; exact sl20 (by omega))
            · rw [hsb]
              exact ⟨congrArg (fun z => [some (V.ref a), some (V.int (n : Int)), some (V.int (b : Int)), some (V.ref p), some (V.str z), none]) (by simp only [k123, k125, k44, kem, tx_app, List.append_assoc, List.cons_append, List.nil_append, List.append_nil]), hH4⟩
      · obtain ⟨rfl, rfl⟩ := hM
        have hp0 : prn (.count n m t) = grp (isCh t || isAl t || isCo t) (prn t) ++ cntS n m := rfl
        have hl2 : (prn t).length ≤ 5000 := by
          have := grp_ge (isCh t || isAl t || isCo t) (prn t)
          rw [hp0, List.length_append] at hl
          omega
        have hgl : (grp (isCh t || isAl t || isCo t) (prn t)).length ≤ 5000 := by
          rw [hp0, List.length_append] at hl
          omega
        refine ⟨.ref a, rfl, a, _, 3, _, rfl, rfl, .inl (.inl (s4 _ _ e)), atI_nat (j := 3) rfl, (show 3 ≤ sizeLine by decide), fun T0 h0 => ?_⟩
        have s5 := smU (o := HO.tup [.str chW, .str alW, .str coW]) h0
        refine hB (dep t) _ _ _ _ hd ⟨v, t, T0, [chW, alW, coW], rfl, upd_same, Nat.le_refl _, by omega, hl2, hft, r.mono (KT.same (s4.trans s5)), fun H5 s6 => ?_⟩
        have hk6 : ∀ y ∈ xs, H5 y.2.1 = some (.tup (y.1.map oV)) := fun y hy => s6 _ _ (s5 _ _ (hk4 y hy))
        have gp6 := s6 _ _ (s5 _ _ gp)
        refine ⟨_, rfl, ⟨p, xs, rfl, gp6, hk6⟩, _, rfl, _, rfl, (show 2 ≤ sizeLine by decide), fun B hB' => ?_⟩
        have s7 := smU (o := HO.tup [.int n, mst m]) hB'
        refine ⟨_, rfl, p, _, xs, B, [some (.inl (n : Int)), kB m], _, rfl, s7 _ _ gp6, rp, fun y hy => s7 _ _ (hk6 y hy), rfl, ?_, rfl, ?_⟩
        · rw [List.map_cons, List.map_cons, List.map_nil, oV_kB]
          exact upd_same
        have key := short_get A1 A2 A3 n m
        refine ⟨_, tx (cntS n m), rfl, key, ?_, ?_⟩
        · show _ + (tx (cntS n m)).length ≤ _
          have h2 := cnt_len n m
          rw [inW_co]
          (simp only [k60, k62, k58, k91, k93, k123, k125, k44, kem, tx_app, tx_len, List.length_append, List.length_cons, List.length_nil]; exact sl20 (by omega))
        · show Q (.str (tx (grp (inW t [chW, alW, coW]) (prn t)) ++ tx (cntS n m))) _
          rw [inW_co, tx_app, ← hp0]
          exact q _ (s4.trans (s5.trans (s6.trans s7)))
theorem ok_string (T : LawT K mg f fd) : ∀ d, FnOk P w K mg base CX0 (2 + 2 * d) (f 7) (fd 7) ["_law_tree_here"] (spStr d)
  | 0 => ok_string1 T (k := 1) (d := 0) (spA := spNo) (spB := spNo) (by decide) ok_no ok_no (fun e _ _ _ _ h => absurd h (by omega)) (fun e _ _ _ _ h => absurd h (by omega))
  | d + 1 => (ok_string1 T (k := 2 + 2 * d + 1) (d := d + 1) (spA := spStr d) (spB := spGrp d) (by omega) ((ok_string T d).mono (by omega)) (ok_grouped T (ok_string T d))
      (fun e vs H Q E h ⟨v, t, r, hd, q⟩ => ⟨v, t, r, Nat.le_trans hd (by omega), q⟩) (fun e vs H Q E h ⟨v, t, wt, ws, r, e2, hd, q⟩ => ⟨v, t, wt, ws, r, e2, Nat.le_trans hd (by omega), q⟩)).mono (by omega)
end
end Sf4
/-! The law's whole expressions and their strings. -/
namespace Sf4
open PySem PySem.Spec PyProof.Rows L2 Sf
def NWh : List Str := ["_law_pot_here", "_law_letters", "_law_most", "_law_names", "_law_tree_here"]
theorem scWholeL : FnScope NWh ["_law_pot_here", "_law_letters", "_law_most", "_law_names"] (defScope sWholeL) := ⟨rfl, rfl, rfl, by decide +kernel, rfl, by decide +kernel, by decide +kernel⟩
theorem scPatS : FnScope ["_law_whole_here"] ["_law_whole_here"] (defScope sPatS) := ⟨rfl, rfl, rfl, by decide +kernel, rfl, by decide +kernel, by decide +kernel⟩
/-- all but the pot and the names' list stands -/
def spWholeL : Sp := fun vs H Q _ => ∃ (p q : Addr) (n : Int) (L : List Nat) (nm : Nm) (M : Nat), vs = [.ref p, .str (tx L), .int (M : Int), .ref q] ∧ 2 ≤ M ∧ M ≤ 24 ∧ Pot H p n ∧ n + 1300 < 1000000 ∧ H q = some (.lst (nmV nm)) ∧ okNm nm ∧ p ≠ q ∧ L ≠ [] ∧ L.length ≤ 38 ∧ (∀ c ∈ L, c ∈ LETc) ∧
  ∀ (a : Addr) (v : V) (t : Tr) (l r : Bool) (H' : Hp) (nm' : Nm), H' a = some (.tup [.bl l, v, .bl r]) → TrO H' v t → Dr 3 t → sz t ≤ M → (prn t).length ≤ 50 → nm = nms t ++ nm' → Pot H' p (n + 1300) → K2 p q H H' → Q (.ref a) H'
theorem tx_len5 {Z : List Nat} (h : Z.length ≤ 5000) : (tx Z).length ≤ sizeLine := by
  rw [tx_len]
  exact Nat.le_trans h (by decide)
section
variable {P : Program} {w : World} {K : PySem.W.Frag} {mg : Str → Option Value} {base : Heap} {f : Nat → Addr} {fd : Nat → FuncData}
theorem ok_wholeL (T : LawT K mg f fd) : FnOk P w K mg base CX0 9 (f 8) (fd 8) ["_law_pot_here", "_law_letters", "_law_most", "_law_names"] spWholeL := by
  refine T.whole.F.ok (k := 8) scWholeL (fun vs H Q E h => ?_) (fun cdv A outer s H vs Q E hr h => ?_)
  · obtain ⟨p, q, n, L, nm, M, rfl, _⟩ := h
    rfl
  · obtain ⟨p, q, n, L, nm, M, rfl, hM2, hM24, hp, hn, hq, hnm, npq, hL, hL2, hL3, fin⟩ := h
    have GD := law_draw (P := P) (w := w) (base := base) T
    have GA := law_any (P := P) (w := w) (base := base) T
    have GT := ok_tree (P := P) (w := w) (base := base) T 3
    have GM := ok_many (P := P) (w := w) (base := base) T 3
    have GS := ok_string (P := P) (w := w) (base := base) T 3
    refine ⟨_, Evl.pss_cut (ps_set (i := 4) scWholeL.nd rfl (.inl rfl) (pe_call GT (hr.mono (by decide)) (by rfl) T.tree.g T.tree.F.kp T.tree.b .nil pass0 (pa_cons (pv 0) (pa_cons pe_int (pa_cons (pv 1) (pa_cons (pv 3) pa_nil))))))
      (Evl.pss_cut (ps_if (PW.pt (pw_or (pt_cmpR op_gt (pe_call GM (hr.mono (by decide)) (by rfl) T.many.g T.many.F.kp T.many.b .nil pass0 (pa_cons (pv 4) pa_nil)) (pv 2) (nomark _))
          (pw_or1 (pt_cmpR op_gt (pe_callB call_len_str (by rfl) T.zlen PySem.boot_len (pa_cons (pe_call GS (hr.mono (by decide)) (by rfl) T.string.g T.string.F.kp T.string.b .nil pass0 (pa_cons (pv 4) pa_nil)) pa_nil)) pe_int (nomark _)))))
        (pss_one (ps_set (i := 4) scWholeL.nd rfl (.inl rfl) (pe_tup (pa_cons pe_str (pa_cons (pe_tup (pa_cons (pe_tup (pa_cons pe_str (pa_cons (pe_ix ix_str (pv 1) pe_int (fun _ _ => rfl)) pa_nil)))
          (pa_cons (pe_tup (pa_cons pe_str (pa_cons (pe_call GA (hr.mono (by decide)) (by rfl) T.any.g T.any.F.kp T.any.b .nil pass0 (pa_cons (pv 0) (pa_cons (pv 1) pa_nil))) pa_nil))) pa_nil))) pa_nil))))) pss_nil)
      (pss_one (ps_ret (pe_tup (pa_cons (pe_cmpR op_eq (pe_call GD (hr.mono (by decide)) (by rfl) T.draw.g T.draw.F.kp T.draw.b .nil pass0 (pa_cons (pv 0) (pa_cons pe_int pa_nil))) pe_int (nomark _)) (pa_cons (pv 4)
        (pa_cons (pe_cmpR op_eq (pe_call GD (hr.mono (by decide)) (by rfl) T.draw.g T.draw.F.kp T.draw.b .nil pass0 (pa_cons (pv 0) (pa_cons pe_int pa_nil))) pe_int (nomark _)) pa_nil))))))), ?_⟩
    refine ⟨fun σ H1 => ∃ (v : V) (t : Tr) (nm' : Nm), σ = [some (.ref p), some (.str (tx L)), some (.int (M : Int)), some (.ref q), some v] ∧ TrO H1 v t ∧ Dr 3 t ∧ nm = nms t ++ nm' ∧ Pot H1 p (n + 1200) ∧ K2 p q H H1, ?_, fun σ H1 hM => ?_⟩
    · refine ⟨_, rfl, _, rfl, _, rfl, p, q, n, L, nm, rfl, hp, ?_, hq, hnm, npq, hL, hL2, hL3, fun v t H1 nm' ht dt en hp1 hq1 k1 => ⟨v, t, nm', rfl, ht, dt, en, hp1.mono ?_, k1⟩⟩
      · show n + ((1133 : Nat) : Int) < 1000000
        omega
      · show n + ((1133 : Nat) : Int) ≤ n + 1200
        omega
    obtain ⟨v, t, nm', rfl, ht, dt, en, hp1, k1⟩ := hM
    have pb3 : (prn t).length ≤ 5000 := Nat.le_trans dt.p (by decide)
    obtain ⟨c0, L', rfl⟩ : ∃ c L', L = c :: L' := by
      cases L with
      | nil => exact absurd rfl hL
      | cons c L' => exact ⟨c, L', rfl⟩
    have p1 : ∀ c ∈ c0 :: L', (prn (.place [c])).length = 1 ∧ Dr 2 (.place [c]) := fun c hc => by
      refine ⟨?_, dr_place (by intro z; cases z) (one_let c (hL3 c hc))⟩
      show (if [c] = LETc then [46] else if [c].length = 1 then [c] else 91 :: ([c] ++ [93])).length = 1
      split
      · rfl
      · rw [if_pos (show [c].length = 1 from rfl)] <;> rfl
    refine ⟨fun σ H2 => ∃ (v : V) (t : Tr) (nm' : Nm), σ = [some (.ref p), some (.str (tx (c0 :: L'))), some (.int (M : Int)), some (.ref q), some v] ∧ TrO H2 v t ∧ Dr 3 t ∧ sz t ≤ M ∧ (prn t).length ≤ 50 ∧ nm = nms t ++ nm' ∧ Pot H2 p (n + 1250) ∧ K2 p q H H2, ?_, fun σ H2 hM => ?_⟩
    · have dflt : ∀ H2, Same H1 H2 → (tAsg
          (tTup (tCons (tC (V.str (Str.ofString "chain"))) (tCons (tTup (tCons (tTup (tCons (tC (V.str (Str.ofString "place"))) (tCons (tOp rIxS (tVar 1) (tC (V.int 0))) tNil)))
            (tCons (tTup (tCons (tC (V.str (Str.ofString "place"))) (tCons (tCall (spAny K) [] E0 (tCons (tVar 0) (tCons (tVar 1) tNil))) tNil))) tNil))) tNil))) (gName 4))
          { nx := fun σ H2 => ∃ (v : V) (t : Tr) (nm' : Nm), σ = [some (.ref p), some (.str (tx (c0 :: L'))), some (.int (M : Int)), some (.ref q), some v] ∧ TrO H2 v t ∧ Dr 3 t ∧ sz t ≤ M ∧ (prn t).length ≤ 50 ∧ nm = nms t ++ nm' ∧ Pot H2 p (n + 1250) ∧ K2 p q H H2, rt := Q }
          [some (.ref p), some (.str (tx (c0 :: L'))), some (.int (M : Int)), some (.ref q), some v] H2 := fun H2 s2 => by
        have hpx := hp1.same s2
        refine ⟨.str (tx (c0 :: L')), rfl, tx (c0 :: L'), 0, c0, rfl, rfl, ?_, atI_nat (j := 0) rfl, (show 2 ≤ sizeLine by decide), fun b1 hb1 => ?_⟩
        · rw [tx_len]
          exact Nat.le_trans hL2 (by decide)
        have u1 := smU (o := HO.tup [.str plW, .str ⟨#[c0]⟩]) hb1
        refine ⟨.ref p, rfl, .str (tx (c0 :: L')), rfl, p, _, .str (tx (c0 :: L')), rfl, hpx.same u1, by omega, .inl ⟨tx (c0 :: L'), rfl, ?_, ?_, fun c H3 hc hp3 k3 => ⟨(show 2 ≤ sizeLine by decide), fun b2 hb2 => ⟨(show 2 ≤ sizeLine by decide), fun b3 hb3 => ⟨(show 2 ≤ sizeLine by decide), fun b4 hb4 => ?_⟩⟩⟩⟩⟩
        · rw [tx_len]
          exact Nat.succ_pos _
        · rw [tx_len]
          omega
        have u2 := smU (o := HO.tup [.str plW, .str ⟨#[c]⟩]) hb2
        have u3 := smU (o := HO.tup [.ref b1, .ref b2]) hb3
        have u4 := smU (o := HO.tup [.str chW, .ref b3]) hb4
        have e1 := u4 _ _ (u3 _ _ (u2 _ _ ((hpx.same u1).kt k3 b1 _ upd_same)))
        have e2 := u4 _ _ (u3 _ _ (upd_same (H := H3) (a := b2) (o := HO.tup [.str plW, .str ⟨#[c]⟩])))
        obtain ⟨l0, d0⟩ := p1 c0 List.mem_cons_self
        obtain ⟨l1, d1⟩ := p1 c hc
        refine ⟨_, .chain [.place [c0], .place [c]], nm, rfl, .chain upd_same (u4 _ _ upd_same) (.cons (.place e1) (.cons (.place e2) .nil)), dr_chain (fun t ht => ?_) (Nat.le_refl 2) (Nat.le_succ 2), hM2, ?_, rfl, ((hp3.same (u2.trans (u3.trans u4))).mono (by omega)), (k1.trans (K2.same (s2.trans u1))).trans (k3.k2.trans (K2.same (u2.trans (u3.trans u4))))⟩
        · rcases List.mem_cons.mp ht with rfl | ht
          · exact d0
          · rcases List.mem_cons.mp ht with rfl | ht
            · exact d1
            · cases ht
        · show (prn (.place [c0]) ++ (prn (.place [c]) ++ [])).length ≤ 50
          rw [List.length_append, List.length_append, l0, l1]
          decide
      refine ⟨_, rfl, v, t, rfl, dt.dd, Nat.le_trans dt.wd (by decide), ht, fun H2 s2 => ⟨_, rfl, _, _, rfl, rfl, _, rfl, ?_⟩⟩
      by_cases h24 : (M : Int) < ((sz t : Nat) : Int)
      · rw [decide_eq_true h24]
        exact iteT (dflt _ s2)
      · rw [decide_eq_false h24]
        refine iteF ⟨_, rfl, v, t, rfl, dt.dd, Nat.le_trans dt.wd (by decide), pb3, dt.w, ht.mono (KT.same s2), fun H3 s3 => ⟨_, rfl, tx_len5 pb3, _, _, rfl, rfl, _, rfl, ?_⟩⟩
        rw [tx_len]
        by_cases h50 : (50 : Int) < (((prn t).length : Nat) : Int)
        · rw [decide_eq_true h50]
          exact iteT (dflt _ (s2.trans s3))
        · rw [decide_eq_false h50]
          exact iteF ⟨v, t, nm', rfl, ht.mono (KT.same (s2.trans s3)), dt, by omega, by omega, en, (hp1.same (s2.trans s3)).mono (by omega), k1.trans (K2.same (s2.trans s3))⟩
    obtain ⟨v, t, nm', rfl, ht, dt, h24, h50, en, hp2, k2⟩ := hM
    refine ⟨.ref p, rfl, p, _, 5, rfl, hp2, by omega, by decide, by decide, fun r1 H3 _ _ hp3 k3 => ⟨rfl, _, rfl, .ref p, rfl, p, _, 5, rfl, hp3, by omega, by decide, by decide, fun r2 H4 _ _ hp4 k4 => ⟨rfl, (show 3 ≤ sizeLine by decide), fun a ha => ?_⟩⟩⟩
    have ua := smU (o := HO.tup [.bl (decide (V.int r1 = V.int 0)), v, .bl (decide (V.int r2 = V.int 0))]) ha
    exact fin a v t _ _ _ nm' upd_same (ht.mono ((hp2.kt k3).trans ((hp3.kt k4).trans (KT.same ua)))) dt h24 h50 en ((hp4.same ua).mono (by omega)) (k2.trans (k3.k2.trans (k4.k2.trans (K2.same ua))))
def spPatS : Sp := fun vs H Q _ => ∃ (a : Addr) (v : V) (t : Tr) (l r : Bool), vs = [.ref a] ∧ H a = some (.tup [.bl l, v, .bl r]) ∧ TrO H v t ∧ Dr 3 t ∧ ∀ H', Same H H' → Q (.str (tx (wstr l t r))) H'
theorem ok_patS (T : LawT K mg f fd) : FnOk P w K mg base CX0 9 (f 9) (fd 9) ["_law_whole_here"] spPatS := by
  refine T.pats.F.ok (k := 8) scPatS (fun vs H Q E h => ?_) (fun cdv A outer s H vs Q E hr h => ?_)
  · obtain ⟨a, v, t, l, r, rfl, _⟩ := h
    rfl
  · obtain ⟨a, v, t, l, r, rfl, e, ht, dt, fin⟩ := h
    have GS := ok_string (P := P) (w := w) (base := base) T 3
    have pb3 : (prn t).length ≤ 5000 := Nat.le_trans dt.p (by decide)
    refine ⟨_, pss_one (ps_ret (pe_op op_add_str (pe_op op_add_str (pe_op op_mul_s pe_str (pe_callTy call_int1 (by rfl) T.zint PySem.Pv.boot_int (pa_cons (pe_ix ix_tup (pv 0) pe_int (fun _ _ => rfl)) pa_nil)))
        (pe_call GS (hr.mono (by decide)) (by rfl) T.string.g T.string.F.kp T.string.b .nil pass0 (pa_cons (pe_ix ix_tup (pv 0) pe_int (fun _ _ => rfl)) pa_nil)))
      (pe_op op_mul_s pe_str (pe_callTy call_int1 (by rfl) T.zint PySem.Pv.boot_int (pa_cons (pe_ix ix_tup (pv 0) pe_int (fun _ _ => rfl)) pa_nil))))), ?_⟩
    have kl : ∀ b : Bool, (if (if b = true then (1 : Int) else 0) = 0 then Str.empty else Str.ofString "^") = tx (if b then [94] else []) := fun b => by cases b <;> decide +kernel
    have kr : ∀ b : Bool, (if (if b = true then (1 : Int) else 0) = 0 then Str.empty else Str.ofString "$") = tx (if b then [36] else []) := fun b => by cases b <;> decide +kernel
    have ll : ∀ (b : Bool) (c : Nat), (if b then [c] else [] : List Nat).length ≤ 1 := fun b c => by cases b <;> first | exact Nat.zero_le _ | exact Nat.le_refl 1
    have d01 : ∀ b : Bool, (if b = true then (1 : Int) else 0) = 0 ∨ (if b = true then (1 : Int) else 0) = 1 := fun b => by cases b <;> decide
    refine ⟨.ref a, rfl, a, _, 0, _, rfl, rfl, .inl (.inl e), atI_nat (j := 0) rfl, .inr ⟨l, rfl, _, _, rfl, rfl, d01 l, .ref a, rfl, a, _, 1, _, rfl, rfl, .inl (.inl e), atI_nat (j := 1) rfl, v, t, rfl, dt.dd, Nat.le_trans dt.wd (by decide), pb3, dt.w, ht, fun H1 s1 => ⟨_, _, rfl, rfl, ?_,
      .ref a, rfl, a, _, 2, _, rfl, rfl, .inl (.inl (s1 _ _ e)), atI_nat (j := 2) rfl, .inr ⟨r, rfl, _, _, rfl, rfl, d01 r, _, _, rfl, rfl, ?_, ?_⟩⟩⟩⟩
    · rw [kl, tx_len, tx_len]
      have := ll l 94
      exact sl20 (by omega)
    · rw [kl, kr, tx_app, tx_len, tx_len, List.length_append]
      have := ll l 94
      have := ll r 36
      exact sl20 (by omega)
    · rw [kl, kr, tx_app, tx_app, List.append_assoc]
      exact fin H1 s1
end
end Sf4
/-! What the law shows of a pattern. -/
namespace Sf4
open PySem PySem.Spec PyProof.Rows L2 Sf
abbrev asc (l : List Nat) : Bool := l.all fun c => decide (c < 1000)
theorem asc_mem {l : List Nat} (h : ∀ c ∈ l, c < 1000) : asc l = true := List.all_eq_true.mpr fun c hc => decide_eq_true (h c hc)
theorem asc_of {l : List Nat} (h : asc l = true) {c : Nat} (hc : c ∈ l) : c < 1000 := of_decide_eq_true (List.all_eq_true.mp h c hc)
theorem asc_app {a b : List Nat} (h : asc a = true) (k : asc b = true) : asc (a ++ b) = true := asc_mem fun c hc => (List.mem_append.mp hc).elim (asc_of h) (asc_of k)
theorem asc_cons {c : Nat} {b : List Nat} (h : c < 1000) (k : asc b = true) : asc (c :: b) = true := asc_mem fun d hd => by
  rcases List.mem_cons.mp hd with rfl | hd
  · exact h
  · exact asc_of k hd
theorem asc_num {n : Nat} (h : n ≤ 20) : asc (num n) = true := by
  refine asc_mem fun c hc => ?_
  unfold num at hc
  split at hc
  · have := List.mem_singleton.mp hc
    omega
  · rcases List.mem_cons.mp hc with rfl | hc
    · omega
    · have := List.mem_singleton.mp hc
      omega
theorem asc_grp {b : Bool} {l : List Nat} (h : asc l = true) : asc (grp b l) = true := by
  unfold grp
  split
  · exact asc_cons (by decide) (asc_app h rfl)
  · exact h
theorem asc_cnt {a : Nat} {b : Option Nat} (h : a ≤ 20) (k : ∀ c, b = some c → a ≤ c ∧ c ≤ 20) : asc (cntS a b) = true := by
  cases b with
  | none =>
    show asc (if a = 0 then [42] else if a = 1 then [43] else 123 :: (num a ++ [44, 125])) = true
    split
    · decide
    · split
      · decide
      · exact asc_cons (by decide) (asc_app (asc_num h) rfl)
  | some b =>
    have hb := (k b rfl).2
    show asc (if a = 0 ∧ b = 1 then [63] else if a = b then 123 :: (num a ++ [125]) else 123 :: (num a ++ 44 :: (num b ++ [125]))) = true
    split
    · decide
    · split
      · exact asc_cons (by decide) (asc_app (asc_num h) rfl)
      · exact asc_cons (by decide) (asc_app (asc_num h) (asc_cons (by decide) (asc_app (asc_num hb) rfl)))
theorem asc_let : ∀ c ∈ LETc, c < 1000 := by decide
theorem asc_pl {s : List Nat} (h : (LETc.filter fun c => decide (c ∈ s)) = s) : asc s = true := asc_mem fun c hc => by
  rw [← h] at hc
  exact asc_let c (List.mem_filter.mp hc).1
mutual
theorem asc_prn : ∀ t : Tr, wf t → asc (prn t) = true
  | .place s, h => by
    show asc (if s = LETc then [46] else if s.length = 1 then s else 91 :: (s ++ [93])) = true
    have a := asc_pl h.2
    split
    · decide
    · split
      · exact a
      · exact asc_cons (by decide) (asc_app a rfl)
  | .empty, _ => rfl
  | .capture n t, h => asc_cons (by decide) (asc_app (asc_mem fun c hc => by
      have := (h.2.2.1 c hc).2
      omega) (asc_cons (by decide) (asc_app (asc_prn t h.2.2.2) rfl)))
  | .chain l, h => asc_ch l h.2
  | .choice l, h => asc_al l h.2
  | .count a b t, h => asc_app (asc_grp (asc_prn t h.2.2)) (asc_cnt h.1 h.2.1)
theorem asc_ch : ∀ l : List Tr, wfL l → asc (prnCh l) = true
  | [], _ => rfl
  | t :: r, h => asc_app (asc_grp (asc_prn t h.1)) (asc_ch r h.2)
theorem asc_al : ∀ l : List Tr, wfL l → asc (prnAl l) = true
  | [], _ => rfl
  | t :: r, h => asc_app (asc_grp (asc_prn t h.1)) (asc_mo r h.2)
theorem asc_mo : ∀ l : List Tr, wfL l → asc (prnMo l) = true
  | [], _ => rfl
  | t :: r, h => asc_cons (by decide) (asc_app (asc_grp (asc_prn t h.1)) (asc_mo r h.2))
end
theorem asc_w {l r : Bool} {t : Tr} (h : wf t) : asc (wstr l t r) = true := by
  unfold wstr
  exact asc_app (by cases l <;> rfl) (asc_app (asc_prn t h) (by cases r <;> rfl))
def oksp (n : Nat) (s : List Nat) : Prop := asc s = true ∧ s.length ≤ n
mutual
theorem sp_ok : ∀ t : Tr, wf t → ∀ s ∈ spts t, oksp 38 s
  | .place s, h, x, hx => by
    obtain rfl := List.mem_singleton.mp hx
    refine ⟨asc_pl h.2, ?_⟩
    have h1 := List.length_filter_le (fun c => decide (c ∈ x)) LETc
    rw [h.2] at h1
    exact Nat.le_trans h1 (by decide)
  | .empty, _, _, hx => by cases hx
  | .capture _ t, h, x, hx => sp_ok t h.2.2.2 x hx
  | .chain l, h, x, hx => spL_ok l h.2 x hx
  | .choice l, h, x, hx => spL_ok l h.2 x hx
  | .count a b t, h, x, hx => by
    obtain ⟨l, hl, hxl⟩ := List.mem_flatten.mp hx
    have := (List.mem_replicate.mp hl).2
    exact sp_ok t h.2.2 x (this ▸ hxl)
theorem spL_ok : ∀ l : List Tr, wfL l → ∀ s ∈ sptsL l, oksp 38 s
  | [], _, _, hx => by cases hx
  | t :: r, h, x, hx => by
    rcases List.mem_append.mp hx with hx | hx
    · exact sp_ok t h.1 x hx
    · exact spL_ok r h.2 x hx
end
theorem nm_ok {nm : Nm} (h : okNm nm) : ∀ s ∈ nm, oksp 38 s := fun s hs => by
  obtain ⟨_, h2, h3⟩ := h s hs
  exact ⟨asc_mem fun c hc => by
    have := (h3 c hc).2
    omega, by omega⟩
theorem ls_str {s : List Nat} (h : asc s = true) : (PyData.str (tx s)).leavesShort 40 = true := by
  show (s.toArray.toList.all fun c => decide (c < 16 ^ 8)) = true
  refine List.all_eq_true.mpr fun c hc => decide_eq_true ?_
  have := of_decide_eq_true (List.all_eq_true.mp h c hc)
  omega
theorem wt_str (s : List Nat) : (PyData.str (tx s)).weight = s.length := by
  show s.toArray.size = s.length
  rw [List.size_toArray]
theorem sm_nmD : ∀ {zs : List (List Nat)}, (∀ s ∈ zs, oksp 38 s) → PyData.showableAll (nmD zs) = true ∧ PyData.leavesShortAll 40 (nmD zs) = true ∧ PyData.weightAll (nmD zs) ≤ 39 * zs.length ∧ PyData.depthAll (nmD zs) = 0
  | [], _ => ⟨rfl, rfl, Nat.le_refl _, rfl⟩
  | s :: r, h => by
    obtain ⟨a, b, c, d⟩ := sm_nmD (zs := r) fun m hm => h m (List.mem_cons_of_mem _ hm)
    obtain ⟨h1, h2⟩ := h s List.mem_cons_self
    refine ⟨?_, ?_, ?_, ?_⟩
    · show (true && PyData.showableAll (nmD r)) = true
      rw [a] <;> rfl
    · show ((PyData.str (tx s)).leavesShort 40 && PyData.leavesShortAll 40 (nmD r)) = true
      rw [b, ls_str h1] <;> rfl
    · show (PyData.str (tx s)).weight + 1 + PyData.weightAll (nmD r) ≤ 39 * (r.length + 1)
      rw [wt_str]
      omega
    · show max 0 (PyData.depthAll (nmD r)) = 0
      rw [d] <;> rfl
/-- what is shown of a pattern -/
def pD (Z : List Nat) (nm pl : List (List Nat)) (l r : Bool) : PyData := .list [.str (tx Z), .tuple (nmD nm), .tuple (nmD pl), .bool l, .bool r]
theorem sm_pD {Z : List Nat} {nm pl : List (List Nat)} {l r : Bool} (hz : asc Z = true) (lz : Z.length ≤ 60) (h1 : ∀ s ∈ nm, oksp 38 s) (h2 : ∀ s ∈ pl, oksp 38 s) (l1 : nm.length ≤ 100) (l2 : pl.length ≤ 100) : Sm 20000 10 (pD Z nm pl l r) := by
  obtain ⟨a1, a2, a3, a4⟩ := sm_nmD h1
  obtain ⟨b1, b2, b3, b4⟩ := sm_nmD h2
  refine ⟨?_, ?_, ?_, ?_⟩
  · show (true && (PyData.showableAll (nmD nm) && (PyData.showableAll (nmD pl) && (true && (true && true))))) = true
    rw [a1, b1] <;> rfl
  · show ((PyData.str (tx Z)).leavesShort 40 && (PyData.leavesShortAll 40 (nmD nm) && (PyData.leavesShortAll 40 (nmD pl) && (true && (true && true))))) = true
    rw [a2, b2, ls_str hz] <;> rfl
  · show (PyData.str (tx Z)).weight + 1 + (PyData.weightAll (nmD nm) + 1 + (PyData.weightAll (nmD pl) + 1 + (0 + 1 + (0 + 1 + 0)))) ≤ 20000
    rw [wt_str]
    omega
  · show max 0 (max (PyData.depthAll (nmD nm) + 1) (max (PyData.depthAll (nmD pl) + 1) (max 0 (max 0 0)))) + 1 ≤ 10
    rw [a4, b4]
    decide
theorem od_nm {p : Addr} {H : Hp} : ∀ zs : List (List Nat), OdAll false p H (nmV zs) (nmD zs)
  | [] => .nil
  | s :: r => .cons (.str _) (od_nm r)
/-- binding by the keyword alone, of a method -/
theorem kbn_mk {K : PySem.W.Frag} {x qual : Str} {st : Stmt} {f : Addr} {fd : FuncData} {ps ks : List Str} {n : Nat} (F : Fun K x qual st f fd)
    (h : ∀ (kV doc pm : Value) (an : Option Addr) (cdv ct : Value) (us ws : List Value), us.length = n → ws.length = ks.length → bindArgs (PySem.W.fnOf x qual (defArgs st) (defBody st) (defScope st) .none kV doc pm an cdv ct) ⟨us, ks.zip ws⟩ = pure (ps.zip (us ++ ws))) :
    KBn K fd ps n ks (fun us ws => us ++ ws) (fun vs zs => vs ++ zs) := by
  obtain ⟨oc, od, kV, doc, pm, an, cdv, ct, osl, rfl, _⟩ := F.ex
  exact ⟨fun s us ws _ l1 l2 => .of_eq (h kV doc pm an cdv ct us ws l1 l2), fun r1 r2 => r1.append r2⟩
theorem kb_pat {K : PySem.W.Frag} {x qual : Str} {f : Addr} {fd : FuncData} (F : Fun K x qual sPI f fd) : KBn K fd ["self", "string"] 1 ["string"] (fun us ws => us ++ ws) (fun vs zs => vs ++ zs) :=
  kbn_mk F fun _ _ _ _ _ _ us ws l1 l2 => match us, ws, l1, l2 with | [_], [_], _, _ => rfl
end Sf4
/-! Operators of one's own classes: one & other, one | other, -one. -/
namespace L2
open PySem PySem.Spec PyProof.Rows
/-- a two-place operator by the class's own method; both sides are instances of it -/
theorem op_binOwn {X : Cx} {op : Operator} {n : Nat} {g D : Addr} {gd : FuncData} {ps : List Str} {sp : Sp} (F : FnOk X.prog X.w X.K X.mg X.base CX0 n g gd ps sp) (hs : PySem.W.findIn X.K (.ref D) (PySem.dunder op.info.2) = some (some (.ref g)))
    (hf : PySem.W.isFn X.K (.ref g) = true) (hb : Binds X.K gd ps []) (hr : Room n X.A) (hc : PySem.W.selfFirst X.K D = true) :
    OpR X (binaryOp op) (fun x y H Q => ∃ a dx fs c dy gs, x = .ref a ∧ y = .ref c ∧ H a = some (.ins D dx fs) ∧ H c = some (.ins D dy gs) ∧ sp [x, y] H (fun v H' => (∃ b, v = .ref b) ∧ Q v H') E0) := by
  rintro pins s σ H x y u1 u2 Q I rx ry ⟨a, dx, fs, c, dy, gs, rfl, rfl, ha, hc2, hsp⟩
  cases rx
  cases ry
  obtain ⟨_, JA, _⟩ := ins_get I.hok ha
  obtain ⟨_, JA, _⟩ := JA.look
  obtain ⟨_, JB, _⟩ := ins_get I.hok hc2
  obtain ⟨_, JB, _⟩ := JB.look
  obtain ⟨_, hF⟩ := I.fr
  have two : Vals [V.ref a, V.ref c] [Value.ref a, Value.ref c] := .cons rfl (.cons rfl .nil)
  have hl := F.len _ _ _ _ hsp
  have bd := hb s [.ref a, .ref c] I.kIn (by simpa using hl)
  refine PySem.W.binop_K hF I.ok.mod.kin JA JB.type hc hs hf (wpAny_call (codeAny_mono (F.run X.A X.stack s H ⟨[.ref a, .ref c], []⟩ _ _ _ E0 hr I.env0 (by simpa using bd) two hsp) fun r s' hq => ?_))
  match r, hq with
  | .ok (.ret w), hq =>
    obtain ⟨z, H', I', rz, ⟨b, rfl⟩, ex⟩ := I.after hq
    cases rz
    exact ⟨.ref b, H', I', rfl, ex⟩
  | .ok .next, hq => exact False.elim hq
  | .ok .brk, hq => exact False.elim hq
  | .ok .cont, hq => exact False.elim hq
  | .error _, hq => exact False.elim hq
/-- -one by the class's own method -/
theorem un_negOwn {X : Cx} {n : Nat} {g D : Addr} {gd : FuncData} {ps : List Str} {sp : Sp} (F : FnOk X.prog X.w X.K X.mg X.base CX0 n g gd ps sp) (hs : PySem.W.findIn X.K (.ref D) "__neg__" = some (some (.ref g)))
    (hf : PySem.W.isFn X.K (.ref g) = true) (hb : Binds X.K gd ps []) (hr : Room n X.A) : UnR X (unaryOp .USub) (fun x H Q => ∃ a dx fs, x = .ref a ∧ H a = some (.ins D dx fs) ∧ sp [x] H Q E0) := by
  rintro pins s σ H x u1 Q I rx ⟨a, dx, fs, rfl, ha, hsp⟩
  cases rx
  obtain ⟨_, JA, _⟩ := ins_get I.hok ha
  obtain ⟨_, JA, _⟩ := JA.look
  obtain ⟨_, hF⟩ := I.fr
  have one : Vals [V.ref a] [Value.ref a] := .cons rfl .nil
  have hl := F.len _ _ _ _ hsp
  have bd := hb s [.ref a] I.kIn (by simpa using hl)
  refine PySem.W.ksp_neg hF I.ok.mod.kin JA hs hf (wpAny_call (codeAny_mono (F.run X.A X.stack s H ⟨[.ref a], []⟩ _ _ _ E0 hr I.env0 (by simpa using bd) one hsp) fun r s' hq => ?_))
  match r, hq with
  | .ok (.ret w), hq =>
    obtain ⟨z, H', I', rz, ex⟩ := I.after hq
    exact ⟨z, H', I', rz, ex⟩
  | .ok .next, hq => exact False.elim hq
  | .ok .brk, hq => exact False.elim hq
  | .ok .cont, hq => exact False.elim hq
  | .error _, hq => exact False.elim hq
end L2
/-! A dict comprehension with two sources and no tests: {key: value for a in one for b in other}. -/
namespace L2
open PySem PySem.Spec PyProof.Rows
/-- the comprehension -/
abbrev d2 (kx vx t0 i0 t1 i1 : Expr) (sc : Scope) (pos : Pos) : Expr := .DictComp kx vx [⟨t0, i0, [], 0⟩, ⟨t1, i1, [], 0⟩] sc pos
section
variable {kx vx t0 i0 t1 i1 : Expr} {sc : Scope} {pos : Pos} {it acc : Value} {env : Env} {D : Addr}
theorem d2_first : compTurn (d2 kx vx t0 i0 t1 i1 sc pos) 0 it acc env = (do
    standAt i0.pos
    match ← pyNext it with
    | none => pure (.done .next)
    | some u =>
      letOwnedTupleGo t0 it u
      assign t0 env u
      let y ← eval i1 env
      standAt i1.pos
      let y ← foldedSetIterable i1 env y
      let _ ← runOwn (.compStart (d2 kx vx t0 i0 t1 i1 sc pos) 1 (← holding [y] (pyIter y)) acc env) env
      again (.compLoop (d2 kx vx t0 i0 t1 i1 sc pos) 0 it acc env)) := by rfl
theorem d2_second : compTurn (d2 kx vx t0 i0 t1 i1 sc pos) 1 it (.ref D) env = (do
    standAt i1.pos
    match ← pyNext it with
    | none => pure (.done .next)
    | some u =>
      letOwnedTupleGo t1 it u
      assign t1 env u
      (do
        let a ← eval kx env
        let b ← holding [a] (eval vx env)
        standAt { kx.pos with endLine := vx.pos.endLine, endCol := vx.pos.endCol }
        holding [a, b] (dictSet D a b))
      again (.compLoop (d2 kx vx t0 i0 t1 i1 sc pos) 1 it (.ref D) env)) := by rfl
/-- nothing is raised -/
abbrev nix : Value → Shared → Prop := fun _ _ => False
variable {prog : Program} {w : World} {A : Around} {R : Result → Shared → Prop} {s : Shared}
theorem noNix {α : Type} {t : Sem α} {Q : α → Shared → Prop} {E : Value → Shared → Prop} (h : wpAny (model prog w) A t Q nix s) : wpAny (model prog w) A t Q E s := wpAny_mono h (fun _ _ z => z) fun _ _ z => z.elim
theorem d2_loop0 (hs : ∀ y, foldedSetIterable i1 env y = pure y) (J : Nat → Shared → Prop)
    (go : ∀ n s, J n s → wpAny (model prog w) A (pyNext it) (fun r sa => match r with
      | none => R (.ok .next) sa
      | some u => wpAny (model prog w) A (letOwnedTupleGo t0 it u) (fun _ sb => wpAny (model prog w) A (assign t0 env u) (fun _ sd =>
          wpAny (model prog w) A (eval i1 env) (fun y se => wpAny (model prog w) A (pyIter y) (fun jt sf =>
            codeAny (model prog w) A (.compStart (d2 kx vx t0 i0 t1 i1 sc pos) 1 jt acc env) (fun r sz => (∃ f, r = .ok f) ∧ ∃ m, m < n ∧ J m sz) sf) nix se) nix sd) nix sb) nix sa) nix s)
    (n : Nat) (h : J n s) : codeAny (model prog w) A (.compLoop (d2 kx vx t0 i0 t1 i1 sc pos) 0 it acc env) R s := by
  refine codeAny_loop rfl J (fun n s hJ => ?_) n h
  show wpAny _ A ((compTurn (d2 kx vx t0 i0 t1 i1 sc pos) 0 it acc env).onRaise (fun x => do noteFrame x env; theTreesLotGoes x)) _ _ s
  refine wpAny_noted ?_
  rw [d2_first]
  refine wpAny_bind (wpAny_standAt (wpAny_bind (noNix (wpAny_mono (go n s hJ) (fun r sa ha => ?_) fun _ _ z => z.elim))))
  match r, ha with
  | none, ha => exact wpAny_pure ha
  | some u, ha =>
    refine wpAny_bind (noNix (wpAny_mono ha (fun _ sb hb => ?_) fun _ _ z => z.elim))
    refine wpAny_bind (noNix (wpAny_mono hb (fun _ sd hd => ?_) fun _ _ z => z.elim))
    refine wpAny_bind (noNix (wpAny_mono hd (fun y se he => ?_) fun _ _ z => z.elim))
    refine wpAny_bind (wpAny_standAt (wpAny_bind (wpAny_of_eq (hs y) (wpAny_bind (wpAny_holding (noNix (wpAny_mono he (fun jt sf hf => ?_) fun _ _ z => z.elim)))))))
    refine wpAny_bind (wpAny_runOwn ?_)
    rw [Around.mark_none]
    refine codeAny_mono hf fun r sz ⟨⟨f, hr⟩, hz⟩ => ?_
    subst hr
    first
      | exact wpAny_pure ⟨rfl, hz⟩
      | exact wpAny_bind (wpAny_pure (wpAny_pure ⟨rfl, hz⟩))
theorem d2_loop1 (J : Nat → Shared → Prop)
    (go : ∀ n s, J n s → wpAny (model prog w) A (pyNext it) (fun r sa => match r with
      | none => R (.ok .next) sa
      | some u => wpAny (model prog w) A (letOwnedTupleGo t1 it u) (fun _ sb => wpAny (model prog w) A (assign t1 env u) (fun _ sd =>
          wpAny (model prog w) A (eval kx env) (fun a se => wpAny (model prog w) A (eval vx env) (fun b sf =>
            wpAny (model prog w) A (dictSet D a b) (fun _ sz => ∃ m, m < n ∧ J m sz) nix sf) nix se) nix sd) nix sb) nix sa) nix s)
    (n : Nat) (h : J n s) : codeAny (model prog w) A (.compLoop (d2 kx vx t0 i0 t1 i1 sc pos) 1 it (.ref D) env) R s := by
  refine codeAny_loop rfl J (fun n s hJ => ?_) n h
  show wpAny _ A ((compTurn (d2 kx vx t0 i0 t1 i1 sc pos) 1 it (.ref D) env).onRaise (fun x => do noteFrame x env; theTreesLotGoes x)) _ _ s
  refine wpAny_noted ?_
  rw [d2_second]
  refine wpAny_bind (wpAny_standAt (wpAny_bind (noNix (wpAny_mono (go n s hJ) (fun r sa ha => ?_) fun _ _ z => z.elim))))
  match r, ha with
  | none, ha => exact wpAny_pure ha
  | some u, ha =>
    refine wpAny_bind (noNix (wpAny_mono ha (fun _ sb hb => ?_) fun _ _ z => z.elim))
    refine wpAny_bind (noNix (wpAny_mono hb (fun _ sd hd => ?_) fun _ _ z => z.elim))
    refine wpAny_bind (wpAny_bind (noNix (wpAny_mono hd (fun a se he => ?_) fun _ _ z => z.elim)))
    refine wpAny_bind (wpAny_holding (noNix (wpAny_mono he (fun b sf hf => ?_) fun _ _ z => z.elim)))
    exact wpAny_bind (wpAny_standAt (wpAny_holding (noNix (wpAny_mono hf (fun _ sz hz => wpAny_pure ⟨rfl, hz⟩) fun _ _ z => z.elim))))
/-- the second source is taken up -/
theorem d2_start1 (h0 : codeAny (model prog w) A (.compLoop (d2 kx vx t0 i0 t1 i1 sc pos) 1 it acc env) R s)
    (h : wpAny (model prog w) A (pyIter it) (fun jt sz => codeAny (model prog w) A (.compLoop (d2 kx vx t0 i0 t1 i1 sc pos) 1 jt acc env) R sz) nix s) :
    codeAny (model prog w) A (.compStart (d2 kx vx t0 i0 t1 i1 sc pos) 1 it acc env) R s := by
  refine codeAny_of_tree ?_
  show wpAny _ _ ((compStart (d2 kx vx t0 i0 t1 i1 sc pos) 1 it acc env).onRaise (fun x => do noteFrame x env; standAt theWindowsPlace)) _ _ s
  refine wpAny_notedAt ?_
  unfold compStart
  show wpAny _ _ (ask >>= _) _ _ s
  refine wpAny_bind (wpAny_askSetting (wpAny_ite ?_))
  split
  · first
      | exact wpAny_pure ⟨rfl, h0⟩
      | exact wpAny_bind (wpAny_pure (wpAny_pure ⟨rfl, h0⟩))
  · refine wpAny_bind (wpAny_rule ?_)
    show wpAny _ _ (standAt i1.pos >>= _) _ _ s
    exact wpAny_bind (wpAny_standAt (wpAny_bind (noNix (wpAny_mono h (fun jt sz hz => wpAny_pure ⟨rfl, hz⟩) fun _ _ z => z.elim))))
end
section
variable {X : Cx}
/-- what the inner loop has to keep, for one item of the outer source; Nx: what is wanted behind it -/
def tIn (g1 : TG) (tk tv : TE) (vs1 : List Nat) (D : Addr) (σ2 : St) (Nx : Hp → Prop) (J1 : It) (H4 : Hp) : Prop := ∃ W1 : Nat → Nat → Hp → Prop, (∃ k0, W1 0 k0 H4) ∧ ∀ j k Ha, W1 j k Ha → (J1.stop j Ha ∧ Nx Ha) ∨
  (J1.go j Ha ∧ ∃ N1 : Hp → Prop, (∀ Hb, N1 Hb → ∃ k', k' < k ∧ W1 (j + 1) k' Hb) ∧ ∀ y Hb, J1.yld j Ha y Hb → g1 y (wipe σ2 vs1) Hb fun σ3 H5 => wipe σ3 vs1 = wipe σ2 vs1 ∧
    tk σ3 H5 fun a H6 => tv σ3 H6 fun b H7 => ∃ kvs k, a = kV k ∧ H7 D = some (.dK kvs) ∧ kvs.length < sizeLine ∧ N1 (upd H7 D (.dK (putK kvs k b))))
def tD2 (wi : TI) (g : TG) (wi1 : TI) (g1 : TG) (tk tv : TE) (vs vs1 : List Nat) : TE := fun σ H Q => wi σ H fun J H1 => ∀ D, H1 D = none → ∃ W : Nat → Nat → Hp → Prop, (∃ m0, W 0 m0 (upd H1 D (.dK []))) ∧ ∀ i m Ha, W i m Ha → (J.stop i Ha ∧ Q (.ref D) Ha) ∨
  (J.go i Ha ∧ ∃ Nx : Hp → Prop, (∀ Hb, Nx Hb → ∃ m', m' < m ∧ W (i + 1) m' Hb) ∧ ∀ y Hb, J.yld i Ha y Hb → g y (wipe σ vs) Hb fun σ2 H2 => wipe σ2 vs = wipe σ vs ∧ wi1 σ2 H2 (tIn g1 tk tv vs1 D σ2 Nx))
theorem dc2_core {kx vx t0 i0 t1 i1 : Expr} {sc : Scope} {own : List (Str × Nat)} {vs1 : List Nat} {pos pos' : Pos} {wi wi1 : TI} {g g1 : TG} {tk tv : TE} {pins : List (Addr × Obj)} {s : Shared} {σ : St} {H : Hp} {Q : VK} {use : Option (Value → Sem Unit)} {Qf : Value → Shared → Prop} (hc : X.calm = true) (hN : X.N.Nodup) (I : Inv X pins σ H s) (hi : PI X t0 i0 wi) (ok : BlkOk X.N X.env.scope sc own) (hv : ∀ i ∈ vs1, i ∈ own.map (·.2))
    (hg : ∀ (s : Shared) (H : Hp) (C : Addr) (cl : List (Str × Addr)) (fp : List Addr), PG (X.blk s H sc (compEnvC sc cl C X.env) fp) t0 g)
    (hi1 : ∀ (s : Shared) (H : Hp) (C : Addr) (cl : List (Str × Addr)) (fp : List Addr), PI (X.blk s H sc (compEnvC sc cl C X.env) fp) t1 i1 wi1)
    (hg1 : ∀ (s : Shared) (H : Hp) (C : Addr) (cl : List (Str × Addr)) (fp : List Addr), PG (X.blk s H sc (compEnvC sc cl C X.env) fp) t1 g1)
    (hk : ∀ (s : Shared) (H : Hp) (C : Addr) (cl : List (Str × Addr)) (fp : List Addr), PE (X.blk s H sc (compEnvC sc cl C X.env) fp) kx tk)
    (he : ∀ (s : Shared) (H : Hp) (C : Addr) (cl : List (Str × Addr)) (fp : List Addr), PE (X.blk s H sc (compEnvC sc cl C X.env) fp) vx tv)
    (hs : ∀ y, foldedSetIterable i0 X.env y = pure y) (hs1 : ∀ env y, foldedSetIterable i1 env y = pure y) (hq : tD2 wi g wi1 g1 tk tv (own.map (·.2)) vs1 σ H Q)
    (last : ∀ D C sz mm H', Inv X pins σ H' sz → Q (.ref D) H' → sz.heap.Ns C mm → FpOk X pins H' C → compPost (model X.prog X.w) X.A X.xe use Qf (.ref D) C (.ok .next) sz) :
    wpAny (model X.prog X.w) X.A (comprehension (d2 kx vx t0 i0 t1 i1 sc pos) sc X.env pos' newDict false (eval i0 X.env) use) Qf X.xe s := by
  have clo : ∀ y ∈ sc.names, y.2 = .free → ∃ c, X.env.cells.lookup y.1 = some c := fun y hy e => (ok.free y hy e).elim (fun z => I.ok.has _ (.inl z)) fun z => I.ok.has _ (.inr z)
  refine wpAny_comprehension_free (use := use) rfl hs (closure_ok clo) ok.kind (fun y hy e => by rw [ok.uniq y hy, e]) (thn (hi.run pins s σ H _ I hq) fun _ _ hx => thn hx fun _ sa ha => ?_)
  obtain ⟨it, fp, tn, J, Ha, rfl, Ia, T, sta, fa, q⟩ := ha
  refine wpAny_newObj_type (newEnv_comp ?_)
  generalize hD : sa.heap.objs.size = D
  obtain ⟨W, ⟨m0, w0⟩, turn⟩ := q D (Ia.hok.fresh (Nat.le_of_eq hD))
  generalize hsb : ({ sa with heap := sa.heap.push { cls := .type "dict", data := .dict #[] } } : Shared) = sb
  have hb : sb.heap = sa.heap.push { cls := .type "dict", data := .dict #[] } := by rw [← hsb]
  have Ib : Inv X pins σ (upd Ha D (.dK [])) sb := by
    rw [← hsb, ← hD]
    exact Ia.laid (t' := sa.toks) (fun _ _ e => Heap.get?_push_of_some _ e) (Nat.le_refl _) (dk_empty sa.heap Ia.big)
  have fb : ∀ b ∈ fp, FpOk X pins (upd Ha D (.dK [])) b ∧ b < sb.heap.objs.size := fun b hm => by
    obtain ⟨_, e, _⟩ := T.obj _ _ sta b hm
    have lt := Heap.lt_size e
    refine ⟨⟨(upd_ne (fun z => by rw [z, ← hD] at lt; exact absurd lt (Nat.lt_irrefl _))).trans (fa b hm).1, (fa b hm).2⟩, ?_⟩
    rw [hb, Heap.size_push]
    exact Nat.lt_succ_of_lt lt
  have stb : tn 0 sb.heap := T.keep _ _ _ sta fun _ _ _ e => by rw [hb]; exact Heap.get?_push_of_some _ e
  have Ic := block_start Ib ok hN fb
  generalize hHb : upd Ha D (.dK []) = Hb at Ib fb Ic w0
  generalize hcl : cellsFrom (sb.heap.objs.size + 1) sc.names (cloFrom X.env.cells sc.names []) = cl at Ic
  have pg := hg sb Hb sb.heap.objs.size cl fp
  have pi1 := hi1 sb Hb sb.heap.objs.size cl fp
  have pg1 := hg1 sb Hb sb.heap.objs.size cl fp
  have pk := hk sb Hb sb.heap.objs.size cl fp
  have pe := he sb Hb sb.heap.objs.size cl fp
  show codeAny _ _ (.compStart (d2 kx vx t0 i0 t1 i1 sc pos) 0 (.ref it) (.ref D) (compEnvC sc cl sb.heap.objs.size X.env)) (compPost (model X.prog X.w) X.A X.xe use _ (.ref D) sb.heap.objs.size) { sb with heap := pushCells (sb.heap.push { cls := .type "dict", data := .dict #[] }) sc.names }
  have cL : (compEnvC sc cl sb.heap.objs.size X.env).locals = sb.heap.objs.size := rfl
  generalize compEnvC sc cl sb.heap.objs.size X.env = ce at Ic pg pi1 pg1 pk pe cL ⊢
  generalize hsc : ({ sb with heap := pushCells (sb.heap.push { cls := .type "dict", data := .dict #[] }) sc.names } : Shared) = s0 at Ic ⊢
  have st0 : tn 0 s0.heap := T.keep _ _ _ stb fun _ _ _ e => by rw [← hsc]; exact pushCells_keeps _ _ _ _ (Heap.get?_push_of_some _ e)
  have own0 : ∀ {σ' : St} {H' : Hp} {s' : Shared}, Inv (X.blk sb Hb sc ce fp) [] σ' H' s' → (∀ b ∈ fp, H' b = none) → ∀ b ∈ fp, FpOk (X.blk sb Hb sc ce fp) [] H' b := fun I' n b hm =>
    ⟨n b hm, (I'.ok.exf b hm).1, I'.ok.exfs b hm, .inl hm, fun x c e => (I'.ok.exf b hm).2 x c e, fun p hp => nomatch (show p ∈ ([] : List (Addr × Obj)) from hp)⟩
  have loop : codeAny (model X.prog X.w) X.A (.compLoop (d2 kx vx t0 i0 t1 i1 sc pos) 0 (.ref it) (.ref D) ce) (compPost (model X.prog X.w) X.A X.xe use Qf (.ref D) sb.heap.objs.size) s0 := by
    refine d2_loop0 (hs1 ce) (fun n s' => ∃ i H', Inv (X.blk sb Hb sc ce fp) [] (wipe σ (own.map (·.2))) H' s' ∧ tn i s'.heap ∧ (∀ b ∈ fp, H' b = none) ∧ W i n H') ?_ m0 ⟨0, Hb, Ic, st0, fun b hm => (fb b hm).1.1, w0⟩
    rintro n s1 ⟨i, H1, I1, st1, n1, w1⟩
    rcases turn i n H1 w1 with ⟨stop, qq⟩ | ⟨go, Nx, hNx, step⟩
    · refine thnF (T.done (X.blk sb Hb sc ce fp) rfl rfl rfl hc i [] s1 _ H1 (fun _ _ => False) I1 (own0 I1 n1) st1 stop) fun r s2 ⟨hr, I2⟩ => ?_
      subst hr
      have I3 : Inv X pins σ H1 s2 := Ib.call' (ch := fp) I2.os I2.base I2.hok I2.bare fun b hm => ⟨(fb b hm).1.2.2.2.1, (fb b hm).1.2.1, (fb b hm).1.2.2.2.2.1, (fb b hm).1.2.2.2.2.2⟩
      have fr : H1 ce.locals = none := I2.free
      obtain ⟨mm, ns, _⟩ := I2.loc
      replace ns : s2.heap.Ns ce.locals mm := ns
      rw [cL] at fr ns
      exact last D _ s2 mm H1 I3 qq ns (Ib.fpOk (Nat.le_refl _) fr)
    · refine thnF (T.item (X.blk sb Hb sc ce fp) rfl rfl rfl hc i [] s1 _ H1 (fun _ _ => False) I1 (own0 I1 n1) st1 go) fun r s2 ⟨u, hr, h2⟩ => ?_
      subst hr
      refine thnF h2 fun _ s3 ⟨y, H3, I3, r3, y3, st3, n3⟩ => ?_
      have I3p := I3.pinned (own0 I3 n3) (T.obj _ _ st3)
      refine thnF (pg.run _ s3 _ H3 y u _ I3p r3 (step y H3 y3)) fun _ s4 ⟨σ4, H4, I4, hw4, q4⟩ => ?_
      refine thnF (pi1.run _ s4 σ4 H4 _ I4 q4) fun xv s5 hx => thnF hx fun itv s6 h6 => ?_
      obtain ⟨it1, fp1, tn1, J1, H6, rfl, I6, T1, st6, f6, W1, ⟨k0, w6⟩, turn1⟩ := h6
      have ln : (wipe σ (own.map (·.2))).length = σ4.length := by rw [← hw4, wipe_length]
      have kn : ∀ (j : Nat) v, (wipe σ (own.map (·.2)))[j]? = some (some v) → (wipe σ4 vs1)[j]? = some (some v) := fun j v e => by
        rw [← hw4] at e
        obtain ⟨e1, e2⟩ := wipe_some e
        rw [wipe_out fun z => e2 (hv j z)]
        exact e1
      have here1 : ∀ {H' : Hp}, (∀ b ∈ fp1, H' b = none) → ∀ b ∈ fp1, FpOk (X.blk sb Hb sc ce fp) ([] ++ pinsAt fp s3.heap) H' b := fun n b hm => ⟨n b hm, (f6 b hm).2⟩
      have inner : codeAny (model X.prog X.w) X.A (.compLoop (d2 kx vx t0 i0 t1 i1 sc pos) 1 (.ref it1) (.ref D) ce) (fun r sz => (∃ f, r = .ok f) ∧ ∃ m, m < n ∧ ∃ i H', Inv (X.blk sb Hb sc ce fp) [] (wipe σ (own.map (·.2))) H' sz ∧ tn i sz.heap ∧ (∀ b ∈ fp, H' b = none) ∧ W i m H') s6 := by
        refine d2_loop1 (fun k s' => ∃ j H', Inv (X.blk sb Hb sc ce fp) ([] ++ pinsAt fp s3.heap) (wipe σ4 vs1) H' s' ∧ tn1 j s'.heap ∧ (∀ b ∈ fp1, H' b = none) ∧ W1 j k H') ?_ k0 ⟨0, H6, I6.weak (wipe_length _ _) (fun j v e => (wipe_some e).1), st6, fun b hm => (f6 b hm).1, w6⟩
        rintro k s7 ⟨j, H7, I7, st7, n7, w7⟩
        rcases turn1 j k H7 w7 with ⟨stop1, nx⟩ | ⟨go1, N1, hN1, step1⟩
        · refine thnF (T1.done (X.blk sb Hb sc ce fp) rfl rfl rfl hc j _ s7 (wipe σ4 vs1) H7 (fun _ _ => False) I7 (here1 n7) st7 stop1) fun r s8 ⟨hr, I8⟩ => ?_
          subst hr
          obtain ⟨m', hm, w'⟩ := hNx H7 nx
          have pin' : ∀ b ∈ fp, ∀ o, s3.heap.get? b = some o → s8.heap.get? b = some o ∧ H7 b = none := fun b hm o e => by
            obtain ⟨z1, z2, _⟩ := I8.pin (b, o) (List.mem_append_right _ (List.mem_append_right _ (mem_pinsAt hm e)))
            exact ⟨z1, z2⟩
          refine ⟨⟨_, rfl⟩, m', hm, i + 1, H7, (I8.unpinned (pins := [])).weak (ln.trans (wipe_length σ4 vs1).symm) kn, T.keep _ _ _ st3 fun b hm o e => (pin' b hm o e).1, fun b hm => ?_, w'⟩
          obtain ⟨o, e, _⟩ := T.obj _ _ st3 b hm
          exact (pin' b hm o e).2
        · refine thnF (T1.item (X.blk sb Hb sc ce fp) rfl rfl rfl hc j _ s7 (wipe σ4 vs1) H7 (fun _ _ => False) I7 (here1 n7) st7 go1) fun r s8 ⟨u1, hr, h8⟩ => ?_
          subst hr
          refine thnF h8 fun _ s9 ⟨z, H9, I9, r9, y9, st9, n9⟩ => ?_
          have I9p := I9.pinned (here1 n9) (T1.obj _ _ st9)
          refine thnF (pg1.run _ s9 (wipe σ4 vs1) H9 z u1 _ I9p r9 (step1 z H9 y9)) fun _ sA ⟨σA, HA, IA, hwA, qA⟩ => ?_
          refine thnF (pk.run _ sA σA HA _ IA qA) fun av sB ⟨a, HB, IB, rB, qB⟩ => ?_
          refine thnF (pe.run _ sB σA HB _ IB qB) fun bv sC ⟨b_, HC, IC, rC, kvs, key, ek, hDC, hz, nx⟩ => ?_
          subst ek
          refine d_dictSet (X := X.blk sb Hb sc ce fp) IC hDC hz rB rC fun sE IE => ?_
          obtain ⟨m', hm, w'⟩ := hN1 _ nx
          have pin' : ∀ b ∈ fp1, ∀ o, s9.heap.get? b = some o → sE.heap.get? b = some o ∧ upd HC D (.dK (putK kvs key b_)) b = none := fun b hm o e => by
            obtain ⟨z1, z2, _⟩ := IE.pin (b, o) (List.mem_append_right _ (List.mem_append_right _ (mem_pinsAt hm e)))
            exact ⟨z1, z2⟩
          refine ⟨m', hm, j + 1, _, IE.unpinned.weak (by rw [← hwA, wipe_length]) (fun j v e => by rw [← hwA] at e; exact (wipe_some e).1), T1.keep _ _ _ st9 fun b hm o e => (pin' b hm o e).1, fun b hm => ?_, w'⟩
          obtain ⟨o, e, _⟩ := T1.obj _ _ st9 b hm
          exact (pin' b hm o e).2
      exact d2_start1 inner (T1.self X.A 0 _ _ _ st6 inner)
  exact codeAny_compStart_dict loop (T.self X.A 0 _ _ _ st0 loop)
theorem pe_dc2 {kx vx t0 i0 t1 i1 : Expr} {sc : Scope} {own : List (Str × Nat)} {vs1 : List Nat} {pos : Pos} {wi wi1 : TI} {g g1 : TG} {tk tv : TE} (hc : X.calm = true) (hN : X.N.Nodup) (hi : PI X t0 i0 wi) (ok : BlkOk X.N X.env.scope sc own) (hv : ∀ i ∈ vs1, i ∈ own.map (·.2))
    (hg : ∀ (s : Shared) (H : Hp) (C : Addr) (cl : List (Str × Addr)) (fp : List Addr), PG (X.blk s H sc (compEnvC sc cl C X.env) fp) t0 g)
    (hi1 : ∀ (s : Shared) (H : Hp) (C : Addr) (cl : List (Str × Addr)) (fp : List Addr), PI (X.blk s H sc (compEnvC sc cl C X.env) fp) t1 i1 wi1)
    (hg1 : ∀ (s : Shared) (H : Hp) (C : Addr) (cl : List (Str × Addr)) (fp : List Addr), PG (X.blk s H sc (compEnvC sc cl C X.env) fp) t1 g1)
    (hk : ∀ (s : Shared) (H : Hp) (C : Addr) (cl : List (Str × Addr)) (fp : List Addr), PE (X.blk s H sc (compEnvC sc cl C X.env) fp) kx tk)
    (he : ∀ (s : Shared) (H : Hp) (C : Addr) (cl : List (Str × Addr)) (fp : List Addr), PE (X.blk s H sc (compEnvC sc cl C X.env) fp) vx tv)
    (hs : ∀ y, foldedSetIterable i0 X.env y = pure y := by intro _; rfl) (hs1 : ∀ env y, foldedSetIterable i1 env y = pure y := by intro _ _; rfl) :
    PE X (d2 kx vx t0 i0 t1 i1 sc pos) (tD2 wi g wi1 g1 tk tv (own.map (·.2)) vs1) := by
  refine ⟨fun pins s σ H Q I hq => ?_⟩
  rw [arm_eval_DictComp]
  refine dc2_core hc hN I hi ok hv hg hi1 hg1 hk he hs hs1 hq fun D C sz mm H' Iz qq ns fo => ⟨mm, ns, fun _ sub => ?_⟩
  obtain ⟨g0, g1, _, g3, g4, g5⟩ := fo
  exact ⟨.ref D, H', Iz.turned (t' := sz.toks) (fun b o hm e => (sub.2 b hm).trans e) g0 g1 g3 g4 g5, rfl, qq⟩
/-- name = the comprehension -/
theorem ps_setDc2 {i : Nat} {nm : Str} {pn spos : Pos} {kx vx t0 i0 t1 i1 : Expr} {sc : Scope} {own : List (Str × Nat)} {vs1 : List Nat} {pos : Pos} {wi wi1 : TI} {g g1 : TG} {tk tv : TE} (hc : X.calm = true) (hN : X.N.Nodup) (hy : X.N[i]? = some nm) (hyl : X.env.scope.names.lookup nm = some .local)
    (hw : swapsWith (d2 kx vx t0 i0 t1 i1 sc pos) (some (.Name nm pn)) spos.line X.env = pure true) (hi : PI X t0 i0 wi) (ok : BlkOk X.N X.env.scope sc own) (hv : ∀ i ∈ vs1, i ∈ own.map (·.2))
    (hg : ∀ (s : Shared) (H : Hp) (C : Addr) (cl : List (Str × Addr)) (fp : List Addr), PG (X.blk s H sc (compEnvC sc cl C X.env) fp) t0 g)
    (hi1 : ∀ (s : Shared) (H : Hp) (C : Addr) (cl : List (Str × Addr)) (fp : List Addr), PI (X.blk s H sc (compEnvC sc cl C X.env) fp) t1 i1 wi1)
    (hg1 : ∀ (s : Shared) (H : Hp) (C : Addr) (cl : List (Str × Addr)) (fp : List Addr), PG (X.blk s H sc (compEnvC sc cl C X.env) fp) t1 g1)
    (hk : ∀ (s : Shared) (H : Hp) (C : Addr) (cl : List (Str × Addr)) (fp : List Addr), PE (X.blk s H sc (compEnvC sc cl C X.env) fp) kx tk)
    (he : ∀ (s : Shared) (H : Hp) (C : Addr) (cl : List (Str × Addr)) (fp : List Addr), PE (X.blk s H sc (compEnvC sc cl C X.env) fp) vx tv)
    (hs : ∀ y, foldedSetIterable i0 X.env y = pure y := by intro _; rfl) (hs1 : ∀ env y, foldedSetIterable i1 env y = pure y := by intro _ _; rfl) :
    PS X (.Assign [.Name nm pn] (d2 kx vx t0 i0 t1 i1 sc pos) spos) (tAsg (tD2 wi g wi1 g1 tk tv (own.map (·.2)) vs1) (gName i)) := by
  refine ⟨fun pins s σ H D I hq => ?_⟩
  rw [exec_Assign_Name_used _ _ _ _ hw]
  refine wpAny_bind (wpAny_standAt (wpAny_bind ?_))
  show wpAny _ X.A (comprehension (d2 kx vx t0 i0 t1 i1 sc pos) sc X.env _ newDict false (eval i0 X.env) (some (assign (.Name nm pn) X.env)) >>= fun _ => _) _ _ s
  have hq : tD2 wi g wi1 g1 tk tv (own.map (·.2)) vs1 σ H (fun x H1 => gName i x σ H1 D.nx) := hq
  refine wpAny_bind (thn (dc2_core (Qf := fun _ sz => SP X pins D .next sz) hc hN I hi ok hv hg hi1 hg1 hk he hs hs1 hq fun L C sz mm H' Iz qq ns fo => ?_) fun _ _ z => wpAny_pure (wpAny_pure z))
  show wpAny _ _ (assign (.Name nm pn) X.env (.ref L)) _ _ _
  refine wpAny_assign_Name (store_ok2 (v := V.ref L) Iz hN hy (.inl hyl) rfl (fun sy Iy ⟨a, sub, ha⟩ => ?_) (.inr hyl))
  obtain ⟨g0, g1, _, g3, g4, g5⟩ := fo
  have nCa : C ≠ a := ha.elim (fun z => by rw [z]; exact g1) fun z e => g4 nm a z e.symm
  exact ⟨mm, ns.sameBut sub nCa, fun _ sub3 => ⟨_, H', Iy.turned (t' := sy.toks) (fun b o hm e => (sub3.2 b hm).trans e) g0 g1 g3 g4 g5, qq⟩⟩
end
end L2
/-! d.update(e) of two dicts. -/
namespace L2
open PySem PySem.Spec PyProof.Rows
section
variable {X : Cx}
def rUpd : V → List V → Hp → VK → Prop := fun x xs H Q => ∃ (a b : Addr) (kvs more : List (Key × V)), x = .ref a ∧ xs = [.ref b] ∧ H a = some (.dK kvs) ∧ H b = some (.dK more) ∧ a ≠ b ∧ kvs.length + more.length ≤ sizeLine ∧ Q .non (upd H a (.dK (mergeK kvs more)))
theorem mt_update : MtR X "dict.update" rUpd := by
  rintro pins s σ H x xs v us Q I rx rxs ⟨a, b, kvs, more, rfl, rfl, ha, hb, hab, hz, q⟩
  cases rx
  obtain ⟨u, rfl, ru⟩ := vals1 rxs
  cases ru
  obtain ⟨z, hd, vs, rel, dd⟩ := dk_of I.hok ha
  obtain ⟨z2, lo, ws, rel2, dd2⟩ := dk_of I.hok hb
  have l1 := Paired.length rel
  have l2 := Paired.length rel2
  have lm : (mergeK kvs more).length ≤ sizeLine := Nat.le_trans (length_mergeK more kvs) hz
  refine call_meetsIn PySem.F.slot_dict_update dd.typeIs PySem.F.entry_dict_update (PySem.F.args_dict_update_2 _ _) (meets_dict_update (mixKind X.prog X.w) a b hab lo) ⟨vs, ws, dd, dd2, by omega, fun h' d1 d2 sb => ?_⟩
  have he : ∃ q, h'.get? a = some q := let ⟨q, _, _, hq, _⟩ := d1; ⟨q, hq⟩
  exact ⟨.non, _, d_write I (by rw [ha]; exact True.intro) sb he (dk_new lm hd (rel2.merge rel) d1), rfl, q⟩
end
end L2
/-! Questions: trees of patterns, their strings, where they stand. -/
namespace Sq
open PySem PySem.Spec PyProof.Rows L2 Sf Sf4
abbrev sShown : Stmt := topS 44
abbrev sBrk : Stmt := topS 45
abbrev sPatsIn : Stmt := topS 46
abbrev cQu : Stmt := topS 61
abbrev sHas : Stmt := topS 62
abbrev sQI : Stmt := inClass cQu 0
abbrev sQAnd : Stmt := inClass cQu 1
abbrev sQOr : Stmt := inClass cQu 2
abbrev sQNeg : Stmt := inClass cQu 3
def hasW : Str := Str.ofString "has"
def andW : Str := Str.ofString "and"
def orW : Str := Str.ofString "or"
def notW : Str := Str.ofString "not"
/-- a pattern, where it stands -/
structure Pi where
  x : Addr
  Z : List Nat
  l : Bool
  t : Tr
  r : Bool
  nm : Nm
inductive Qt where
  | has (p : Pi)
  | neg (q : Qt)
  | con (p q : Qt)
  | dis (p q : Qt)
def wordQ : Qt → Str
  | .has _ => hasW
  | .neg _ => notW
  | .con _ _ => andW
  | .dis _ _ => orW
def shw : Qt → List Nat
  | .has p => 47 :: (p.Z ++ [47])
  | .neg q => [110, 111, 116, 32] ++ grp (decide (wordQ q ∈ [andW, orW])) (shw q)
  | .con p q => grp (decide (wordQ p ∈ [orW])) (shw p) ++ [32, 97, 110, 100, 32] ++ grp (decide (wordQ q ∈ [orW])) (shw q)
  | .dis p q => shw p ++ [32, 111, 114, 32] ++ shw q
def pats : Qt → List Pi
  | .has p => [p]
  | .neg q => pats q
  | .con p q => pats p ++ pats q
  | .dis p q => pats p ++ pats q
def dpt : Qt → Nat
  | .has _ => 0
  | .neg q => dpt q + 1
  | .con p q => max (dpt p) (dpt q) + 1
  | .dis p q => max (dpt p) (dpt q) + 1
/-- all but lists and objects that are not made yet stands -/
def KI (H H' : Hp) : Prop := ∀ b o, H b = some o → (∀ xs, o ≠ .lst xs) → (∀ C d, o ≠ .ins C d []) → H' b = some o
theorem KI.refl (H : Hp) : KI H H := fun _ _ e _ _ => e
theorem KI.kt {H H1 : Hp} (a : KI H H1) : KT H H1 := fun b xs e => a b _ e (fun _ z => by cases z) fun _ _ z => by cases z
theorem KI.trans {H H1 H2 : Hp} (a : KI H H1) (b : KI H1 H2) : KI H H2 := fun c o e n m => b c o (a c o e n m) n m
theorem KI.same {H H1 : Hp} (a : Same H H1) : KI H H1 := fun c o e _ _ => a c o e
theorem KI.kp {H H1 : Hp} {p : Addr} {n : Int} (h : Pot H p n) (a : Kp p H H1) : KI H H1 := fun c o e z _ => a c o (fun y => by
  obtain ⟨_, _, _, e2, _⟩ := h
  rw [y, e2] at e
  cases e
  exact z _ rfl) e
theorem KI.kx {H H1 : Hp} {x C d : Addr} (h : H x = some (.ins C d [])) (a : ∀ b o, b ≠ x → H b = some o → H1 b = some o) : KI H H1 := fun c o e _ m => a c o (fun y => by
  rw [y, h] at e
  cases e
  exact m _ _ rfl) e
theorem KI.wr {H : Hp} {b : Addr} {xs : List V} {o : HO} (h : H b = some (.lst xs)) : KI H (upd H b o) := fun c u e z _ => by
  refine (upd_ne fun y => ?_).trans e
  rw [y, h] at e
  cases e
  exact z _ rfl
theorem _root_.Sf4.PatO.ki {C : Addr} {H H' : Hp} {x : Addr} {Z : List Nat} {l : Bool} {t : Tr} {r : Bool} {nm : Nm} (h : PatO C H x Z l t r nm) (k : KI H H') : PatO C H' x Z l t r nm := by
  obtain ⟨dx, tv, na, pl, fi, la, be, h1, h2, h3, h4, h5, h6, h7⟩ := h
  have kt := k.kt
  exact ⟨dx, tv, na, pl, fi, la, be, k _ _ h1 (fun _ z => by cases z) (fun _ _ z => by cases z), h2.mono kt, kt _ _ h3, kt _ _ h4, kt _ _ h5, kt _ _ h6, h7.mono kt⟩
def PiO (C : Addr) (H : Hp) (p : Pi) : Prop := PatO C H p.x p.Z p.l p.t p.r p.nm ∧ sz p.t ≤ 8 ∧ p.Z.length ≤ 60
theorem PiO.ki {C : Addr} {H H' : Hp} {p : Pi} (h : PiO C H p) (k : KI H H') : PiO C H' p := ⟨h.1.ki k, h.2⟩
inductive QtO (C : Addr) (H : Hp) : V → Qt → Prop
  | has {a : Addr} {p : Pi} : H a = some (.tup [.str hasW, .ref p.x]) → PiO C H p → QtO C H (.ref a) (.has p)
  | neg {a : Addr} {v : V} {q : Qt} : H a = some (.tup [.str notW, v]) → QtO C H v q → QtO C H (.ref a) (.neg q)
  | con {a : Addr} {u v : V} {p q : Qt} : H a = some (.tup [.str andW, u, v]) → QtO C H u p → QtO C H v q → QtO C H (.ref a) (.con p q)
  | dis {a : Addr} {u v : V} {p q : Qt} : H a = some (.tup [.str orW, u, v]) → QtO C H u p → QtO C H v q → QtO C H (.ref a) (.dis p q)
theorem QtO.ki {C : Addr} {H H' : Hp} (k : KI H H') : ∀ {q : Qt} {v : V}, QtO C H v q → QtO C H' v q
  | .has p, _, h => by
    cases h with
    | has e o => exact .has (k.kt _ _ e) (o.ki k)
  | .neg q, _, h => by
    cases h with
    | neg e o => exact .neg (k.kt _ _ e) (QtO.ki k o)
  | .con p q, _, h => by
    cases h with
    | con e o1 o2 => exact .con (k.kt _ _ e) (QtO.ki k o1) (QtO.ki k o2)
  | .dis p q, _, h => by
    cases h with
    | dis e o1 o2 => exact .dis (k.kt _ _ e) (QtO.ki k o1) (QtO.ki k o2)
/-- its word stands first -/
theorem QtO.head {C : Addr} {H : Hp} {q : Qt} {v : V} (h : QtO C H v q) : ∃ a rest, v = .ref a ∧ H a = some (.tup (.str (wordQ q) :: rest)) := by
  cases h with
  | has e _ => exact ⟨_, _, rfl, e⟩
  | neg e _ => exact ⟨_, _, rfl, e⟩
  | con e _ _ => exact ⟨_, _, rfl, e⟩
  | dis e _ _ => exact ⟨_, _, rfl, e⟩
theorem QtO.pis {C : Addr} {H : Hp} : ∀ {q : Qt} {v : V}, QtO C H v q → ∀ p ∈ pats q, PiO C H p
  | .has p, _, h, y, hy => by
    cases h with
    | has e o =>
      rw [List.mem_singleton.mp hy]
      exact o
  | .neg q, _, h, y, hy => by
    cases h with
    | neg e o => exact o.pis y hy
  | .con p q, _, h, y, hy => by
    cases h with
    | con e o1 o2 => exact (List.mem_append.mp hy).elim (o1.pis y) (o2.pis y)
  | .dis p q, _, h, y, hy => by
    cases h with
    | dis e o1 o2 => exact (List.mem_append.mp hy).elim (o1.pis y) (o2.pis y)
def piV (ps : List Pi) : List V := ps.map fun p => .ref p.x
/-- a question at x -/
def QuO (CQ C : Addr) (H : Hp) (x : Addr) (q : Qt) : Prop := ∃ dx v pa, H x = some (.ins CQ dx [("tree", v), ("patterns", .ref pa), ("string", .str (tx (shw q)))]) ∧ QtO C H v q ∧ H pa = some (.tup (piV (pats q)))
theorem QuO.ki {CQ C : Addr} {H H' : Hp} {x : Addr} {q : Qt} (h : QuO CQ C H x q) (k : KI H H') : QuO CQ C H' x q := by
  obtain ⟨dx, v, pa, h1, h2, h3⟩ := h
  exact ⟨dx, v, pa, k _ _ h1 (fun _ z => by cases z) (fun _ _ z => by cases z), h2.ki k, k.kt _ _ h3⟩
/-- what the questions' defs find -/
structure QuT (K : PySem.W.Frag) (mg : Str → Option Value) (CQ : Addr) (f : Nat → Addr) (fd : Nat → FuncData) (tk : Nat → Tok) : Prop where
  cl : Cls K CQ
  n1 : NoAttr K CQ "tree"
  n2 : NoAttr K CQ "patterns"
  n3 : NoAttr K CQ "string"
  mI : Mt K CQ "__init__" "Question.__init__" sQI ["self", "tree"] (f 0) (fd 0)
  mA : Mt K CQ "__and__" "Question.__and__" sQAnd ["self", "other"] (f 1) (fd 1)
  mO : Mt K CQ "__or__" "Question.__or__" sQOr ["self", "other"] (f 2) (fd 2)
  mN : Mt K CQ "__neg__" "Question.__neg__" sQNeg ["self"] (f 3) (fd 3)
  mkC : Mk K CQ (f 0)
  self : PySem.W.selfFirst K CQ = true
  gC : mg "Question" = some (.ref CQ)
  shown : Fd K mg "shown" sShown ["tree"] (f 4) (fd 4)
  brk : Fd K mg "bracketed" sBrk ["tree", "words"] (f 5) (fd 5)
  pin : Fd K mg "patterns_in" sPatsIn ["tree"] (f 6) (fd 6)
  has : Fd K mg "has" sHas ["pattern"] (f 7) (fd 7)
  gHas : mg "HAS" = some (.str hasW (tk 20))
  gAnd : mg "AND" = some (.str andW (tk 21))
  gOr : mg "OR" = some (.str orW (tk 22))
  gNot : mg "NOT" = some (.str notW (tk 23))
  gSl : mg "SLASH" = some (.str (Str.ofString "/") (tk 24))
  gNs : mg "NOT_SIGN" = some (.str (Str.ofString "not ") (tk 25))
  gAs : mg "AND_SIGN" = some (.str (Str.ofString " and ") (tk 26))
  gOs : mg "OR_SIGN" = some (.str (Str.ofString " or ") (tk 27))
  gMPt : mg "MOST_PATTERNS" = some (.int 3 (tk 28))
  gMPl : mg "MOST_PLACES_questions" = some (.int 8 (tk 29))
  gMSg : mg "MOST_SIGNS_questions" = some (.int 200 (tk 30))
  zlen : mg "len" = none
  zsum : mg "sum" = none
  ztup : mg "tuple" = none
theorem wq {a b : Str} (h : a ≠ b) : ¬ (V.str a = V.str b) := fun z => h (V.str.inj z)
def spShown (C d : Nat) : Sp := fun vs H Q _ => ∃ (v : V) (q : Qt), vs = [v] ∧ QtO C H v q ∧ dpt q ≤ d ∧ (shw q).length ≤ 2000 ∧ ∀ H', Same H H' → Q (.str (tx (shw q))) H'
def spBrk (C d : Nat) : Sp := fun vs H Q _ => ∃ (v : V) (q : Qt) (wt : Addr) (ws : List Str), vs = [v, .ref wt] ∧ H wt = some (.tup (ws.map V.str)) ∧ QtO C H v q ∧ dpt q ≤ d ∧ (shw q).length ≤ 2000 ∧ ∀ H', Same H H' → Q (.str (tx (grp (decide (wordQ q ∈ ws)) (shw q)))) H'
theorem scShown : FnScope ["tree"] ["tree"] (defScope sShown) := ⟨rfl, rfl, rfl, by decide +kernel, rfl, by decide +kernel, by decide +kernel⟩
theorem scBrk : FnScope ["tree", "words", "string"] ["tree", "words"] (defScope sBrk) := ⟨rfl, rfl, rfl, by decide +kernel, rfl, by decide +kernel, by decide +kernel⟩
theorem inS_dec (n : Str) (ws : List Str) : inV (.str n) (ws.map V.str) = decide (n ∈ ws) := by
  by_cases h : n ∈ ws
  · rw [decide_eq_true h]
    exact List.any_eq_true.mpr ⟨.str n, List.mem_map.mpr ⟨n, h, rfl⟩, beq_iff_eq.mpr rfl⟩
  · rw [decide_eq_false h]
    refine Bool.eq_false_iff.mpr fun z => h ?_
    obtain ⟨y, hy, e⟩ := List.any_eq_true.mp z
    obtain ⟨m, hm, rfl⟩ := List.mem_map.mp hy
    have e : (m == n) = true := e
    rw [← beq_iff_eq.mp e]
    exact hm
theorem len2 {A B : List Nat} (h : A.length + B.length ≤ 20000) : (tx A).length + (tx B).length ≤ sizeLine := by
  rw [tx_len, tx_len]
  exact Nat.le_trans h (by decide)
section
variable {P : Program} {w : World} {K : PySem.W.Frag} {mg : Str → Option Value} {base : Heap} {CQ C : Addr} {f : Nat → Addr} {fd : Nat → FuncData} {tk : Nat → Tok}
theorem ok_brk (T : QuT K mg CQ f fd tk) {k d : Nat} (G : FnOk P w K mg base CX0 k (f 4) (fd 4) ["tree"] (spShown C d)) : FnOk P w K mg base CX0 (k + 1) (f 5) (fd 5) ["tree", "words"] (spBrk C d) := by
  refine T.brk.F.ok scBrk (fun vs H Q E h => ?_) (fun cdv A outer s H vs Q E hr h => ?_)
  · obtain ⟨v, q, wt, ws, rfl, _⟩ := h
    rfl
  · obtain ⟨v, q, wt, ws, rfl, hw, ho, hd, hl, fin⟩ := h
    refine ⟨_, pss_cons (ps_set (i := 2) scBrk.nd rfl (.inl rfl) (pe_call G hr (by rfl) T.shown.g T.shown.F.kp T.shown.b .nil pass0 (pa_cons (pv 0) pa_nil)))
      (pss_one (ps_ret (pe_ifExp (pt_cmpR op_in_seq (pe_ix ix_tup (pv 0) pe_int (fun _ _ => rfl)) (pv 1) rfl) (pe_op op_add_str (pe_op op_add_str pe_str (pv 2)) pe_str) (pv 2)))), ?_⟩
    refine ⟨_, rfl, v, q, rfl, ho, hd, hl, fun H1 s1 => ?_⟩
    obtain ⟨a, rest, rfl, e⟩ := ho.head
    have e1 := s1 _ _ e
    refine ⟨_, rfl, a, _, 0, _, rfl, rfl, .inl (.inl e1), atI_nat (j := 0) rfl, .ref wt, rfl, wt, _, rfl, .inr (.inl (.inl (s1 _ _ hw))), rfl, ?_, _, rfl, ?_⟩
    · exact List.all_eq_true.mpr fun y hy => by
        obtain ⟨m, _, rfl⟩ := List.mem_map.mp hy
        rfl
    show if inV (.str (wordQ q)) (ws.map V.str) = true then _ else _
    rw [inS_dec]
    cases hb : decide (wordQ q ∈ ws) with
    | false =>
      rw [hb] at fin
      exact iteF ⟨_, rfl, fin H1 s1⟩
    | true =>
      rw [hb] at fin
      have e40 : Str.ofString "(" = tx [40] := by decide +kernel
      have e41 : Str.ofString ")" = tx [41] := by decide +kernel
      refine iteT ⟨_, rfl, _, _, rfl, rfl, ?_, _, _, rfl, rfl, ?_, ?_⟩
      · rw [e40]
        exact len2 (by rw [List.length_singleton]; omega)
      · rw [e40, e41, tx_app]
        exact len2 (by rw [List.length_append, List.length_singleton, List.length_singleton]; omega)
      · rw [e40, e41, tx_app, tx_app]
        exact fin H1 s1
end
end Sq
/-! shown, patterns_in. -/
namespace Sq
open PySem PySem.Spec PyProof.Rows L2 Sf Sf4
/-- any loop over a walk: what a turn has to do, told by B -/
theorem it_gen {J : It} {n : Nat} {G : Hp → Prop} {Y : Nat → Hp → V → Hp → Prop} (w : Walk J n G Y) {B : (Hp → Prop) → V → Hp → Prop} {H0 : Hp} {Qd : Hp → Prop} (Pv : Nat → Hp → Prop) (h0 : Pv 0 H0) (hG : ∀ i H, i ≤ n → Pv i H → G H)
    (hs : ∀ i x H H', i < n → Pv i H → Y i H x H' → B (Pv (i + 1)) x H') (hd : ∀ H, Pv n H → Qd H) :
    ∃ W : Nat → Nat → Hp → Prop, (∃ m, W 0 m H0) ∧ ∀ i m H, W i m H → (J.stop i H ∧ Qd H) ∨ (J.go i H ∧ ∃ Nx : Hp → Prop, (∀ H', Nx H' → ∃ m', m' < m ∧ W (i + 1) m' H') ∧ ∀ x H', J.yld i H x H' → B Nx x H') := by
  refine ⟨fun i m H => m + i = n ∧ Pv i H, ⟨n, rfl, h0⟩, fun i m H hW => ?_⟩
  obtain ⟨hm, p⟩ := hW
  have g := hG i H (by omega) p
  cases m with
  | zero =>
    obtain rfl : i = n := by omega
    exact .inl ⟨w.stops H g, hd H p⟩
  | succ m =>
    have hi : i < n := by omega
    exact .inr ⟨w.goes i H hi g, Pv (i + 1), fun H' p' => ⟨m, Nat.lt_succ_self m, by omega, p'⟩, fun x H' y => hs i x H H' hi p (w.yields i H x H' hi g y)⟩
theorem grp_len (b : Bool) (x : List Nat) : (grp b x).length ≤ x.length + 2 := by
  unfold grp
  cases b with
  | true =>
    rw [if_pos rfl, List.length_cons, List.length_append, List.length_singleton]
    omega
  | false =>
    rw [if_neg Bool.false_ne_true]
    omega
theorem len_grp (b : Bool) (x : List Nat) : x.length ≤ (grp b x).length := by
  unfold grp
  cases b with
  | true =>
    rw [if_pos rfl, List.length_cons, List.length_append]
    omega
  | false =>
    rw [if_neg Bool.false_ne_true]
    omega
section
variable {P : Program} {w : World} {K : PySem.W.Frag} {mg : Str → Option Value} {base : Heap} {CQ C : Addr} {f : Nat → Addr} {fd : Nat → FuncData} {tk : Nat → Tok} {pf : Nat → Addr} {pfd : Nat → FuncData} {tp : Nat → Tok} {gR gW : Addr} {dR dW : FuncData}
theorem ok_shown1 (T : QuT K mg CQ f fd tk) (TP : PatT K mg C pf pfd tp gR gW dR dW) {k d : Nat} {spA spB : Sp} (GA : FnOk P w K mg base CX0 k (f 4) (fd 4) ["tree"] spA) (GB : FnOk P w K mg base CX0 k (f 5) (fd 5) ["tree", "words"] spB)
    (hA : ∀ e vs H Q E, e + 1 = d → spShown C e vs H Q E → spA vs H Q E) (hB : ∀ e vs H Q E, e + 1 = d → spBrk C e vs H Q E → spB vs H Q E) : FnOk P w K mg base CX0 (k + 1) (f 4) (fd 4) ["tree"] (spShown C d) := by
  refine T.shown.F.ok scShown (fun vs H Q E h => ?_) (fun cdv A outer s H vs Q E hr h => ?_)
  · obtain ⟨v, q, rfl, _⟩ := h
    rfl
  · obtain ⟨v, q, rfl, ho, hd, hl, fin⟩ := h
    have gS := T.shown.g
    have kS := T.shown.F.kp
    have bS := T.shown.b
    have gB := T.brk.g
    have kB := T.brk.F.kp
    have bB := T.brk.b
    refine ⟨_, pss_cons (ps_if (pt_cmpR op_eq (pe_ix ix_tup (pv 0) pe_int (fun _ _ => rfl)) (pe_glob (v := .str hasW) rfl T.gHas ⟨_, rfl⟩) (nomark _))
          (pss_one (ps_ret (pe_op op_add_str (pe_op op_add_str (pe_glob (v := .str (Str.ofString "/")) rfl T.gSl ⟨_, rfl⟩) (pe_fld (pe_ix ix_tup (pv 0) pe_int (fun _ _ => rfl)) rfl)) (pe_glob (v := .str (Str.ofString "/")) rfl T.gSl ⟨_, rfl⟩)))) pss_nil)
      (pss_cons (ps_if (pt_cmpR op_eq (pe_ix ix_tup (pv 0) pe_int (fun _ _ => rfl)) (pe_glob (v := .str notW) rfl T.gNot ⟨_, rfl⟩) (nomark _))
          (pss_one (ps_ret (pe_op op_add_str (pe_glob (v := .str (Str.ofString "not ")) rfl T.gNs ⟨_, rfl⟩) (pe_call GB hr (by rfl) gB kB bB .nil pass0 (pa_cons (pe_ix ix_tup (pv 0) pe_int (fun _ _ => rfl)) (pa_cons (pe_tup (pa_cons (pe_glob (v := .str andW) rfl T.gAnd ⟨_, rfl⟩) (pa_cons (pe_glob (v := .str orW) rfl T.gOr ⟨_, rfl⟩) pa_nil))) pa_nil)))))) pss_nil)
      (pss_cons (ps_if (pt_cmpR op_eq (pe_ix ix_tup (pv 0) pe_int (fun _ _ => rfl)) (pe_glob (v := .str andW) rfl T.gAnd ⟨_, rfl⟩) (nomark _))
          (pss_one (ps_ret (pe_op op_add_str (pe_op op_add_str (pe_call GB hr (by rfl) gB kB bB .nil pass0 (pa_cons (pe_ix ix_tup (pv 0) pe_int (fun _ _ => rfl)) (pa_cons (pe_tup (pa_cons (pe_glob (v := .str orW) rfl T.gOr ⟨_, rfl⟩) pa_nil)) pa_nil)))
            (pe_glob (v := .str (Str.ofString " and ")) rfl T.gAs ⟨_, rfl⟩)) (pe_call GB hr (by rfl) gB kB bB .nil pass0 (pa_cons (pe_ix ix_tup (pv 0) pe_int (fun _ _ => rfl)) (pa_cons (pe_tup (pa_cons (pe_glob (v := .str orW) rfl T.gOr ⟨_, rfl⟩) pa_nil)) pa_nil)))))) pss_nil)
      (pss_one (ps_ret (pe_op op_add_str (pe_op op_add_str (pe_call GA hr (by rfl) gS kS bS .nil pass0 (pa_cons (pe_ix ix_tup (pv 0) pe_int (fun _ _ => rfl)) pa_nil)) (pe_glob (v := .str (Str.ofString " or ")) rfl T.gOs ⟨_, rfl⟩)) (pe_call GA hr (by rfl) gS kS bS .nil pass0 (pa_cons (pe_ix ix_tup (pv 0) pe_int (fun _ _ => rfl)) pa_nil))))))), ?_⟩
    have n1 : notW ≠ hasW := by decide +kernel
    have n2 : andW ≠ hasW := by decide +kernel
    have n3 : andW ≠ notW := by decide +kernel
    have n4 : orW ≠ hasW := by decide +kernel
    have n5 : orW ≠ notW := by decide +kernel
    have n6 : orW ≠ andW := by decide +kernel
    have eS : Str.ofString "/" = tx [47] := by decide +kernel
    have eN : Str.ofString "not " = tx [110, 111, 116, 32] := by decide +kernel
    have eA : Str.ofString " and " = tx [32, 97, 110, 100, 32] := by decide +kernel
    have eO : Str.ofString " or " = tx [32, 111, 114, 32] := by decide +kernel
    cases ho with
    | @has a p e o =>
      obtain ⟨po, h8, h60⟩ := o
      obtain ⟨dx, tv, na, pl, fi, la, be, e1, _⟩ := id po
      refine ⟨_, rfl, a, _, 0, _, rfl, rfl, .inl (.inl e), atI_nat (j := 0) rfl, rfl, _, rfl, ?_⟩
      rw [decide_eq_true rfl]
      refine iteT ⟨_, rfl, a, _, 1, _, rfl, rfl, .inl (.inl e), atI_nat (j := 1) rfl, p.x, C, dx, _, _, rfl, e1, TP.cl, TP.n4, rfl, _, _, rfl, rfl, ?_, _, _, rfl, rfl, ?_, ?_⟩
      · rw [eS]
        exact len2 (by rw [List.length_singleton]; omega)
      · rw [eS, tx_app]
        exact len2 (by rw [List.length_append, List.length_singleton]; omega)
      · rw [eS, tx_app, tx_app]
        exact fin H (Same.refl H)
    | @neg a v q e o =>
      have hl1 : (grp (decide (wordQ q ∈ [andW, orW])) (shw q)).length + 4 ≤ 2000 := by
        have := hl
        unfold shw at this
        rw [List.length_append] at this
        simp only [List.length_cons, List.length_nil] at this
        omega
      have hl2 := len_grp (decide (wordQ q ∈ [andW, orW])) (shw q)
      have hd1 : dpt q + 1 ≤ d := hd
      refine ⟨_, rfl, a, _, 0, _, rfl, rfl, .inl (.inl e), atI_nat (j := 0) rfl, rfl, _, rfl, ?_⟩
      rw [decide_eq_false (wq n1)]
      refine iteF ⟨_, rfl, a, _, 0, _, rfl, rfl, .inl (.inl e), atI_nat (j := 0) rfl, rfl, _, rfl, ?_⟩
      rw [decide_eq_true rfl]
      refine iteT ⟨_, rfl, a, _, 1, _, rfl, rfl, .inl (.inl e), atI_nat (j := 1) rfl, (show 2 ≤ sizeLine by decide), fun T0 n0 => ?_⟩
      have s0 := smU (o := HO.tup [V.str andW, .str orW]) n0
      refine hB (d - 1) _ _ _ _ (by omega) ⟨v, q, T0, [andW, orW], rfl, upd_same, o.ki (KI.same s0), by omega, by omega, fun H1 s1 => ⟨_, _, rfl, rfl, ?_, ?_⟩⟩
      · rw [eN]
        exact len2 (by simp only [List.length_cons, List.length_nil]; omega)
      · rw [eN, tx_app]
        exact fin H1 (s0.trans s1)
    | @con a u v p q e o1 o2 =>
      have hl1 : (grp (decide (wordQ p ∈ [orW])) (shw p)).length + 5 + (grp (decide (wordQ q ∈ [orW])) (shw q)).length ≤ 2000 := by
        have := hl
        unfold shw at this
        rw [List.length_append, List.length_append] at this
        simp only [List.length_cons, List.length_nil] at this
        omega
      have hl2 := len_grp (decide (wordQ p ∈ [orW])) (shw p)
      have hl3 := len_grp (decide (wordQ q ∈ [orW])) (shw q)
      have hd1 : max (dpt p) (dpt q) + 1 ≤ d := hd
      refine ⟨_, rfl, a, _, 0, _, rfl, rfl, .inl (.inl e), atI_nat (j := 0) rfl, rfl, _, rfl, ?_⟩
      rw [decide_eq_false (wq n2)]
      refine iteF ⟨_, rfl, a, _, 0, _, rfl, rfl, .inl (.inl e), atI_nat (j := 0) rfl, rfl, _, rfl, ?_⟩
      rw [decide_eq_false (wq n3)]
      refine iteF ⟨_, rfl, a, _, 0, _, rfl, rfl, .inl (.inl e), atI_nat (j := 0) rfl, rfl, _, rfl, ?_⟩
      rw [decide_eq_true rfl]
      refine iteT ⟨_, rfl, a, _, 1, _, rfl, rfl, .inl (.inl e), atI_nat (j := 1) rfl, (show 1 ≤ sizeLine by decide), fun T0 n0 => ?_⟩
      have s0 := smU (o := HO.tup [V.str orW]) n0
      refine hB (d - 1) _ _ _ _ (by omega) ⟨u, p, T0, [orW], rfl, upd_same, o1.ki (KI.same s0), by omega, by omega, fun H1 s1 => ⟨_, _, rfl, rfl, ?_, ?_⟩⟩
      · rw [eA]
        exact len2 (by simp only [List.length_cons, List.length_nil]; omega)
      rw [eA, tx_app]
      have s01 := s0.trans s1
      have ea := s01 _ _ e
      refine ⟨_, rfl, a, _, 2, _, rfl, rfl, .inl (.inl ea), atI_nat (j := 2) rfl, (show 1 ≤ sizeLine by decide), fun T1 n1 => ?_⟩
      have s2 := smU (o := HO.tup [V.str orW]) n1
      refine hB (d - 1) _ _ _ _ (by omega) ⟨v, q, T1, [orW], rfl, upd_same, o2.ki (KI.same (s01.trans s2)), by omega, by omega, fun H2 s3 => ⟨_, _, rfl, rfl, ?_, ?_⟩⟩
      · exact len2 (by rw [List.length_append]; simp only [List.length_cons, List.length_nil]; omega)
      · rw [tx_app]
        exact fin H2 ((s01.trans s2).trans s3)
    | @dis a u v p q e o1 o2 =>
      have hl1 : (shw p).length + 4 + (shw q).length ≤ 2000 := by
        have := hl
        unfold shw at this
        rw [List.length_append, List.length_append] at this
        simp only [List.length_cons, List.length_nil] at this
        omega
      have hd1 : max (dpt p) (dpt q) + 1 ≤ d := hd
      refine ⟨_, rfl, a, _, 0, _, rfl, rfl, .inl (.inl e), atI_nat (j := 0) rfl, rfl, _, rfl, ?_⟩
      rw [decide_eq_false (wq n4)]
      refine iteF ⟨_, rfl, a, _, 0, _, rfl, rfl, .inl (.inl e), atI_nat (j := 0) rfl, rfl, _, rfl, ?_⟩
      rw [decide_eq_false (wq n5)]
      refine iteF ⟨_, rfl, a, _, 0, _, rfl, rfl, .inl (.inl e), atI_nat (j := 0) rfl, rfl, _, rfl, ?_⟩
      rw [decide_eq_false (wq n6)]
      refine iteF ⟨_, rfl, a, _, 1, _, rfl, rfl, .inl (.inl e), atI_nat (j := 1) rfl, hA (d - 1) _ _ _ _ (by omega) ⟨u, p, rfl, o1, by omega, by omega, fun H1 s1 => ⟨_, _, rfl, rfl, ?_, ?_⟩⟩⟩
      · rw [eO]
        exact len2 (by simp only [List.length_cons, List.length_nil]; omega)
      rw [eO, tx_app]
      refine ⟨_, rfl, a, _, 2, _, rfl, rfl, .inl (.inl (s1 _ _ e)), atI_nat (j := 2) rfl, hA (d - 1) _ _ _ _ (by omega) ⟨v, q, rfl, o2.ki (KI.same s1), by omega, by omega, fun H2 s2 => ⟨_, _, rfl, rfl, ?_, ?_⟩⟩⟩
      · exact len2 (by rw [List.length_append]; simp only [List.length_cons, List.length_nil]; omega)
      · rw [tx_app]
        exact fin H2 (s1.trans s2)
theorem ok_noQ {k : Nat} {g : Addr} {gd : FuncData} {ps : List Str} : FnOk P w K mg base CX0 k g gd ps (fun _ _ _ _ => False) := ⟨fun _ _ _ _ h => h.elim, fun _ _ _ _ _ _ _ _ _ _ _ _ _ h => h.elim⟩
theorem ok_shown (T : QuT K mg CQ f fd tk) (TP : PatT K mg C pf pfd tp gR gW dR dW) : ∀ d, FnOk P w K mg base CX0 (1 + 2 * d) (f 4) (fd 4) ["tree"] (spShown C d)
  | 0 => ok_shown1 T TP (k := 0) (d := 0) ok_noQ ok_noQ (fun e _ _ _ _ h => by omega) (fun e _ _ _ _ h => by omega)
  | d + 1 => by
    have G := ok_shown T TP d
    exact (ok_shown1 T TP (k := 2 + 2 * d) (G.mono (by omega)) ((ok_brk T G).mono (by omega)) (fun e _ _ _ _ h q => by
      obtain rfl : e = d := by omega
      exact q) (fun e _ _ _ _ h q => by
      obtain rfl : e = d := by omega
      exact q)).mono (by omega)
end
end Sq
/-! patterns_in. -/
namespace Sq
open PySem PySem.Spec PyProof.Rows L2 Sf Sf4
def NPn : List Str := ["tree", "part", "pattern"]
theorem scPin : FnScope NPn ["tree"] (defScope sPatsIn) := ⟨rfl, rfl, rfl, by decide +kernel, rfl, by decide +kernel, by decide +kernel⟩
def spPin (C d : Nat) : Sp := fun vs H Q _ => ∃ (v : V) (q : Qt), vs = [v] ∧ QtO C H v q ∧ dpt q ≤ d ∧ (pats q).length ≤ 100 ∧ ∀ L H', H L = none → Same H H' → H' L = some (.lst (piV (pats q))) → Q (.ref L) H'
theorem QtO.kids {C : Addr} {H : Hp} {v : V} {q : Qt} (h : QtO C H v q) (hn : ∀ p, q ≠ .has p) : ∃ (a : Addr) (us : List V) (ks : List Qt), v = .ref a ∧ H a = some (.tup (.str (wordQ q) :: us)) ∧ us.length = ks.length ∧ 1 ≤ us.length ∧ us.length ≤ 2 ∧ wordQ q ≠ hasW ∧ pats q = ks.flatMap pats ∧
    ∀ (i : Nat) (u : V) (k : Qt), us[i]? = some u → ks[i]? = some k → QtO C H u k ∧ dpt k + 1 ≤ dpt q := by
  cases h with
  | has e o => exact absurd rfl (hn _)
  | @neg a v q e o =>
    refine ⟨a, [v], [q], rfl, e, rfl, (show 1 ≤ 1 by decide), (show 1 ≤ 2 by decide), (show notW ≠ hasW by decide +kernel), (List.append_nil _).symm, fun i u k h1 h2 => ?_⟩
    match i, h1, h2 with
    | 0, h1, h2 =>
      cases h1
      cases h2
      exact ⟨o, Nat.le_refl _⟩
  | @con a u v p q e o1 o2 =>
    refine ⟨a, [u, v], [p, q], rfl, e, rfl, (show 1 ≤ 2 by decide), Nat.le_refl 2, (show andW ≠ hasW by decide +kernel), ?_, fun i u k h1 h2 => ?_⟩
    · show pats p ++ pats q = pats p ++ (pats q ++ [])
      rw [List.append_nil]
    match i, h1, h2 with
    | 0, h1, h2 =>
      cases h1
      cases h2
      exact ⟨o1, Nat.succ_le_succ (Nat.le_max_left _ _)⟩
    | 1, h1, h2 =>
      cases h1
      cases h2
      exact ⟨o2, Nat.succ_le_succ (Nat.le_max_right _ _)⟩
  | @dis a u v p q e o1 o2 =>
    refine ⟨a, [u, v], [p, q], rfl, e, rfl, (show 1 ≤ 2 by decide), Nat.le_refl 2, (show orW ≠ hasW by decide +kernel), ?_, fun i u k h1 h2 => ?_⟩
    · show pats p ++ pats q = pats p ++ (pats q ++ [])
      rw [List.append_nil]
    match i, h1, h2 with
    | 0, h1, h2 =>
      cases h1
      cases h2
      exact ⟨o1, Nat.succ_le_succ (Nat.le_max_left _ _)⟩
    | 1, h1, h2 =>
      cases h1
      cases h2
      exact ⟨o2, Nat.succ_le_succ (Nat.le_max_right _ _)⟩
theorem piV_len (l : List Pi) : (piV l).length = l.length := List.length_map ..
theorem piV_app (l m : List Pi) : piV (l ++ m) = piV l ++ piV m := List.map_append ..
theorem fm_take {α β : Type} (g : α → List β) {l : List α} {i : Nat} {x : α} (h : l[i]? = some x) : (l.take (i + 1)).flatMap g = (l.take i).flatMap g ++ g x := by
  obtain ⟨h1, h2⟩ := List.getElem?_eq_some_iff.mp h
  rw [List.take_succ_eq_append_getElem h1, h2, List.flatMap_append]
  congr 1
  exact List.append_nil _
theorem fm_le {α β : Type} (g : α → List β) (l : List α) (i : Nat) : ((l.take i).flatMap g).length ≤ (l.flatMap g).length := by
  have e : l.flatMap g = (l.take i).flatMap g ++ (l.drop i).flatMap g := by
    rw [← List.flatMap_append, List.take_append_drop]
  rw [e, List.length_append]
  omega
section
variable {P : Program} {w : World} {K : PySem.W.Frag} {mg : Str → Option Value} {base : Heap} {CQ C : Addr} {f : Nat → Addr} {fd : Nat → FuncData} {tk : Nat → Tok}
theorem ok_pin1 (T : QuT K mg CQ f fd tk) {k d : Nat} {spA : Sp} (GA : FnOk P w K mg base CX0 k (f 6) (fd 6) ["tree"] spA) (hA : ∀ e vs H Q E, e + 1 = d → spPin C e vs H Q E → spA vs H Q E) : FnOk P w K mg base CX0 (k + 1) (f 6) (fd 6) ["tree"] (spPin C d) := by
  refine T.pin.F.ok scPin (fun vs H Q E h => ?_) (fun cdv A outer s H vs Q E hr h => ?_)
  · obtain ⟨v, q, rfl, _⟩ := h
    rfl
  · obtain ⟨v, q, rfl, ho, hd, hl, fin⟩ := h
    refine ⟨_, pss_cons (ps_if (pt_cmpR op_eq (pe_ix ix_tup (pv 0) pe_int (fun _ _ => rfl)) (pe_glob (v := .str hasW) rfl T.gHas ⟨_, rfl⟩) (nomark _))
          (pss_one (ps_ret (pe_lst (pa_cons (pe_ix ix_tup (pv 0) pe_int (fun _ _ => rfl)) pa_nil)))) pss_nil)
      (pss_one (ps_ret (pe_lc2 (own := [("part", 1), ("pattern", 2)]) (vs1 := [2]) (g := gName 1) (g1 := gName 2) (tt := tYes) (tt1 := tYes) (wi1 := iList K (tCall spA [] E0 (tCons (tVar 1) tNil))) rfl scPin.nd (pi_tup (pe_slice sl_tup (pv 0) (po_some pe_int) po_none)) (blkOk_by (N := NPn) (sc := defScope sPatsIn) (by decide +kernel)) (by decide)
          (fun _ _ _ _ _ => pg_name (i := 1) scPin.nd rfl (Or.inl rfl)) (fun _ _ _ _ _ => pts_nil) (fun _ _ _ _ _ => pi_list (pe_call GA hr (by rfl) T.pin.g T.pin.F.kp T.pin.b .nil pass0 (pa_cons (pv 1) pa_nil)))
          (fun _ _ _ _ _ => pg_name (i := 2) scPin.nd rfl (Or.inl rfl)) (fun _ _ _ _ _ => pts_nil) (fun _ _ _ _ _ => pv 2)))), ?_⟩
    by_cases hh : ∃ p, q = .has p
    · obtain ⟨p, rfl⟩ := hh
      cases ho with
      | @has a p e o =>
        refine ⟨_, rfl, a, _, 0, _, rfl, rfl, .inl (.inl e), atI_nat (j := 0) rfl, rfl, _, rfl, ?_⟩
        rw [decide_eq_true rfl]
        exact iteT ⟨_, rfl, a, _, 1, _, rfl, rfl, .inl (.inl e), atI_nat (j := 1) rfl, (show 1 ≤ sizeLine by decide), fun L nL => fin L _ nL (smU nL) upd_same⟩
    obtain ⟨a, us, ks, rfl, e, hul, hu1, hu2, hw, hp, hk⟩ := ho.kids fun p z => hh ⟨p, z⟩
    refine ⟨_, rfl, a, _, 0, _, rfl, rfl, .inl (.inl e), atI_nat (j := 0) rfl, rfl, _, rfl, ?_⟩
    rw [decide_eq_false (wq hw)]
    refine iteF ⟨_, rfl, 1, rfl, a, _, rfl, .inl (.inl e), ?_, fun S0 nS => ?_⟩
    · rintro ⟨z, _⟩
      cases z
    have ec : cutV (V.str (wordQ q) :: us) (some 1) none = us := by
      unfold cutV
      show ((V.str (wordQ q) :: us).drop 1).take ((us.length + 1) - 1) = us
      rw [List.drop_one, List.tail_cons, Nat.add_sub_cancel, List.take_length]
    rw [ec]
    have sS := smU (o := HO.tup us) nS
    refine ⟨S0, rfl, ⟨_, .inl (.inl upd_same)⟩, fun D hD => ?_⟩
    have eS := upd_same (H := H) (a := S0) (o := HO.tup us)
    generalize upd H S0 (.tup us) = H1 at sS eS hD ⊢
    have hDH : H D = none := sS.free hD
    refine it_gen (walk_tup (K := K) (a := S0) (xs := us)) (fun i H3 => H3 D = some (.lst (piV ((ks.take i).flatMap pats))) ∧ Same H1 H3) ⟨upd_same, smU hD⟩ (fun i H3 _ hP => .inl (.inl (hP.2 _ _ eS))) (fun i x H3 H3' hi hP hy => ?_) (fun H3 hP => ?_)
    · obtain ⟨eD, s3⟩ := hP
      obtain ⟨rfl, hx⟩ := hy
      obtain ⟨kq, hkq⟩ : ∃ kq, ks[i]? = some kq := by
        have hi2 : i < ks.length := by
          rw [← hul]
          exact hi
        exact ⟨_, List.getElem?_eq_getElem hi2⟩
      obtain ⟨ok, dk⟩ := hk i x kq hx hkq
      have e7 := fm_take pats hkq
      have l7 := fm_le pats ks (i + 1)
      rw [e7, List.length_append, ← hp] at l7
      refine ⟨rfl, x, rfl, hA (d - 1) _ _ _ _ (by omega) ⟨x, kq, rfl, ok.ki (KI.same (sS.trans s3)), by omega, by omega, fun L H4 nL s4 eL => ⟨L, rfl, ⟨_, .inl (.inl eL)⟩, ?_⟩⟩⟩
      have nLD : L ≠ D := fun z => by
        rw [z, eD] at nL
        cases nL
      refine it_gen (walk_list (K := K) (a := L) (xs := piV (pats kq))) (fun j H5 => H5 D = some (.lst (piV ((ks.take i).flatMap pats ++ (pats kq).take j))) ∧ Same H1 H5 ∧ H5 L = some (.lst (piV (pats kq)))) ⟨by rw [List.take_zero, List.append_nil]; exact s4 _ _ eD, s3.trans s4, eL⟩ (fun j H5 _ hP => .inl (.inl hP.2.2)) (fun j y H5 H5' hj hP hy => ?_) (fun H5 hP => ?_)
      · obtain ⟨eD5, s5, eL5⟩ := hP
        obtain ⟨rfl, hy⟩ := hy
        have hj2 : j < (pats kq).length := by
          rw [← piV_len]
          exact hj
        have hyk : ∃ pk, (pats kq)[j]? = some pk ∧ y = .ref pk.x := by
          unfold piV at hy
          rw [List.getElem?_map] at hy
          obtain ⟨pk, h1, h2⟩ := Option.map_eq_some_iff.mp hy
          exact ⟨pk, h1, h2.symm⟩
        obtain ⟨pk, hpk, rfl⟩ := hyk
        have tk1 : (pats kq).take (j + 1) = (pats kq).take j ++ [pk] := by
          obtain ⟨z1, z2⟩ := List.getElem?_eq_some_iff.mp hpk
          rw [List.take_succ_eq_append_getElem z1, z2]
        refine ⟨rfl, _, rfl, _, eD5, ?_, ?_, fun b o hb => ?_, ?_⟩
        · rw [piV_len, List.length_append]
          have := List.length_take_le' j (pats kq)
          have := fm_le pats ks i
          rw [← hp] at this
          exact Nat.lt_of_le_of_lt (show _ ≤ 200 by omega) (by decide)
        · rw [upd_same, tk1, ← List.append_assoc, piV_app _ [pk]] <;> rfl
        · rw [upd_ne (ne_of_none hb hD)]
          exact s5 _ _ hb
        · rw [upd_ne nLD]
          exact eL5
      · obtain ⟨eD5, s5, _⟩ := hP
        refine ⟨?_, s5⟩
        rw [e7]
        rw [piV_len, List.take_length] at eD5
        exact eD5
    · obtain ⟨eD, s3⟩ := hP
      refine fin D H3 hDH (sS.trans s3) ?_
      rw [eD, hul, List.take_length, ← hp]
end
end Sq
/-! Question: made, joined. -/
namespace Sq
open PySem PySem.Spec PyProof.Rows L2 Sf Sf4
def NQI : List Str := ["self", "tree", "many_places", "pattern"]
theorem scQI : FnScope NQI ["self", "tree"] (defScope sQI) := ⟨rfl, rfl, rfl, by decide +kernel, rfl, by decide +kernel, by decide +kernel⟩
theorem scQAnd : FnScope ["self", "other"] ["self", "other"] (defScope sQAnd) := ⟨rfl, rfl, rfl, by decide +kernel, rfl, by decide +kernel, by decide +kernel⟩
theorem scQOr : FnScope ["self", "other"] ["self", "other"] (defScope sQOr) := ⟨rfl, rfl, rfl, by decide +kernel, rfl, by decide +kernel, by decide +kernel⟩
theorem scQNeg : FnScope ["self"] ["self"] (defScope sQNeg) := ⟨rfl, rfl, rfl, by decide +kernel, rfl, by decide +kernel, by decide +kernel⟩
theorem scHas : FnScope ["pattern"] ["pattern"] (defScope sHas) := ⟨rfl, rfl, rfl, by decide +kernel, rfl, by decide +kernel, by decide +kernel⟩
theorem spts_sz (t : Tr) (h : sz t ≤ 24) : (spts t).length = sz t := by
  obtain ⟨g1, g2⟩ := pO_ok (S := 24) t w0 0 0 w0_ok (by omega)
  have := g1.le
  rw [pO_le t w0] at this
  have e : (spts t).length = 0 + sz t := this
  omega
theorem sum_nat : ∀ ls : List Nat, (ls.map fun n => ((n : Nat) : Int)).sum = ((ls.sum : Nat) : Int)
  | [] => rfl
  | n :: r => by
    rw [List.map_cons, List.sum_cons, List.sum_cons, sum_nat r]
    omega
def szs (ps : List Pi) : List Nat := ps.map fun p => sz p.t
/-- not too wide -/
structure Fit (q : Qt) : Prop where
  d : dpt q ≤ 8
  n : (pats q).length ≤ 3
  s : (szs (pats q)).sum ≤ 8
  l : (shw q).length ≤ 200
def spQI (CQ C : Addr) : Sp := fun vs H Q _ => ∃ (x dx : Addr) (v : V) (q : Qt), vs = [.ref x, v] ∧ H x = some (.ins CQ dx []) ∧ QtO C H v q ∧ Fit q ∧ ∀ H', QuO CQ C H' x q → (∀ b o, b ≠ x → H b = some o → H' b = some o) → Q .non H'
section
variable {P : Program} {w : World} {K : PySem.W.Frag} {mg : Str → Option Value} {base : Heap} {CQ C : Addr} {f : Nat → Addr} {fd : Nat → FuncData} {tk : Nat → Tok} {pf : Nat → Addr} {pfd : Nat → FuncData} {tp : Nat → Tok} {gR gW : Addr} {dR dW : FuncData}
theorem ok_pin (T : QuT K mg CQ f fd tk) : ∀ d, FnOk P w K mg base CX0 (1 + d) (f 6) (fd 6) ["tree"] (spPin C d)
  | 0 => ok_pin1 T (k := 0) (d := 0) ok_noQ (fun e _ _ _ _ h => by omega)
  | d + 1 => (ok_pin1 T (k := 1 + d) (ok_pin T d) (fun e _ _ _ _ h q => by
      obtain rfl : e = d := by omega
      exact q)).mono (by omega)
theorem ok_qi (T : QuT K mg CQ f fd tk) (TP : PatT K mg C pf pfd tp gR gW dR dW) : FnOk P w K mg base CX0 18 (f 0) (fd 0) ["self", "tree"] (spQI CQ C) := by
  have GP := ok_pin (P := P) (w := w) (base := base) (C := C) T 8
  have GS := ok_shown (P := P) (w := w) (base := base) T TP 8
  refine T.mI.F.ok (k := 17) scQI (fun vs H Q E h => ?_) (fun cdv A outer s H vs Q E hr h => ?_)
  · obtain ⟨x, dx, v, q, rfl, _⟩ := h
    rfl
  · obtain ⟨x, dx, v, q, rfl, hx, ho, fit, fin⟩ := h
    refine ⟨_, pss_cons (ps_fld (pv 0) (pv 1) rfl)
      (pss_cons (ps_fld (pv 0) (pe_tupleOf (by rfl) T.ztup (pe_call GP (hr.mono (by decide)) (by rfl) T.pin.g T.pin.F.kp T.pin.b .nil pass0 (pa_cons (pv 1) pa_nil))) rfl)
      (pss_cons (ps_fld (pv 0) (pe_call GS (hr.mono (by decide)) (by rfl) T.shown.g T.shown.F.kp T.shown.b .nil pass0 (pa_cons (pv 1) pa_nil)) rfl)
      (pss_cons (ps_set (i := 2) scQI.nd rfl (.inl rfl) (pe_callB (cr_sum rfl) (by rfl) T.zsum (by decide +kernel) (pa_cons (pe_lc (own := [("pattern", 3)]) (g := gName 3) (tt := tYes) (te := tCB (fun xs H Q => ∃ p ys, xs = [V.ref p] ∧ (SqL K H p ys ∨ SqT K H p ys) ∧ Q (.int ys.length) H) (tCons (tFld K (tVar 3) "places") tNil)) rfl scQI.nd (pi_tup (pe_fld (pv 0) rfl)) (blkOk_by (N := NQI) (sc := defScope sQI) (by decide +kernel)) (fun _ _ _ _ _ => pg_name (i := 3) scQI.nd rfl (Or.inl rfl)) (fun _ _ _ _ _ => pts_nil)
          (fun _ _ _ _ _ => pe_callB call_len_seq (by rfl) T.zlen PySem.boot_len (pa_cons (pe_fld (pv 3) rfl) pa_nil))) pa_nil)))
      (pss_one (ps_if (PW.pt (pw_or (pt_cmpR op_gt (pe_callB call_len_seq (by rfl) T.zlen PySem.boot_len (pa_cons (pe_fld (pv 0) rfl) pa_nil)) (pe_glob (v := .int 3) rfl T.gMPt ⟨_, rfl⟩) (nomark _)) (pw_or (pt_cmpR op_gt (pv 2) (pe_glob (v := .int 8) rfl T.gMPl ⟨_, rfl⟩) (nomark _))
          (pw_or1 (pt_cmpR op_gt (pe_callB call_len_str (by rfl) T.zlen PySem.boot_len (pa_cons (pe_fld (pv 0) rfl) pa_nil)) (pe_glob (v := .int 200) rfl T.gMSg ⟨_, rfl⟩) (nomark _)))))) pss_never pss_nil))))), ?_⟩
    refine ⟨v, rfl, .ref x, rfl, x, CQ, dx, _, rfl, hx, T.cl, T.n1, (show 0 < 1000 by decide), ?_⟩
    have g1 : ∀ b o, b ≠ x → H b = some o → (upd H x (.ins CQ dx (putF "tree" v []))) b = some o := fun b o n e => (upd_ne n).trans e
    have e1 : (upd H x (.ins CQ dx (putF "tree" v []))) x = some (.ins CQ dx ([("tree", v)] : List (Str × V))) := upd_same.trans rfl
    generalize upd H x (.ins CQ dx (putF "tree" v [])) = H1 at g1 e1 ⊢
    refine ⟨_, rfl, v, q, rfl, ho.ki (KI.kx hx g1), fit.d, by have := fit.n; omega, fun L H2 nL s2 eL => .inl ⟨L, _, rfl, .inl (.inl eL), fun pa npa => ?_⟩⟩
    have s3 := smU (o := HO.tup (piV (pats q))) npa
    have e3 := s3 _ _ (s2 _ _ e1)
    have npx : pa ≠ x := fun z => by
      rw [z, s2 _ _ e1] at npa
      cases npa
    refine ⟨.ref x, rfl, x, CQ, dx, _, rfl, e3, T.cl, T.n2, (show 1 < 1000 by decide), ?_⟩
    have g4 : ∀ b o, b ≠ x → H b = some o → (upd (upd H2 pa (.tup (piV (pats q)))) x (.ins CQ dx (putF "patterns" (.ref pa) ([("tree", v)] : List (Str × V))))) b = some o := fun b o n e => (upd_ne n).trans (s3 _ _ (s2 _ _ (g1 b o n e)))
    have e4 : (upd (upd H2 pa (.tup (piV (pats q)))) x (.ins CQ dx (putF "patterns" (.ref pa) ([("tree", v)] : List (Str × V))))) x = some (.ins CQ dx ([("tree", v), ("patterns", V.ref pa)] : List (Str × V))) := upd_same.trans rfl
    have p4 : (upd (upd H2 pa (.tup (piV (pats q)))) x (.ins CQ dx (putF "patterns" (.ref pa) ([("tree", v)] : List (Str × V))))) pa = some (.tup (piV (pats q))) := (upd_ne npx).trans upd_same
    generalize upd (upd H2 pa (.tup (piV (pats q)))) x (.ins CQ dx (putF "patterns" (.ref pa) ([("tree", v)] : List (Str × V)))) = H4 at g4 e4 p4 ⊢
    refine ⟨_, rfl, v, q, rfl, ho.ki (KI.kx hx g4), fit.d, by have := fit.l; omega, fun H5 s5 => ⟨.ref x, rfl, x, CQ, dx, _, rfl, s5 _ _ e4, T.cl, T.n3, (show 2 < 1000 by decide), ?_⟩⟩
    have g6 : ∀ b o, b ≠ x → H b = some o → (upd H5 x (.ins CQ dx (putF "string" (.str (tx (shw q))) ([("tree", v), ("patterns", V.ref pa)] : List (Str × V))))) b = some o := fun b o n e => (upd_ne n).trans (s5 _ _ (g4 b o n e))
    have e6 : (upd H5 x (.ins CQ dx (putF "string" (.str (tx (shw q))) ([("tree", v), ("patterns", V.ref pa)] : List (Str × V))))) x = some (.ins CQ dx ([("tree", v), ("patterns", V.ref pa), ("string", .str (tx (shw q)))] : List (Str × V))) := upd_same.trans rfl
    have p6 : (upd H5 x (.ins CQ dx (putF "string" (.str (tx (shw q))) ([("tree", v), ("patterns", V.ref pa)] : List (Str × V))))) pa = some (.tup (piV (pats q))) := (upd_ne npx).trans (s5 _ _ p4)
    generalize upd H5 x (.ins CQ dx (putF "string" (.str (tx (shw q))) ([("tree", v), ("patterns", V.ref pa)] : List (Str × V)))) = H6 at g6 e6 p6 ⊢
    have ho6 := ho.ki (KI.kx hx g6)
    refine ⟨.ref x, rfl, x, CQ, dx, _, _, rfl, e6, T.cl, T.n2, rfl, pa, rfl, ⟨_, .inl (.inl p6)⟩, fun D hD => ?_⟩
    refine lc_it (walk_tup (K := K) (a := pa) (xs := piV (pats q))) (fun i H7 => H7 D = some (.lst ((((szs (pats q)).take i).map fun n => ((n : Nat) : Int)).map V.int)) ∧ Same H6 H7)
      ⟨upd_same, smU hD⟩ (fun i H7 _ hP => .inl (.inl (hP.2 _ _ p6))) (fun i xi H7 H7' hi hP hy => ?_) (fun H7 hP => ?_)
    · obtain ⟨eD, s7⟩ := hP
      obtain ⟨rfl, hxi⟩ := hy
      obtain ⟨pk, hpk, rfl⟩ : ∃ pk, (pats q)[i]? = some pk ∧ xi = .ref pk.x := by
        unfold piV at hxi
        rw [List.getElem?_map] at hxi
        obtain ⟨pk, h1, h2⟩ := Option.map_eq_some_iff.mp hxi
        exact ⟨pk, h1, h2.symm⟩
      have po := (ho6.pis pk (List.mem_of_getElem? hpk)).ki (KI.same s7)
      obtain ⟨⟨dxp, tv, na, pl, fi, la, be, z1, _, _, zp, _⟩, h8, _⟩ := po
      have tk1 : (szs (pats q)).take (i + 1) = (szs (pats q)).take i ++ [sz pk.t] := by
        have e : (szs (pats q))[i]? = some (sz pk.t) := by
          unfold szs
          rw [List.getElem?_map, hpk] <;> rfl
        obtain ⟨y1, y2⟩ := List.getElem?_eq_some_iff.mp e
        rw [List.take_succ_eq_append_getElem y1, y2]
      have hlen : (nmV (spts pk.t)).length = sz pk.t := by
        show ((spts pk.t).map _).length = _
        rw [List.length_map, spts_sz _ (by omega)]
      refine ⟨rfl, _, rfl, pk.x, C, dxp, _, _, rfl, z1, TP.cl, TP.n6, rfl, pl, _, rfl, .inr (.inl (.inl zp)), _, eD, ?_, ?_, fun b o hb => ?_⟩
      · rw [List.length_map, List.length_map]
        have := List.length_take_le' i (szs (pats q))
        have h3 : (szs (pats q)).length ≤ 3 := by
          unfold szs
          rw [List.length_map]
          exact fit.n
        exact Nat.lt_of_le_of_lt (show _ ≤ 3 by omega) (by decide)
      · rw [upd_same, tk1, List.map_append, List.map_append, hlen] <;> rfl
      · rw [upd_ne (ne_of_none hb hD)]
        exact s7 _ _ hb
    · obtain ⟨eD, s7⟩ := hP
      rw [piV_len, show (pats q).length = (szs (pats q)).length by unfold szs; rw [List.length_map], List.take_length] at eD
      refine ⟨D, _, rfl, .inl (.inl eD), ?_⟩
      rw [sum_nat]
      have e8 := s7 _ _ e6
      have p8 := s7 _ _ p6
      have f1 := fit.n
      have f2 := fit.s
      have f3 := fit.l
      refine ⟨.ref x, rfl, x, CQ, dx, _, _, rfl, e8, T.cl, T.n2, rfl, pa, _, rfl, .inr (.inl (.inl p8)), _, _, rfl, rfl, _, rfl, ?_⟩
      rw [decide_eq_false (show ¬ ((3 : Int) < ((piV (pats q)).length : Int)) by rw [piV_len]; omega)]
      refine iteF ⟨_, rfl, _, _, rfl, rfl, _, rfl, ?_⟩
      rw [decide_eq_false (show ¬ ((8 : Int) < (((szs (pats q)).sum : Nat) : Int)) by omega)]
      refine iteF ⟨.ref x, rfl, x, CQ, dx, _, _, rfl, e8, T.cl, T.n3, rfl, tx (shw q), rfl, by rw [tx_len]; exact Nat.le_trans f3 (by decide), _, _, rfl, rfl, _, rfl, ?_⟩
      rw [decide_eq_false (show ¬ ((200 : Int) < ((tx (shw q)).length : Int)) by rw [tx_len]; omega)]
      refine iteF ?_
      have g8 : ∀ b o, b ≠ x → H b = some o → H7 b = some o := fun b o n e => s7 _ _ (g6 b o n e)
      exact fin H7 ⟨dx, v, pa, e8, ho.ki (KI.kx hx g8), p8⟩ g8
end
end Sq
/-! has, one & other, one | other, -one. -/
namespace Sq
open PySem PySem.Spec PyProof.Rows L2 Sf Sf4
theorem mk_same {C x dx : Addr} {H H' : Hp} (hx : H x = none) (hd : H dx = none) (k : ∀ b o, b ≠ x → (upd (upd H dx (.own x)) x (.ins C dx [])) b = some o → H' b = some o) : Same H H' := fun b o h => by
  have n1 : b ≠ x := ne_of_none h hx
  refine k b o n1 ?_
  rw [upd_ne n1, upd_ne (ne_of_none h hd)]
  exact h
def spJoin (CQ C : Addr) (J : Qt → Qt → Qt) : Sp := fun vs H Q _ => ∃ (a b : Addr) (p q : Qt), vs = [.ref a, .ref b] ∧ QuO CQ C H a p ∧ QuO CQ C H b q ∧ Fit (J p q) ∧ ∀ z H', Same H H' → QuO CQ C H' z (J p q) → Q (.ref z) H'
def spNeg (CQ C : Addr) : Sp := fun vs H Q _ => ∃ (a : Addr) (p : Qt), vs = [.ref a] ∧ QuO CQ C H a p ∧ Fit (.neg p) ∧ ∀ z H', Same H H' → QuO CQ C H' z (.neg p) → Q (.ref z) H'
def spHasQ (CQ C : Addr) : Sp := fun vs H Q _ => ∃ (p : Pi), vs = [.ref p.x] ∧ PiO C H p ∧ ∀ z H', Same H H' → QuO CQ C H' z (.has p) → Q (.ref z) H'
theorem fit_has {C : Addr} {H : Hp} {p : Pi} (h : PiO C H p) : Fit (.has p) := by
  obtain ⟨_, h8, h60⟩ := h
  refine ⟨Nat.zero_le _, (show 1 ≤ 3 by decide), ?_, ?_⟩
  · show sz p.t + 0 ≤ 8
    omega
  · show (p.Z ++ [47]).length + 1 ≤ 200
    rw [List.length_append, List.length_singleton]
    omega
section
variable {P : Program} {w : World} {K : PySem.W.Frag} {mg : Str → Option Value} {base : Heap} {CQ C : Addr} {f : Nat → Addr} {fd : Nat → FuncData} {tk : Nat → Tok} {pf : Nat → Addr} {pfd : Nat → FuncData} {tp : Nat → Tok} {gR gW : Addr} {dR dW : FuncData}
theorem ok_and (T : QuT K mg CQ f fd tk) (TP : PatT K mg C pf pfd tp gR gW dR dW) : FnOk P w K mg base CX0 20 (f 1) (fd 1) ["self", "other"] (spJoin CQ C .con) := by
  have GI := ok_qi (P := P) (w := w) (base := base) T TP
  refine T.mA.F.ok (k := 19) scQAnd (fun vs H Q E h => ?_) (fun cdv A outer s H vs Q E hr h => ?_)
  · obtain ⟨a, b, p, q, rfl, _⟩ := h
    rfl
  · obtain ⟨a, b, p, q, rfl, ha, hb, fit, fin⟩ := h
    refine ⟨_, pss_one (ps_ret (pe_make T.mkC GI hr (by rfl) T.gC T.mI.b .nil pass0 (pa_cons (pe_tup (pa_cons (pe_glob (v := .str andW) rfl T.gAnd ⟨_, rfl⟩) (pa_cons (pe_fld (pv 0) rfl) (pa_cons (pe_fld (pv 1) rfl) pa_nil)))) pa_nil))), ?_⟩
    obtain ⟨dx, u, pa, e1, o1, _⟩ := ha
    obtain ⟨dy, v, pb, e2, o2, _⟩ := hb
    refine ⟨_, rfl, a, CQ, dx, _, _, rfl, e1, T.cl, T.n1, rfl, _, rfl, b, CQ, dy, _, _, rfl, e2, T.cl, T.n1, rfl, (show 3 ≤ sizeLine by decide), fun T0 n0 => ?_⟩
    have s0 := smU (o := HO.tup [V.str andW, u, v]) n0
    have eT := upd_same (H := H) (a := T0) (o := HO.tup [V.str andW, u, v])
    generalize upd H T0 (.tup [V.str andW, u, v]) = H1 at s0 eT ⊢
    have o : QtO C H1 (.ref T0) (.con p q) := .con eT (o1.ki (KI.same s0)) (o2.ki (KI.same s0))
    exact fun x1 dx1 hx1 hd1 nd1 => ⟨x1, dx1, _, _, rfl, upd_same, o.ki (KI.same (mk_same hx1 hd1 fun b o _ h => h)), fit, fun H' qo k => ⟨rfl, fin x1 H' (s0.trans (mk_same hx1 hd1 k)) qo⟩⟩
theorem ok_or (T : QuT K mg CQ f fd tk) (TP : PatT K mg C pf pfd tp gR gW dR dW) : FnOk P w K mg base CX0 20 (f 2) (fd 2) ["self", "other"] (spJoin CQ C .dis) := by
  have GI := ok_qi (P := P) (w := w) (base := base) T TP
  refine T.mO.F.ok (k := 19) scQOr (fun vs H Q E h => ?_) (fun cdv A outer s H vs Q E hr h => ?_)
  · obtain ⟨a, b, p, q, rfl, _⟩ := h
    rfl
  · obtain ⟨a, b, p, q, rfl, ha, hb, fit, fin⟩ := h
    refine ⟨_, pss_one (ps_ret (pe_make T.mkC GI hr (by rfl) T.gC T.mI.b .nil pass0 (pa_cons (pe_tup (pa_cons (pe_glob (v := .str orW) rfl T.gOr ⟨_, rfl⟩) (pa_cons (pe_fld (pv 0) rfl) (pa_cons (pe_fld (pv 1) rfl) pa_nil)))) pa_nil))), ?_⟩
    obtain ⟨dx, u, pa, e1, o1, _⟩ := ha
    obtain ⟨dy, v, pb, e2, o2, _⟩ := hb
    refine ⟨_, rfl, a, CQ, dx, _, _, rfl, e1, T.cl, T.n1, rfl, _, rfl, b, CQ, dy, _, _, rfl, e2, T.cl, T.n1, rfl, (show 3 ≤ sizeLine by decide), fun T0 n0 => ?_⟩
    have s0 := smU (o := HO.tup [V.str orW, u, v]) n0
    have eT := upd_same (H := H) (a := T0) (o := HO.tup [V.str orW, u, v])
    generalize upd H T0 (.tup [V.str orW, u, v]) = H1 at s0 eT ⊢
    have o : QtO C H1 (.ref T0) (.dis p q) := .dis eT (o1.ki (KI.same s0)) (o2.ki (KI.same s0))
    exact fun x1 dx1 hx1 hd1 nd1 => ⟨x1, dx1, _, _, rfl, upd_same, o.ki (KI.same (mk_same hx1 hd1 fun b o _ h => h)), fit, fun H' qo k => ⟨rfl, fin x1 H' (s0.trans (mk_same hx1 hd1 k)) qo⟩⟩
theorem ok_neg (T : QuT K mg CQ f fd tk) (TP : PatT K mg C pf pfd tp gR gW dR dW) : FnOk P w K mg base CX0 20 (f 3) (fd 3) ["self"] (spNeg CQ C) := by
  have GI := ok_qi (P := P) (w := w) (base := base) T TP
  refine T.mN.F.ok (k := 19) scQNeg (fun vs H Q E h => ?_) (fun cdv A outer s H vs Q E hr h => ?_)
  · obtain ⟨a, p, rfl, _⟩ := h
    rfl
  · obtain ⟨a, p, rfl, ha, fit, fin⟩ := h
    refine ⟨_, pss_one (ps_ret (pe_make T.mkC GI hr (by rfl) T.gC T.mI.b .nil pass0 (pa_cons (pe_tup (pa_cons (pe_glob (v := .str notW) rfl T.gNot ⟨_, rfl⟩) (pa_cons (pe_fld (pv 0) rfl) pa_nil))) pa_nil))), ?_⟩
    obtain ⟨dx, u, pa, e1, o1, _⟩ := ha
    refine ⟨_, rfl, a, CQ, dx, _, _, rfl, e1, T.cl, T.n1, rfl, (show 2 ≤ sizeLine by decide), fun T0 n0 => ?_⟩
    have s0 := smU (o := HO.tup [V.str notW, u]) n0
    have eT := upd_same (H := H) (a := T0) (o := HO.tup [V.str notW, u])
    generalize upd H T0 (.tup [V.str notW, u]) = H1 at s0 eT ⊢
    have o : QtO C H1 (.ref T0) (.neg p) := .neg eT (o1.ki (KI.same s0))
    exact fun x1 dx1 hx1 hd1 nd1 => ⟨x1, dx1, _, _, rfl, upd_same, o.ki (KI.same (mk_same hx1 hd1 fun b o _ h => h)), fit, fun H' qo k => ⟨rfl, fin x1 H' (s0.trans (mk_same hx1 hd1 k)) qo⟩⟩
theorem ok_has (T : QuT K mg CQ f fd tk) (TP : PatT K mg C pf pfd tp gR gW dR dW) : FnOk P w K mg base CX0 20 (f 7) (fd 7) ["pattern"] (spHasQ CQ C) := by
  have GI := ok_qi (P := P) (w := w) (base := base) T TP
  refine T.has.F.ok (k := 19) scHas (fun vs H Q E h => ?_) (fun cdv A outer s H vs Q E hr h => ?_)
  · obtain ⟨p, rfl, _⟩ := h
    rfl
  · obtain ⟨p, rfl, po, fin⟩ := h
    refine ⟨_, pss_one (ps_ret (pe_make T.mkC GI hr (by rfl) T.gC T.mI.b .nil pass0 (pa_cons (pe_tup (pa_cons (pe_glob (v := .str hasW) rfl T.gHas ⟨_, rfl⟩) (pa_cons (pv 0) pa_nil))) pa_nil))), ?_⟩
    refine ⟨_, rfl, (show 2 ≤ sizeLine by decide), fun T0 n0 => ?_⟩
    have s0 := smU (o := HO.tup [V.str hasW, .ref p.x]) n0
    have eT := upd_same (H := H) (a := T0) (o := HO.tup [V.str hasW, .ref p.x])
    generalize upd H T0 (.tup [V.str hasW, .ref p.x]) = H1 at s0 eT ⊢
    have o : QtO C H1 (.ref T0) (.has p) := .has eT (po.ki (KI.same s0))
    exact fun x1 dx1 hx1 hd1 nd1 => ⟨x1, dx1, _, _, rfl, upd_same, o.ki (KI.same (mk_same hx1 hd1 fun b o _ h => h)), fit_has po, fun H' qo k => ⟨rfl, fin x1 H' (s0.trans (mk_same hx1 hd1 k)) qo⟩⟩
end
end Sq
/-! Pattern.behind at places; states; has_last, has_ended. -/
namespace Sf4
open PySem PySem.Spec PyProof.Rows L2 Sf
theorem nmV_len (l : List (List Nat)) : (nmV l).length = l.length := by
  show (l.map _).length = _
  rw [List.length_map]
abbrev sBeh : Stmt := inClass cPat 2
theorem scIsI : FnScope ["value", "least", "greatest"] ["value", "least", "greatest"] (defScope sIsI) := ⟨rfl, rfl, rfl, by decide +kernel, rfl, by decide +kernel, by decide +kernel⟩
theorem scBeh : FnScope ["self", "place"] ["self", "place"] (defScope sBeh) := ⟨rfl, rfl, rfl, by decide +kernel, rfl, by decide +kernel, by decide +kernel⟩
def spIsI5 : Sp := fun vs H Q _ => ∃ (i a b : Int), vs = [.int i, .int a, .int b] ∧ a ≤ i ∧ i ≤ b ∧ Q (.bl true) H
theorem fo_sz (t : Tr) (h : sz t ≤ 24) : (pO t w0).2.fo.length = sz t := by
  obtain ⟨g1, g2⟩ := pO_ok (S := 24) t w0 0 0 w0_ok (by omega)
  have := g1.fo
  omega
/-- behind, of a pattern with n places, at one of them -/
def spBeh5 (C : Addr) : Sp := fun vs H Q _ => ∃ (a : Addr) (Z : List Nat) (l : Bool) (t : Tr) (r : Bool) (nm : Nm) (j : Nat), vs = [.ref a, .int j] ∧ PatO C H a Z l t r nm ∧ sz t ≤ 24 ∧ j < sz t ∧
  ∀ b, H b = some (.tup (nIs (ascL (sz t) ((pO t w0).2.fo.getD j [])))) → Q (.ref b) H
section
variable {P : Program} {w : World} {K : PySem.W.Frag} {mg : Str → Option Value} {base : Heap}
theorem ok_isI5 {f : Addr} {fd : FuncData} {k : Nat} (F : Fun K "is_integer" "is_integer" sIsI f fd) (mi : mg "isinstance" = none) (mn : mg "int" = none) (mb : mg "bool" = none) : FnOk P w K mg base CX0 (k + 1) f fd ["value", "least", "greatest"] spIsI5 := by
  refine F.ok scIsI (fun vs H Q E h => ?_) (fun cdv A outer s H vs Q E hr h => ?_)
  · obtain ⟨i, a, b, rfl, _⟩ := h
    rfl
  · obtain ⟨i, a, b, rfl, h1, h2, q⟩ := h
    refine ⟨_, pss_one (ps_ret (pe_and (pe_callB call_isi (by rfl) mi PyProof.Rows.boot_isinstance (pa_cons (pv 0) (pa_cons (pe_bltn (by rfl) mn PySem.Pv.boot_int (v := .ty "int") rfl) pa_nil)))
      (pe_and (pe_not (pe_callB call_isi (by rfl) mi PyProof.Rows.boot_isinstance (pa_cons (pv 0) (pa_cons (pe_bltn (by rfl) mb PySem.Pv.boot_bool (v := .ty "bool") rfl) pa_nil))))
      (pe_one (pe_chain op_le op_le (pv 1) (pv 0) (pv 2)))))), ?_⟩
    refine ⟨.int i, rfl, .int i, .ty "int", _, _, true, rfl, .ty "int", .base (.int i), kit_ty (by decide +kernel), true, rfl, ?_⟩
    refine iteT ⟨.int i, rfl, .int i, .ty "bool", _, _, false, rfl, .ty "bool", .base (.int i), kit_ty (by decide +kernel), false, rfl, true, rfl, iteT ⟨_, rfl, _, rfl, _, _, rfl, rfl, _, rfl, ?_⟩⟩
    rw [decide_eq_true h1]
    refine iteT ⟨_, rfl, _, _, rfl, rfl, ?_⟩
    show Q (V.bl (decide (i ≤ b))) H
    rw [decide_eq_true h2]
    exact q
theorem ok_beh5 {C : Addr} {pf : Nat → Addr} {pfd : Nat → FuncData} {tk : Nat → Tok} {gR gW : Addr} {dR dW : FuncData} {fI fb : Addr} {dI db : FuncData} {k : Nat} (T : PatT K mg C pf pfd tk gR gW dR dW) (M : Mt K C "behind" "Pattern.behind" sBeh ["self", "place"] fb db)
    (FI : Fun K "is_integer" "is_integer" sIsI fI dI) (bI : Binds K dI ["value", "least", "greatest"] []) (gI : mg "is_integer" = some (.ref fI)) (GI : FnOk P w K mg base CX0 (k + 1) fI dI ["value", "least", "greatest"] spIsI5) (ml : mg "len" = none) :
    FnOk P w K mg base CX0 (k + 2) fb db ["self", "place"] (spBeh5 C) := by
  refine M.F.ok scBeh (fun vs H Q E h => ?_) (fun cdv A outer s H vs Q E hr h => ?_)
  · obtain ⟨a, Z, l, t, r, nm, j, rfl, _⟩ := h
    rfl
  · obtain ⟨a, Z, l, t, r, nm, j, rfl, po, h24, hj, q⟩ := h
    refine ⟨_, pss_cons (ps_if (pt_not (pt_val (pe_call GI hr (by rfl) gI FI.kp bI .nil pass0 (pa_cons (pv 1) (pa_cons pe_int (pa_cons (pe_op op_sub (pe_callB call_len_seq (by rfl) ml PySem.boot_len (pa_cons (pe_fld (pv 0) rfl) pa_nil)) pe_int) pa_nil))))))
        pss_never pss_nil)
      (pss_one (ps_ret (pe_ix ix_tup (pe_fld (pv 0) rfl) (pv 1) (fun _ _ => rfl)))), ?_⟩
    obtain ⟨dx, tv, na, pl, fi, la, be, e1, _, en, ep, _, _, eb⟩ := po
    have hl : (nmV (spts t)).length = sz t := by
      rw [nmV_len]
      exact Sq.spts_sz t h24
    refine ⟨_, rfl, _, rfl, a, C, dx, _, _, rfl, e1, T.cl, T.n6, rfl, pl, _, rfl, .inr (.inl (.inl ep)), _, _, rfl, rfl, ?_⟩
    rw [hl]
    refine ⟨(j : Int), 0, (sz t : Nat) - 1, rfl, by omega, by omega, true, rfl, ?_⟩
    obtain ⟨bs, b1, b2, b3⟩ := eb
    rw [List.length_map, fo_sz t h24] at b2
    have hb' : j < bs.length := by omega
    have hf : j < (pO t w0).2.fo.length := by
      rw [fo_sz t h24]
      exact hj
    have e3 := b3 j _ _ (List.getElem?_eq_getElem hb') (by rw [List.getElem?_map, List.getElem?_eq_getElem hf] <;> rfl)
    refine iteF ⟨_, rfl, a, C, dx, _, _, rfl, e1, T.cl, T.n9, rfl, _, rfl, be, _, (j : Int), _, rfl, rfl, .inl (.inl b1), atI_nat (j := j) (v := V.ref bs[j]) (by rw [List.getElem?_map, List.getElem?_eq_getElem hb'] <;> rfl), ?_⟩
    refine q _ ?_
    rw [List.getD_eq_getElem?_getD, List.getElem?_eq_getElem hf]
    exact e3
end
theorem sorted_is {ns ns' : List Int} {N : Nat} {l : List Nat} (hp : ns'.Perm ns) (hs : ns'.Pairwise (· ≤ ·)) (hn : ns.Nodup) (hm : ∀ z, z ∈ ns ↔ ∃ i, i ∈ l ∧ z = (i : Int)) (hl : ∀ i ∈ l, i < N) : ns'.map V.int = nIs (ascL N l) := by
  rw [nIs_z]
  congr 1
  refine asc_uniq ?_ (fun k => ?_) hl
  · have nd : ns'.Nodup := hp.nodup_iff.mpr hn
    exact (List.pairwise_and_iff.mpr ⟨hs, nd⟩).imp fun h => by
      obtain ⟨h1, h2⟩ := h
      omega
  · rw [hp.mem_iff, hm, decide_eq_true_iff, zI_mem]
end Sf4
namespace Sq
open PySem PySem.Spec PyProof.Rows L2 Sf Sf4
abbrev sStB : Stmt := topS 49
abbrev sHasLast : Stmt := topS 50
abbrev sHasEnded : Stmt := topS 51
abbrev sTruth : Stmt := topS 52
abbrev sIsSoAt : Stmt := topS 53
abbrev sNext : Stmt := topS 55
abbrev sIsSo : Stmt := topS 56
def asIs (p : Pi) (j : Nat) : List Nat := ascL (sz p.t) ((pO p.t w0).2.fo.getD j [])
def fst (p : Pi) : List Nat := ascL (sz p.t) (pO p.t w0).1.2.1
def lst (p : Pi) : List Nat := ascL (sz p.t) (pO p.t w0).1.2.2
/-- a state: found, or some places -/
abbrev Sta : Type := Option (List Nat)
def staI : Sta → List Int
  | none => [-1]
  | some ls => ls.map fun (i : Nat) => (i : Int)
def staV (s : Sta) : List V := (staI s).map V.int
def StaO (K : PySem.W.Frag) (H : Hp) (v : V) (s : Sta) : Prop := ∃ a, v = .ref a ∧ SqT K H a (staV s)
theorem _root_.L2.SqT.ki {K : PySem.W.Frag} {H H' : Hp} {a : Addr} {xs : List V} (k : KI H H') (h : SqT K H a xs) : SqT K H' a xs :=
  h.elim (fun r => .inl (r.elim (fun e => .inl (k.kt _ _ e)) (fun ⟨u, e⟩ => .inr ⟨u, k _ _ e (fun _ z => by cases z) fun _ _ z => by cases z⟩))) .inr
theorem StaO.ki {K : PySem.W.Frag} {H H' : Hp} {v : V} {s : Sta} (h : StaO K H v s) (k : KI H H') : StaO K H' v s := by
  obtain ⟨a, rfl, q⟩ := h
  exact ⟨a, rfl, q.ki k⟩
/-- a state within a pattern -/
def Wi (p : Pi) : Sta → Prop
  | none => True
  | some ls => ls.length ≤ 30 ∧ ∀ i ∈ ls, i < sz p.t
def inD (ls : List Int) : PyData := .tuple (ls.map PyData.int)
theorem inD_dp {K : PySem.W.Frag} {H : Hp} : ∀ ls : List Int, DpAll K H (ls.map V.int) (ls.map PyData.int)
  | [] => .nil
  | n :: r => .cons (.int n) (inD_dp r)
theorem inD_lay : ∀ ls : List Int, PyData.canLayAll0 (ls.map PyData.int) = true ∧ PyData.depthAll (ls.map PyData.int) = 0
  | [] => ⟨rfl, rfl⟩
  | n :: r => by
    obtain ⟨a, b⟩ := inD_lay r
    refine ⟨?_, ?_⟩
    · show (PyData.canLay0 (.int n) && PyData.canLayAll0 (r.map PyData.int)) = true
      rw [a] <;> rfl
    · show max 0 (PyData.depthAll (r.map PyData.int)) = 0
      rw [b] <;> rfl
theorem inD_shaped (ls : List Int) : SeqAt.shaped (inD ls) = true := by
  obtain ⟨a, b⟩ := inD_lay ls
  have h1 : PyData.canLay0 (inD ls) = true := by
    unfold inD
    simpa only [PyData.canLay0] using a
  have h2 : PyData.depth (inD ls) ≤ 64 := by
    unfold inD
    simp only [PyData.depth]
    omega
  unfold SeqAt.shaped
  rw [h1, decide_eq_true h2] <;> rfl
theorem inD_eqv : ∀ a b : List Int, PyData.eqvAll (a.map PyData.int) (b.map PyData.int) = decide (a = b)
  | [], [] => rfl
  | [], y :: r => by simp [PyData.eqvAll]
  | x :: r, [] => by simp [PyData.eqvAll]
  | x :: r, y :: t => by
    have ih := inD_eqv r t
    show (PyData.eqv (.int x) (.int y) && PyData.eqvAll (r.map PyData.int) (t.map PyData.int)) = _
    rw [ih, Bool.eq_iff_iff]
    simp [PyData.eqv, List.cons.injEq]
theorem inD_eq (a b : List Int) : PyData.eqv (inD a) (inD b) = decide (a = b) := inD_eqv a b
theorem sta_found (s : Sta) : decide (staI s = [-1]) = s.isNone := by
  cases s with
  | none => rfl
  | some ls =>
    refine decide_eq_false fun z => ?_
    unfold staI at z
    cases ls with
    | nil => cases z
    | cons n r =>
      have this : ((n : Nat) : Int) = -1 := (List.cons.inj z).1
      omega
/-- what the defs of nodes find -/
structure NoT (K : PySem.W.Frag) (mg : Str → Option Value) (C aF : Addr) (f : Nat → Addr) (fd : Nat → FuncData) (fb : Addr) (db : FuncData) (tk : Nat → Tok) : Prop where
  sb : Fd K mg "state_behind" sStB ["pattern", "state", "letter", "is_begin"] (f 0) (fd 0)
  hl : Fd K mg "has_last" sHasLast ["pattern", "state"] (f 1) (fd 1)
  he : Fd K mg "has_ended" sHasEnded ["pattern", "state"] (f 2) (fd 2)
  tr : Fd K mg "truth_of" sTruth ["tree", "truths", "at"] (f 3) (fd 3)
  isa : Fd K mg "is_so_at" sIsSoAt ["question", "states"] (f 4) (fd 4)
  nn : Fd K mg "next_node" sNext ["question", "node", "letter"] (f 5) (fd 5)
  iso : Fd K mg "is_so" sIsSo ["question", "node"] (f 6) (fd 6)
  isi : Fd K mg "is_integer" sIsI ["value", "least", "greatest"] (f 7) (fd 7)
  mB : Mt K C "behind" "Pattern.behind" sBeh ["self", "place"] fb db
  gF : mg "FOUND" = some (.ref aF)
  sF : ∀ H : Hp, SqT K H aF (staV none)
  gBe : mg "BEGIN" = some (.str (Str.ofString "^") (tk 0))
  zany : mg "any" = none
  zsorted : mg "sorted" = none
  ztup : mg "tuple" = none
  zzip : mg "zip" = none
  zlen : mg "len" = none
  zisi : mg "isinstance" = none
  zint : mg "int" = none
  zbool : mg "bool" = none
def hasLast (p : Pi) (ls : List Nat) : Bool := ls.any fun i => decide (i ∈ lst p)
def ended (p : Pi) (s : Sta) : Bool := match s with
  | none => true
  | some ls => p.r && hasLast p ls
theorem scHasLast : FnScope ["pattern", "state", "place"] ["pattern", "state"] (defScope sHasLast) := ⟨rfl, rfl, rfl, by decide +kernel, rfl, by decide +kernel, by decide +kernel⟩
theorem scHasEnded : FnScope ["pattern", "state"] ["pattern", "state"] (defScope sHasEnded) := ⟨rfl, rfl, rfl, by decide +kernel, rfl, by decide +kernel, by decide +kernel⟩
def spHL (K : PySem.W.Frag) (C : Addr) : Sp := fun vs H Q _ => ∃ (p : Pi) (v : V) (ls : List Nat), vs = [.ref p.x, v] ∧ PiO C H p ∧ StaO K H v (some ls) ∧ Wi p (some ls) ∧ ∀ H', Same H H' → Q (.bl (hasLast p ls)) H'
def spHE (K : PySem.W.Frag) (C : Addr) : Sp := fun vs H Q _ => ∃ (p : Pi) (v : V) (s : Sta), vs = [.ref p.x, v] ∧ PiO C H p ∧ StaO K H v s ∧ Wi p s ∧ ∀ H', Same H H' → Q (.bl (ended p s)) H'
theorem inI_dec (i : Nat) (ls : List Nat) : inV (.int (i : Int)) (nIs ls) = decide (i ∈ ls) := by
  by_cases h : i ∈ ls
  · rw [decide_eq_true h]
    exact List.any_eq_true.mpr ⟨.int (i : Int), List.mem_map.mpr ⟨i, h, rfl⟩, beq_iff_eq.mpr rfl⟩
  · rw [decide_eq_false h]
    refine Bool.eq_false_iff.mpr fun z => h ?_
    obtain ⟨y, hy, e⟩ := List.any_eq_true.mp z
    obtain ⟨m, hm, rfl⟩ := List.mem_map.mp hy
    have e : ((m : Int) == (i : Int)) = true := e
    have := beq_iff_eq.mp e
    have : m = i := by omega
    rw [← this]
    exact hm
section
variable {P : Program} {w : World} {K : PySem.W.Frag} {mg : Str → Option Value} {base : Heap} {C aF fb : Addr} {f : Nat → Addr} {fd : Nat → FuncData} {db : FuncData} {tk : Nat → Tok} {pf : Nat → Addr} {pfd : Nat → FuncData} {tp : Nat → Tok} {gR gW : Addr} {dR dW : FuncData}
theorem ok_HL (T : NoT K mg C aF f fd fb db tk) (TP : PatT K mg C pf pfd tp gR gW dR dW) {k : Nat} : FnOk P w K mg base CX0 (k + 1) (f 1) (fd 1) ["pattern", "state"] (spHL K C) := by
  refine T.hl.F.ok scHasLast (fun vs H Q E h => ?_) (fun cdv A outer s H vs Q E hr h => ?_)
  · obtain ⟨p, v, ls, rfl, _⟩ := h
    rfl
  · obtain ⟨p, v, ls, rfl, po, hs, wi, fin⟩ := h
    refine ⟨_, pss_one (ps_ret (pe_callB (cr_any rfl) (by rfl) T.zany (by decide +kernel) (pa_cons (pe_lc (own := [("place", 2)]) (g := gName 2) (tt := tYes) (te := tOp (rIn K false) (tVar 2) (tFld K (tVar 0) "last")) rfl scHasLast.nd (pi_tup (pv 1)) (blkOk_by (N := ["pattern", "state", "place"]) (sc := defScope sHasLast) (by decide +kernel)) (fun _ _ _ _ _ => pg_name (i := 2) scHasLast.nd rfl (Or.inl rfl)) (fun _ _ _ _ _ => pts_nil)
        (fun _ _ _ _ _ => pe_cmpR op_in_seq (pv 2) (pe_fld (pv 0) rfl) (by rfl))) pa_nil))), ?_⟩
    obtain ⟨a, rfl, hq⟩ := hs
    obtain ⟨⟨dx, tv, na, pl, fi, la, be, e1, _, _, _, _, el, _⟩, h8, _⟩ := po
    refine ⟨_, rfl, a, rfl, ⟨_, hq⟩, fun D hD => ?_⟩
    refine lc_it (walk_tup (K := K) (a := a) (xs := staV (some ls))) (fun i H1 => H1 D = some (.lst (((ls.take i).map fun j => decide (j ∈ lst p)).map V.bl)) ∧ Same H H1)
      ⟨upd_same, smU hD⟩ (fun i H1 _ hP => hq.ki (KI.same hP.2)) (fun i xi H1 H1' hi hP hy => ?_) (fun H1 hP => ?_)
    · obtain ⟨eD, s1⟩ := hP
      obtain ⟨rfl, hxi⟩ := hy
      obtain ⟨j, hj, rfl⟩ : ∃ j, ls[i]? = some j ∧ xi = .int (j : Int) := by
        unfold staV staI at hxi
        rw [List.map_map, List.getElem?_map] at hxi
        obtain ⟨j, h1, h2⟩ := Option.map_eq_some_iff.mp hxi
        exact ⟨j, h1, h2.symm⟩
      have tk1 : ls.take (i + 1) = ls.take i ++ [j] := by
        obtain ⟨y1, y2⟩ := List.getElem?_eq_some_iff.mp hj
        rw [List.take_succ_eq_append_getElem y1, y2]
      refine ⟨rfl, _, rfl, _, rfl, p.x, C, dx, _, _, rfl, s1 _ _ e1, TP.cl, TP.n8, rfl, la, _, rfl, .inr (.inl (.inl (s1 _ _ el))), rfl, ?_, ?_⟩
      · exact List.all_eq_true.mpr fun y hy => by
          obtain ⟨m, _, rfl⟩ := List.mem_map.mp hy
          rfl
      refine ⟨_, eD, ?_, ?_, fun b o hb => ?_⟩
      · rw [List.length_map, List.length_map]
        have := List.length_take_le' i ls
        exact Nat.lt_of_le_of_lt (show _ ≤ 30 by have := wi.1; omega) (by decide)
      · rw [upd_same, tk1, List.map_append, List.map_append, inI_dec] <;> rfl
      · rw [upd_ne (ne_of_none hb hD)]
        exact s1 _ _ hb
    · obtain ⟨eD, s1⟩ := hP
      rw [show (staV (some ls)).length = ls.length by unfold staV staI; rw [List.length_map, List.length_map], List.take_length] at eD
      refine ⟨D, _, rfl, .inl (.inl eD), ?_⟩
      have e9 : (ls.map fun j => decide (j ∈ lst p)).any id = hasLast p ls := by
        unfold hasLast
        rw [List.any_map] <;> rfl
      show Q (V.bl ((ls.map fun j => decide (j ∈ lst p)).any id)) H1
      rw [e9]
      exact fin H1 s1
theorem ok_HE (T : NoT K mg C aF f fd fb db tk) (TP : PatT K mg C pf pfd tp gR gW dR dW) {k : Nat} : FnOk P w K mg base CX0 (k + 2) (f 2) (fd 2) ["pattern", "state"] (spHE K C) := by
  have GL := ok_HL (P := P) (w := w) (base := base) (k := k) T TP
  refine T.he.F.ok scHasEnded (fun vs H Q E h => ?_) (fun cdv A outer s H vs Q E hr h => ?_)
  · obtain ⟨p, v, s, rfl, _⟩ := h
    rfl
  · obtain ⟨p, v, s, rfl, po, hs, wi, fin⟩ := h
    have hu := hr.units
    refine ⟨_, pss_one (ps_ret (pe_or (pe_cmpR (op_eqD hu) (pv 1) (pe_glob (v := .ref aF) rfl T.gF rfl) (nomark _)) (pe_one (pe_and (pe_fld (pv 0) rfl) (pe_one (pe_call GL hr (by rfl) T.hl.g T.hl.F.kp T.hl.b .nil pass0 (pa_cons (pv 0) (pa_cons (pv 1) pa_nil)))))))), ?_⟩
    obtain ⟨a, rfl, hq⟩ := hs
    refine ⟨_, rfl, inD (staI s), inD [-1], .tup hq (inD_dp _), .tup (T.sF H) (inD_dp [-1]), inD_shaped _, inD_shaped _, _, rfl, ?_⟩
    rw [inD_eq, sta_found]
    cases s with
    | none => exact iteT (fin H (Same.refl H))
    | some ls =>
      obtain ⟨⟨dx, tv, na, pl, fi, la, be, e1, _⟩, _, _⟩ := id po
      refine iteF ⟨_, rfl, p.x, C, dx, _, _, rfl, e1, TP.cl, TP.n3, rfl, p.r, rfl, ?_⟩
      replace fin : ∀ H', Same H H' → Q (.bl (p.r && hasLast p ls)) H' := fin
      cases hpr : p.r with
      | false =>
        rw [hpr, Bool.false_and] at fin
        exact iteF (fin H (Same.refl H))
      | true =>
        rw [hpr, Bool.true_and] at fin
        exact iteT ⟨_, rfl, _, rfl, p, .ref a, ls, rfl, po, ⟨a, rfl, hq⟩, wi, fin⟩
end
end Sq
/-! state_behind. -/
namespace Sq
open PySem PySem.Spec PyProof.Rows L2 Sf Sf4
/-! ### dicts of places -/
def kD (ks : List Nat) : List (L2.Key × V) := ks.map fun (j : Nat) => (Sum.inl (j : Int), V.bl true)
def insS (ks : List Nat) (j : Nat) : List Nat := if j ∈ ks then ks else ks ++ [j]
def insL (ks l : List Nat) : List Nat := l.foldl insS ks
theorem put_kD (ks : List Nat) (j : Nat) : putK (kD ks) (Sum.inl (j : Int)) (.bl true) = kD (insS ks j) := by
  have e : ((kD ks).any fun kv => decide (kv.1 = (Sum.inl (j : Int) : L2.Key))) = decide (j ∈ ks) := by
    rw [Bool.eq_iff_iff, decide_eq_true_iff, List.any_eq_true]
    constructor
    · rintro ⟨y, hy, h⟩
      obtain ⟨m, hm, rfl⟩ := List.mem_map.mp hy
      have := Sum.inl.inj (of_decide_eq_true h)
      obtain rfl : m = j := by omega
      exact hm
    · intro h
      exact ⟨_, List.mem_map.mpr ⟨j, h, rfl⟩, decide_eq_true rfl⟩
  unfold putK
  rw [e]
  unfold insS
  by_cases h : j ∈ ks
  · rw [decide_eq_true h, if_pos rfl, if_pos h]
    unfold kD
    rw [List.map_map]
    refine List.map_congr_left fun m _ => ?_
    show (if (Sum.inl (m : Int) : L2.Key) = Sum.inl (j : Int) then _ else _) = _
    split <;> rfl
  · rw [decide_eq_false h, if_neg Bool.false_ne_true, if_neg h]
    unfold kD
    rw [List.map_append] <;> rfl
theorem merge_kD : ∀ (l ks : List Nat), mergeK (kD ks) (kD l) = kD (insL ks l)
  | [], _ => rfl
  | j :: r, ks => by
    show mergeK (putK (kD ks) (Sum.inl (j : Int)) (.bl true)) (kD r) = _
    rw [put_kD, merge_kD r] <;> rfl
theorem insS_mem {ks : List Nat} {j y : Nat} : y ∈ insS ks j ↔ y ∈ ks ∨ y = j := by
  unfold insS
  split
  · rename_i h
    constructor
    · exact .inl
    · rintro (z | rfl)
      · exact z
      · exact h
  · rw [List.mem_append, List.mem_singleton]
theorem insS_nd {ks : List Nat} {j : Nat} (h : ks.Nodup) : (insS ks j).Nodup := by
  unfold insS
  split
  · exact h
  · rename_i n
    refine List.nodup_append.mpr ⟨h, List.nodup_cons.mpr ⟨List.not_mem_nil, List.nodup_nil⟩, fun a ha b hb e => ?_⟩
    rw [List.mem_singleton.mp hb] at e
    exact n (e ▸ ha)
theorem insL_mem : ∀ {l ks : List Nat} {y : Nat}, y ∈ insL ks l ↔ y ∈ ks ∨ y ∈ l
  | [], ks, y => by
    show y ∈ ks ↔ _
    simp
  | j :: r, ks, y => by
    show y ∈ insL (insS ks j) r ↔ _
    rw [insL_mem, insS_mem, List.mem_cons, or_assoc]
theorem insL_nd : ∀ {l ks : List Nat}, ks.Nodup → (insL ks l).Nodup
  | [], _, h => h
  | j :: r, ks, h => insL_nd (l := r) (insS_nd h)
theorem insL_app (ks a b : List Nat) : insL ks (a ++ b) = insL (insL ks a) b := List.foldl_append ..
theorem insL_take {ks l : List Nat} {i j : Nat} (h : l[i]? = some j) : insL ks (l.take (i + 1)) = insS (insL ks (l.take i)) j := by
  obtain ⟨h1, h2⟩ := List.getElem?_eq_some_iff.mp h
  rw [List.take_succ_eq_append_getElem h1, h2, insL_app] <;> rfl
theorem nd_len {ks : List Nat} {n : Nat} (nd : ks.Nodup) (h : ∀ i ∈ ks, i < n) : ks.length ≤ n := by
  have nd2 : (ascL n ks).Nodup := List.Pairwise.filter _ List.nodup_range
  have pm : ks.Perm (ascL n ks) := (List.perm_ext_iff_of_nodup nd nd2).mpr fun a => by
    unfold ascL
    rw [List.mem_filter, List.mem_range, decide_eq_true_iff]
    exact ⟨fun z => ⟨h a z, z⟩, fun z => z.2⟩
  rw [pm.length_eq]
  have := List.length_filter_le (fun i => decide (i ∈ ks)) (List.range n)
  rw [List.length_range] at this
  exact this
theorem asc_mem {n i : Nat} {l : List Nat} : i ∈ ascL n l ↔ i < n ∧ i ∈ l := by
  unfold ascL
  rw [List.mem_filter, List.mem_range, decide_eq_true_iff]
theorem asc_len (n : Nat) (l : List Nat) : (ascL n l).length ≤ n := by
  have := List.length_filter_le (fun i => decide (i ∈ l)) (List.range n)
  rw [List.length_range] at this
  exact this
theorem asc_congr {n : Nat} {l m : List Nat} (h : ∀ i, i < n → (i ∈ l ↔ i ∈ m)) : ascL n l = ascL n m := by
  unfold ascL
  refine List.filter_congr fun i hi => ?_
  exact decide_eq_decide.mpr (h i (List.mem_range.mp hi))
theorem insL_lt {ks l : List Nat} {n : Nat} (h : ∀ i ∈ ks, i < n) (g : ∀ i ∈ l, i < n) : ∀ i ∈ insL ks l, i < n := fun i hi => (insL_mem.mp hi).elim (h i) (g i)
theorem insL_len {ks l : List Nat} {n : Nat} (nd : ks.Nodup) (h : ∀ i ∈ ks, i < n) (g : ∀ i ∈ l, i < n) : (insL ks l).length ≤ n := nd_len (insL_nd nd) (insL_lt h g)
theorem kD_len (ks : List Nat) : (kD ks).length = ks.length := List.length_map ..
theorem take_at {l : List Nat} {i j : Nat} (h : l[i]? = some j) : l.take (i + 1) = l.take i ++ [j] := by
  obtain ⟨h1, h2⟩ := List.getElem?_eq_some_iff.mp h
  rw [List.take_succ_eq_append_getElem h1, h2]
theorem nIs_at {l : List Nat} {i : Nat} {x : V} (h : (nIs l)[i]? = some x) : ∃ j, l[i]? = some j ∧ x = .int (j : Int) := by
  unfold nIs at h
  rw [List.getElem?_map] at h
  obtain ⟨j, h1, h2⟩ := Option.map_eq_some_iff.mp h
  exact ⟨j, h1, h2.symm⟩
theorem staV_some (ls : List Nat) : staV (some ls) = nIs ls := by
  unfold staV staI nIs
  rw [List.map_map] <;> rfl
theorem asIs_lt {p : Pi} {j : Nat} : ∀ i ∈ asIs p j, i < sz p.t := fun i h => (asc_mem.mp h).1
theorem fst_lt {p : Pi} : ∀ i ∈ fst p, i < sz p.t := fun i h => (asc_mem.mp h).1
theorem ins0_lt {l : List Nat} {n : Nat} (g : ∀ i ∈ l, i < n) : ∀ i ∈ insL [] l, i < n := fun i hi => (insL_mem.mp hi).elim (fun z => absurd z List.not_mem_nil) (g i)
theorem ins0_len {l : List Nat} {n : Nat} (g : ∀ i ∈ l, i < n) : (insL [] l).length ≤ n := nd_len (insL_nd List.nodup_nil) (ins0_lt g)
theorem flat_lt {p : Pi} (ls : List Nat) : ∀ i ∈ ls.flatMap (asIs p), i < sz p.t := fun i hi => by
  obtain ⟨m, _, h⟩ := List.mem_flatMap.mp hi
  exact asIs_lt i h
/-! ### the step -/
/-- what can come -/
def come (p : Pi) (isb : Bool) (ls : List Nat) : List Nat := ls.flatMap (asIs p) ++ (if isb || !p.l then fst p else [])
def found (p : Pi) (c : Nat) (isb : Bool) (ls : List Nat) : List Nat := (ascL (sz p.t) (come p isb ls)).filter fun j => decide (c ∈ (spts p.t).getD j [])
def nxt (p : Pi) (c : Nat) (isb : Bool) : Sta → Sta
  | none => none
  | some ls => if (!p.r && hasLast p (found p c isb ls)) = true then none else some (found p c isb ls)
theorem found_wi (p : Pi) (c : Nat) (isb : Bool) (ls : List Nat) (h : sz p.t ≤ 8) : Wi p (some (found p c isb ls)) := by
  refine ⟨?_, fun i hi => ?_⟩
  · unfold found
    have := List.length_filter_le (fun j => decide (c ∈ (spts p.t).getD j [])) (ascL (sz p.t) (come p isb ls))
    have := asc_len (sz p.t) (come p isb ls)
    omega
  · unfold found at hi
    exact (asc_mem.mp (List.mem_filter.mp hi).1).1
theorem nxt_wi (p : Pi) (c : Nat) (isb : Bool) (s : Sta) (h : sz p.t ≤ 8) : Wi p (nxt p c isb s) := by
  cases s with
  | none => exact True.intro
  | some ls =>
    show Wi p (if _ then _ else _)
    split
    · exact True.intro
    · exact found_wi p c isb ls h
theorem come_lt {p : Pi} {isb : Bool} {ls : List Nat} : ∀ i ∈ come p isb ls, i < sz p.t := fun i hi => by
  unfold come at hi
  rcases List.mem_append.mp hi with h | h
  · obtain ⟨j, _, h⟩ := List.mem_flatMap.mp h
    exact (asc_mem.mp h).1
  · split at h
    · exact (asc_mem.mp h).1
    · cases h
def NSB : List Str := ["pattern", "state", "letter", "is_begin", "can_come", "found", "here", "place"]
theorem scStB : FnScope NSB ["pattern", "state", "letter", "is_begin"] (defScope sStB) := ⟨rfl, rfl, rfl, by decide +kernel, rfl, by decide +kernel, by decide +kernel⟩
def spSB (K : PySem.W.Frag) (C : Addr) : Sp := fun vs H Q _ => ∃ (p : Pi) (v : V) (s : Sta) (c : Nat) (isb : Bool), vs = [.ref p.x, v, .str (tx [c]), .bl isb] ∧ PiO C H p ∧ StaO K H v s ∧ Wi p s ∧ ∀ v' H', Same H H' → StaO K H' v' (nxt p c isb s) → Q v' H'
section
variable {P : Program} {w : World} {K : PySem.W.Frag} {mg : Str → Option Value} {base : Heap} {C aF fb : Addr} {f : Nat → Addr} {fd : Nat → FuncData} {db : FuncData} {tk : Nat → Tok} {pf : Nat → Addr} {pfd : Nat → FuncData} {tp : Nat → Tok} {gR gW : Addr} {dR dW : FuncData}
theorem ok_SB (T : NoT K mg C aF f fd fb db tk) (TP : PatT K mg C pf pfd tp gR gW dR dW) : FnOk P w K mg base CX0 4 (f 0) (fd 0) ["pattern", "state", "letter", "is_begin"] (spSB K C) := by
  have GL := ok_HL (P := P) (w := w) (base := base) (k := 0) T TP
  have GB := ok_beh5 (P := P) (w := w) (base := base) (k := 0) TP T.mB T.isi.F T.isi.b T.isi.g (ok_isI5 (k := 0) T.isi.F T.zisi T.zint T.zbool) T.zlen
  refine T.sb.F.ok (k := 3) scStB (fun vs H Q E h => ?_) (fun cdv A outer s H vs Q E hr h => ?_)
  · obtain ⟨p, v, s, c, isb, rfl, _⟩ := h
    rfl
  · obtain ⟨p, v, s, c, isb, rfl, po, hs, wi, fin⟩ := h
    have hu := hr.units
    refine ⟨_, pss_cons (ps_if (pt_cmpR (op_eqD hu) (pv 1) (pe_glob (v := .ref aF) rfl T.gF rfl) (nomark _)) (pss_one (ps_ret (pe_glob (v := .ref aF) rfl T.gF rfl))) pss_nil)
      (pss_cons (ps_setDc2 (i := 4) (own := [("here", 6), ("place", 7)]) (vs1 := [7]) (g := gName 6) (g1 := gName 7) (wi1 := iTup K (tMeth C "behind" (spBeh5 C) [] E0 (tVar 0) (tCons (tVar 6) tNil))) (tk := tVar 7) (tv := tC (.bl true)) rfl scStB.nd rfl rfl (by rfl) (pi_tup (pv 1)) (blkOk_by (N := NSB) (sc := defScope sStB) (by decide +kernel)) (by decide)
          (fun _ _ _ _ _ => pg_name (i := 6) scStB.nd rfl (Or.inl rfl)) (fun _ _ _ _ _ => pi_tup (pe_meth (pv 0) TP.cl T.mB.m GB (hr.mono (by decide)) T.mB.b .nil pass0 (pa_cons (pv 6) pa_nil))) (fun _ _ _ _ _ => pg_name (i := 7) scStB.nd rfl (Or.inl rfl)) (fun _ _ _ _ _ => pv 7) (fun _ _ _ _ _ => pe_bl))
      (Evl.pss_cut (ps_if (PW.pt (pw_or (pt_val (pv 3)) (pw_or1 (pt_not (pt_val (pe_fld (pv 0) rfl))))))
          (pss_one (ps_expr (pe_bm PySem.F.plainAttrs_dict PySem.F.slot_dict_update PySem.F.type_dict_update mt_update (pv 4) (pa_cons (pe_dc (own := [("place", 7)]) (g := gName 7) (tt := tYes) (tk := tVar 7) (tv := tC (.bl true)) rfl scStB.nd (pi_tup (pe_fld (pv 0) rfl)) (blkOk_by (N := NSB) (sc := defScope sStB) (by decide +kernel))
            (fun _ _ _ _ _ => pg_name (i := 7) scStB.nd rfl (Or.inl rfl)) (fun _ _ _ _ _ => pts_nil) (fun _ _ _ _ _ => pv 7) (fun _ _ _ _ _ => pe_bl)) pa_nil)))) pss_nil)
      (pss_cons (ps_set (i := 5) scStB.nd rfl (.inl rfl) (pe_tupleOf (by rfl) T.ztup (pe_lc (own := [("place", 7)]) (g := gName 7) (tt := tTest (tOp rInS (tVar 2) (tOp (rIxT K) (tFld K (tVar 0) "places") (tVar 7)))) (te := tVar 7) rfl scStB.nd (pi_list (pe_callB (call_sortedDI rfl) (by rfl) T.zsorted (by decide +kernel) (pa_cons (pv 4) pa_nil))) (blkOk_by (N := NSB) (sc := defScope sStB) (by decide +kernel))
            (fun _ _ _ _ _ => pg_name (i := 7) scStB.nd rfl (Or.inl rfl)) (fun _ _ _ _ _ => pts_one (pt_cmpR op_inS (pv 2) (pe_ix ix_tup (pe_fld (pv 0) rfl) (pv 7) (fun _ _ => rfl)) rfl)) (fun _ _ _ _ _ => pv 7))))
      (pss_cons (ps_if (PW.pt (pw_and (pt_not (pt_val (pe_fld (pv 0) rfl))) (pw_and1 (pt_val (pe_call GL (hr.mono (by decide)) (by rfl) T.hl.g T.hl.F.kp T.hl.b .nil pass0 (pa_cons (pv 0) (pa_cons (pv 5) pa_nil))))))) (pss_one (ps_ret (pe_glob (v := .ref aF) rfl T.gF rfl))) pss_nil)
      (pss_one (ps_ret (pv 5))))))), ?_⟩
    obtain ⟨a, rfl, hq⟩ := hs
    obtain ⟨po1, h8, h60⟩ := id po
    obtain ⟨dx, tv, na, pl, fi, la, be, e1, _, _, ep, ef, el, _⟩ := id po1
    refine ⟨_, rfl, inD (staI s), inD [-1], .tup hq (inD_dp _), .tup (T.sF H) (inD_dp [-1]), inD_shaped _, inD_shaped _, _, rfl, ?_⟩
    rw [inD_eq, sta_found]
    cases s with
    | none => exact iteT (fin _ H (Same.refl H) ⟨aF, rfl, T.sF H⟩)
    | some ls =>
      replace fin : ∀ v' H', Same H H' → StaO K H' v' (if (!p.r && hasLast p (found p c isb ls)) = true then none else some (found p c isb ls)) → Q v' H' := fin
      have hq' : SqT K H a (nIs ls) := by
        rw [← staV_some]
        exact hq
      obtain ⟨wl, wi⟩ := wi
      refine iteF ⟨_, rfl, a, rfl, ⟨_, hq'⟩, fun D hD => ?_⟩
      refine it_gen (walk_tup (K := K) (a := a) (xs := nIs ls)) (fun i H1 => H1 D = some (.dK (kD (insL [] ((ls.take i).flatMap (asIs p))))) ∧ Same H H1) ⟨upd_same, smU hD⟩ (fun i H1 _ hP => hq'.ki (KI.same hP.2)) (fun i x H1 H1' hi hP hy => ?_) (fun H1 hP => ?_)
      · obtain ⟨eD, s1⟩ := hP
        obtain ⟨rfl, hx⟩ := hy
        obtain ⟨j, hj, rfl⟩ := nIs_at hx
        have hj8 := wi j (List.mem_of_getElem? hj)
        have l1 : ∀ y ∈ insL [] ((ls.take i).flatMap (asIs p)), y < sz p.t := ins0_lt (flat_lt (p := p) _)
        have n1 : (insL [] ((ls.take i).flatMap (asIs p))).Nodup := insL_nd List.nodup_nil
        refine ⟨rfl, _, rfl, p.x, dx, _, rfl, s1 _ _ e1, rfl, _, rfl, p.x, p.Z, p.l, p.t, p.r, p.nm, j, rfl, po1.mono s1, by omega, hj8, fun b eb => ⟨b, rfl, ⟨_, .inl (.inl eb)⟩, ?_⟩⟩
        refine it_gen (walk_tup (K := K) (a := b) (xs := nIs (asIs p j))) (fun k H2 => H2 D = some (.dK (kD (insL (insL [] ((ls.take i).flatMap (asIs p))) ((asIs p j).take k)))) ∧ Same H H2 ∧ H2 b = some (.tup (nIs (asIs p j)))) ⟨eD, s1, eb⟩ (fun k H2 _ hP => .inl (.inl hP.2.2)) (fun k y H2 H2' hk hP hy => ?_) (fun H2 hP => ?_)
        · obtain ⟨eD2, s2, eb2⟩ := hP
          obtain ⟨rfl, hy⟩ := hy
          obtain ⟨m, hm, rfl⟩ := nIs_at hy
          refine ⟨rfl, _, rfl, _, Sum.inl (m : Int), rfl, eD2, ?_, ?_, fun b o hb => ?_, ?_⟩
          · rw [kD_len]
            have := insL_len n1 l1 (l := (asIs p j).take k) fun i hi => asIs_lt i (List.mem_of_mem_take hi)
            exact Nat.lt_of_le_of_lt (show _ ≤ 8 by omega) (by decide)
          · rw [upd_same, put_kD, insL_take hm]
          · rw [upd_ne (ne_of_none hb hD)]
            exact s2 _ _ hb
          · refine (upd_ne fun z => ?_).trans eb2
            rw [z, eD2] at eb2
            cases eb2
        · obtain ⟨eD2, s2, _⟩ := hP
          refine ⟨?_, s2⟩
          rw [eD2, nIs_len, List.take_length, take_at hj, List.flatMap_append, insL_app]
          rw [show [j].flatMap (asIs p) = asIs p j from List.append_nil _]
      · obtain ⟨eD, s1⟩ := hP
        rw [nIs_len, List.take_length] at eD
        refine ⟨fun σ H2 => σ = [some (.ref p.x), some (.ref a), some (.str (tx [c])), some (.bl isb), some (.ref D), none, none, none] ∧ (∃ ks, H2 D = some (.dK (kD ks)) ∧ ks.Nodup ∧ ∀ i, i ∈ ks ↔ i ∈ come p isb ls) ∧ Same H H2, ?_, fun σ H2 hM => ?_⟩
        · have n1 : (insL [] (ls.flatMap (asIs p))).Nodup := insL_nd List.nodup_nil
          have q1 := ins0_len (flat_lt (p := p) ls)
          have upd1 : ∀ DD : Ends, (∀ ks H2, H2 D = some (.dK (kD ks)) → ks.Nodup → (∀ i, i ∈ ks ↔ i ∈ ls.flatMap (asIs p) ∨ i ∈ fst p) → Same H H2 → DD.nx [some (.ref p.x), some (.ref a), some (.str (tx [c])), some (.bl isb), some (.ref D), none, none, none] H2) →
              (tDrop (tBM K "dict" rUpd (tVar 4) (tCons (tDc (iTup K (tFld K (tVar 0) "first")) (gName 7) tYes (tVar 7) (tC (.bl true)) [7]) tNil))) DD [some (.ref p.x), some (.ref a), some (.str (tx [c])), some (.bl isb), some (.ref D), none, none, none] H1 := fun DD hDD => by
            refine ⟨.ref D, rfl, Or.inr (.inr (.inl ⟨rfl, .inl ⟨_, eD⟩⟩)), ?_⟩
            refine ⟨_, rfl, p.x, C, dx, _, _, rfl, s1 _ _ e1, TP.cl, TP.n7, rfl, fi, rfl, ⟨_, .inl (.inl (s1 _ _ ef))⟩, fun D' hD' => ?_⟩
            have nD : D ≠ D' := fun z => by
              rw [← z, eD] at hD'
              cases hD'
            refine it_gen (walk_tup (K := K) (a := fi) (xs := nIs (fst p))) (fun k H2 => H2 D' = some (.dK (kD (insL [] ((fst p).take k)))) ∧ Same H1 H2) ⟨upd_same, smU hD'⟩ (fun k H2 _ hP => .inl (.inl (hP.2 _ _ (s1 _ _ ef)))) (fun k y H2 H2' hk hP hy => ?_) (fun H2 hP => ?_)
            · obtain ⟨eD2, s2⟩ := hP
              obtain ⟨rfl, hy⟩ := hy
              obtain ⟨m, hm, rfl⟩ := nIs_at hy
              refine ⟨rfl, _, rfl, _, Sum.inl (m : Int), rfl, eD2, ?_, ?_, fun b o hb => ?_⟩
              · rw [kD_len]
                have := ins0_len (n := sz p.t) (l := (fst p).take k) fun i hi => fst_lt i (List.mem_of_mem_take hi)
                exact Nat.lt_of_le_of_lt (show _ ≤ 8 by omega) (by decide)
              · rw [upd_same, put_kD, insL_take hm]
              · rw [upd_ne (ne_of_none hb hD')]
                exact s2 _ _ hb
            · obtain ⟨eD2, s2⟩ := hP
              rw [nIs_len, List.take_length] at eD2
              have q2 := ins0_len (fst_lt (p := p))
              refine ⟨D, D', _, _, rfl, rfl, s2 _ _ eD, eD2, nD, ?_, hDD _ _ (by rw [upd_same, merge_kD]) (insL_nd n1) (fun i => ?_) fun b o hb => ?_⟩
              · rw [kD_len, kD_len]
                exact Nat.le_trans (show _ ≤ 16 by omega) (by decide)
              · rw [insL_mem, insL_mem, insL_mem]
                simp
              · have nb : b ≠ D := ne_of_none hb hD
                rw [upd_ne nb]
                exact s2 _ _ (s1 _ _ hb)
          have cm : ∀ {z : Bool}, (isb || !p.l) = z → ∀ i, i ∈ come p isb ls ↔ i ∈ ls.flatMap (asIs p) ∨ (z = true ∧ i ∈ fst p) := fun {z} h i => by
            unfold come
            rw [h, List.mem_append]
            cases z <;> simp
          refine ⟨_, rfl, isb, rfl, ?_⟩
          cases isb with
          | true => exact iteT (iteT (upd1 _ fun ks H2 e n m s2 => ⟨rfl, ⟨ks, e, n, fun i => by rw [m, cm rfl]; simp⟩, s2⟩))
          | false =>
            refine iteF ⟨_, rfl, p.x, C, dx, _, _, rfl, s1 _ _ e1, TP.cl, TP.n1, rfl, p.l, rfl, ?_⟩
            cases hl : p.l with
            | false => exact iteT (upd1 _ fun ks H2 e n m s2 => ⟨rfl, ⟨ks, e, n, fun i => by rw [m, cm (z := true) (by rw [hl]; rfl)]; simp⟩, s2⟩)
            | true => exact iteF ⟨rfl, ⟨_, eD, n1, fun i => by rw [insL_mem, cm (z := false) (by rw [hl]; rfl)]; simp⟩, s1⟩
        obtain ⟨rfl, ⟨ks, eD2, nk, hk⟩, s2⟩ := hM
        have l8 : ks.length ≤ 8 := Nat.le_trans (nd_len nk fun i hi => come_lt i ((hk i).mp hi)) h8
        refine ⟨_, rfl, D, _, ks.map fun (j : Nat) => (j : Int), rfl, .inl eD2, ?_, ?_, fun ys b hp hs hb => ?_⟩
        · unfold kD
          rw [List.map_map, List.map_map] <;> rfl
        · rw [List.length_map]
          omega
        have ey : ys.map V.int = nIs (ascL (sz p.t) (come p isb ls)) := sorted_is hp hs (List.Pairwise.map _ (fun a b h z => h (by omega)) nk) (fun z => by
          rw [List.mem_map]
          constructor
          · rintro ⟨i, hi, rfl⟩
            exact ⟨i, (hk i).mp hi, rfl⟩
          · rintro ⟨i, hi, rfl⟩
            exact ⟨i, (hk i).mpr hi, rfl⟩) come_lt
        rw [ey]
        have u1 : Same H2 (upd H2 b (.lst (nIs (ascL (sz p.t) (come p isb ls))))) := smU hb
        have s3 := s2.trans u1
        refine ⟨b, rfl, ⟨_, .inl (.inl upd_same)⟩, fun E2 hE => ?_⟩
        have nEb : E2 ≠ b := fun z => by
          rw [z, upd_same] at hE
          cases hE
        have cl : (ascL (sz p.t) (come p isb ls)).length ≤ 8 := Nat.le_trans (asc_len _ _) h8
        have spl : (spts p.t).length = sz p.t := spts_sz p.t (by omega)
        refine lc_it (walk_list (K := K) (a := b) (xs := nIs (ascL (sz p.t) (come p isb ls)))) (fun i H4 => H4 E2 = some (.lst (nIs (((ascL (sz p.t) (come p isb ls)).take i).filter fun j => decide (c ∈ (spts p.t).getD j [])))) ∧ Same (upd H2 b (.lst (nIs (ascL (sz p.t) (come p isb ls))))) H4)
          ⟨upd_same, smU hE⟩ (fun i H4 _ hP => .inl (.inl (hP.2 _ _ upd_same))) (fun i xi H4 H4' hi hP hy => ?_) (fun H4 hP => ?_)
        · obtain ⟨eE, s4⟩ := hP
          have s5 := s3.trans s4
          obtain ⟨rfl, hy⟩ := hy
          obtain ⟨j, hj, rfl⟩ := nIs_at hy
          have hjs : j < (spts p.t).length := by
            rw [spl]
            exact (asc_mem.mp (List.mem_of_getElem? hj)).1
          have eg : (spts p.t)[j]? = some ((spts p.t).getD j []) := by
            rw [List.getD_eq_getElem?_getD, List.getElem?_eq_getElem hjs] <;> rfl
          refine ⟨rfl, _, rfl, _, rfl, p.x, C, dx, _, _, rfl, s5 _ _ e1, TP.cl, TP.n6, rfl, _, rfl, pl, _, (j : Int), _, rfl, rfl, .inl (.inl (s5 _ _ ep)), atI_nat (j := j) (v := V.str (tx ((spts p.t).getD j []))) (by unfold nmV; rw [List.getElem?_map, eg] <;> rfl), c, _, rfl, rfl, _, rfl, ?_⟩
          have ht : ((ascL (sz p.t) (come p isb ls)).take (i + 1)).filter (fun j => decide (c ∈ (spts p.t).getD j [])) = ((ascL (sz p.t) (come p isb ls)).take i).filter (fun j => decide (c ∈ (spts p.t).getD j [])) ++ (if decide (c ∈ (spts p.t).getD j []) = true then [j] else []) := by
            rw [take_at hj, List.filter_append]
            congr 1
            rw [List.filter_cons, List.filter_nil]
          show if decide (c ∈ (spts p.t).getD j []) = true then _ else _
          cases hd : decide (c ∈ (spts p.t).getD j []) with
          | true =>
            refine iteT ⟨_, rfl, _, eE, ?_, ?_, fun b o e => ?_⟩
            · rw [nIs_len]
              have h1 := List.length_filter_le (fun j => decide (c ∈ (spts p.t).getD j [])) ((ascL (sz p.t) (come p isb ls)).take i)
              have h2 := List.length_take_le' i (ascL (sz p.t) (come p isb ls))
              exact Nat.lt_of_le_of_lt (show _ ≤ 8 by omega) (by decide)
            · rw [upd_same, ht, hd, if_pos rfl]
              unfold nIs
              rw [List.map_append] <;> rfl
            · rw [upd_ne (ne_of_none e hE)]
              exact s4 _ _ e
          | false =>
            refine iteF ⟨?_, s4⟩
            rw [ht, hd, if_neg Bool.false_ne_true, List.append_nil]
            exact eE
        · obtain ⟨eE, s4⟩ := hP
          rw [nIs_len, List.take_length] at eE
          replace eE : H4 E2 = some (.lst (nIs (found p c isb ls))) := eE
          refine .inl ⟨E2, _, rfl, .inl (.inl eE), fun q hq => ?_⟩
          have s5 := (s3.trans s4).trans (smU (o := HO.tup (nIs (found p c isb ls))) hq)
          have so : StaO K (upd H4 q (.tup (nIs (found p c isb ls)))) (.ref q) (some (found p c isb ls)) := ⟨q, rfl, .inl (.inl (by rw [upd_same, staV_some]))⟩
          refine ⟨_, rfl, p.x, C, dx, _, _, rfl, s5 _ _ e1, TP.cl, TP.n3, rfl, p.r, rfl, ?_⟩
          cases hr : p.r with
          | true =>
            rw [hr] at fin
            exact iteF (iteF ⟨_, rfl, fin _ _ s5 so⟩)
          | false =>
            rw [hr] at fin
            refine iteT ⟨_, rfl, _, rfl, p, .ref q, found p c isb ls, rfl, po.ki (KI.same s5), so, found_wi p c isb ls h8, fun H6 s6 => ⟨_, rfl, ?_⟩⟩
            replace fin : ∀ v' H', Same H H' → StaO K H' v' (if hasLast p (found p c isb ls) = true then none else some (found p c isb ls)) → Q v' H' := fin
            cases hh : hasLast p (found p c isb ls) with
            | true =>
              rw [hh] at fin
              exact iteT (fin _ _ (s5.trans s6) ⟨aF, rfl, T.sF H6⟩)
            | false =>
              rw [hh] at fin
              exact iteF ⟨_, rfl, fin _ _ (s5.trans s6) (so.ki (KI.same s6))⟩
end
end Sq
/-! truth_of, is_so_at, next_node, is_so. -/
namespace Sq
open PySem PySem.Spec PyProof.Rows L2 Sf Sf4
theorem walk_zipT {K : PySem.W.Frag} {a b : Addr} {xs ys : List V} {n : Nat} (hn : n = min xs.length ys.length) : Walk (RZ.ItzT K a b) n (fun H => SqT K H a xs ∧ SqT K H b ys) (YPair (fun i => xs[i]?) (fun i => ys[i]?)) := by
  subst hn
  refine ⟨fun i _ hi q => ?_, fun _ q => ⟨xs, ys, q.1, q.2, by omega⟩, fun i H v H' _ q y => ?_⟩
  · have h1 : i < xs.length := by omega
    have h2 : i < ys.length := by omega
    exact ⟨xs, ys, xs[i], ys[i], q.1, q.2, by simp [h1], by simp [h2]⟩
  · obtain ⟨T, x, z, h1, h2, h3, h4, h5⟩ := y
    exact ⟨T, x, z, h1, h2, h3, h4 xs q.1, h5 ys q.2⟩
def tru : Qt → List Bool → Bool
  | .has _, bs => bs.getD 0 false
  | .neg q, bs => !tru q bs
  | .con p q, bs => tru p bs && tru q (bs.drop (pats p).length)
  | .dis p q, bs => tru p bs || tru q (bs.drop (pats p).length)
def NTr : List Str := ["tree", "truths", "at", "one", "other"]
theorem scTr : FnScope NTr ["tree", "truths", "at"] (defScope sTruth) := ⟨rfl, rfl, rfl, by decide +kernel, rfl, by decide +kernel, by decide +kernel⟩
def NIsA : List Str := ["question", "states", "truths", "pattern", "state"]
theorem scIsA : FnScope NIsA ["question", "states"] (defScope sIsSoAt) := ⟨rfl, rfl, rfl, by decide +kernel, rfl, by decide +kernel, by decide +kernel⟩
def NNx : List Str := ["question", "node", "letter", "sign", "states", "steps", "pattern", "state"]
theorem scNx : FnScope NNx ["question", "node", "letter"] (defScope sNext) := ⟨rfl, rfl, rfl, by decide +kernel, rfl, by decide +kernel, by decide +kernel⟩
theorem scIso : FnScope ["question", "node"] ["question", "node"] (defScope sIsSo) := ⟨rfl, rfl, rfl, by decide +kernel, rfl, by decide +kernel, by decide +kernel⟩
def spTr (C : Addr) (d : Nat) : Sp := fun vs H Q _ => ∃ (v : V) (q : Qt) (a : Addr) (at_ : Nat) (bs : List Bool), vs = [v, .ref a, .int (at_ : Int)] ∧ QtO C H v q ∧ dpt q ≤ d ∧ H a = some (.lst (bs.map V.bl)) ∧ at_ + (pats q).length ≤ bs.length ∧
  ∀ r H', Same H H' → H' r = some (.tup [.bl (tru q (bs.drop at_)), .int ((at_ + (pats q).length : Nat) : Int)]) → Q (.ref r) H'
theorem drop_at {bs : List Bool} {i : Nat} (h : i < bs.length) : atI (bs.map V.bl) (i : Int) = some (.bl ((bs.drop i).getD 0 false)) := by
  refine atI_nat (j := i) ?_
  rw [List.getElem?_map, List.getElem?_eq_getElem h, List.drop_eq_getElem_cons h] <;> rfl
section
variable {P : Program} {w : World} {K : PySem.W.Frag} {mg : Str → Option Value} {base : Heap} {CQ C aF fb : Addr} {f : Nat → Addr} {fd : Nat → FuncData} {db : FuncData} {tk : Nat → Tok} {pf : Nat → Addr} {pfd : Nat → FuncData} {tp : Nat → Tok} {gR gW : Addr} {dR dW : FuncData} {qf : Nat → Addr} {qfd : Nat → FuncData} {tq : Nat → Tok}
theorem ok_tr1 (T : NoT K mg C aF f fd fb db tk) (TQ : QuT K mg CQ qf qfd tq) {k d : Nat} {spA : Sp} (GA : FnOk P w K mg base CX0 k (f 3) (fd 3) ["tree", "truths", "at"] spA) (hA : ∀ e vs H Q E, e + 1 = d → spTr C e vs H Q E → spA vs H Q E) : FnOk P w K mg base CX0 (k + 1) (f 3) (fd 3) ["tree", "truths", "at"] (spTr C d) := by
  refine T.tr.F.ok scTr (fun vs H Q E h => ?_) (fun cdv A outer s H vs Q E hr h => ?_)
  · obtain ⟨v, q, a, at_, bs, rfl, _⟩ := h
    rfl
  · obtain ⟨v, q, a, at_, bs, rfl, ho, hd, ha, hl, fin⟩ := h
    refine ⟨_, pss_cons (ps_if (pt_cmpR op_eq (pe_ix ix_tup (pv 0) pe_int (fun _ _ => rfl)) (pe_glob (v := .str hasW) rfl TQ.gHas ⟨_, rfl⟩) (nomark _))
          (pss_one (ps_ret (pe_tup (pa_cons (pe_ix ix_list (pv 1) (pv 2) (fun _ _ => rfl)) (pa_cons (pe_op op_add (pv 2) pe_int) pa_nil))))) pss_nil)
      (pss_cons (ps_asg (pe_call GA hr (by rfl) T.tr.g T.tr.F.kp T.tr.b .nil pass0 (pa_cons (pe_ix ix_tup (pv 0) pe_int (fun _ _ => rfl)) (pa_cons (pv 1) (pa_cons (pv 2) pa_nil)))) (pg_tup rfl (pgs_cons (pg_name (i := 3) scTr.nd rfl (.inl rfl)) (pgs_cons (pg_name (i := 2) scTr.nd rfl (.inl rfl)) pgs_nil))))
      (pss_cons (ps_if (pt_cmpR op_eq (pe_ix ix_tup (pv 0) pe_int (fun _ _ => rfl)) (pe_glob (v := .str notW) rfl TQ.gNot ⟨_, rfl⟩) (nomark _))
          (pss_one (ps_ret (pe_tup (pa_cons (pe_not (pv 3)) (pa_cons (pv 2) pa_nil))))) pss_nil)
      (pss_cons (ps_asg (pe_call GA hr (by rfl) T.tr.g T.tr.F.kp T.tr.b .nil pass0 (pa_cons (pe_ix ix_tup (pv 0) pe_int (fun _ _ => rfl)) (pa_cons (pv 1) (pa_cons (pv 2) pa_nil)))) (pg_tup rfl (pgs_cons (pg_name (i := 4) scTr.nd rfl (.inl rfl)) (pgs_cons (pg_name (i := 2) scTr.nd rfl (.inl rfl)) pgs_nil))))
      (pss_one (ps_ret (pe_tup (pa_cons (pe_ifExp (pt_cmpR op_eq (pe_ix ix_tup (pv 0) pe_int (fun _ _ => rfl)) (pe_glob (v := .str andW) rfl TQ.gAnd ⟨_, rfl⟩) (nomark _)) (pe_and (pv 3) (pe_one (pv 4))) (pe_or (pv 3) (pe_one (pv 4)))) (pa_cons (pv 2) pa_nil)))))))), ?_⟩
    have n1 : notW ≠ hasW := by decide +kernel
    have n2 : andW ≠ hasW := by decide +kernel
    have n3 : andW ≠ notW := by decide +kernel
    have n4 : orW ≠ hasW := by decide +kernel
    have n5 : orW ≠ notW := by decide +kernel
    have n6 : orW ≠ andW := by decide +kernel
    have ec : ∀ n m : Nat, (((n + m : Nat) : Int)) = (n : Int) + (m : Int) := fun n m => by omega
    cases ho with
    | @has b p e o =>
      have hl1 : at_ + 1 ≤ bs.length := hl
      refine ⟨_, rfl, b, _, 0, _, rfl, rfl, .inl (.inl e), atI_nat (j := 0) rfl, rfl, _, rfl, ?_⟩
      rw [decide_eq_true rfl]
      refine iteT ⟨_, rfl, _, rfl, a, _, (at_ : Int), _, rfl, rfl, .inl (.inl ha), drop_at (by omega), _, rfl, (at_ : Int), 1, rfl, rfl, (show 2 ≤ sizeLine by decide), fun L nL => fin L _ (smU nL) upd_same⟩
    | @neg b v q e o =>
      have hd1 : dpt q + 1 ≤ d := hd
      have hl1 : at_ + (pats q).length ≤ bs.length := hl
      refine ⟨_, rfl, b, _, 0, _, rfl, rfl, .inl (.inl e), atI_nat (j := 0) rfl, rfl, _, rfl, ?_⟩
      rw [decide_eq_false (wq n1)]
      refine iteF ⟨_, rfl, b, _, 1, _, rfl, rfl, .inl (.inl e), atI_nat (j := 1) rfl, _, rfl, _, rfl, ?_⟩
      refine hA (d - 1) _ _ _ _ (by omega) ⟨v, q, a, at_, bs, rfl, o, by omega, ha, hl1, fun r H1 s1 e1 => ?_⟩
      refine ⟨r, _, rfl, .inl (.inl e1), rfl, _, _, rfl, _, _, rfl, rfl, ?_⟩
      refine ⟨_, rfl, b, _, 0, _, rfl, rfl, .inl (.inl (s1 _ _ e)), atI_nat (j := 0) rfl, rfl, _, rfl, ?_⟩
      rw [decide_eq_true rfl]
      exact iteT ⟨_, rfl, _, rfl, _, rfl, (show 2 ≤ sizeLine by decide), fun L nL => fin L _ (s1.trans (smU nL)) upd_same⟩
    | @con b u v p q e o1 o2 =>
      have hd1 : max (dpt p) (dpt q) + 1 ≤ d := hd
      have hl1 : at_ + ((pats p).length + (pats q).length) ≤ bs.length := by
        have := hl
        unfold pats at this
        rw [List.length_append] at this
        exact this
      refine ⟨_, rfl, b, _, 0, _, rfl, rfl, .inl (.inl e), atI_nat (j := 0) rfl, rfl, _, rfl, ?_⟩
      rw [decide_eq_false (wq n2)]
      refine iteF ⟨_, rfl, b, _, 1, _, rfl, rfl, .inl (.inl e), atI_nat (j := 1) rfl, _, rfl, _, rfl, ?_⟩
      refine hA (d - 1) _ _ _ _ (by omega) ⟨u, p, a, at_, bs, rfl, o1, by omega, ha, by omega, fun r H1 s1 e1 => ?_⟩
      refine ⟨r, _, rfl, .inl (.inl e1), rfl, _, _, rfl, _, _, rfl, rfl, ?_⟩
      have e2 := s1 _ _ e
      refine ⟨_, rfl, b, _, 0, _, rfl, rfl, .inl (.inl e2), atI_nat (j := 0) rfl, rfl, _, rfl, ?_⟩
      rw [decide_eq_false (wq n3)]
      refine iteF ⟨_, rfl, b, _, 2, _, rfl, rfl, .inl (.inl e2), atI_nat (j := 2) rfl, _, rfl, _, rfl, ?_⟩
      refine hA (d - 1) _ _ _ _ (by omega) ⟨v, q, a, at_ + (pats p).length, bs, rfl, o2.ki (KI.same s1), by omega, s1 _ _ ha, by omega, fun r2 H2 s2 e3 => ?_⟩
      refine ⟨r2, _, rfl, .inl (.inl e3), rfl, _, _, rfl, _, _, rfl, rfl, ?_⟩
      refine ⟨_, rfl, b, _, 0, _, rfl, rfl, .inl (.inl (s2 _ _ e2)), atI_nat (j := 0) rfl, rfl, _, rfl, ?_⟩
      rw [decide_eq_true rfl]
      have et : tru (.con p q) (bs.drop at_) = (tru p (bs.drop at_) && tru q (bs.drop (at_ + (pats p).length))) := by
        show (_ && tru q ((bs.drop at_).drop _)) = _
        rw [List.drop_drop]
      have el : (pats (.con p q)).length = (pats p).length + (pats q).length := List.length_append ..
      rw [et, el, ← Nat.add_assoc] at fin
      refine iteT ⟨_, rfl, _, rfl, ?_⟩
      generalize tru p (bs.drop at_) = z at fin ⊢
      cases z with
      | true => exact iteT ⟨_, rfl, _, rfl, (show 2 ≤ sizeLine by decide), fun L nL => fin L _ ((s1.trans s2).trans (smU nL)) upd_same⟩
      | false => exact iteF ⟨_, rfl, (show 2 ≤ sizeLine by decide), fun L nL => fin L _ ((s1.trans s2).trans (smU nL)) upd_same⟩
    | @dis b u v p q e o1 o2 =>
      have hd1 : max (dpt p) (dpt q) + 1 ≤ d := hd
      have hl1 : at_ + ((pats p).length + (pats q).length) ≤ bs.length := by
        have := hl
        unfold pats at this
        rw [List.length_append] at this
        exact this
      refine ⟨_, rfl, b, _, 0, _, rfl, rfl, .inl (.inl e), atI_nat (j := 0) rfl, rfl, _, rfl, ?_⟩
      rw [decide_eq_false (wq n4)]
      refine iteF ⟨_, rfl, b, _, 1, _, rfl, rfl, .inl (.inl e), atI_nat (j := 1) rfl, _, rfl, _, rfl, ?_⟩
      refine hA (d - 1) _ _ _ _ (by omega) ⟨u, p, a, at_, bs, rfl, o1, by omega, ha, by omega, fun r H1 s1 e1 => ?_⟩
      refine ⟨r, _, rfl, .inl (.inl e1), rfl, _, _, rfl, _, _, rfl, rfl, ?_⟩
      have e2 := s1 _ _ e
      refine ⟨_, rfl, b, _, 0, _, rfl, rfl, .inl (.inl e2), atI_nat (j := 0) rfl, rfl, _, rfl, ?_⟩
      rw [decide_eq_false (wq n5)]
      refine iteF ⟨_, rfl, b, _, 2, _, rfl, rfl, .inl (.inl e2), atI_nat (j := 2) rfl, _, rfl, _, rfl, ?_⟩
      refine hA (d - 1) _ _ _ _ (by omega) ⟨v, q, a, at_ + (pats p).length, bs, rfl, o2.ki (KI.same s1), by omega, s1 _ _ ha, by omega, fun r2 H2 s2 e3 => ?_⟩
      refine ⟨r2, _, rfl, .inl (.inl e3), rfl, _, _, rfl, _, _, rfl, rfl, ?_⟩
      refine ⟨_, rfl, b, _, 0, _, rfl, rfl, .inl (.inl (s2 _ _ e2)), atI_nat (j := 0) rfl, rfl, _, rfl, ?_⟩
      rw [decide_eq_false (wq n6)]
      have et : tru (.dis p q) (bs.drop at_) = (tru p (bs.drop at_) || tru q (bs.drop (at_ + (pats p).length))) := by
        show (_ || tru q ((bs.drop at_).drop _)) = _
        rw [List.drop_drop]
      have el : (pats (.dis p q)).length = (pats p).length + (pats q).length := List.length_append ..
      rw [et, el, ← Nat.add_assoc] at fin
      refine iteF ⟨_, rfl, _, rfl, ?_⟩
      generalize tru p (bs.drop at_) = z at fin ⊢
      cases z with
      | true => exact iteT ⟨_, rfl, (show 2 ≤ sizeLine by decide), fun L nL => fin L _ ((s1.trans s2).trans (smU nL)) upd_same⟩
      | false => exact iteF ⟨_, rfl, _, rfl, (show 2 ≤ sizeLine by decide), fun L nL => fin L _ ((s1.trans s2).trans (smU nL)) upd_same⟩
theorem ok_tr (T : NoT K mg C aF f fd fb db tk) (TQ : QuT K mg CQ qf qfd tq) : ∀ d, FnOk P w K mg base CX0 (1 + d) (f 3) (fd 3) ["tree", "truths", "at"] (spTr C d)
  | 0 => ok_tr1 T TQ (k := 0) (d := 0) ok_noQ (fun e _ _ _ _ h => by omega)
  | d + 1 => (ok_tr1 T TQ (k := 1 + d) (ok_tr T TQ d) (fun e _ _ _ _ h q => by
      obtain rfl : e = d := by omega
      exact q)).mono (by omega)
end
/-- states of patterns -/
def StsO (K : PySem.W.Frag) (H : Hp) (vs : List V) (ps : List Pi) (ss : List Sta) : Prop := vs.length = ps.length ∧ ss.length = ps.length ∧ ∀ (i : Nat) (v : V) (p : Pi) (s : Sta), vs[i]? = some v → ps[i]? = some p → ss[i]? = some s → StaO K H v s ∧ Wi p s
theorem StsO.ki {K : PySem.W.Frag} {H H' : Hp} {vs : List V} {ps : List Pi} {ss : List Sta} (k : KI H H') (h : StsO K H vs ps ss) : StsO K H' vs ps ss :=
  ⟨h.1, h.2.1, fun i v p s h1 h2 h3 => ⟨(h.2.2 i v p s h1 h2 h3).1.ki k, (h.2.2 i v p s h1 h2 h3).2⟩⟩
theorem StsO.at {K : PySem.W.Frag} {H : Hp} {vs : List V} {ps : List Pi} {ss : List Sta} (h : StsO K H vs ps ss) {i : Nat} (hi : i < ps.length) : ∃ v p s, vs[i]? = some v ∧ ps[i]? = some p ∧ ss[i]? = some s ∧ StaO K H v s ∧ Wi p s := by
  have h1 : i < vs.length := by rw [h.1]; exact hi
  have h2 : i < ss.length := by rw [h.2.1]; exact hi
  obtain ⟨g1, g2⟩ := h.2.2 i _ _ _ (List.getElem?_eq_getElem h1) (List.getElem?_eq_getElem hi) (List.getElem?_eq_getElem h2)
  exact ⟨_, _, _, List.getElem?_eq_getElem h1, List.getElem?_eq_getElem hi, List.getElem?_eq_getElem h2, g1, g2⟩
/-- a node -/
def NodO (K : PySem.W.Frag) (H : Hp) (v : V) (c : Nat) (ps : List Pi) (ss : List Sta) : Prop := ∃ n sa svs, v = .ref n ∧ SqT K H n [.str (tx [c]), .ref sa] ∧ SqT K H sa svs ∧ StsO K H svs ps ss
theorem NodO.ki {K : PySem.W.Frag} {H H' : Hp} {v : V} {c : Nat} {ps : List Pi} {ss : List Sta} (k : KI H H') (h : NodO K H v c ps ss) : NodO K H' v c ps ss := by
  obtain ⟨n, sa, svs, h1, h2, h3, h4⟩ := h
  exact ⟨n, sa, svs, h1, h2.ki k, h3.ki k, h4.ki k⟩
def ends (ps : List Pi) (ss : List Sta) : List Bool := List.zipWith ended ps ss
def steps (c : Nat) (isb : Bool) (ps : List Pi) (ss : List Sta) : List Sta := List.zipWith (fun p s => nxt p c isb s) ps ss
theorem take_atG {α : Type} {l : List α} {i : Nat} {j : α} (h : l[i]? = some j) : l.take (i + 1) = l.take i ++ [j] := by
  obtain ⟨h1, h2⟩ := List.getElem?_eq_some_iff.mp h
  rw [List.take_succ_eq_append_getElem h1, h2]
theorem zw_take {α β γ : Type} (g : α → β → γ) {l : List α} {m : List β} {i : Nat} {x : α} {y : β} (h1 : l[i]? = some x) (h2 : m[i]? = some y) : (List.zipWith g l m).take (i + 1) = (List.zipWith g l m).take i ++ [g x y] := by
  refine take_atG ?_
  rw [List.getElem?_zipWith, h1, h2] <;> rfl
theorem zw_len {α β γ : Type} (g : α → β → γ) {l : List α} {m : List β} (h : m.length = l.length) : (List.zipWith g l m).length = l.length := by
  rw [List.length_zipWith]
  omega
theorem piV_at {ps : List Pi} {i : Nat} {x : V} (h : (piV ps)[i]? = some x) : ∃ p, ps[i]? = some p ∧ x = .ref p.x := by
  unfold piV at h
  rw [List.getElem?_map] at h
  obtain ⟨p, h1, h2⟩ := Option.map_eq_some_iff.mp h
  exact ⟨p, h1, h2.symm⟩
def spIsA (K : PySem.W.Frag) (CQ C : Addr) : Sp := fun vs H Q _ => ∃ (x : Addr) (q : Qt) (sa : Addr) (svs : List V) (ss : List Sta), vs = [.ref x, .ref sa] ∧ QuO CQ C H x q ∧ dpt q ≤ 8 ∧ (pats q).length ≤ 100 ∧ SqT K H sa svs ∧ StsO K H svs (pats q) ss ∧ ∀ H', Same H H' → Q (.bl (tru q (ends (pats q) ss))) H'
def spIso (K : PySem.W.Frag) (CQ C : Addr) : Sp := fun vs H Q _ => ∃ (x : Addr) (q : Qt) (v : V) (c : Nat) (ss : List Sta), vs = [.ref x, v] ∧ QuO CQ C H x q ∧ dpt q ≤ 8 ∧ (pats q).length ≤ 100 ∧ NodO K H v c (pats q) ss ∧ ∀ H', Same H H' → Q (.bl (tru q (ends (pats q) ss))) H'
def spNx (K : PySem.W.Frag) (CQ C : Addr) : Sp := fun vs H Q _ => ∃ (x : Addr) (q : Qt) (v : V) (c c2 : Nat) (ss : List Sta), vs = [.ref x, v, .str (tx [c2])] ∧ QuO CQ C H x q ∧ (pats q).length ≤ 100 ∧ NodO K H v c (pats q) ss ∧
  ∀ v' H', Same H H' → NodO K H' v' c2 (pats q) (steps c2 (decide (c = 94)) (pats q) ss) → Q v' H'
section
variable {P : Program} {w : World} {K : PySem.W.Frag} {mg : Str → Option Value} {base : Heap} {CQ C aF fb : Addr} {f : Nat → Addr} {fd : Nat → FuncData} {db : FuncData} {tk : Nat → Tok} {pf : Nat → Addr} {pfd : Nat → FuncData} {tp : Nat → Tok} {gR gW : Addr} {dR dW : FuncData} {qf : Nat → Addr} {qfd : Nat → FuncData} {tq : Nat → Tok}
theorem ok_isa (T : NoT K mg C aF f fd fb db tk) (TQ : QuT K mg CQ qf qfd tq) (TP : PatT K mg C pf pfd tp gR gW dR dW) : FnOk P w K mg base CX0 19 (f 4) (fd 4) ["question", "states"] (spIsA K CQ C) := by
  have GT := ok_tr (P := P) (w := w) (base := base) (C := C) T TQ 8
  have GH := ok_HE (P := P) (w := w) (base := base) (k := 0) T TP
  refine T.isa.F.ok (k := 18) scIsA (fun vs H Q E h => ?_) (fun cdv A outer s H vs Q E hr h => ?_)
  · obtain ⟨x, q, sa, svs, ss, rfl, _⟩ := h
    rfl
  · obtain ⟨x, q, sa, svs, ss, rfl, qo, hd, hn, hs, so, fin⟩ := h
    refine ⟨_, pss_cons (ps_setLc (i := 2) (own := [("pattern", 3), ("state", 4)]) (g := gTup K 2 (gCons (gName 3) (gCons (gName 4) gNil))) (tt := tYes) (te := tCall (spHE K C) [] E0 (tCons (tVar 3) (tCons (tVar 4) tNil))) rfl scIsA.nd rfl rfl (sw_true rfl rfl rfl (by decide +kernel)) (RZ.pi_zipA (by rfl) T.zzip (pa_cons (pe_fld (pv 0) rfl) (pa_cons (pv 1) pa_nil))) (blkOk_by (N := NIsA) (sc := defScope sIsSoAt) (by decide +kernel))
          (fun _ _ _ _ _ => pg_tup rfl (pgs_cons (pg_name (i := 3) scIsA.nd rfl (Or.inl rfl)) (pgs_cons (pg_name (i := 4) scIsA.nd rfl (Or.inl rfl)) pgs_nil))) (fun _ _ _ _ _ => pts_nil)
          (fun _ _ _ _ _ => pe_call GH (hr.mono (by decide)) (by rfl) T.he.g T.he.F.kp T.he.b .nil pass0 (pa_cons (pv 3) (pa_cons (pv 4) pa_nil))))
      (pss_one (ps_ret (pe_ix ix_tup (pe_call GT (hr.mono (by decide)) (by rfl) T.tr.g T.tr.F.kp T.tr.b .nil pass0 (pa_cons (pe_fld (pv 0) rfl) (pa_cons (pv 2) (pa_cons pe_int pa_nil)))) pe_int (fun _ _ => rfl)))), ?_⟩
    obtain ⟨dx, v, pa, e1, ot, ep⟩ := id qo
    refine ⟨_, rfl, x, CQ, dx, _, _, rfl, e1, TQ.cl, TQ.n2, rfl, _, rfl, pa, sa, _, svs, rfl, .inr ⟨.inl (.inl ep), hs, fun D hD => ?_⟩⟩
    refine lc_it (walk_zipT (K := K) (a := pa) (b := sa) (xs := piV (pats q)) (ys := svs) (n := (pats q).length) (by rw [piV_len, so.1]; exact (Nat.min_self _).symm)) (fun i H1 => H1 D = some (.lst (((ends (pats q) ss).take i).map V.bl)) ∧ Same H H1)
      ⟨upd_same, smU hD⟩ (fun i H1 _ hP => ⟨.inl (.inl (hP.2 _ _ ep)), hs.ki (KI.same hP.2)⟩) (fun i xi H1 H1' hi hP hy => ?_) (fun H1 hP => ?_)
    · obtain ⟨eD, s1⟩ := hP
      obtain ⟨T0, x0, y0, rfl, hT, rfl, hx, hy⟩ := hy
      obtain ⟨p, hp, rfl⟩ := piV_at hx
      obtain ⟨v1, p1, t1, g1, g2, g3, g4, g5⟩ := so.at hi
      obtain rfl : p1 = p := Option.some.inj (g2.symm.trans hp)
      obtain rfl : v1 = y0 := Option.some.inj (g1.symm.trans hy)
      have sT := smU (o := HO.tup [.ref p1.x, v1]) hT
      have s2 := s1.trans sT
      refine ⟨T0, _, rfl, .inl (.inl upd_same), rfl, _, _, rfl, _, _, rfl, rfl, rfl, ?_⟩
      refine ⟨_, rfl, _, rfl, p1, v1, t1, rfl, (ot.pis p1 (List.mem_of_getElem? hp)).ki (KI.same s2), g4.ki (KI.same s2), g5, fun H3 s3 => ?_⟩
      refine ⟨_, s3 _ _ (sT _ _ eD), ?_, ?_, fun b o hb => ?_⟩
      · rw [List.length_map]
        have h1 := List.length_take_le' i (ends (pats q) ss)
        unfold ends at h1
        rw [zw_len ended so.2.1] at h1
        exact Nat.lt_of_le_of_lt (show _ ≤ 100 by unfold ends; omega) (by decide)
      · rw [upd_same]
        unfold ends
        rw [zw_take ended hp g3, List.map_append] <;> rfl
      · rw [upd_ne (ne_of_none hb hD)]
        exact s3 _ _ (s2 _ _ hb)
    · obtain ⟨eD, s1⟩ := hP
      have el : (ends (pats q) ss).length = (pats q).length := zw_len ended so.2.1
      rw [← el, List.take_length] at eD
      refine ⟨_, rfl, x, CQ, dx, _, _, rfl, s1 _ _ e1, TQ.cl, TQ.n1, rfl, _, rfl, ?_⟩
      refine ⟨v, q, D, 0, ends (pats q) ss, rfl, ot.ki (KI.same s1), hd, eD, by omega, fun r H2 s2 e2 => ?_⟩
      exact ⟨r, _, 0, _, rfl, rfl, .inl (.inl e2), atI_nat (j := 0) rfl, fin _ (s1.trans s2)⟩
theorem ok_iso (T : NoT K mg C aF f fd fb db tk) (TQ : QuT K mg CQ qf qfd tq) (TP : PatT K mg C pf pfd tp gR gW dR dW) : FnOk P w K mg base CX0 20 (f 6) (fd 6) ["question", "node"] (spIso K CQ C) := by
  have GA := ok_isa (P := P) (w := w) (base := base) T TQ TP
  refine T.iso.F.ok (k := 19) scIso (fun vs H Q E h => ?_) (fun cdv A outer s H vs Q E hr h => ?_)
  · obtain ⟨x, q, v, c, ss, rfl, _⟩ := h
    rfl
  · obtain ⟨x, q, v, c, ss, rfl, qo, hd, hn, ⟨n, sa, svs, rfl, h1, h2, h3⟩, fin⟩ := h
    exact ⟨_, pss_one (ps_ret (pe_call GA hr (by rfl) T.isa.g T.isa.F.kp T.isa.b .nil pass0 (pa_cons (pv 0) (pa_cons (pe_ix ix_tup (pv 1) pe_int (fun _ _ => rfl)) pa_nil)))), _, rfl, _, rfl, n, _, 1, _, rfl, rfl, h1, atI_nat (j := 1) rfl, x, q, sa, svs, ss, rfl, qo, hd, hn, h2, h3, fin⟩
theorem ok_nx (T : NoT K mg C aF f fd fb db tk) (TQ : QuT K mg CQ qf qfd tq) (TP : PatT K mg C pf pfd tp gR gW dR dW) : FnOk P w K mg base CX0 20 (f 5) (fd 5) ["question", "node", "letter"] (spNx K CQ C) := by
  have GS := ok_SB (P := P) (w := w) (base := base) T TP
  refine T.nn.F.ok (k := 19) scNx (fun vs H Q E h => ?_) (fun cdv A outer s H vs Q E hr h => ?_)
  · obtain ⟨x, q, v, c, c2, ss, rfl, _⟩ := h
    rfl
  · obtain ⟨x, q, v, c, c2, ss, rfl, qo, hn, ⟨n, sa, svs, rfl, hn2, hs, so⟩, fin⟩ := h
    refine ⟨_, pss_cons (ps_asg (pv 1) (pg_tup rfl (pgs_cons (pg_name (i := 3) scNx.nd rfl (.inr rfl)) (pgs_cons (pg_name (i := 4) scNx.nd rfl (.inl rfl)) pgs_nil))))
      (pss_cons (ps_setLc (i := 5) (own := [("pattern", 6), ("state", 7)]) (g := gTup K 2 (gCons (gName 6) (gCons (gName 7) gNil))) (tt := tYes) (te := tCall (spSB K C) [] E0 (tCons (tVar 6) (tCons (tVar 7) (tCons (tVar 2) (tCons (tOp rEq (tVar 3) (tC (.str (Str.ofString "^")))) tNil))))) rfl scNx.nd rfl rfl (sw_true rfl rfl rfl (by decide +kernel)) (RZ.pi_zipA (by rfl) T.zzip (pa_cons (pe_fld (pv 0) rfl) (pa_cons (pv 4) pa_nil))) (blkOk_by (N := NNx) (sc := defScope sNext) (by decide +kernel))
          (fun _ _ _ _ _ => pg_tup rfl (pgs_cons (pg_name (i := 6) scNx.nd rfl (Or.inl rfl)) (pgs_cons (pg_name (i := 7) scNx.nd rfl (Or.inl rfl)) pgs_nil))) (fun _ _ _ _ _ => pts_nil)
          (fun _ _ _ _ _ => pe_call GS (hr.mono (by decide)) (by rfl) T.sb.g T.sb.F.kp T.sb.b .nil pass0 (pa_cons (pv 6) (pa_cons (pv 7) (pa_cons (pv 2) (pa_cons (pe_cmpR op_eq (pv 3) (pe_glob (v := .str (Str.ofString "^")) rfl T.gBe ⟨_, rfl⟩) (nomark _)) pa_nil))))))
      (pss_one (ps_ret (pe_tup (pa_cons (pv 2) (pa_cons (pe_tupleOf (by rfl) T.ztup (pv 5)) pa_nil)))))), ?_⟩
    obtain ⟨dx, v, pa, e1, ot, ep⟩ := id qo
    refine ⟨_, rfl, n, _, rfl, hn2, rfl, _, _, rfl, _, _, rfl, rfl, ?_⟩
    refine ⟨_, rfl, x, CQ, dx, _, _, rfl, e1, TQ.cl, TQ.n2, rfl, _, rfl, pa, sa, _, svs, rfl, .inr ⟨.inl (.inl ep), hs, fun D hD => ?_⟩⟩
    refine lc_it (walk_zipT (K := K) (a := pa) (b := sa) (xs := piV (pats q)) (ys := svs) (n := (pats q).length) (by rw [piV_len, so.1]; exact (Nat.min_self _).symm)) (fun i H1 => ∃ ws, H1 D = some (.lst ws) ∧ Same H H1 ∧ StsO K H1 ws ((pats q).take i) ((steps c2 (decide (c = 94)) (pats q) ss).take i))
      ⟨[], upd_same, smU hD, rfl, rfl, fun i v p s h => by cases h⟩ (fun i H1 _ hP => ?_) (fun i xi H1 H1' hi hP hy => ?_) (fun H1 hP => ?_)
    · obtain ⟨ws, _, s1, _⟩ := hP
      exact ⟨.inl (.inl (s1 _ _ ep)), hs.ki (KI.same s1)⟩
    · obtain ⟨ws, eD, s1, hw⟩ := hP
      obtain ⟨T0, x0, y0, rfl, hT, rfl, hx, hy⟩ := hy
      obtain ⟨p, hp, rfl⟩ := piV_at hx
      obtain ⟨v1, p1, t1, g1, g2, g3, g4, g5⟩ := so.at hi
      obtain rfl : p1 = p := Option.some.inj (g2.symm.trans hp)
      obtain rfl : v1 = y0 := Option.some.inj (g1.symm.trans hy)
      have sT := smU (o := HO.tup [.ref p1.x, v1]) hT
      have s2 := s1.trans sT
      have pi1 := ot.pis p1 (List.mem_of_getElem? hp)
      refine ⟨T0, _, rfl, .inl (.inl upd_same), rfl, _, _, rfl, _, _, rfl, rfl, rfl, ?_⟩
      refine ⟨_, rfl, _, rfl, _, rfl, _, rfl, rfl, p1, v1, t1, c2, decide (V.str (tx [c]) = V.str (Str.ofString "^")), rfl, pi1.ki (KI.same s2), g4.ki (KI.same s2), g5, fun v' H3 s3 hv' => ?_⟩
      have e94 : decide (V.str (tx [c]) = V.str (Str.ofString "^")) = decide (c = 94) := by
        have : Str.ofString "^" = tx [94] := by decide +kernel
        rw [this]
        refine decide_eq_decide.mpr ⟨fun z => ?_, fun z => by rw [z]⟩
        have := tx_inj (V.str.inj z)
        exact (List.cons.inj this).1
      rw [e94] at hv'
      have hlw := hw.1
      rw [List.length_take, Nat.min_eq_left (Nat.le_of_lt hi)] at hlw
      have hwl : ws.length ≤ 100 := by omega
      have s13 := s2.trans s3
      have eD3 := s3 _ _ (sT _ _ eD)
      have hst : (steps c2 (decide (c = 94)) (pats q) ss).take (i + 1) = (steps c2 (decide (c = 94)) (pats q) ss).take i ++ [nxt p1 c2 (decide (c = 94)) t1] := zw_take _ hp g3
      have hpt : (pats q).take (i + 1) = (pats q).take i ++ [p1] := take_atG hp
      refine ⟨_, eD3, ?_, ws ++ [v'], upd_same, fun b o hb => ?_, ?_⟩
      · exact Nat.lt_of_le_of_lt hwl (by decide)
      · rw [upd_ne (ne_of_none hb hD)]
        exact s13 _ _ hb
      rw [hst, hpt]
      have kk : KI H1 (upd H3 D (.lst (ws ++ [v']))) := (KI.same (sT.trans s3)).trans (KI.wr eD3)
      have hl3 : ((pats q).take i).length = i := by
        rw [List.length_take]
        omega
      have hl2 := hw.2.1
      rw [hl3] at hl2
      refine ⟨by rw [List.length_append, List.length_append, hw.1] <;> rfl, by rw [List.length_append, List.length_append, hw.2.1] <;> rfl, fun j v5 p5 t5 h1 h2 h3 => ?_⟩
      by_cases hj : j < i
      · rw [List.getElem?_append_left (by omega)] at h1 h2 h3
        obtain ⟨z1, z2⟩ := hw.2.2 j v5 p5 t5 h1 h2 h3
        exact ⟨z1.ki kk, z2⟩
      · rw [List.getElem?_append_right (by omega)] at h1 h2 h3
        have hj0 : j - i = 0 := by
          have := (List.getElem?_eq_some_iff.mp h1).1
          rw [hlw] at this
          have : j - i < 1 := this
          omega
        rw [hlw, hj0] at h1
        rw [hl3, hj0] at h2
        rw [hl2, hj0] at h3
        cases h1
        cases h2
        cases h3
        exact ⟨hv'.ki (KI.wr eD3), nxt_wi _ _ _ _ pi1.2.1⟩
    · obtain ⟨ws, eD, s1, hw⟩ := hP
      have el : (steps c2 (decide (c = 94)) (pats q) ss).length = (pats q).length := zw_len _ so.2.1
      rw [List.take_length] at hw
      rw [← el, List.take_length] at hw
      refine ⟨_, rfl, _, rfl, .inl ⟨D, _, rfl, .inl (.inl eD), fun Tw nT => ⟨(show 2 ≤ sizeLine by decide), fun L nL => ?_⟩⟩⟩
      have u1 := smU (o := HO.tup ws) nT
      have u2 := smU (o := HO.tup [V.str (tx [c2]), .ref Tw]) nL
      exact fin _ _ (s1.trans (u1.trans u2)) ⟨L, Tw, ws, rfl, .inl (.inl upd_same), .inl (.inl (u2 _ _ upd_same)), hw.ki (KI.same (u1.trans u2))⟩
end
end Sq
/-! l.extend(t) of a tuple. -/
namespace L2
open PySem PySem.Spec PyProof.Rows
set_option maxRecDepth 8000 in
theorem ext_meets (l : Addr) (items : Array Value) (n : Nat) (b : Addr) (items2 : Array Value) (n2 : Nat) (dc : Option Addr) (sl : Array (Option Value)) (hs0 : ¬(!items.isEmpty && Builtin.List.listTooLong (items.size + items2.size)) = true) (hs1 : items.size ≤ sizeLine) (hs2 : items.size + items2.size ≤ sizeLine + 1) :
    Meets (Builtin.«list.extend» ⟨[.ref l, .ref b], []⟩) (fun _ R s => s.heap.get? l = some { cls := .type "list", dict := none, data := .seq items n, slots := #[] } ∧ s.heap.get? b = some { cls := .type "tuple", dict := dc, data := .seq items2 n2, slots := sl } ∧ R (.ok (.ret Value.none)) { s with heap := s.heap.update l (Obj.mapSeq fun x => x ++ items2), toks := s.toks }) :=
  .of_wp fun prog w A R s h => by
    obtain ⟨hp, g, d, tk, os⟩ := s; obtain ⟨hl, hb, h⟩ := h; have f1 := AutoSeq1.idx_int; have f2 := AutoSeq1.sub_tuple_tuple; have f3 := AutoSeq1.sub_list_list; have f4 := AutoSeq1.sub_tuple_list; have f5 := AutoSeq1.sub_list_tuple;
    have hz' : (items ++ items2).size ≤ sizeLine + 1 := by rw [Array.size_append]; exact hs2
    wp_walk using (wpAny_updateSeq hl rfl (hz := hs1) (_hz' := hz')), AutoSeq1.wpAny_loadPart' hl, AutoSeq1.wpAny_loadPart' hb; exact ⟨_, rfl, h⟩
section
variable {X : Cx}
def rExtT (K : PySem.W.Frag) : V → List V → Hp → VK → Prop := fun x vs H Q => ∃ l b xs zs, x = .ref l ∧ vs = [.ref b] ∧ H l = some (.lst xs) ∧ SqT K H b zs ∧ xs.length + zs.length ≤ sizeLine ∧ Q .non (upd H l (.lst (xs ++ zs)))
theorem mt_extendT : MtM X "list.extend" (rExtT X.K) := by
  intro pins s σ H x vs v us Q I rx rv h
  obtain ⟨l, b, xs, zs, rfl, rfl, hH, hB, hz, q⟩ := h
  cases rx
  obtain ⟨u, rfl, ru⟩ := rv.one
  cases ru
  obtain ⟨z, its, n, r, hl, e⟩ := I.lstM hH
  obtain ⟨its2, r2, ⟨o, e2, hc, n2, hd⟩, z2⟩ := I.tuple hB
  obtain ⟨cls, dc, da, sl⟩ := o
  obtain rfl : cls = .type "tuple" := hc
  obtain rfl : da = .seq its2.toArray n2 := hd
  have hl2 := r2.length
  have hsz : its.toArray.size + its2.toArray.size ≤ sizeLine := by rw [List.size_toArray, List.size_toArray]; omega
  have hlong : ¬ (!its.toArray.isEmpty && Builtin.List.listTooLong (its.toArray.size + its2.toArray.size)) = true := by
    rw [notLongL hsz, Bool.and_false]
    exact Bool.false_ne_true
  refine call_meets F.slot_list_extend ⟨_, e, rfl⟩ F.entry_list_extend (F.args_list_extend_2 _ _)
    (ext_meets l its.toArray n b its2.toArray n2 _ _ hlong (by rw [List.size_toArray]; omega) (by omega)) ⟨e, e2, ?_⟩
  refine ⟨.non, _, I.lset (its' := its ++ its2) hH e (by simp) (r.append r2) ?_, rfl, q⟩
  rw [List.length_append]
  omega
end
end L2
/-! _law_state_behind, _law_next. -/
namespace Sq
open PySem PySem.Spec PyProof.Rows L2 Sf Sf4
abbrev sLAsked : Stmt := topS 74
abbrev sLMade : Stmt := topS 75
abbrev sLSB : Stmt := topS 76
abbrev sLNext : Stmt := topS 77
abbrev sLSo : Stmt := topS 78
abbrev sLState : Stmt := topS 79
abbrev sLRight : Stmt := topS 80
/-- what the law's own defs find -/
structure LqT (K : PySem.W.Frag) (mg : Str → Option Value) (f : Nat → Addr) (fd : Nat → FuncData) : Prop where
  sb : Fd K mg "_law_state_behind" sLSB ["_law_pattern", "_law_state_here", "_law_sound", "_law_is_begin"] (f 0) (fd 0)
  nx : Fd K mg "_law_next" sLNext ["_law_query", "_law_here", "_law_sound"] (f 1) (fd 1)
  so : Fd K mg "_law_so" sLSo ["_law_asked_here", "_law_patterns", "_law_states"] (f 2) (fd 2)
  st : Fd K mg "_law_state" sLState ["_law_pot_here", "_law_pattern"] (f 3) (fd 3)
  ask : Fd K mg "_law_asked" sLAsked ["_law_pot_here", "_law_letters", "_law_most", "_law_many"] (f 4) (fd 4)
  made : Fd K mg "_law_made" sLMade ["_law_asked_here"] (f 5) (fd 5)
  right : Fd K mg "_law_right" sLRight ["_law_pot_here"] (f 6) (fd 6)
  zany : mg "any" = none
  zall : mg "all" = none
  zsorted : mg "sorted" = none
  zset : mg "set" = none
  ztup : mg "tuple" = none
  zlist : mg "list" = none
  zzip : mg "zip" = none
  zrange : mg "range" = none
  zlen : mg "len" = none
  zrepr : mg "repr" = none
theorem asc_filter (N : Nat) (l : List Nat) (P : Nat → Bool) : ascL N (l.filter P) = (ascL N l).filter P := by
  unfold ascL
  rw [List.filter_filter]
  refine List.filter_congr fun i hi => ?_
  rw [Bool.eq_iff_iff, decide_eq_true_iff, List.mem_filter, Bool.and_eq_true, decide_eq_true_iff]
  exact And.comm
theorem ms_set {K : PySem.W.Frag} {w : World} {H3 : Hp} {b : Addr} {l : List Nat} {N : Nat} {R : VK} (e : H3 b = some (.lst (nIs l))) (hl : ∀ i ∈ l, i < N) (hN : N ≤ 24) (hn : l.length ≤ 4000) (hR : ∀ T H', Same H3 H' → H3 T = none → H' T = some (.tup (nIs (ascL N l))) → R (.ref T) H') :
    rSetIL K w [.ref b] H3 fun v1 H4 => rSortedSet w [v1] H4 fun v2 H5 => kTup K v2 H5 R := by
  refine ⟨b, zI l, N, rfl, .inl (.inl (by rw [← nIs_z]; exact e)), ?_, fun k hk => ?_, fun S c hS hc => ?_⟩
  · unfold zI
    rw [List.length_map]
    exact Nat.lt_of_le_of_lt (show l.length + 1 ≤ 4001 by omega) (by decide)
  · obtain ⟨i, h1, rfl⟩ := zI_mem.mp hk
    have := hl i h1
    omega
  refine ⟨S, _, c, rfl, upd_same, by omega, fun ns L pw mem len hL => ?_⟩
  obtain rfl := asc_uniq pw mem hl
  refine .inl ⟨L, _, rfl, .inl (.inl upd_same), fun T hT => ?_⟩
  have s3 := smU (o := SetO w S (fun j => decide (j ∈ zI l)) c) hS
  have s4 := smU (o := HO.lst ((zI (ascL N l)).map V.int)) hL
  have s5 := smU (o := HO.tup ((zI (ascL N l)).map V.int)) hT
  exact hR T _ (s3.trans (s4.trans s5)) ((s3.trans s4).free hT) (by rw [upd_same, nIs_z])
def NLSB : List Str := ["_law_pattern", "_law_state_here", "_law_sound", "_law_is_begin", "_law_come", "_law_place", "_law_found"]
theorem scLSB : FnScope NLSB ["_law_pattern", "_law_state_here", "_law_sound", "_law_is_begin"] (defScope sLSB) := ⟨rfl, rfl, rfl, by decide +kernel, rfl, by decide +kernel, by decide +kernel⟩
section
variable {P : Program} {w : World} {K : PySem.W.Frag} {mg : Str → Option Value} {base : Heap} {C aF fb : Addr} {f : Nat → Addr} {fd : Nat → FuncData} {db : FuncData} {tk : Nat → Tok} {pf : Nat → Addr} {pfd : Nat → FuncData} {tp : Nat → Tok} {gR gW : Addr} {dR dW : FuncData} {lf : Nat → Addr} {lfd : Nat → FuncData}
theorem ok_LSB (T : NoT K mg C aF f fd fb db tk) (TP : PatT K mg C pf pfd tp gR gW dR dW) (TL : LqT K mg lf lfd) : FnOk P w K mg base CX0 4 (lf 0) (lfd 0) ["_law_pattern", "_law_state_here", "_law_sound", "_law_is_begin"] (spSB K C) := by
  have GB := ok_beh5 (P := P) (w := w) (base := base) (k := 0) TP T.mB T.isi.F T.isi.b T.isi.g (ok_isI5 (k := 0) T.isi.F T.zisi T.zint T.zbool) T.zlen
  refine TL.sb.F.ok (k := 3) scLSB (fun vs H Q E h => ?_) (fun cdv A outer s H vs Q E hr h => ?_)
  · obtain ⟨p, v, s, c, isb, rfl, _⟩ := h
    rfl
  · obtain ⟨p, v, s, c, isb, rfl, po, hs, wi, fin⟩ := h
    have hu := hr.units
    refine ⟨_, pss_cons (ps_if (pt_cmpR (op_eqD hu) (pv 1) (pe_tup (pa_cons (pe_un un_neg pe_int) pa_nil)) (nomark _)) (pss_one (ps_ret (pv 1))) pss_nil)
      (pss_cons (ps_set (i := 4) scLSB.nd rfl (.inl rfl) (pe_lst pa_nil))
      (pss_cons (ps_for PassesOwn.never rfl (pi_tup (pv 1)) (pg_name (i := 5) scLSB.nd rfl (.inl rfl))
          (pss_one (ps_expr (pe_bm PySem.F.plainAttrs_list PySem.F.slot_list_extend PySem.F.type_list_extend mt_extendT (pv 4) (pa_cons (pe_meth (pv 0) TP.cl T.mB.m GB (hr.mono (by decide)) T.mB.b .nil pass0 (pa_cons (pv 5) pa_nil)) pa_nil)))))
      (Evl.pss_cut (ps_if (PW.pt (pw_or (pt_val (pv 3)) (pw_or1 (pt_not (pt_val (pe_fld (pv 0) rfl))))))
          (pss_one (ps_expr (pe_bm PySem.F.plainAttrs_list PySem.F.slot_list_extend PySem.F.type_list_extend mt_extendT (pv 4) (pa_cons (pe_fld (pv 0) rfl) pa_nil)))) pss_nil)
      (pss_cons (ps_set (i := 6) scLSB.nd rfl (.inl rfl) (pe_tupleOf (by rfl) TL.ztup (pe_callB (cr_sortedSet rfl) (by rfl) TL.zsorted (by decide +kernel) (pa_cons (pe_callTy (cr_setIL rfl) (by rfl) TL.zset PySem.Pv.boot_set (pa_cons
          (pe_lc (own := [("_law_place", 5)]) (g := gName 5) (tt := tTest (tOp rInS (tVar 2) (tOp (rIxT K) (tFld K (tVar 0) "places") (tVar 5)))) (te := tVar 5) rfl scLSB.nd (pi_list (pv 4)) (blkOk_by (N := NLSB) (sc := defScope sLSB) (by decide +kernel))
            (fun _ _ _ _ _ => pg_name (i := 5) scLSB.nd rfl (Or.inl rfl)) (fun _ _ _ _ _ => pts_one (pt_cmpR op_inS (pv 2) (pe_ix ix_tup (pe_fld (pv 0) rfl) (pv 5) (fun _ _ => rfl)) rfl)) (fun _ _ _ _ _ => pv 5)) pa_nil)) pa_nil))))
      (pss_cons (ps_if (PW.pt (pw_and (pt_not (pt_val (pe_fld (pv 0) rfl))) (pw_and1 (pt_val (pe_callB (cr_any rfl) (by rfl) TL.zany (by decide +kernel) (pa_cons (pe_lc (own := [("_law_place", 5)]) (g := gName 5) (tt := tYes) (te := tOp (rIn K false) (tVar 5) (tFld K (tVar 0) "last")) rfl scLSB.nd (pi_tup (pv 6)) (blkOk_by (N := NLSB) (sc := defScope sLSB) (by decide +kernel)) (fun _ _ _ _ _ => pg_name (i := 5) scLSB.nd rfl (Or.inl rfl)) (fun _ _ _ _ _ => pts_nil)
        (fun _ _ _ _ _ => pe_cmpR op_in_seq (pv 5) (pe_fld (pv 0) rfl) (by rfl))) pa_nil)))))) (pss_one (ps_ret (pe_tup (pa_cons (pe_un un_neg pe_int) pa_nil)))) pss_nil)
      (pss_one (ps_ret (pv 6)))))))), ?_⟩
    obtain ⟨a, rfl, hq⟩ := hs
    obtain ⟨po1, h8, h60⟩ := id po
    obtain ⟨dx, tv, na, pl, fi, la, be, e1, _, _, ep, ef, el, _⟩ := id po1
    refine ⟨_, rfl, 1, rfl, (show 1 ≤ sizeLine by decide), fun T0 n0 => ?_⟩
    have s0 := smU (o := HO.tup [V.int (-1)]) n0
    have hq0 := hq.ki (KI.same s0)
    refine ⟨inD (staI s), inD [-1], .tup hq0 (inD_dp _), .tup (.inl (.inl upd_same)) (inD_dp [-1]), inD_shaped _, inD_shaped _, _, rfl, ?_⟩
    rw [inD_eq, sta_found]
    cases s with
    | none => exact iteT ⟨_, rfl, fin _ _ s0 ⟨a, rfl, hq0⟩⟩
    | some ls =>
      replace fin : ∀ v' H', Same H H' → StaO K H' v' (if (!p.r && hasLast p (found p c isb ls)) = true then none else some (found p c isb ls)) → Q v' H' := fin
      have hq' : SqT K H a (nIs ls) := by
        rw [← staV_some]
        exact hq
      obtain ⟨wl, wi⟩ := wi
      generalize upd H T0 (.tup [V.int (-1)]) = H1 at s0
      refine iteF ⟨Nat.zero_le _, fun L nL => ?_⟩
      have nLH := s0.free nL
      refine ⟨_, rfl, a, rfl, ⟨_, hq'.ki (KI.same (s0.trans (smU nL)))⟩, for_tup (xs := nIs ls) (fun i σ H3 => (∃ y5, σ = [some (.ref p.x), some (.ref a), some (.str (tx [c])), some (.bl isb), some (.ref L), y5, none]) ∧ H3 L = some (.lst (nIs ((ls.take i).flatMap (asIs p)))) ∧ Same H H3)
        ⟨⟨_, rfl⟩, upd_same, s0.trans (smU nL)⟩ (fun i σ H3 _ hP => hq'.ki (KI.same hP.2.2)) (fun i x σ H3 hx hP => ?_) (fun σ H3 hP => ?_)⟩
      · obtain ⟨⟨y5, rfl⟩, eL, s1⟩ := hP
        obtain ⟨j, hj, rfl⟩ := nIs_at hx
        have hj8 := wi j (List.mem_of_getElem? hj)
        refine ⟨_, rfl, Or.inl ⟨rfl, _, .inl (.inl eL)⟩, _, rfl, p.x, dx, _, rfl, s1 _ _ e1, rfl, _, rfl, p.x, p.Z, p.l, p.t, p.r, p.nm, j, rfl, po1.mono s1, by omega, hj8, fun b eb => ?_⟩
        have l1 : ((ls.take i).flatMap (asIs p)).length ≤ 30 * 8 := by
          have : ∀ m : List Nat, (m.flatMap (asIs p)).length ≤ m.length * 8 := fun m => by
            induction m with
            | nil => exact Nat.zero_le _
            | cons x r ih =>
              rw [List.flatMap_cons, List.length_append, List.length_cons, Nat.succ_mul]
              have := asc_len (sz p.t) ((pO p.t w0).2.fo.getD x [])
              unfold asIs at ih ⊢
              omega
          have h1 := this (ls.take i)
          have h2 := List.length_take_le' i ls
          omega
        have l2 : (asIs p j).length ≤ 8 := Nat.le_trans (asc_len _ _) h8
        refine ⟨L, b, _, _, rfl, rfl, eL, .inl (.inl eb), ?_, ⟨_, rfl⟩, ?_, fun b o hb => ?_⟩
        · rw [nIs_len]
          show _ + (nIs (asIs p j)).length ≤ _
          rw [nIs_len]
          exact Nat.le_trans (show _ ≤ 248 by omega) (by decide)
        · rw [upd_same, fm_take (asIs p) hj]
          unfold nIs
          rw [List.map_append] <;> rfl
        · rw [upd_ne (ne_of_none hb nLH)]
          exact s1 _ _ hb
      obtain ⟨⟨y5, rfl⟩, eL, s1⟩ := hP
      rw [nIs_len, List.take_length] at eL
      have l1 : (ls.flatMap (asIs p)).length ≤ 30 * 8 := by
        have : ∀ m : List Nat, (m.flatMap (asIs p)).length ≤ m.length * 8 := fun m => by
          induction m with
          | nil => exact Nat.zero_le _
          | cons x r ih =>
            rw [List.flatMap_cons, List.length_append, List.length_cons, Nat.succ_mul]
            have := asc_len (sz p.t) ((pO p.t w0).2.fo.getD x [])
            unfold asIs at ih ⊢
            omega
        have h1 := this ls
        omega
      have l2 : (fst p).length ≤ 8 := Nat.le_trans (asc_len _ _) h8
      have lc : (come p isb ls).length ≤ 248 := by
        unfold come
        rw [List.length_append]
        split
        · omega
        · rw [List.length_nil]
          omega
      refine ⟨fun σ H2 => (∃ y5, σ = [some (.ref p.x), some (.ref a), some (.str (tx [c])), some (.bl isb), some (.ref L), y5, none]) ∧ H2 L = some (.lst (nIs (come p isb ls))) ∧ Same H H2, ?_, fun σ H2 hM => ?_⟩
      · have ext1 : ∀ DD : Ends, (isb || !p.l) = true → (∀ H2, H2 L = some (.lst (nIs (come p isb ls))) → Same H H2 → DD.nx [some (.ref p.x), some (.ref a), some (.str (tx [c])), some (.bl isb), some (.ref L), y5, none] H2) →
            (tDrop (tBM K "list" (rExtT K) (tVar 4) (tCons (tFld K (tVar 0) "first") tNil))) DD [some (.ref p.x), some (.ref a), some (.str (tx [c])), some (.bl isb), some (.ref L), y5, none] H3 := fun DD hb hDD => by
          refine ⟨_, rfl, Or.inl ⟨rfl, _, .inl (.inl eL)⟩, _, rfl, p.x, C, dx, _, _, rfl, s1 _ _ e1, TP.cl, TP.n7, rfl, L, fi, _, _, rfl, rfl, eL, .inl (.inl (s1 _ _ ef)), ?_, hDD _ ?_ fun b o hb => ?_⟩
          · rw [nIs_len]
            show _ + (nIs (fst p)).length ≤ _
            rw [nIs_len]
            exact Nat.le_trans (show _ ≤ 248 by omega) (by decide)
          · rw [upd_same]
            unfold come
            rw [hb, if_pos rfl]
            unfold nIs
            rw [List.map_append] <;> rfl
          · rw [upd_ne (ne_of_none hb nLH)]
            exact s1 _ _ hb
        have no1 : (isb || !p.l) = false → H3 L = some (.lst (nIs (come p isb ls))) := fun hb => by
          unfold come
          rw [hb, if_neg Bool.false_ne_true, List.append_nil]
          exact eL
        refine ⟨_, rfl, isb, rfl, ?_⟩
        cases isb with
        | true => exact iteT (iteT (ext1 _ rfl fun H2 e s2 => ⟨⟨_, rfl⟩, e, s2⟩))
        | false =>
          refine iteF ⟨_, rfl, p.x, C, dx, _, _, rfl, s1 _ _ e1, TP.cl, TP.n1, rfl, p.l, rfl, ?_⟩
          cases hl : p.l with
          | false => exact iteT (ext1 _ (by rw [hl]; rfl) fun H2 e s2 => ⟨⟨_, rfl⟩, e, s2⟩)
          | true => exact iteF ⟨⟨_, rfl⟩, no1 (by rw [hl]; rfl), s1⟩
      clear eL s1
      obtain ⟨⟨y5, rfl⟩, eL, s2⟩ := hM
      refine ⟨_, rfl, L, rfl, ⟨_, .inl (.inl eL)⟩, fun E2 hE => ?_⟩
      have nEL : E2 ≠ L := fun z => by
        rw [z, eL] at hE
        cases hE
      have nEH := s2.free hE
      have spl : (spts p.t).length = sz p.t := spts_sz p.t (by omega)
      refine lc_it (walk_list (K := K) (a := L) (xs := nIs (come p isb ls))) (fun i H4 => H4 E2 = some (.lst (nIs (((come p isb ls).take i).filter fun j => decide (c ∈ (spts p.t).getD j [])))) ∧ Same H2 H4)
        ⟨upd_same, smU hE⟩ (fun i H4 _ hP => .inl (.inl (hP.2 _ _ eL))) (fun i xi H4 H4' hi hP hy => ?_) (fun H4 hP => ?_)
      · obtain ⟨eE, s4⟩ := hP
        have s5 := s2.trans s4
        obtain ⟨rfl, hy⟩ := hy
        obtain ⟨j, hj, rfl⟩ := nIs_at hy
        have hjs : j < (spts p.t).length := by
          rw [spl]
          exact come_lt j (List.mem_of_getElem? hj)
        have eg : (spts p.t)[j]? = some ((spts p.t).getD j []) := by
          rw [List.getD_eq_getElem?_getD, List.getElem?_eq_getElem hjs] <;> rfl
        refine ⟨rfl, _, rfl, _, rfl, p.x, C, dx, _, _, rfl, s5 _ _ e1, TP.cl, TP.n6, rfl, _, rfl, pl, _, (j : Int), _, rfl, rfl, .inl (.inl (s5 _ _ ep)), atI_nat (j := j) (v := V.str (tx ((spts p.t).getD j []))) (by unfold nmV; rw [List.getElem?_map, eg] <;> rfl), c, _, rfl, rfl, _, rfl, ?_⟩
        have ht : ((come p isb ls).take (i + 1)).filter (fun j => decide (c ∈ (spts p.t).getD j [])) = ((come p isb ls).take i).filter (fun j => decide (c ∈ (spts p.t).getD j [])) ++ (if decide (c ∈ (spts p.t).getD j []) = true then [j] else []) := by
          rw [take_at hj, List.filter_append]
          congr 1
          rw [List.filter_cons, List.filter_nil]
        show if decide (c ∈ (spts p.t).getD j []) = true then _ else _
        cases hd : decide (c ∈ (spts p.t).getD j []) with
        | true =>
          refine iteT ⟨_, rfl, _, eE, ?_, ?_, fun b o e => ?_⟩
          · rw [nIs_len]
            have h1 := List.length_filter_le (fun j => decide (c ∈ (spts p.t).getD j [])) ((come p isb ls).take i)
            have h2 := List.length_take_le' i (come p isb ls)
            exact Nat.lt_of_le_of_lt (show _ ≤ 248 by omega) (by decide)
          · rw [upd_same, ht, hd, if_pos rfl]
            unfold nIs
            rw [List.map_append] <;> rfl
          · rw [upd_ne (ne_of_none e hE)]
            exact s4 _ _ e
        | false =>
          refine iteF ⟨?_, s4⟩
          rw [ht, hd, if_neg Bool.false_ne_true, List.append_nil]
          exact eE
      obtain ⟨eE, s4⟩ := hP
      rw [nIs_len, List.take_length] at eE
      have lf4 := List.length_filter_le (fun j => decide (c ∈ (spts p.t).getD j [])) (come p isb ls)
      refine ms_set (N := sz p.t) eE (fun i hi => come_lt i (List.mem_filter.mp hi).1) (by omega) (by omega) fun q H5 s45 nq eq => ?_
      rw [asc_filter] at eq
      replace eq : H5 q = some (.tup (nIs (found p c isb ls))) := eq
      have s5 := (s2.trans s4).trans s45
      have so : StaO K H5 (.ref q) (some (found p c isb ls)) := ⟨q, rfl, .inl (.inl (by rw [eq, staV_some]))⟩
      have lfo := (found_wi p c isb ls h8).1
      refine ⟨_, rfl, p.x, C, dx, _, _, rfl, s5 _ _ e1, TP.cl, TP.n3, rfl, p.r, rfl, ?_⟩
      cases hr : p.r with
      | true =>
        rw [hr] at fin
        exact iteF (iteF ⟨_, rfl, fin _ _ s5 so⟩)
      | false =>
        rw [hr] at fin
        replace fin : ∀ v' H', Same H H' → StaO K H' v' (if hasLast p (found p c isb ls) = true then none else some (found p c isb ls)) → Q v' H' := fin
        refine iteT ⟨_, rfl, q, rfl, ⟨_, .inl (.inl eq)⟩, fun D hD => ?_⟩
        generalize hfo : found p c isb ls = fo at fin eq so lfo
        refine lc_it (walk_tup (K := K) (a := q) (xs := nIs fo)) (fun i H6 => H6 D = some (.lst (((fo.take i).map fun j => decide (j ∈ lst p)).map V.bl)) ∧ Same H5 H6)
          ⟨upd_same, smU hD⟩ (fun i H6 _ hP => .inl (.inl (hP.2 _ _ eq))) (fun i xi H6 H6' hi hP hy => ?_) (fun H6 hP => ?_)
        · obtain ⟨eD, s6⟩ := hP
          obtain ⟨rfl, hxi⟩ := hy
          obtain ⟨j, hj, rfl⟩ := nIs_at hxi
          refine ⟨rfl, _, rfl, _, rfl, p.x, C, dx, _, _, rfl, s6 _ _ (s5 _ _ e1), TP.cl, TP.n8, rfl, la, _, rfl, .inr (.inl (.inl (s6 _ _ (s5 _ _ el)))), rfl, ?_, ?_⟩
          · exact List.all_eq_true.mpr fun y hy => by
              obtain ⟨m, _, rfl⟩ := List.mem_map.mp hy
              rfl
          refine ⟨_, eD, ?_, ?_, fun b o hb => ?_⟩
          · rw [List.length_map, List.length_map]
            have := List.length_take_le' i fo
            exact Nat.lt_of_le_of_lt (show _ ≤ 30 by omega) (by decide)
          · rw [upd_same, take_at hj, List.map_append, List.map_append, inI_dec] <;> rfl
          · rw [upd_ne (ne_of_none hb hD)]
            exact s6 _ _ hb
        · obtain ⟨eD, s6⟩ := hP
          rw [nIs_len, List.take_length] at eD
          refine ⟨D, _, rfl, .inl (.inl eD), ?_⟩
          have e9 : (fo.map fun j => decide (j ∈ lst p)).any id = hasLast p fo := by
            unfold hasLast
            rw [List.any_map] <;> rfl
          refine ⟨(fo.map fun j => decide (j ∈ lst p)).any id, rfl, ?_⟩
          rw [e9]
          cases hh : hasLast p fo with
          | true =>
            rw [hh] at fin
            refine iteT ⟨1, rfl, (show 1 ≤ sizeLine by decide), fun T1 n1 => ?_⟩
            exact fin _ _ ((s5.trans s6).trans (smU n1)) ⟨T1, rfl, .inl (.inl upd_same)⟩
          | false =>
            rw [hh] at fin
            exact iteF ⟨_, rfl, fin _ _ (s5.trans s6) (so.ki (KI.same s6))⟩
end
end Sq
/-! _law_next. -/
namespace Sq
open PySem PySem.Spec PyProof.Rows L2 Sf Sf4
def NLNx : List Str := ["_law_query", "_law_here", "_law_sound", "_law_found", "_law_is_begin", "_law_one", "_law_state_here"]
theorem scLNx : FnScope NLNx ["_law_query", "_law_here", "_law_sound"] (defScope sLNext) := ⟨rfl, rfl, rfl, by decide +kernel, rfl, by decide +kernel, by decide +kernel⟩
theorem sts_snoc {K : PySem.W.Frag} {H H' : Hp} {ws : List V} {ps qs : List Pi} {ss ts : List Sta} {i : Nat} {v : V} {p : Pi} {s : Sta} (h : StsO K H ws (ps.take i) (ss.take i)) (kk : KI H H') (hi : i < ps.length) (hs : i < ss.length) (hp : ps[i]? = some p) (ht : ss[i]? = some s) (hv : StaO K H' v s) (hw : Wi p s) :
    StsO K H' (ws ++ [v]) (ps.take (i + 1)) (ss.take (i + 1)) := by
  have hl3 : (ps.take i).length = i := by
    rw [List.length_take]
    omega
  have hlw := h.1
  rw [hl3] at hlw
  have hl2 := h.2.1
  rw [hl3] at hl2
  rw [take_atG hp, take_atG ht]
  refine ⟨by rw [List.length_append, List.length_append, h.1] <;> rfl, by rw [List.length_append, List.length_append, h.2.1] <;> rfl, fun j v5 p5 t5 h1 h2 h3 => ?_⟩
  by_cases hj : j < i
  · rw [List.getElem?_append_left (by omega)] at h1 h2 h3
    obtain ⟨z1, z2⟩ := h.2.2 j v5 p5 t5 h1 h2 h3
    exact ⟨z1.ki kk, z2⟩
  · rw [List.getElem?_append_right (by omega)] at h1 h2 h3
    have hj0 : j - i = 0 := by
      have := (List.getElem?_eq_some_iff.mp h1).1
      rw [hlw] at this
      have : j - i < 1 := this
      omega
    rw [hlw, hj0] at h1
    rw [hl3, hj0] at h2
    rw [hl2, hj0] at h3
    cases h1
    cases h2
    cases h3
    exact ⟨hv, hw⟩
theorem c94 (c : Nat) : decide (V.str (tx [c]) = V.str (Str.ofString "^")) = decide (c = 94) := by
  have : Str.ofString "^" = tx [94] := by decide +kernel
  rw [this]
  refine decide_eq_decide.mpr ⟨fun z => ?_, fun z => by rw [z]⟩
  have := tx_inj (V.str.inj z)
  exact (List.cons.inj this).1
section
variable {P : Program} {w : World} {K : PySem.W.Frag} {mg : Str → Option Value} {base : Heap} {CQ C aF fb : Addr} {f : Nat → Addr} {fd : Nat → FuncData} {db : FuncData} {tk : Nat → Tok} {pf : Nat → Addr} {pfd : Nat → FuncData} {tp : Nat → Tok} {gR gW : Addr} {dR dW : FuncData} {lf : Nat → Addr} {lfd : Nat → FuncData} {qf : Nat → Addr} {qfd : Nat → FuncData} {tq : Nat → Tok}
theorem ok_LNx (T : NoT K mg C aF f fd fb db tk) (TQ : QuT K mg CQ qf qfd tq) (TP : PatT K mg C pf pfd tp gR gW dR dW) (TL : LqT K mg lf lfd) : FnOk P w K mg base CX0 20 (lf 1) (lfd 1) ["_law_query", "_law_here", "_law_sound"] (spNx K CQ C) := by
  have GS := ok_LSB (P := P) (w := w) (base := base) T TP TL
  refine TL.nx.F.ok (k := 19) scLNx (fun vs H Q E h => ?_) (fun cdv A outer s H vs Q E hr h => ?_)
  · obtain ⟨x, q, v, c, c2, ss, rfl, _⟩ := h
    rfl
  · obtain ⟨x, q, v, c, c2, ss, rfl, qo, hn, ⟨n, sa, svs, rfl, hn2, hs, so⟩, fin⟩ := h
    refine ⟨_, pss_cons (ps_par (i := 3) (j := 4) rfl scLNx.nd rfl rfl (by decide) rfl rfl (pa_cons (pe_lst pa_nil) (pa_cons (pe_cmpR op_eq (pe_ix ix_tup (pv 1) pe_int (fun _ _ => rfl)) pe_str (nomark _)) pa_nil)) (by rfl))
      (pss_cons (ps_for PassesOwn.never rfl (RZ.pi_zipA (by rfl) TL.zzip (pa_cons (pe_fld (pv 0) rfl) (pa_cons (pe_ix ix_tup (pv 1) pe_int (fun _ _ => rfl)) pa_nil))) (pg_tup rfl (pgs_cons (pg_name (i := 5) scLNx.nd rfl (.inl rfl)) (pgs_cons (pg_name (i := 6) scLNx.nd rfl (.inl rfl)) pgs_nil)))
          (pss_one (ps_expr (pe_bm PySem.F.plainAttrs_list PySem.F.slot_list_append PySem.F.type_list_append mt_append (pv 3) (pa_cons (pe_call GS (hr.mono (by decide)) (by rfl) TL.sb.g TL.sb.F.kp TL.sb.b .nil pass0 (pa_cons (pv 5) (pa_cons (pv 6) (pa_cons (pv 2) (pa_cons (pv 4) pa_nil))))) pa_nil)))))
      (pss_one (ps_ret (pe_tup (pa_cons (pv 2) (pa_cons (pe_tupleOf (by rfl) TL.ztup (pv 3)) pa_nil)))))), ?_⟩
    obtain ⟨dx, v, pa, e1, ot, ep⟩ := id qo
    refine ⟨Nat.zero_le _, fun D nD => ⟨_, rfl, n, _, 0, _, rfl, rfl, hn2.ki (KI.same (smU nD)), atI_nat (j := 0) rfl, rfl, _, _, rfl, ?_⟩⟩
    have s0 := smU (o := HO.lst []) nD
    refine ⟨_, rfl, x, CQ, dx, _, _, rfl, s0 _ _ e1, TQ.cl, TQ.n2, rfl, _, rfl, n, _, 1, _, rfl, rfl, hn2.ki (KI.same s0), atI_nat (j := 1) rfl, pa, sa, _, svs, rfl, .inr ⟨.inl (.inl (s0 _ _ ep)), hs.ki (KI.same s0), ?_⟩⟩
    rw [c94]
    have els : (steps c2 (decide (c = 94)) (pats q) ss).length = (pats q).length := zw_len _ so.2.1
    refine for_it (walk_zipT (K := K) (a := pa) (b := sa) (xs := piV (pats q)) (ys := svs) (n := (pats q).length) (by rw [piV_len, so.1]; exact (Nat.min_self _).symm)) (fun i σ H1 => (∃ y5 y6, σ = [some (.ref x), some (.ref n), some (.str (tx [c2])), some (.ref D), some (.bl (decide (c = 94))), y5, y6]) ∧ ∃ ws, H1 D = some (.lst ws) ∧ Same H H1 ∧ StsO K H1 ws ((pats q).take i) ((steps c2 (decide (c = 94)) (pats q) ss).take i))
      ⟨⟨_, _, rfl⟩, [], upd_same, s0, rfl, rfl, fun i v p s h => by cases h⟩ (fun i σ H1 _ hP => ?_) (fun i xi σ H1 H1' hi hP hy => ?_) (fun σ H1 hP => ?_)
    · obtain ⟨_, ws, _, s1, _⟩ := hP
      exact ⟨.inl (.inl (s1 _ _ ep)), hs.ki (KI.same s1)⟩
    · obtain ⟨⟨y5, y6, rfl⟩, ws, eD, s1, hw⟩ := hP
      obtain ⟨T0, x0, y0, rfl, hT, rfl, hx, hy⟩ := hy
      obtain ⟨p, hp, rfl⟩ := piV_at hx
      obtain ⟨v1, p1, t1, g1, g2, g3, g4, g5⟩ := so.at hi
      obtain rfl : p1 = p := Option.some.inj (g2.symm.trans hp)
      obtain rfl : v1 = y0 := Option.some.inj (g1.symm.trans hy)
      have sT := smU (o := HO.tup [.ref p1.x, v1]) hT
      have s2 := s1.trans sT
      have pi1 := ot.pis p1 (List.mem_of_getElem? hp)
      refine ⟨T0, _, rfl, .inl (.inl upd_same), rfl, _, _, rfl, _, _, rfl, rfl, ?_⟩
      refine ⟨_, rfl, Or.inl ⟨rfl, _, .inl (.inl (sT _ _ eD))⟩, _, rfl, _, rfl, _, rfl, _, rfl, p1, v1, t1, c2, decide (c = 94), rfl, pi1.ki (KI.same s2), g4.ki (KI.same s2), g5, fun v' H3 s3 hv' => ?_⟩
      have hlw := hw.1
      rw [List.length_take, Nat.min_eq_left (Nat.le_of_lt hi)] at hlw
      have hwl : ws.length ≤ 100 := by omega
      have s13 := s2.trans s3
      have eD3 := s3 _ _ (sT _ _ eD)
      refine ⟨D, ws, v', rfl, rfl, eD3, Nat.lt_of_le_of_lt hwl (by decide), ⟨_, _, rfl⟩, ws ++ [v'], upd_same, fun b o hb => ?_, ?_⟩
      · rw [upd_ne (ne_of_none hb nD)]
        exact s13 _ _ hb
      refine sts_snoc (qs := []) (ts := []) hw ((KI.same (sT.trans s3)).trans (KI.wr eD3)) hi (by rw [els]; exact hi) hp ?_ (hv'.ki (KI.wr eD3)) (nxt_wi _ _ _ _ pi1.2.1)
      unfold steps
      rw [List.getElem?_zipWith, hp, g3] <;> rfl
    · obtain ⟨⟨y5, y6, rfl⟩, ws, eD, s1, hw⟩ := hP
      rw [List.take_length] at hw
      rw [← els, List.take_length] at hw
      refine ⟨_, rfl, _, rfl, .inl ⟨D, _, rfl, .inl (.inl eD), fun Tw nT => ⟨(show 2 ≤ sizeLine by decide), fun L nL => ?_⟩⟩⟩
      have u1 := smU (o := HO.tup ws) nT
      have u2 := smU (o := HO.tup [V.str (tx [c2]), .ref Tw]) nL
      exact fin _ _ (s1.trans (u1.trans u2)) ⟨L, Tw, ws, rfl, .inl (.inl upd_same), .inl (.inl (u2 _ _ upd_same)), hw.ki (KI.same (u1.trans u2))⟩
end
end Sq
/-! _law_so. -/
namespace Sq
open PySem PySem.Spec PyProof.Rows L2 Sf Sf4
/-- what the law asks of: the same trees, with whole trees (is_bound_left, tree, is_bound_right) at their ends -/
inductive AsO (H : Hp) : V → Qt → Prop
  | has {a b : Addr} {v : V} {p : Pi} : H a = some (.tup [.str hasW, .ref b]) → H b = some (.tup [.bl p.l, v, .bl p.r]) → TrO H v p.t → AsO H (.ref a) (.has p)
  | neg {a : Addr} {v : V} {q : Qt} : H a = some (.tup [.str notW, v]) → AsO H v q → AsO H (.ref a) (.neg q)
  | con {a : Addr} {u v : V} {p q : Qt} : H a = some (.tup [.str andW, u, v]) → AsO H u p → AsO H v q → AsO H (.ref a) (.con p q)
  | dis {a : Addr} {u v : V} {p q : Qt} : H a = some (.tup [.str orW, u, v]) → AsO H u p → AsO H v q → AsO H (.ref a) (.dis p q)
theorem AsO.ki {H H' : Hp} (k : KI H H') : ∀ {q : Qt} {v : V}, AsO H v q → AsO H' v q
  | .has p, _, h => by
    cases h with
    | has e1 e2 o => exact .has (k.kt _ _ e1) (k.kt _ _ e2) (o.mono k.kt)
  | .neg q, _, h => by
    cases h with
    | neg e o => exact .neg (k.kt _ _ e) (AsO.ki k o)
  | .con p q, _, h => by
    cases h with
    | con e o1 o2 => exact .con (k.kt _ _ e) (AsO.ki k o1) (AsO.ki k o2)
  | .dis p q, _, h => by
    cases h with
    | dis e o1 o2 => exact .dis (k.kt _ _ e) (AsO.ki k o1) (AsO.ki k o2)
def NLSo : List Str := ["_law_asked_here", "_law_patterns", "_law_states", "_law_pattern", "_law_state_here", "_law_place", "_law_one", "_law_other"]
theorem scLSo : FnScope NLSo ["_law_asked_here", "_law_patterns", "_law_states"] (defScope sLSo) := ⟨rfl, rfl, rfl, by decide +kernel, rfl, by decide +kernel, by decide +kernel⟩
/-- all but the lists at a and b stands -/
def K2L (a b : Addr) (H H' : Hp) : Prop := ∀ c o, c ≠ a → c ≠ b → H c = some o → H' c = some o
/-- the first patterns of the one list and the first states of the other are taken off -/
def spLSo (K : PySem.W.Frag) (C : Addr) (d : Nat) : Sp := fun vs H Q _ => ∃ (v : V) (q : Qt) (a b : Addr) (ps : List Pi) (ws : List V) (ss : List Sta), vs = [v, .ref a, .ref b] ∧ AsO H v q ∧ dpt q ≤ d ∧ a ≠ b ∧ H a = some (.lst (piV (pats q ++ ps))) ∧ H b = some (.lst ws) ∧ StsO K H ws (pats q ++ ps) ss ∧ (∀ p ∈ pats q, PiO C H p) ∧
  ∀ H', K2L a b H H' → H' a = some (.lst (piV ps)) → H' b = some (.lst (ws.drop (pats q).length)) → Q (.bl (tru q (ends (pats q ++ ps) ss))) H'
theorem K2L.ki {a b : Addr} {H H' : Hp} {xs ys : List V} (k : K2L a b H H') (h1 : H a = some (.lst xs)) (h2 : H b = some (.lst ys)) : KI H H' := fun c o e n _ => k c o (fun z => by
  rw [z, h1] at e
  cases e
  exact n _ rfl) (fun z => by
  rw [z, h2] at e
  cases e
  exact n _ rfl) e
theorem K2L.trans {a b : Addr} {H H1 H2 : Hp} (h : K2L a b H H1) (k : K2L a b H1 H2) : K2L a b H H2 := fun c o n1 n2 e => k c o n1 n2 (h c o n1 n2 e)
theorem K2L.same {a b : Addr} {H H1 : Hp} (h : Same H H1) : K2L a b H H1 := fun c o _ _ e => h c o e
theorem ends_drop (p : Qt) (ps : List Pi) (ss : List Sta) : (ends (pats p ++ ps) ss).drop (pats p).length = ends ps (ss.drop (pats p).length) := by
  unfold ends
  rw [List.drop_zipWith, List.drop_left]
theorem ends_app (ps qs : List Pi) (ss : List Sta) : (ends (ps ++ qs) ss).drop ps.length = ends qs (ss.drop ps.length) := by
  unfold ends
  rw [List.drop_zipWith, List.drop_left]
theorem StsO.drop {K : PySem.W.Frag} {H : Hp} {ws : List V} {ps : List Pi} {ss : List Sta} (h : StsO K H ws ps ss) (n : Nat) : StsO K H (ws.drop n) (ps.drop n) (ss.drop n) := by
  refine ⟨by rw [List.length_drop, List.length_drop, h.1], by rw [List.length_drop, List.length_drop, h.2.1], fun i v p s h1 h2 h3 => ?_⟩
  rw [List.getElem?_drop] at h1 h2 h3
  exact h.2.2 _ _ _ _ h1 h2 h3
section
variable {P : Program} {w : World} {K : PySem.W.Frag} {mg : Str → Option Value} {base : Heap} {CQ C aF fb : Addr} {f : Nat → Addr} {fd : Nat → FuncData} {db : FuncData} {tk : Nat → Tok} {pf : Nat → Addr} {pfd : Nat → FuncData} {tp : Nat → Tok} {gR gW : Addr} {dR dW : FuncData} {lf : Nat → Addr} {lfd : Nat → FuncData} {qf : Nat → Addr} {qfd : Nat → FuncData} {tq : Nat → Tok}
theorem ok_LSo1 (T : NoT K mg C aF f fd fb db tk) (TP : PatT K mg C pf pfd tp gR gW dR dW) (TL : LqT K mg lf lfd) {k d : Nat} {spA : Sp} (GA : FnOk P w K mg base CX0 k (lf 2) (lfd 2) ["_law_asked_here", "_law_patterns", "_law_states"] spA) (hA : ∀ e vs H Q E, e + 1 = d → spLSo K C e vs H Q E → spA vs H Q E) : FnOk P w K mg base CX0 (k + 1) (lf 2) (lfd 2) ["_law_asked_here", "_law_patterns", "_law_states"] (spLSo K C d) := by
  refine TL.so.F.ok scLSo (fun vs H Q E h => ?_) (fun cdv A outer s H vs Q E hr h => ?_)
  · obtain ⟨v, q, a, b, ps, ws, ss, rfl, _⟩ := h
    rfl
  · obtain ⟨v, q, a, b, ps, ws, ss, rfl, ho, hd, hab, ha, hb, so, pis, fin⟩ := h
    have hu := hr.units
    refine ⟨_, pss_cons (ps_if (pt_cmpR op_eq (pe_ix ix_tup (pv 0) pe_int (fun _ _ => rfl)) pe_str (nomark _))
          (pss_cons (ps_asg (pe_tup (pa_cons (pe_bm PySem.F.plainAttrs_list PySem.F.slot_list_pop PySem.F.type_list_pop mt_popAt (pv 1) (pa_cons pe_int pa_nil)) (pa_cons (pe_bm PySem.F.plainAttrs_list PySem.F.slot_list_pop PySem.F.type_list_pop mt_popAt (pv 2) (pa_cons pe_int pa_nil)) pa_nil))) (pg_tup rfl (pgs_cons (pg_name (i := 3) scLSo.nd rfl (.inr rfl)) (pgs_cons (pg_name (i := 4) scLSo.nd rfl (.inl rfl)) pgs_nil))))
          (pss_one (ps_ret (pe_or (pe_cmpR (op_eqD hu) (pv 4) (pe_tup (pa_cons (pe_un un_neg pe_int) pa_nil)) (nomark _)) (pe_one (pe_and (pe_fld (pv 3) rfl) (pe_one (pe_callB (cr_any rfl) (by rfl) TL.zany (by decide +kernel) (pa_cons (pe_lc (own := [("_law_place", 5)]) (g := gName 5) (tt := tYes) (te := tOp (rIn K false) (tVar 5) (tFld K (tVar 3) "last")) rfl scLSo.nd (pi_tup (pv 4)) (blkOk_by (N := NLSo) (sc := defScope sLSo) (by decide +kernel)) (fun _ _ _ _ _ => pg_name (i := 5) scLSo.nd rfl (Or.inl rfl)) (fun _ _ _ _ _ => pts_nil)
        (fun _ _ _ _ _ => pe_cmpR op_in_seq (pv 5) (pe_fld (pv 3) rfl) (by rfl))) pa_nil))))))))) pss_nil)
      (pss_cons (ps_if (pt_cmpR op_eq (pe_ix ix_tup (pv 0) pe_int (fun _ _ => rfl)) pe_str (nomark _))
          (pss_one (ps_ret (pe_not (pe_call GA hr (by rfl) TL.so.g TL.so.F.kp TL.so.b .nil pass0 (pa_cons (pe_ix ix_tup (pv 0) pe_int (fun _ _ => rfl)) (pa_cons (pv 1) (pa_cons (pv 2) pa_nil))))))) pss_nil)
      (pss_cons (ps_set (i := 6) scLSo.nd rfl (.inl rfl) (pe_call GA hr (by rfl) TL.so.g TL.so.F.kp TL.so.b .nil pass0 (pa_cons (pe_ix ix_tup (pv 0) pe_int (fun _ _ => rfl)) (pa_cons (pv 1) (pa_cons (pv 2) pa_nil)))))
      (pss_cons (ps_set (i := 7) scLSo.nd rfl (.inl rfl) (pe_call GA hr (by rfl) TL.so.g TL.so.F.kp TL.so.b .nil pass0 (pa_cons (pe_ix ix_tup (pv 0) pe_int (fun _ _ => rfl)) (pa_cons (pv 1) (pa_cons (pv 2) pa_nil)))))
      (pss_one (ps_ret (pe_ifExp (pt_cmpR op_eq (pe_ix ix_tup (pv 0) pe_int (fun _ _ => rfl)) pe_str (nomark _)) (pe_and (pv 6) (pe_one (pv 7))) (pe_or (pv 6) (pe_one (pv 7))))))))), ?_⟩
    have n1 : notW ≠ hasW := by decide +kernel
    have n2 : andW ≠ hasW := by decide +kernel
    have n3 : andW ≠ notW := by decide +kernel
    have n4 : orW ≠ hasW := by decide +kernel
    have n5 : orW ≠ notW := by decide +kernel
    have n6 : orW ≠ andW := by decide +kernel
    have t1 : decide (V.str hasW = V.str (Str.ofString "has")) = true := decide_eq_true rfl
    have t2 : decide (V.str notW = V.str (Str.ofString "not")) = true := decide_eq_true rfl
    have t3 : decide (V.str andW = V.str (Str.ofString "and")) = true := decide_eq_true rfl
    have m1 : decide (V.str notW = V.str (Str.ofString "has")) = false := decide_eq_false (wq n1)
    have m2 : decide (V.str andW = V.str (Str.ofString "has")) = false := decide_eq_false (wq n2)
    have m3 : decide (V.str andW = V.str (Str.ofString "not")) = false := decide_eq_false (wq n3)
    have m4 : decide (V.str orW = V.str (Str.ofString "has")) = false := decide_eq_false (wq n4)
    have m5 : decide (V.str orW = V.str (Str.ofString "not")) = false := decide_eq_false (wq n5)
    have m6 : decide (V.str orW = V.str (Str.ofString "and")) = false := decide_eq_false (wq n6)
    cases ho with
    | @has t b2 v p e eb o =>
      refine ⟨_, rfl, t, _, 0, _, rfl, rfl, .inl (.inl e), atI_nat (j := 0) rfl, rfl, _, rfl, ?_⟩
      rw [t1]
      have po := pis p List.mem_cons_self
      obtain ⟨w1, p1, s1, g1, g2, g3, g4, g5⟩ := so.at (i := 0) (Nat.zero_lt_succ _)
      cases g2
      obtain ⟨ws', rfl⟩ : ∃ r, ws = w1 :: r := by
        cases ws with
        | nil => cases g1
        | cons x r =>
          cases g1
          exact ⟨r, rfl⟩
      obtain ⟨ss', rfl⟩ : ∃ r, ss = s1 :: r := by
        cases ss with
        | nil => cases g3
        | cons x r =>
          cases g3
          exact ⟨r, rfl⟩
      have si : ∀ n : Nat, seqIndex? 0 (n + 1) = some 0 := fun n => by simp [seqIndex?]
      have hb2 : upd H a (.lst (piV ps)) b = some (.lst (w1 :: ws')) := (upd_ne (Ne.symm hab)).trans hb
      refine iteT ⟨_, rfl, Or.inl ⟨rfl, _, .inl (.inl ha)⟩, a, _, 0, 0, .ref p.x, rfl, rfl, ha, by decide, by decide, si _, rfl, _, rfl, Or.inl ⟨rfl, _, .inl (.inl hb2)⟩, b, _, 0, 0, w1, rfl, rfl, hb2, by decide, by decide, si _, rfl, (show 2 ≤ sizeLine by decide), fun T0 n0 => ?_⟩
      have k2 : K2L a b H (upd (upd H a (.lst (piV ps))) b (.lst ws')) := fun c o n1 n2 e => by
        rw [upd_ne n2, upd_ne n1]
        exact e
      have sT := smU (o := HO.tup [.ref p.x, w1]) n0
      have ea : upd (upd H a (.lst (piV ps))) b (.lst ws') a = some (.lst (piV ps)) := (upd_ne hab).trans upd_same
      have eb2 : upd (upd H a (.lst (piV ps))) b (.lst ws') b = some (.lst ws') := upd_same
      replace sT : Same (upd (upd H a (.lst (piV ps))) b (.lst ws')) (upd (upd (upd H a (.lst (piV ps))) b (.lst ws')) T0 (.tup [.ref p.x, w1])) := sT
      refine ⟨T0, _, rfl, .inl (.inl upd_same), rfl, _, _, rfl, _, _, rfl, rfl, ?_⟩
      have kk := k2.ki ha hb
      have fin2 : ∀ H', Same (upd (upd H a (.lst (piV ps))) b (.lst ws')) H' → Q (.bl (ended p s1)) H' := fun H' z => fin H' (k2.trans (K2L.same z)) (z _ _ ea) (z _ _ eb2)
      clear fin
      obtain ⟨z, rfl, hq⟩ := g4
      have hq2 := hq.ki (kk.trans (KI.same sT))
      have po2 := (po.ki kk).ki (KI.same sT)
      refine ⟨_, rfl, 1, rfl, (show 1 ≤ sizeLine by decide), fun T1 n1 => ?_⟩
      have s3 : Same (upd (upd (upd H a (.lst (piV ps))) b (.lst ws')) T0 (.tup [.ref p.x, .ref z])) (upd (upd (upd (upd H a (.lst (piV ps))) b (.lst ws')) T0 (.tup [.ref p.x, .ref z])) T1 (.tup [V.int (-1)])) := smU (o := HO.tup [V.int (-1)]) n1
      have hq3 := hq2.ki (KI.same s3)
      refine ⟨inD (staI s1), inD [-1], .tup hq3 (inD_dp _), .tup (.inl (.inl upd_same)) (inD_dp [-1]), inD_shaped _, inD_shaped _, _, rfl, ?_⟩
      rw [inD_eq, sta_found]
      have po3 := po2.ki (KI.same s3)
      replace s3 := sT.trans s3
      cases s1 with
      | none => exact iteT (fin2 _ s3)
      | some ls =>
        obtain ⟨⟨dx, tv, na, pl, fi, la, be, e1, _, _, _, _, el, _⟩, h8, _⟩ := po3
        refine iteF ⟨_, rfl, p.x, C, dx, _, _, rfl, e1, TP.cl, TP.n3, rfl, p.r, rfl, ?_⟩
        replace fin2 : ∀ H', Same (upd (upd H a (.lst (piV ps))) b (.lst ws')) H' → Q (.bl (p.r && hasLast p ls)) H' := fin2
        cases hpr : p.r with
        | false =>
          rw [hpr, Bool.false_and] at fin2
          exact iteF (fin2 _ s3)
        | true =>
          rw [hpr, Bool.true_and] at fin2
          rw [staV_some] at hq3
          refine iteT ⟨_, rfl, z, rfl, ⟨_, hq3⟩, fun D hD => ?_⟩
          have lfo := g5.1
          refine lc_it (walk_tup (K := K) (a := z) (xs := nIs ls)) (fun i H6 => H6 D = some (.lst (((ls.take i).map fun j => decide (j ∈ lst p)).map V.bl)) ∧ Same (upd (upd (upd (upd H a (.lst (piV ps))) b (.lst ws')) T0 (.tup [.ref p.x, .ref z])) T1 (.tup [V.int (-1)])) H6)
            ⟨upd_same, smU hD⟩ (fun i H6 _ hP => hq3.ki (KI.same hP.2)) (fun i xi H6 H6' hi hP hy => ?_) (fun H6 hP => ?_)
          · obtain ⟨eD, s6⟩ := hP
            obtain ⟨rfl, hxi⟩ := hy
            obtain ⟨j, hj, rfl⟩ := nIs_at hxi
            refine ⟨rfl, _, rfl, _, rfl, p.x, C, dx, _, _, rfl, s6 _ _ e1, TP.cl, TP.n8, rfl, la, _, rfl, .inr (.inl (.inl (s6 _ _ el))), rfl, ?_, ?_⟩
            · exact List.all_eq_true.mpr fun y hy => by
                obtain ⟨m, _, rfl⟩ := List.mem_map.mp hy
                rfl
            refine ⟨_, eD, ?_, ?_, fun b o hb => ?_⟩
            · rw [List.length_map, List.length_map]
              have := List.length_take_le' i ls
              exact Nat.lt_of_le_of_lt (show _ ≤ 30 by omega) (by decide)
            · rw [upd_same, take_at hj, List.map_append, List.map_append, inI_dec] <;> rfl
            · rw [upd_ne (ne_of_none hb hD)]
              exact s6 _ _ hb
          · obtain ⟨eD, s6⟩ := hP
            rw [nIs_len, List.take_length] at eD
            refine ⟨D, _, rfl, .inl (.inl eD), ?_⟩
            have e9 : (ls.map fun j => decide (j ∈ lst p)).any id = hasLast p ls := by
              unfold hasLast
              rw [List.any_map] <;> rfl
            show Q (V.bl ((ls.map fun j => decide (j ∈ lst p)).any id)) H6
            rw [e9]
            exact fin2 _ (s3.trans s6)
    | @neg t v q e o =>
      have hd1 : dpt q + 1 ≤ d := hd
      refine ⟨_, rfl, t, _, 0, _, rfl, rfl, .inl (.inl e), atI_nat (j := 0) rfl, rfl, _, rfl, ?_⟩
      rw [m1]
      refine iteF ⟨_, rfl, t, _, 0, _, rfl, rfl, .inl (.inl e), atI_nat (j := 0) rfl, rfl, _, rfl, ?_⟩
      rw [t2]
      refine iteT ⟨_, rfl, t, _, 1, _, rfl, rfl, .inl (.inl e), atI_nat (j := 1) rfl, _, rfl, _, rfl, ?_⟩
      exact hA (d - 1) _ _ _ _ (by omega) ⟨v, q, a, b, ps, ws, ss, rfl, o, by omega, hab, ha, hb, so, pis, fun H1 k1 ea eb => ⟨_, rfl, fin H1 k1 ea eb⟩⟩
    | @con t u v p q e o1 o2 =>
      have hd1 : max (dpt p) (dpt q) + 1 ≤ d := hd
      have ep : pats (.con p q) ++ ps = pats p ++ (pats q ++ ps) := List.append_assoc ..
      have el : (pats (.con p q)).length = (pats p).length + (pats q).length := List.length_append ..
      rw [ep] at ha so fin
      refine ⟨_, rfl, t, _, 0, _, rfl, rfl, .inl (.inl e), atI_nat (j := 0) rfl, rfl, _, rfl, ?_⟩
      rw [m2]
      refine iteF ⟨_, rfl, t, _, 0, _, rfl, rfl, .inl (.inl e), atI_nat (j := 0) rfl, rfl, _, rfl, ?_⟩
      rw [m3]
      refine iteF ⟨_, rfl, t, _, 1, _, rfl, rfl, .inl (.inl e), atI_nat (j := 1) rfl, _, rfl, _, rfl, ?_⟩
      refine hA (d - 1) _ _ _ _ (by omega) ⟨u, p, a, b, pats q ++ ps, ws, ss, rfl, o1, by omega, hab, ha, hb, so, fun x hx => pis x (List.mem_append.mpr (.inl hx)), fun H1 k1 ea1 eb1 => ?_⟩
      have ki1 := k1.ki ha hb
      have e2 := ki1.kt _ _ e
      have so1 := (so.ki ki1).drop (pats p).length
      rw [List.drop_left] at so1
      refine ⟨_, rfl, t, _, 2, _, rfl, rfl, .inl (.inl e2), atI_nat (j := 2) rfl, _, rfl, _, rfl, ?_⟩
      refine hA (d - 1) _ _ _ _ (by omega) ⟨v, q, a, b, ps, _, _, rfl, o2.ki ki1, by omega, hab, ea1, eb1, so1, fun x hx => (pis x (List.mem_append.mpr (.inr hx))).ki ki1, fun H2 k2 ea2 eb2 => ?_⟩
      have ki2 := k2.ki ea1 eb1
      refine ⟨_, rfl, t, _, 0, _, rfl, rfl, .inl (.inl (ki2.kt _ _ e2)), atI_nat (j := 0) rfl, rfl, _, rfl, ?_⟩
      rw [t3]
      have et : tru (.con p q) (ends (pats p ++ (pats q ++ ps)) ss) = (tru p (ends (pats p ++ (pats q ++ ps)) ss) && tru q (ends (pats q ++ ps) (ss.drop (pats p).length))) := by
        rw [← ends_app] <;> rfl
      rw [List.drop_drop] at eb2
      rw [et, el] at fin
      have fin2 := fin H2 (k1.trans k2) ea2 eb2
      refine iteT ⟨_, rfl, _, rfl, ?_⟩
      generalize tru p (ends (pats p ++ (pats q ++ ps)) ss) = z at fin2 ⊢
      cases z with
      | true => exact iteT ⟨_, rfl, fin2⟩
      | false => exact iteF fin2
    | @dis t u v p q e o1 o2 =>
      have hd1 : max (dpt p) (dpt q) + 1 ≤ d := hd
      have ep : pats (.dis p q) ++ ps = pats p ++ (pats q ++ ps) := List.append_assoc ..
      have el : (pats (.dis p q)).length = (pats p).length + (pats q).length := List.length_append ..
      rw [ep] at ha so fin
      refine ⟨_, rfl, t, _, 0, _, rfl, rfl, .inl (.inl e), atI_nat (j := 0) rfl, rfl, _, rfl, ?_⟩
      rw [m4]
      refine iteF ⟨_, rfl, t, _, 0, _, rfl, rfl, .inl (.inl e), atI_nat (j := 0) rfl, rfl, _, rfl, ?_⟩
      rw [m5]
      refine iteF ⟨_, rfl, t, _, 1, _, rfl, rfl, .inl (.inl e), atI_nat (j := 1) rfl, _, rfl, _, rfl, ?_⟩
      refine hA (d - 1) _ _ _ _ (by omega) ⟨u, p, a, b, pats q ++ ps, ws, ss, rfl, o1, by omega, hab, ha, hb, so, fun x hx => pis x (List.mem_append.mpr (.inl hx)), fun H1 k1 ea1 eb1 => ?_⟩
      have ki1 := k1.ki ha hb
      have e2 := ki1.kt _ _ e
      have so1 := (so.ki ki1).drop (pats p).length
      rw [List.drop_left] at so1
      refine ⟨_, rfl, t, _, 2, _, rfl, rfl, .inl (.inl e2), atI_nat (j := 2) rfl, _, rfl, _, rfl, ?_⟩
      refine hA (d - 1) _ _ _ _ (by omega) ⟨v, q, a, b, ps, _, _, rfl, o2.ki ki1, by omega, hab, ea1, eb1, so1, fun x hx => (pis x (List.mem_append.mpr (.inr hx))).ki ki1, fun H2 k2 ea2 eb2 => ?_⟩
      have ki2 := k2.ki ea1 eb1
      refine ⟨_, rfl, t, _, 0, _, rfl, rfl, .inl (.inl (ki2.kt _ _ e2)), atI_nat (j := 0) rfl, rfl, _, rfl, ?_⟩
      rw [m6]
      have et : tru (.dis p q) (ends (pats p ++ (pats q ++ ps)) ss) = (tru p (ends (pats p ++ (pats q ++ ps)) ss) || tru q (ends (pats q ++ ps) (ss.drop (pats p).length))) := by
        rw [← ends_app] <;> rfl
      rw [List.drop_drop] at eb2
      rw [et, el] at fin
      have fin2 := fin H2 (k1.trans k2) ea2 eb2
      refine iteF ⟨_, rfl, _, rfl, ?_⟩
      generalize tru p (ends (pats p ++ (pats q ++ ps)) ss) = z at fin2 ⊢
      cases z with
      | true => exact iteT fin2
      | false => exact iteF ⟨_, rfl, fin2⟩
theorem ok_LSo (T : NoT K mg C aF f fd fb db tk) (TP : PatT K mg C pf pfd tp gR gW dR dW) (TL : LqT K mg lf lfd) : ∀ d, FnOk P w K mg base CX0 (1 + d) (lf 2) (lfd 2) ["_law_asked_here", "_law_patterns", "_law_states"] (spLSo K C d)
  | 0 => ok_LSo1 T TP TL (k := 0) (d := 0) ok_noQ (fun e _ _ _ _ h => by omega)
  | d + 1 => (ok_LSo1 T TP TL (k := 1 + d) (ok_LSo T TP TL d) (fun e _ _ _ _ h q => by
      obtain rfl : e = d := by omega
      exact q)).mono (by omega)
end
end Sq
/-! _law_asked. -/
namespace Sq
open PySem PySem.Spec PyProof.Rows L2 Sf Sf4
/-- the i-th of vs is the i-th of qs -/
def AllO {α : Type} (R : V → α → Prop) (vs : List V) (qs : List α) : Prop := vs.length = qs.length ∧ ∀ (i : Nat) (v : V) (q : α), vs[i]? = some v → qs[i]? = some q → R v q
theorem AllO.nil {α : Type} {R : V → α → Prop} : AllO R [] ([] : List α) := ⟨rfl, fun i v q h => by cases h⟩
theorem AllO.mono {α : Type} {R S : V → α → Prop} {vs : List V} {qs : List α} (h : AllO R vs qs) (k : ∀ v q, R v q → S v q) : AllO S vs qs := ⟨h.1, fun i v q h1 h2 => k v q (h.2 i v q h1 h2)⟩
theorem AllO.snoc {α : Type} {R : V → α → Prop} {vs : List V} {qs : List α} {v : V} {q : α} (h : AllO R vs qs) (r : R v q) : AllO R (vs ++ [v]) (qs ++ [q]) := by
  refine ⟨by rw [List.length_append, List.length_append, h.1] <;> rfl, fun i u k h1 h2 => ?_⟩
  by_cases hi : i < vs.length
  · rw [List.getElem?_append_left hi] at h1
    rw [List.getElem?_append_left (by rw [← h.1]; exact hi)] at h2
    exact h.2 i u k h1 h2
  · rw [List.getElem?_append_right (by omega)] at h1
    rw [List.getElem?_append_right (by rw [← h.1]; omega)] at h2
    have hj0 : i - vs.length = 0 := by
      have := (List.getElem?_eq_some_iff.mp h1).1
      have : i - vs.length < 1 := this
      omega
    rw [← h.1, hj0] at h2
    rw [hj0] at h1
    cases h1
    cases h2
    exact r
theorem snoc_of {α : Type} {l : List α} (h : l ≠ []) : ∃ l0 x, l = l0 ++ [x] := ⟨l.dropLast, l.getLast h, (List.dropLast_concat_getLast h).symm⟩
theorem AllO.pop {α : Type} {R : V → α → Prop} {vs : List V} {qs : List α} {q : α} (h : AllO R vs (qs ++ [q])) : ∃ vs0 v, vs = vs0 ++ [v] ∧ AllO R vs0 qs ∧ R v q := by
  have hl := h.1
  rw [List.length_append, List.length_singleton] at hl
  obtain ⟨vs0, v, rfl⟩ := snoc_of (l := vs) (fun z => by rw [z] at hl; simp at hl)
  rw [List.length_append, List.length_singleton] at hl
  have hl2 : vs0.length = qs.length := by omega
  refine ⟨vs0, v, rfl, ⟨hl2, fun i u k h1 h2 => ?_⟩, ?_⟩
  · have hi := (List.getElem?_eq_some_iff.mp h1).1
    refine h.2 i u k ?_ ?_
    · rw [List.getElem?_append_left hi]
      exact h1
    · rw [List.getElem?_append_left (by omega)]
      exact h2
  · refine h.2 vs0.length v q ?_ ?_
    · rw [List.getElem?_append_right (Nat.le_refl _), Nat.sub_self] <;> rfl
    · rw [hl2, List.getElem?_append_right (Nat.le_refl _), Nat.sub_self] <;> rfl
theorem last_at {α : Type} (l : List α) (x : α) : (l ++ [x])[(l ++ [x]).length - 1]? = some x := by
  rw [List.length_append, List.length_singleton, Nat.add_sub_cancel, List.getElem?_append_right (Nat.le_refl _), Nat.sub_self] <;> rfl
/-- a drawn whole expression -/
structure Askd (M : Nat) (p : Pi) : Prop where
  z : p.Z = wstr p.l p.t p.r
  n : p.nm = nms p.t
  e : nms p.t = []
  d : Dr 3 p.t
  s : sz p.t ≤ M
  l : (prn p.t).length ≤ 50
theorem Askd.len {M : Nat} {p : Pi} (h : Askd M p) : p.Z.length ≤ 52 := by
  have := h.l
  rw [h.z]
  unfold wstr
  rw [List.length_append, List.length_append]
  cases p.l <;> cases p.r <;> simp only [if_true, if_false, Bool.false_eq_true, List.length_cons, List.length_nil] <;> omega
def WhO (H : Hp) (v : V) (p : Pi) : Prop := ∃ b u, v = .ref b ∧ H b = some (.tup [.bl p.l, u, .bl p.r]) ∧ TrO H u p.t
theorem WhO.ki {H H' : Hp} {v : V} {p : Pi} (k : KI H H') (h : WhO H v p) : WhO H' v p := by
  obtain ⟨b, u, rfl, e, o⟩ := h
  exact ⟨b, u, rfl, k.kt _ _ e, o.mono k.kt⟩
/-- not too long, not too deep -/
structure Wt (q : Qt) : Prop where
  n : 1 ≤ (pats q).length
  l : (shw q).length + 15 ≤ 69 * (pats q).length
  d : dpt q + 2 ≤ 2 * (pats q).length
theorem wt_has {M : Nat} {p : Pi} (h : Askd M p) : Wt (.has p) := by
  have := h.len
  refine ⟨Nat.le_refl _, ?_, Nat.le_refl _⟩
  show (p.Z ++ [47]).length + 1 + 15 ≤ 69
  rw [List.length_append, List.length_singleton]
  omega
theorem len_neg (q : Qt) : (shw (.neg q)).length ≤ (shw q).length + 6 := by
  show ([110, 111, 116, 32] ++ grp (decide (wordQ q ∈ [andW, orW])) (shw q)).length ≤ _
  rw [List.length_append]
  have := grp_len (decide (wordQ q ∈ [andW, orW])) (shw q)
  simp only [List.length_cons, List.length_nil]
  omega
theorem len_con (p q : Qt) : (shw (.con p q)).length ≤ (shw p).length + (shw q).length + 9 := by
  show (grp (decide (wordQ p ∈ [orW])) (shw p) ++ [32, 97, 110, 100, 32] ++ grp (decide (wordQ q ∈ [orW])) (shw q)).length ≤ _
  rw [List.length_append, List.length_append]
  have := grp_len (decide (wordQ p ∈ [orW])) (shw p)
  have := grp_len (decide (wordQ q ∈ [orW])) (shw q)
  simp only [List.length_cons, List.length_nil]
  omega
theorem len_dis (p q : Qt) : (shw (.dis p q)).length ≤ (shw p).length + (shw q).length + 9 := by
  show (shw p ++ [32, 111, 114, 32] ++ shw q).length ≤ _
  rw [List.length_append, List.length_append]
  simp only [List.length_cons, List.length_nil]
  omega
theorem pats_con (p q : Qt) : (pats (.con p q)).length = (pats p).length + (pats q).length := List.length_append ..
theorem pats_dis (p q : Qt) : (pats (.dis p q)).length = (pats p).length + (pats q).length := List.length_append ..
/-- joined, and room for one more "not" -/
structure WtJ (q : Qt) : Prop where
  n : 1 ≤ (pats q).length
  l : (shw q).length + 21 ≤ 69 * (pats q).length
  d : dpt q + 3 ≤ 2 * (pats q).length
theorem wt_con {p q : Qt} (h : Wt p) (k : Wt q) : WtJ (.con p q) := by
  obtain ⟨a1, a2, a3⟩ := h
  obtain ⟨b1, b2, b3⟩ := k
  have e := pats_con p q
  have f := len_con p q
  refine ⟨by omega, by omega, ?_⟩
  show max (dpt p) (dpt q) + 1 + 3 ≤ _
  omega
theorem wt_dis {p q : Qt} (h : Wt p) (k : Wt q) : WtJ (.dis p q) := by
  obtain ⟨a1, a2, a3⟩ := h
  obtain ⟨b1, b2, b3⟩ := k
  have e := pats_dis p q
  have f := len_dis p q
  refine ⟨by omega, by omega, ?_⟩
  show max (dpt p) (dpt q) + 1 + 3 ≤ _
  omega
theorem WtJ.wt {q : Qt} (h : WtJ q) : Wt q := ⟨h.n, by have := h.l; omega, by have := h.d; omega⟩
theorem WtJ.neg {q : Qt} (h : WtJ q) : Wt (.neg q) := by
  obtain ⟨a1, a2, a3⟩ := h
  have f := len_neg q
  have e : (pats (.neg q)).length = (pats q).length := rfl
  refine ⟨a1, by omega, ?_⟩
  show dpt q + 1 + 2 ≤ 2 * (pats q).length
  omega
theorem sum_le {M : Nat} : ∀ {ps : List Pi}, (∀ p ∈ ps, Askd M p) → (szs ps).sum ≤ ps.length * M
  | [], _ => Nat.zero_le _
  | p :: r, h => by
    show sz p.t + (szs r).sum ≤ (r.length + 1) * M
    have h1 := (h p List.mem_cons_self).s
    have h2 := sum_le (M := M) (ps := r) fun x hx => h x (List.mem_cons_of_mem _ hx)
    rw [Nat.succ_mul]
    omega
theorem fit_of {m : Nat} {q : Qt} (hm : 1 ≤ m ∧ m ≤ 3) (hn : (pats q).length ≤ m) (hl : (shw q).length ≤ 200) (hd : dpt q ≤ 8) (h : ∀ p ∈ pats q, Askd (8 / m) p) : Fit q := by
  refine ⟨hd, by omega, ?_, hl⟩
  have h1 := sum_le h
  have h2 : (pats q).length * (8 / m) ≤ m * (8 / m) := Nat.mul_le_mul_right _ hn
  have h3 : m * (8 / m) ≤ 8 := Nat.mul_div_le 8 m
  omega
theorem kp_none {p b : Addr} {H H' : Hp} {n : Int} (k : Kp p H H') (hp : Pot H' p n) (hb : H' b = none) : H b = none := by
  cases e : H b with
  | none => rfl
  | some o =>
    by_cases z : b = p
    · obtain ⟨_, _, _, e2, _⟩ := hp
      rw [← z, hb] at e2
      cases e2
    · rw [k b o z e] at hb
      cases hb
theorem kp_wr {p S : Addr} {H H' : Hp} {o : HO} (k : Kp p H H') (h0 : H S = none) : Kp p H (upd H' S o) := fun b u n e => by
  rw [upd_ne (ne_of_none e h0)]
  exact k b u n e
def spAsk : Sp := fun vs H Q _ => ∃ (p : Addr) (n : Int) (L : List Nat) (m : Nat), vs = [.ref p, .str (tx L), .int ((8 : Nat) : Int), .int (m : Int)] ∧ 1 ≤ m ∧ m ≤ 3 ∧ Pot H p n ∧ n + 4000 < 1000000 ∧ L ≠ [] ∧ L.length ≤ 38 ∧ (∀ c ∈ L, c ∈ LETc) ∧
  ∀ v q H', AsO H' v q → (∀ x ∈ pats q, Askd (8 / m) x) → 1 ≤ (pats q).length → Fit q → Pot H' p (n + 4000) → Kp p H H' → Q v H'
def NAsk : List Str := ["_law_pot_here", "_law_letters", "_law_most", "_law_many", "_law_wholes", "_law_turn", "_law_some", "_law_whole_here", "_law_one", "_law_other"]
theorem scAsk : FnScope NAsk ["_law_pot_here", "_law_letters", "_law_most", "_law_many"] (defScope sLAsked) := ⟨rfl, rfl, rfl, by decide +kernel, rfl, by decide +kernel, by decide +kernel⟩
section
variable {P : Program} {w : World} {K : PySem.W.Frag} {mg : Str → Option Value} {base : Heap} {f : Nat → Addr} {fd : Nat → FuncData} {lf : Nat → Addr} {lfd : Nat → FuncData}
theorem ok_ask (L0 : LawT K mg f fd) (TL : LqT K mg lf lfd) : FnOk P w K mg base CX0 11 (lf 4) (lfd 4) ["_law_pot_here", "_law_letters", "_law_most", "_law_many"] spAsk := by
  have GD := law_draw (P := P) (w := w) (base := base) L0
  have GA := law_any (P := P) (w := w) (base := base) L0
  have GW := ok_wholeL (P := P) (w := w) (base := base) L0
  refine TL.ask.F.ok (k := 10) scAsk (fun vs H Q E h => ?_) (fun cdv A outer s H vs Q E hr h => ?_)
  · obtain ⟨p, n, L, m, rfl, _⟩ := h
    rfl
  · obtain ⟨p, n, L, m, rfl, hm1, hm3, hp, hn, hL, hL2, hL3, fin⟩ := h
    refine ⟨_, Evl.pss_cut (ps_setLc (i := 4) (own := [("_law_turn", 5)]) (g := gName 5) (tt := tYes) rfl scAsk.nd rfl rfl (sw_true rfl rfl rfl (by decide +kernel))
          (pi_range1 rfl L0.zrange (pa_cons (pe_op op_add pe_int (pe_call GD (hr.mono (by decide)) (by rfl) L0.draw.g L0.draw.F.kp L0.draw.b .nil pass0 (pa_cons (pv 0) (pa_cons (pv 3) pa_nil)))) pa_nil)) (blkOk_by (N := NAsk) (sc := defScope sLAsked) (by decide +kernel))
          (te := tCall spWholeL [] E0 (tCons (tVar 0) (tCons (tVar 1) (tCons (tOp (fun x y H Q => ∃ n m : Nat, x = .int (n : Int) ∧ y = .int (m : Int) ∧ (1 ≤ m ∧ m < 1073741824) ∧ Q (.int ((n / m : Nat) : Int)) H) (tVar 2) (tVar 3)) (tCons (tLst tNil) tNil)))))
          (fun _ _ _ _ _ => pg_name (i := 5) scAsk.nd rfl (Or.inl rfl)) (fun _ _ _ _ _ => pts_nil) (fun _ _ _ _ _ => pe_call GW (hr.mono (by decide)) (by rfl) L0.whole.g L0.whole.F.kp L0.whole.b .nil pass0 (pa_cons (pv 0) (pa_cons (pv 1) (pa_cons (pe_op op_fdivNN (pv 2) (pv 3)) (pa_cons (pe_lst pa_nil) pa_nil))))))
      (Evl.pss_cut (ps_setLc (i := 6) (own := [("_law_whole_here", 7)]) (g := gName 7) (tt := tYes) (te := tTup (tCons (tC (.str (Str.ofString "has"))) (tCons (tVar 7) tNil))) rfl scAsk.nd rfl rfl (sw_true rfl rfl rfl (by decide +kernel)) (pi_list (pv 4)) (blkOk_by (N := NAsk) (sc := defScope sLAsked) (by decide +kernel))
          (fun _ _ _ _ _ => pg_name (i := 7) scAsk.nd rfl (Or.inl rfl)) (fun _ _ _ _ _ => pts_nil) (fun _ _ _ _ _ => pe_tup (pa_cons pe_str (pa_cons (pv 7) pa_nil))))
      (Evl.pss_cut (ps_while PassesOwn.never (pt_cmpR op_gt (pe_callB call_len_seq (by rfl) L0.zlen PySem.boot_len (pa_cons (pv 6) pa_nil)) pe_int (nomark _))
          (pss_cons (ps_par (i := 8) (j := 9) rfl scAsk.nd rfl rfl (by decide) rfl rfl (pa_cons (pe_bm0 PySem.F.plainAttrs_list PySem.F.slot_list_pop PySem.F.type_list_pop mt_pop (pv 6)) (pa_cons (pe_bm0 PySem.F.plainAttrs_list PySem.F.slot_list_pop PySem.F.type_list_pop mt_pop (pv 6)) pa_nil)) (by rfl))
          (pss_cons (ps_expr (pe_bm PySem.F.plainAttrs_list PySem.F.slot_list_append PySem.F.type_list_append mt_append (pv 6) (pa_cons (pe_tup (pa_cons (pe_call GA (hr.mono (by decide)) (by rfl) L0.any.g L0.any.F.kp L0.any.b .nil pass0 (pa_cons (pv 0) (pa_cons (pe_lst (pa_cons pe_str (pa_cons pe_str pa_nil))) pa_nil))) (pa_cons (pv 9) (pa_cons (pv 8) pa_nil)))) pa_nil)))
          (pss_one (ps_if (pt_cmpR op_eq (pe_call GD (hr.mono (by decide)) (by rfl) L0.draw.g L0.draw.F.kp L0.draw.b .nil pass0 (pa_cons (pv 0) (pa_cons pe_int pa_nil))) pe_int (nomark _))
              (pss_one (ps_expr (pe_bm PySem.F.plainAttrs_list PySem.F.slot_list_append PySem.F.type_list_append mt_append (pv 6) (pa_cons (pe_tup (pa_cons pe_str (pa_cons (pe_bm0 PySem.F.plainAttrs_list PySem.F.slot_list_pop PySem.F.type_list_pop mt_pop (pv 6)) pa_nil))) pa_nil)))) pss_nil)))))
      (pss_one (ps_ret (pe_ifExp (pt_cmpR op_eq (pe_call GD (hr.mono (by decide)) (by rfl) L0.draw.g L0.draw.F.kp L0.draw.b .nil pass0 (pa_cons (pv 0) (pa_cons pe_int pa_nil))) pe_int (nomark _))
          (pe_tup (pa_cons pe_str (pa_cons (pe_ix ix_list (pv 6) pe_int (fun _ _ => rfl)) pa_nil))) (pe_ix ix_list (pv 6) pe_int (fun _ _ => rfl))))))), ?_⟩
    have hM2 : 2 ≤ 8 / m := (Nat.le_div_iff_mul_le (by omega)).mpr (by omega)
    have hM24 : 8 / m ≤ 24 := Nat.le_trans (Nat.div_le_self 8 m) (by decide)
    refine ⟨fun σ H1 => ∃ W vs ps, σ = [some (.ref p), some (.str (tx L)), some (.int ((8 : Nat) : Int)), some (.int (m : Int)), some (.ref W), none, none, none, none, none] ∧ H1 W = some (.lst vs) ∧ AllO (WhO H1) vs ps ∧ (∀ x ∈ ps, Askd (8 / m) x) ∧ 1 ≤ ps.length ∧ ps.length ≤ m ∧ Pot H1 p (n + 3950) ∧ Kp p H H1, ?_, fun σ H1 hM => ?_⟩
    · refine ⟨.ref p, rfl, .int (m : Int), rfl, p, n, (m : Int), rfl, hp, by omega, by omega, by omega, fun r H1 r0 r1 hp1 k1 => ⟨1, r, rfl, rfl, _, rfl, by omega, by omega, fun D hD => ?_⟩⟩
      obtain ⟨j, rfl⟩ := Int.eq_ofNat_of_zero_le r0
      rw [show (1 + (j : Int)).toNat = 1 + j by omega]
      have nDp := hp1.ne hD
      have hD0 := kp_none k1 hp1 hD
      refine lc_it (walk_range (lo := 0) (n := 1 + j)) (fun i H3 => ∃ vs ps, H3 D = some (.lst vs) ∧ AllO (WhO H3) vs ps ∧ ps.length = i ∧ (∀ x ∈ ps, Askd (8 / m) x) ∧ Pot H3 p (n + 1 + 1300 * (i : Int)) ∧ Kp p H H3)
        ⟨[], [], upd_same, .nil, rfl, (fun _ h => nomatch h), (hp1.up hD).mono (by omega), kp_wr k1 hD0⟩ (fun _ _ _ _ => True.intro) (fun i xi H3 H3' hi hP hy => ?_) (fun H3 hP => ?_)
      · obtain ⟨vs, ps, eD, al, hpl, hask, hp3, k3⟩ := hP
        obtain ⟨rfl, rfl⟩ := hy
        refine ⟨rfl, .ref p, rfl, _, rfl, _, rfl, _, rfl, 8, m, rfl, rfl, ⟨hm1, by omega⟩, Nat.zero_le _, fun ql nq => ⟨p, ql, _, L, [], 8 / m, rfl, hM2, hM24, hp3.up nq, by omega, upd_same, (fun _ h => nomatch h), (hp3.ne nq).symm, hL, hL2, hL3, fun a v t l r H4 nm' ea ht dt hs h50 en hp4 k4 => ?_⟩⟩
        have k34 : Kp p H3' H4 := fun b o nb hb => k4 b o nb (ne_of_none hb nq) (smU nq _ _ hb)
        have eD4 := k34 D _ nDp eD
        have hl := al.1
        have en0 : nms t = [] := by
          cases hh : nms t with
          | nil => rfl
          | cons x y =>
            rw [hh] at en
            cases en
        have kk : KI H3' (upd H4 D (.lst (vs ++ [V.ref a]))) := (KI.kp hp3 k34).trans (KI.wr eD4)
        refine ⟨vs, eD4, Nat.lt_of_le_of_lt (show vs.length ≤ 10 by omega) (by decide), vs ++ [.ref a], ps ++ [⟨0, wstr l t r, l, t, r, nms t⟩], upd_same, (al.mono fun v q h => h.ki kk).snoc (WhO.ki (KI.wr eD4) ⟨a, v, rfl, ea, ht⟩), by rw [List.length_append, hpl] <;> rfl, fun x hx => ?_, (hp4.wr nDp).mono (by omega), kp_wr (k3.trans k34) hD0⟩
        rcases List.mem_append.mp hx with z | z
        · exact hask x z
        · rw [List.mem_singleton.mp z]
          exact ⟨rfl, rfl, en0, dt, hs, h50⟩
      · obtain ⟨vs, ps, eD, al, hpl, hask, hp3, k3⟩ := hP
        exact ⟨D, vs, ps, rfl, eD, al, hask, by omega, by omega, hp3.mono (by omega), k3⟩
    obtain ⟨W, vs, ps, rfl, eW, al, hask, hps1, hps2, hp1, k1⟩ := hM
    have hvl := al.1
    refine ⟨fun σ H2 => ∃ S us, σ = [some (.ref p), some (.str (tx L)), some (.int ((8 : Nat) : Int)), some (.int (m : Int)), some (.ref W), none, some (.ref S), none, none, none] ∧ H2 S = some (.lst us) ∧ AllO (AsO H2) us (ps.map .has) ∧ S ≠ p ∧ H S = none ∧ Pot H2 p (n + 3950) ∧ Kp p H H2, ?_, fun σ H2 hM => ?_⟩
    · refine ⟨_, rfl, W, rfl, ⟨_, .inl (.inl eW)⟩, fun D hD => ?_⟩
      refine lc_it (walk_list (K := K) (a := W) (xs := vs)) (fun i H3 => ∃ us, H3 D = some (.lst us) ∧ AllO (AsO H3) us ((ps.take i).map .has) ∧ Same H1 H3) ⟨[], upd_same, .nil, smU hD⟩ (fun i H3 _ hP => ?_) (fun i xi H3 H3' hi hP hy => ?_) (fun H3 hP => ?_)
      · obtain ⟨_, _, _, s3⟩ := hP
        exact .inl (.inl (s3 _ _ eW))
      · obtain ⟨us, eD, au, s3⟩ := hP
        obtain ⟨rfl, hx⟩ := hy
        have hip : i < ps.length := by
          rw [← hvl]
          exact hi
        have hpi := List.getElem?_eq_getElem hip
        obtain ⟨b, u, rfl, eb, ot⟩ := (al.2 i _ _ hx hpi).ki (KI.same s3)
        refine ⟨rfl, _, rfl, (show 2 ≤ sizeLine by decide), fun T0 n0 => ?_⟩
        have s0 := smU (o := HO.tup [V.str hasW, .ref b]) n0
        have eD0 := s0 _ _ eD
        have hul := au.1
        rw [List.length_map, List.length_take, Nat.min_eq_left (Nat.le_of_lt hip)] at hul
        refine ⟨us, eD0, Nat.lt_of_le_of_lt (show us.length ≤ 10 by omega) (by decide), us ++ [.ref T0], upd_same, ?_, fun c o hc => ?_⟩
        · rw [take_atG hpi, List.map_append]
          exact (au.mono fun v q h => h.ki ((KI.same s0).trans (KI.wr eD0))).snoc (AsO.ki (KI.wr eD0) (.has upd_same (s0 _ _ eb) (ot.mono (KT.same s0))))
        · rw [upd_ne (ne_of_none hc hD)]
          exact s0 _ _ (s3 _ _ hc)
      · obtain ⟨us, eD, au, s3⟩ := hP
        rw [hvl, List.take_length] at au
        exact ⟨D, us, rfl, eD, au, hp1.ne hD, kp_none k1 hp1 hD, hp1.same s3, k1.trans (Kp.same s3)⟩
    obtain ⟨S, us, rfl, eS, au, nSp, hS0, hp2, k2⟩ := hM
    have hml : (ps.map Qt.has).flatMap pats = ps := by
      rw [List.flatMap_map]
      show ps.flatMap (fun p => [p]) = ps
      simp
    refine ⟨fun σ H3 => ∃ v q y8 y9, σ = [some (.ref p), some (.str (tx L)), some (.int ((8 : Nat) : Int)), some (.int (m : Int)), some (.ref W), none, some (.ref S), none, y8, y9] ∧ H3 S = some (.lst [v]) ∧ AsO H3 v q ∧ Wt q ∧ pats q = ps ∧ Pot H3 p (n + 3980) ∧ Kp p H H3, ?_, fun σ H3 hM => ?_⟩
    · refine ⟨fun k σ H3 => ∃ us qs y8 y9, σ = [some (.ref p), some (.str (tx L)), some (.int ((8 : Nat) : Int)), some (.int (m : Int)), some (.ref W), none, some (.ref S), none, y8, y9] ∧ qs.length = k ∧ 1 ≤ k ∧ k ≤ 3 ∧ H3 S = some (.lst us) ∧ AllO (AsO H3) us qs ∧ (∀ q ∈ qs, Wt q) ∧ qs.flatMap pats = ps ∧ Pot H3 p (n + 3980 - 5 * (k : Int)) ∧ Kp p H H3,
        ⟨ps.length, us, ps.map .has, none, none, rfl, List.length_map _, hps1, by omega, eS, au, fun q hq => ?_, hml, hp2.mono (by omega), k2⟩, fun k σ H3 hW => ?_⟩
      · obtain ⟨x, hx, rfl⟩ := List.mem_map.mp hq
        exact wt_has (hask x hx)
      obtain ⟨us, qs, y8, y9, rfl, hk, hk1, hk3, eS3, au3, hw3, hf3, hp3, k3⟩ := hW
      have hul := au3.1
      refine ⟨_, rfl, S, _, rfl, .inl (.inl (.inl eS3)), _, _, rfl, rfl, _, rfl, ?_⟩
      by_cases h2 : 2 ≤ k
      · rw [decide_eq_true (show (1 : Int) < (us.length : Int) by omega)]
        refine iteT ⟨fun σ' H' => ∃ us qs y8 y9, σ' = [some (.ref p), some (.str (tx L)), some (.int ((8 : Nat) : Int)), some (.int (m : Int)), some (.ref W), none, some (.ref S), none, y8, y9] ∧ qs.length = k - 1 ∧ 1 ≤ k - 1 ∧ k - 1 ≤ 3 ∧ H' S = some (.lst us) ∧ AllO (AsO H') us qs ∧ (∀ q ∈ qs, Wt q) ∧ qs.flatMap pats = ps ∧ Pot H' p (n + 3980 - 5 * ((k - 1 : Nat) : Int)) ∧ Kp p H H', fun σ' H' h => ⟨k - 1, by omega, h⟩, ?_⟩
        obtain ⟨qs1, qb, rfl⟩ := snoc_of (l := qs) (fun z => by rw [z] at hk; simp at hk; omega)
        rw [List.length_append, List.length_singleton] at hk
        obtain ⟨qs0, qa, rfl⟩ := snoc_of (l := qs1) (fun z => by rw [z] at hk; simp at hk; omega)
        rw [List.length_append, List.length_singleton] at hk
        obtain ⟨us1, vb, rfl, au1, ob⟩ := au3.pop
        obtain ⟨us0, va, rfl, au0, oa⟩ := au1.pop
        have e2 : upd H3 S (.lst (us0 ++ [va] ++ [vb]).dropLast) S = some (.lst (us0 ++ [va])) := by rw [upd_same, List.dropLast_concat]
        have e3 : upd (upd H3 S (.lst (us0 ++ [va] ++ [vb]).dropLast)) S (.lst (us0 ++ [va]).dropLast) S = some (.lst us0) := by rw [upd_same, List.dropLast_concat]
        refine ⟨_, rfl, Or.inl ⟨rfl, _, .inl (.inl eS3)⟩, S, _, vb, rfl, rfl, eS3, last_at _ _, _, rfl, Or.inl ⟨rfl, _, .inl (.inl e2)⟩, S, _, va, rfl, rfl, e2, last_at _ _, _, _, rfl, ?_⟩
        have kx : KI H3 (upd (upd H3 S (.lst (us0 ++ [va] ++ [vb]).dropLast)) S (.lst (us0 ++ [va]).dropLast)) := (KI.wr eS3).trans (KI.wr e2)
        have px := (hp3.wr (o := .lst (us0 ++ [va] ++ [vb]).dropLast) nSp).wr (o := .lst (us0 ++ [va]).dropLast) nSp
        have kpx := kp_wr (o := .lst (us0 ++ [va]).dropLast) (kp_wr (o := .lst (us0 ++ [va] ++ [vb]).dropLast) k3 hS0) hS0
        replace au0 := au0.mono fun v q h => h.ki kx
        replace oa := oa.ki kx
        replace ob := ob.ki kx
        generalize upd (upd H3 S (.lst (us0 ++ [va] ++ [vb]).dropLast)) S (.lst (us0 ++ [va]).dropLast) = Hx at e3 px kpx au0 oa ob ⊢
        clear kx e2 eS3 hp3 k3 au1 au3
        have wa := hw3 qa (List.mem_append.mpr (.inl (List.mem_append.mpr (.inr (List.mem_singleton.mpr rfl)))))
        have wb := hw3 qb (List.mem_append.mpr (.inr (List.mem_singleton.mpr rfl)))
        have hf0 : qs0.flatMap pats ++ (pats qa ++ pats qb) = ps := by
          rw [← hf3, List.flatMap_append, List.flatMap_append, List.append_assoc]
          simp
        refine ⟨_, rfl, Or.inl ⟨rfl, _, .inl (.inl e3)⟩, .ref p, rfl, (show 2 ≤ sizeLine by decide), fun l nl => ⟨p, _, .ref l, rfl, px.up nl, by omega, .inr ⟨l, _, rfl, fun hK => .inl (.inl (hK l _ (px.ne nl) upd_same)), (show 0 < 2 by decide), (show 2 ≤ 1000 by decide), fun vJ H4 hvJ hp4 k4 => ?_⟩⟩⟩
        obtain ⟨qj, jp, jw, jo⟩ : ∃ qj, pats qj = pats qa ++ pats qb ∧ WtJ qj ∧ ∀ (H : Hp) (T : Addr), H T = some (.tup [vJ, va, vb]) → AsO H va qa → AsO H vb qb → AsO H (.ref T) qj := by
          simp only [List.mem_cons, List.not_mem_nil, or_false] at hvJ
          rcases hvJ with rfl | rfl
          · exact ⟨.con qa qb, rfl, wt_con wa wb, fun H T e o1 o2 => .con e o1 o2⟩
          · exact ⟨.dis qa qb, rfl, wt_dis wa wb, fun H T e o1 o2 => .dis e o1 o2⟩
        have sl := smU (o := HO.lst [V.str (Str.ofString "and"), V.str (Str.ofString "or")]) nl
        have kx4 : Kp p Hx H4 := (Kp.same sl).trans k4
        have ki4 : KI Hx H4 := KI.kp px kx4
        have eS4 := kx4 S _ nSp e3
        have hul0 : us0.length ≤ 1 := by
          have := au0.1
          omega
        refine ⟨_, rfl, _, rfl, (show 3 ≤ sizeLine by decide), fun T0 n0 => ?_⟩
        have s0 := smU (o := HO.tup [vJ, va, vb]) n0
        have eS5 := s0 _ _ eS4
        refine ⟨S, _, .ref T0, rfl, rfl, eS5, Nat.lt_of_le_of_lt (show us0.length ≤ 1 by omega) (by decide), ?_⟩
        have kw : KI H4 (upd (upd H4 T0 (.tup [vJ, va, vb])) S (.lst (us0 ++ [.ref T0]))) := (KI.same s0).trans (KI.wr eS5)
        have oj : AsO (upd (upd H4 T0 (.tup [vJ, va, vb])) S (.lst (us0 ++ [.ref T0]))) (.ref T0) qj := AsO.ki (KI.wr eS5) (jo _ T0 upd_same ((oa.ki ki4).ki (KI.same s0)) ((ob.ki ki4).ki (KI.same s0)))
        have au4 := au0.mono fun v q h => h.ki (ki4.trans kw)
        have p5 := (hp4.up (o := .tup [vJ, va, vb]) n0).wr (o := .lst (us0 ++ [.ref T0])) nSp
        have k5 : Kp p H (upd (upd H4 T0 (.tup [vJ, va, vb])) S (.lst (us0 ++ [.ref T0]))) := kp_wr ((kpx.trans kx4).trans (Kp.same s0)) hS0
        have e5 : upd (upd H4 T0 (.tup [vJ, va, vb])) S (.lst (us0 ++ [.ref T0])) S = some (.lst (us0 ++ [.ref T0])) := upd_same
        generalize upd (upd H4 T0 (.tup [vJ, va, vb])) S (.lst (us0 ++ [.ref T0])) = H5 at oj au4 p5 k5 e5 ⊢
        clear kw eS5 s0 n0 eS4 ki4 kx4 sl
        have hw0 : ∀ q ∈ qs0, Wt q := fun q hq => hw3 q (List.mem_append.mpr (.inl (List.mem_append.mpr (.inl hq))))
        have mem1 : ∀ qz : Qt, Wt qz → ∀ q ∈ qs0 ++ [qz], Wt q := fun qz hz q hq => by
          rcases List.mem_append.mp hq with z | z
          · exact hw0 q z
          · rw [List.mem_singleton.mp z]
            exact hz
        have fm1 : ∀ qz : Qt, pats qz = pats qa ++ pats qb → (qs0 ++ [qz]).flatMap pats = ps := fun qz hz => by
          rw [List.flatMap_append, ← hf0, ← hz]
          simp
        have len1 : ∀ qz : Qt, (qs0 ++ [qz]).length = k - 1 := fun qz => by
          rw [List.length_append, List.length_singleton]
          omega
        refine ⟨.ref p, rfl, p, _, 3, rfl, p5, by omega, by decide, by decide, fun r H6 r0 r1 hp6 k6 => ⟨rfl, _, rfl, ?_⟩⟩
        have e6 := k6 S _ nSp e5
        have ki6 := KI.kp p5 k6
        cases decide (V.int r = V.int 0) with
        | false => exact iteF ⟨_, _, _, _, rfl, len1 qj, by omega, by omega, e6, (au4.snoc oj).mono fun v q h => h.ki ki6, mem1 qj jw.wt, fm1 qj jp, hp6.mono (by omega), k5.trans k6⟩
        | true =>
          have e7 : upd H6 S (.lst (us0 ++ [V.ref T0]).dropLast) S = some (.lst us0) := by rw [upd_same, List.dropLast_concat]
          refine iteT ⟨_, rfl, Or.inl ⟨rfl, _, .inl (.inl e6)⟩, _, rfl, Or.inl ⟨rfl, _, .inl (.inl e6)⟩, S, _, .ref T0, rfl, rfl, e6, last_at _ _, (show 2 ≤ sizeLine by decide), fun T1 n1 => ?_⟩
          have s7 := smU (o := HO.tup [V.str notW, .ref T0]) n1
          have e8 := s7 _ _ e7
          refine ⟨S, _, .ref T1, rfl, rfl, e8, Nat.lt_of_le_of_lt (show us0.length ≤ 1 by omega) (by decide), ?_⟩
          have kw7 : KI H6 (upd (upd H6 S (.lst (us0 ++ [V.ref T0]).dropLast)) T1 (.tup [V.str notW, .ref T0])) := (KI.wr e6).trans (KI.same s7)
          refine ⟨_, _, _, _, rfl, len1 (.neg qj), by omega, by omega, upd_same, (au4.mono fun v q h => h.ki (ki6.trans (kw7.trans (KI.wr e8)))).snoc (AsO.ki (KI.wr e8) (.neg upd_same (oj.ki (ki6.trans kw7)))), mem1 _ jw.neg, fm1 _ jp, (((hp6.wr nSp).up n1).wr nSp).mono (by omega), kp_wr ((kp_wr (k5.trans k6) hS0).trans (Kp.same s7)) hS0⟩
      · rw [decide_eq_false (show ¬ ((1 : Int) < (us.length : Int)) by omega)]
        obtain ⟨qs0, q, rfl⟩ := snoc_of (l := qs) (fun z => by rw [z] at hk; simp at hk; omega)
        obtain ⟨us0, v, rfl, au0, o⟩ := au3.pop
        rw [List.length_append, List.length_singleton] at hk
        obtain rfl : qs0 = [] := List.eq_nil_of_length_eq_zero (by omega)
        obtain rfl : us0 = [] := List.eq_nil_of_length_eq_zero (by have := au0.1; rw [List.length_nil] at this; exact this)
        refine iteF ⟨v, q, _, _, rfl, eS3, o, hw3 q (List.mem_singleton.mpr rfl), ?_, hp3.mono (by omega), k3⟩
        rw [← hf3]
        simp
    obtain ⟨v, q, y8, y9, rfl, eS3, o, wq, hq, hp3, k3⟩ := hM
    have hql : (pats q).length ≤ m := by rw [hq]; exact hps2
    have hqa : ∀ x ∈ pats q, Askd (8 / m) x := by rw [hq]; exact hask
    refine ⟨.ref p, rfl, p, _, 4, rfl, hp3, by omega, by decide, by decide, fun r H6 r0 r1 hp6 k6 => ⟨rfl, _, rfl, ?_⟩⟩
    have e6 := k6 S _ nSp eS3
    have o6 := o.ki (KI.kp hp3 k6)
    obtain ⟨w1, w2, w3⟩ := wq
    cases decide (V.int r = V.int 0) with
    | false => exact iteF ⟨_, rfl, S, _, 0, _, rfl, rfl, .inl (.inl e6), atI_nat (j := 0) rfl, fin v q _ o6 hqa w1 (fit_of ⟨hm1, hm3⟩ hql (by omega) (by omega) hqa) (hp6.mono (by omega)) (k3.trans k6)⟩
    | true =>
      refine iteT ⟨_, rfl, S, _, 0, _, rfl, rfl, .inl (.inl e6), atI_nat (j := 0) rfl, (show 2 ≤ sizeLine by decide), fun T1 n1 => ?_⟩
      have s7 := smU (o := HO.tup [V.str notW, v]) n1
      have ln := len_neg q
      refine fin _ (.neg q) _ (.neg upd_same (o6.ki (KI.same s7))) hqa w1 (fit_of ⟨hm1, hm3⟩ hql (by omega) ?_ hqa) ((hp6.same s7).mono (by omega)) ((k3.trans k6).trans (Kp.same s7))
      show dpt q + 1 ≤ 8
      omega
end
end Sq
/-! _law_made. -/
namespace Sq
open PySem PySem.Spec PyProof.Rows L2 Sf Sf4
/-- but for where it stands -/
def nP (p : Pi) : Pi := { p with x := 0 }
def nQ : Qt → Qt
  | .has p => .has (nP p)
  | .neg q => .neg (nQ q)
  | .con p q => .con (nQ p) (nQ q)
  | .dis p q => .dis (nQ p) (nQ q)
theorem word_n : ∀ q : Qt, wordQ (nQ q) = wordQ q
  | .has _ => rfl
  | .neg _ => rfl
  | .con _ _ => rfl
  | .dis _ _ => rfl
theorem shw_n : ∀ q : Qt, shw (nQ q) = shw q
  | .has _ => rfl
  | .neg q => by
    show [110, 111, 116, 32] ++ grp (decide (wordQ (nQ q) ∈ [andW, orW])) (shw (nQ q)) = _
    rw [word_n, shw_n q] <;> rfl
  | .con p q => by
    show grp (decide (wordQ (nQ p) ∈ [orW])) (shw (nQ p)) ++ [32, 97, 110, 100, 32] ++ grp (decide (wordQ (nQ q) ∈ [orW])) (shw (nQ q)) = _
    rw [word_n, word_n, shw_n p, shw_n q] <;> rfl
  | .dis p q => by
    show shw (nQ p) ++ [32, 111, 114, 32] ++ shw (nQ q) = _
    rw [shw_n p, shw_n q] <;> rfl
theorem dpt_n : ∀ q : Qt, dpt (nQ q) = dpt q
  | .has _ => rfl
  | .neg q => by
    show dpt (nQ q) + 1 = _
    rw [dpt_n q] <;> rfl
  | .con p q => by
    show max (dpt (nQ p)) (dpt (nQ q)) + 1 = _
    rw [dpt_n p, dpt_n q] <;> rfl
  | .dis p q => by
    show max (dpt (nQ p)) (dpt (nQ q)) + 1 = _
    rw [dpt_n p, dpt_n q] <;> rfl
theorem pats_n : ∀ q : Qt, pats (nQ q) = (pats q).map nP
  | .has _ => rfl
  | .neg q => pats_n q
  | .con p q => by
    show pats (nQ p) ++ pats (nQ q) = (pats p ++ pats q).map nP
    rw [pats_n p, pats_n q, List.map_append]
  | .dis p q => by
    show pats (nQ p) ++ pats (nQ q) = (pats p ++ pats q).map nP
    rw [pats_n p, pats_n q, List.map_append]
theorem szs_n (ps : List Pi) : szs (ps.map nP) = szs ps := by
  unfold szs
  rw [List.map_map] <;> rfl
theorem Fit.of_n {p q : Qt} (h : nQ p = nQ q) (f : Fit p) : Fit q := by
  obtain ⟨f1, f2, f3, f4⟩ := f
  have e := congrArg pats h
  rw [pats_n, pats_n] at e
  refine ⟨?_, ?_, ?_, ?_⟩
  · rw [← dpt_n, ← h, dpt_n]
    exact f1
  · have := congrArg List.length e
    rw [List.length_map, List.length_map] at this
    omega
  · rw [← szs_n, ← e, szs_n]
    exact f3
  · rw [← shw_n, ← h, shw_n]
    exact f4
theorem AsO.n {H : Hp} : ∀ {q : Qt} {v : V}, AsO H v q → AsO H v (nQ q)
  | .has p, _, h => by
    cases h with
    | has e1 e2 o => exact .has (p := nP p) e1 e2 o
  | .neg q, _, h => by
    cases h with
    | neg e o => exact .neg e (AsO.n o)
  | .con p q, _, h => by
    cases h with
    | con e o1 o2 => exact .con e (AsO.n o1) (AsO.n o2)
  | .dis p q, _, h => by
    cases h with
    | dis e o1 o2 => exact .dis e (AsO.n o1) (AsO.n o2)
theorem AsO.un {H : Hp} : ∀ {q : Qt} {v : V}, AsO H v (nQ q) → AsO H v q
  | .has p, _, h => by
    cases h with
    | has e1 e2 o => exact .has (p := p) e1 e2 o
  | .neg q, _, h => by
    cases h with
    | neg e o => exact .neg e (AsO.un o)
  | .con p q, _, h => by
    cases h with
    | con e o1 o2 => exact .con e (AsO.un o1) (AsO.un o2)
  | .dis p q, _, h => by
    cases h with
    | dis e o1 o2 => exact .dis e (AsO.un o1) (AsO.un o2)
theorem AsO.of_n {H : Hp} {p q : Qt} {v : V} (h : nQ p = nQ q) (o : AsO H v p) : AsO H v q := AsO.un (h ▸ o.n)
theorem Fit.neg {q : Qt} (h : Fit (.neg q)) : Fit q := by
  obtain ⟨f1, f2, f3, f4⟩ := h
  have a1 : dpt q + 1 ≤ 8 := f1
  have a4 : ([110, 111, 116, 32] ++ grp (decide (wordQ q ∈ [andW, orW])) (shw q)).length ≤ 200 := f4
  rw [List.length_append] at a4
  have := len_grp (decide (wordQ q ∈ [andW, orW])) (shw q)
  exact ⟨by omega, f2, f3, by omega⟩
theorem szs_app (ps qs : List Pi) : (szs (ps ++ qs)).sum = (szs ps).sum + (szs qs).sum := by
  unfold szs
  rw [List.map_append, List.sum_append]
theorem Fit.con {p q : Qt} (h : Fit (.con p q)) : Fit p ∧ Fit q := by
  obtain ⟨f1, f2, f3, f4⟩ := h
  have a1 : max (dpt p) (dpt q) + 1 ≤ 8 := f1
  have a2 := pats_con p q
  have a3 : (szs (pats p ++ pats q)).sum ≤ 8 := f3
  rw [szs_app] at a3
  have a4 : (grp (decide (wordQ p ∈ [orW])) (shw p) ++ [32, 97, 110, 100, 32] ++ grp (decide (wordQ q ∈ [orW])) (shw q)).length ≤ 200 := f4
  rw [List.length_append, List.length_append] at a4
  have := len_grp (decide (wordQ p ∈ [orW])) (shw p)
  have := len_grp (decide (wordQ q ∈ [orW])) (shw q)
  exact ⟨⟨by omega, by omega, by omega, by omega⟩, by omega, by omega, by omega, by omega⟩
theorem Fit.dis {p q : Qt} (h : Fit (.dis p q)) : Fit p ∧ Fit q := by
  obtain ⟨f1, f2, f3, f4⟩ := h
  have a1 : max (dpt p) (dpt q) + 1 ≤ 8 := f1
  have a2 := pats_dis p q
  have a3 : (szs (pats p ++ pats q)).sum ≤ 8 := f3
  rw [szs_app] at a3
  have a4 : (shw p ++ [32, 111, 114, 32] ++ shw q).length ≤ 200 := f4
  rw [List.length_append, List.length_append] at a4
  exact ⟨⟨by omega, by omega, by omega, by omega⟩, by omega, by omega, by omega, by omega⟩
def spMade (CQ C : Addr) (d : Nat) : Sp := fun vs H Q _ => ∃ (v : V) (q : Qt), vs = [v] ∧ AsO H v q ∧ dpt q ≤ d ∧ Fit q ∧ (∀ x ∈ pats q, Askd 8 x) ∧ ∀ z q2 H', Same H H' → QuO CQ C H' z q2 → nQ q = nQ q2 → Q (.ref z) H'
def NMd : List Str := ["_law_asked_here", "_law_one", "_law_other"]
theorem scMd : FnScope NMd ["_law_asked_here"] (defScope sLMade) := ⟨rfl, rfl, rfl, by decide +kernel, rfl, by decide +kernel, by decide +kernel⟩
theorem QuO.ins {CQ C : Addr} {H : Hp} {x : Addr} {q : Qt} (h : QuO CQ C H x q) : ∃ dx fs, H x = some (.ins CQ dx fs) := by
  obtain ⟨dx, v, pa, e, _⟩ := h
  exact ⟨dx, _, e⟩
section
variable {P : Program} {w : World} {K : PySem.W.Frag} {mg : Str → Option Value} {base : Heap} {CQ C : Addr} {f : Nat → Addr} {fd : Nat → FuncData} {lf : Nat → Addr} {lfd : Nat → FuncData} {tk : Nat → Tok} {pf : Nat → Addr} {pfd : Nat → FuncData} {gR gW gS : Addr} {dR dW dS : FuncData} {qf : Nat → Addr} {qfd : Nat → FuncData} {tq : Nat → Tok}
variable {RC WC : Addr} {rf_ wf' : Nat → Addr} {rd wd : Nat → FuncData} {cd : Addr} {ces : Array DictEntry} {cn : Nat} {ct : Nat → Addr}
theorem ok_made1 (L0 : LawT K mg f fd) (TQ : QuT K mg CQ qf qfd tq) (TP : PatT K mg C pf pfd tk gR gW dR dW) (TR : RT K w mg RC rf_ rd tk cd ces cn ct) (TW : WT K mg WC wf' wd tk) (TS : ST K mg tk gS dS) (TL : LqT K mg lf lfd) {k d : Nat} {spA : Sp} (hk : 86 ≤ k) (GM : FnOk P w K mg base CX0 k (lf 5) (lfd 5) ["_law_asked_here"] spA)
    (hA : ∀ e vs H Q E, e + 1 = d → spMade CQ C e vs H Q E → spA vs H Q E) : FnOk P w K mg base CX0 (k + 1) (lf 5) (lfd 5) ["_law_asked_here"] (spMade CQ C d) := by
  refine TL.made.F.ok scMd (fun vs H Q E h => ?_) (fun cdv A outer s H vs Q E hr h => ?_)
  · obtain ⟨v, q, rfl, _⟩ := h
    rfl
  · obtain ⟨v, q, rfl, ho, hd, fit, ask, fin⟩ := h
    have GP := ok_patS (P := P) (w := w) (base := base) L0
    have GI := ok_pi (P := P) (w := w) (base := base) TP TR TW TS
    have GHas := ok_has (P := P) (w := w) (base := base) TQ TP
    have GAnd := ok_and (P := P) (w := w) (base := base) TQ TP
    have GOr := ok_or (P := P) (w := w) (base := base) TQ TP
    have GNeg := ok_neg (P := P) (w := w) (base := base) TQ TP
    refine ⟨_, pss_cons (ps_if (pt_cmpR op_eq (pe_ix ix_tup (pv 0) pe_int (fun _ _ => rfl)) pe_str (nomark _))
          (pss_one (ps_ret (pe_call GHas (hr.mono (by omega)) (by rfl) TQ.has.g TQ.has.F.kp TQ.has.b .nil pass0 (pa_cons (pe_make TP.mkC GI (hr.mono (by omega)) (by rfl) TP.gC TP.mI.b .nil pass0 (pa_cons (pe_call GP (hr.mono (by omega)) (by rfl) L0.pats.g L0.pats.F.kp L0.pats.b .nil pass0 (pa_cons (pe_ix ix_tup (pv 0) pe_int (fun _ _ => rfl)) pa_nil)) pa_nil)) pa_nil)))) pss_nil)
      (pss_cons (ps_if (pt_cmpR op_eq (pe_ix ix_tup (pv 0) pe_int (fun _ _ => rfl)) pe_str (nomark _))
          (pss_one (ps_ret (pe_un (un_negOwn (D := CQ) GNeg TQ.mN.m.at_ TQ.mN.m.fn TQ.mN.b (hr.mono (by omega))) (pe_call GM hr (by rfl) TL.made.g TL.made.F.kp TL.made.b .nil pass0 (pa_cons (pe_ix ix_tup (pv 0) pe_int (fun _ _ => rfl)) pa_nil))))) pss_nil)
      (pss_cons (ps_par (i := 1) (j := 2) rfl scMd.nd rfl rfl (by decide) rfl rfl (pa_cons (pe_call GM hr (by rfl) TL.made.g TL.made.F.kp TL.made.b .nil pass0 (pa_cons (pe_ix ix_tup (pv 0) pe_int (fun _ _ => rfl)) pa_nil)) (pa_cons (pe_call GM hr (by rfl) TL.made.g TL.made.F.kp TL.made.b .nil pass0 (pa_cons (pe_ix ix_tup (pv 0) pe_int (fun _ _ => rfl)) pa_nil)) pa_nil)) (by rfl))
      (pss_one (ps_ret (pe_ifExp (pt_cmpR op_eq (pe_ix ix_tup (pv 0) pe_int (fun _ _ => rfl)) pe_str (nomark _)) (pe_op (op_binOwn (D := CQ) GAnd TQ.mA.m.at_ TQ.mA.m.fn TQ.mA.b (hr.mono (by omega)) TQ.self) (pv 1) (pv 2)) (pe_op (op_binOwn (D := CQ) GOr TQ.mO.m.at_ TQ.mO.m.fn TQ.mO.b (hr.mono (by omega)) TQ.self) (pv 1) (pv 2))))))), ?_⟩
    have n1 : notW ≠ hasW := by decide +kernel
    have n2 : andW ≠ hasW := by decide +kernel
    have n3 : andW ≠ notW := by decide +kernel
    have n4 : orW ≠ hasW := by decide +kernel
    have n5 : orW ≠ notW := by decide +kernel
    have n6 : orW ≠ andW := by decide +kernel
    have t1 : decide (V.str hasW = V.str (Str.ofString "has")) = true := decide_eq_true rfl
    have t2 : decide (V.str notW = V.str (Str.ofString "not")) = true := decide_eq_true rfl
    have t3 : decide (V.str andW = V.str (Str.ofString "and")) = true := decide_eq_true rfl
    have m1 : decide (V.str notW = V.str (Str.ofString "has")) = false := decide_eq_false (wq n1)
    have m2 : decide (V.str andW = V.str (Str.ofString "has")) = false := decide_eq_false (wq n2)
    have m3 : decide (V.str andW = V.str (Str.ofString "not")) = false := decide_eq_false (wq n3)
    have m4 : decide (V.str orW = V.str (Str.ofString "has")) = false := decide_eq_false (wq n4)
    have m5 : decide (V.str orW = V.str (Str.ofString "not")) = false := decide_eq_false (wq n5)
    have m6 : decide (V.str orW = V.str (Str.ofString "and")) = false := decide_eq_false (wq n6)
    cases ho with
    | @has a b u p e eb o =>
      have hp := ask p (List.mem_singleton.mpr rfl)
      refine ⟨_, rfl, a, _, 0, _, rfl, rfl, .inl (.inl e), atI_nat (j := 0) rfl, rfl, _, rfl, ?_⟩
      rw [t1]
      obtain ⟨x, Z, l, t, r, nm⟩ := p
      obtain ⟨hz, hnm, hne, dt, hs, h50⟩ := hp
      obtain rfl : Z = wstr l t r := hz
      obtain rfl : nm = nms t := hnm
      replace hs : sz t ≤ 8 := hs
      replace h50 : (prn t).length ≤ 50 := h50
      have hZ : (wstr l t r).length ≤ 60 := by
        unfold wstr
        rw [List.length_append, List.length_append]
        cases l <;> cases r <;> simp only [if_true, if_false, Bool.false_eq_true, List.length_cons, List.length_nil] <;> omega
      have hnd : (nms t).Nodup := by
        rw [show nms t = [] from hne]
        exact List.nodup_nil
      have hdd : dep t ≤ 3 := dt.dd
      have hop : opn t ≤ 8 := Nat.le_trans (opn_dep t) (by omega)
      have hrd : RWhole (wstr l t r) l t r (nms t) := rd_whole l r dt.w hop hnd
      have hsm : Sml t := ⟨Nat.le_trans dt.dd (by decide), Nat.le_trans dt.wd (by decide), by omega, Nat.le_trans (Nat.mul_le_mul_left 24 dt.l) (by decide)⟩
      refine iteT ⟨_, rfl, a, _, 1, _, rfl, rfl, .inl (.inl e), atI_nat (j := 1) rfl, b, u, t, l, r, rfl, eb, o, dt, fun H4 s4 => ?_⟩
      refine fun x1 dx1 hx1 hd1 nd1 => ⟨wstr l t r, x1, dx1, l, t, r, nms t, rfl, upd_same, hZ, hrd, hsm, fun H5 po1 k5 => ⟨rfl, ?_⟩⟩
      have s5 := mk_same hx1 hd1 k5
      exact ⟨⟨x1, wstr l t r, l, t, r, nms t⟩, rfl, ⟨po1, hs, hZ⟩, fun z H6 s6 qo => fin z _ H6 (s4.trans (s5.trans s6)) qo rfl⟩
    | @neg t v q e o =>
      have hd1 : dpt q + 1 ≤ d := hd
      refine ⟨_, rfl, t, _, 0, _, rfl, rfl, .inl (.inl e), atI_nat (j := 0) rfl, rfl, _, rfl, ?_⟩
      rw [m1]
      refine iteF ⟨_, rfl, t, _, 0, _, rfl, rfl, .inl (.inl e), atI_nat (j := 0) rfl, rfl, _, rfl, ?_⟩
      rw [t2]
      refine iteT ⟨_, rfl, t, _, 1, _, rfl, rfl, .inl (.inl e), atI_nat (j := 1) rfl, ?_⟩
      refine hA (d - 1) _ _ _ _ (by omega) ⟨v, q, rfl, o, by omega, fit.neg, ask, fun z q2 H1 s1 qo eq => ?_⟩
      obtain ⟨dx, fs, ez⟩ := qo.ins
      exact ⟨z, dx, fs, rfl, ez, z, q2, rfl, qo, Fit.of_n (p := .neg q) (q := .neg q2) (congrArg Qt.neg eq) fit, fun z2 H2 s2 qo2 => fin z2 (.neg q2) H2 (s1.trans s2) qo2 (congrArg Qt.neg eq)⟩
    | @con t u v p q e o1 o2 =>
      have hd1 : max (dpt p) (dpt q) + 1 ≤ d := hd
      refine ⟨_, rfl, t, _, 0, _, rfl, rfl, .inl (.inl e), atI_nat (j := 0) rfl, rfl, _, rfl, ?_⟩
      rw [m2]
      refine iteF ⟨_, rfl, t, _, 0, _, rfl, rfl, .inl (.inl e), atI_nat (j := 0) rfl, rfl, _, rfl, ?_⟩
      rw [m3]
      refine iteF ⟨_, rfl, t, _, 1, _, rfl, rfl, .inl (.inl e), atI_nat (j := 1) rfl, ?_⟩
      refine hA (d - 1) _ _ _ _ (by omega) ⟨u, p, rfl, o1, by omega, fit.con.1, fun x hx => ask x (List.mem_append.mpr (.inl hx)), fun z1 q1 H1 s1 qo1 eq1 => ?_⟩
      refine ⟨_, rfl, t, _, 2, _, rfl, rfl, .inl (.inl (s1 _ _ e)), atI_nat (j := 2) rfl, ?_⟩
      refine hA (d - 1) _ _ _ _ (by omega) ⟨v, q, rfl, o2.ki (KI.same s1), by omega, fit.con.2, fun x hx => ask x (List.mem_append.mpr (.inr hx)), fun z2 q2 H2 s2 qo2 eq2 => ?_⟩
      have qo1' := qo1.ki (KI.same s2)
      obtain ⟨dx1, fs1, ez1⟩ := qo1'.ins
      obtain ⟨dx2, fs2, ez2⟩ := qo2.ins
      have eqq : nQ (.con p q) = nQ (.con q1 q2) := by
        show Qt.con (nQ p) (nQ q) = Qt.con (nQ q1) (nQ q2)
        rw [eq1, eq2]
      refine ⟨_, _, rfl, _, rfl, t, _, 0, _, rfl, rfl, .inl (.inl (s2 _ _ (s1 _ _ e))), atI_nat (j := 0) rfl, rfl, _, rfl, ?_⟩
      rw [t3]
      exact iteT ⟨_, rfl, _, rfl, z1, dx1, fs1, z2, dx2, fs2, rfl, rfl, ez1, ez2, z1, z2, q1, q2, rfl, qo1', qo2, Fit.of_n eqq fit, fun z3 H3 s3 qo3 => ⟨⟨z3, rfl⟩, fin z3 _ H3 ((s1.trans s2).trans s3) qo3 eqq⟩⟩
    | @dis t u v p q e o1 o2 =>
      have hd1 : max (dpt p) (dpt q) + 1 ≤ d := hd
      refine ⟨_, rfl, t, _, 0, _, rfl, rfl, .inl (.inl e), atI_nat (j := 0) rfl, rfl, _, rfl, ?_⟩
      rw [m4]
      refine iteF ⟨_, rfl, t, _, 0, _, rfl, rfl, .inl (.inl e), atI_nat (j := 0) rfl, rfl, _, rfl, ?_⟩
      rw [m5]
      refine iteF ⟨_, rfl, t, _, 1, _, rfl, rfl, .inl (.inl e), atI_nat (j := 1) rfl, ?_⟩
      refine hA (d - 1) _ _ _ _ (by omega) ⟨u, p, rfl, o1, by omega, fit.dis.1, fun x hx => ask x (List.mem_append.mpr (.inl hx)), fun z1 q1 H1 s1 qo1 eq1 => ?_⟩
      refine ⟨_, rfl, t, _, 2, _, rfl, rfl, .inl (.inl (s1 _ _ e)), atI_nat (j := 2) rfl, ?_⟩
      refine hA (d - 1) _ _ _ _ (by omega) ⟨v, q, rfl, o2.ki (KI.same s1), by omega, fit.dis.2, fun x hx => ask x (List.mem_append.mpr (.inr hx)), fun z2 q2 H2 s2 qo2 eq2 => ?_⟩
      have qo1' := qo1.ki (KI.same s2)
      obtain ⟨dx1, fs1, ez1⟩ := qo1'.ins
      obtain ⟨dx2, fs2, ez2⟩ := qo2.ins
      have eqq : nQ (.dis p q) = nQ (.dis q1 q2) := by
        show Qt.dis (nQ p) (nQ q) = Qt.dis (nQ q1) (nQ q2)
        rw [eq1, eq2]
      refine ⟨_, _, rfl, _, rfl, t, _, 0, _, rfl, rfl, .inl (.inl (s2 _ _ (s1 _ _ e))), atI_nat (j := 0) rfl, rfl, _, rfl, ?_⟩
      rw [m6]
      exact iteF ⟨_, rfl, _, rfl, z1, dx1, fs1, z2, dx2, fs2, rfl, rfl, ez1, ez2, z1, z2, q1, q2, rfl, qo1', qo2, Fit.of_n eqq fit, fun z3 H3 s3 qo3 => ⟨⟨z3, rfl⟩, fin z3 _ H3 ((s1.trans s2).trans s3) qo3 eqq⟩⟩
theorem ok_made (L0 : LawT K mg f fd) (TQ : QuT K mg CQ qf qfd tq) (TP : PatT K mg C pf pfd tk gR gW dR dW) (TR : RT K w mg RC rf_ rd tk cd ces cn ct) (TW : WT K mg WC wf' wd tk) (TS : ST K mg tk gS dS) (TL : LqT K mg lf lfd) : ∀ d, FnOk P w K mg base CX0 (87 + d) (lf 5) (lfd 5) ["_law_asked_here"] (spMade CQ C d)
  | 0 => ok_made1 L0 TQ TP TR TW TS TL (k := 86) (d := 0) (Nat.le_refl _) ok_noQ (fun e _ _ _ _ h => by omega)
  | d + 1 => (ok_made1 L0 TQ TP TR TW TS TL (k := 87 + d) (by omega) (ok_made L0 TQ TP TR TW TS TL d) (fun e _ _ _ _ h q => by
      obtain rfl : e = d := by omega
      exact q)).mono (by omega)
end
end Sq
/-! _law_state. -/
namespace Sq
open PySem PySem.Spec PyProof.Rows L2 Sf Sf4
def NLS : List Str := ["_law_pot_here", "_law_pattern", "_law_found", "_law_place"]
theorem scLS : FnScope NLS ["_law_pot_here", "_law_pattern"] (defScope sLState) := ⟨rfl, rfl, rfl, by decide +kernel, rfl, by decide +kernel, by decide +kernel⟩
def spLS (K : PySem.W.Frag) (C : Addr) : Sp := fun vs H Q _ => ∃ (p : Addr) (n : Int) (x : Pi), vs = [.ref p, .ref x.x] ∧ Pot H p n ∧ n + 10 < 1000000 ∧ PiO C H x ∧
  ∀ v s H', StaO K H' v s → Wi x s → Pot H' p (n + 10) → Kp p H H' → Q v H'
section
variable {P : Program} {w : World} {K : PySem.W.Frag} {mg : Str → Option Value} {base : Heap} {C : Addr} {f : Nat → Addr} {fd : Nat → FuncData} {lf : Nat → Addr} {lfd : Nat → FuncData} {tk : Nat → Tok} {pf : Nat → Addr} {pfd : Nat → FuncData} {gR gW : Addr} {dR dW : FuncData}
theorem ok_LS (L0 : LawT K mg f fd) (TP : PatT K mg C pf pfd tk gR gW dR dW) (TL : LqT K mg lf lfd) : FnOk P w K mg base CX0 2 (lf 3) (lfd 3) ["_law_pot_here", "_law_pattern"] (spLS K C) := by
  have GD := law_draw (P := P) (w := w) (base := base) L0
  refine TL.st.F.ok (k := 1) scLS (fun vs H Q E h => ?_) (fun cdv A outer s H vs Q E hr h => ?_)
  · obtain ⟨p, n, x, rfl, _⟩ := h
    rfl
  · obtain ⟨p, n, x, rfl, hp, hn, po, fin⟩ := h
    refine ⟨_, pss_cons (ps_if (pt_cmpR op_eq (pe_call GD hr (by rfl) L0.draw.g L0.draw.F.kp L0.draw.b .nil pass0 (pa_cons (pv 0) (pa_cons pe_int pa_nil))) pe_int (nomark _)) (pss_one (ps_ret (pe_tup (pa_cons (pe_un un_neg pe_int) pa_nil)))) pss_nil)
      (pss_cons (ps_set (i := 2) scLS.nd rfl (.inl rfl) (pe_lst pa_nil))
      (pss_cons (ps_for PassesOwn.never rfl (pi_range1 rfl L0.zrange (pa_cons (pe_callB call_len_seq (by rfl) L0.zlen PySem.boot_len (pa_cons (pe_fld (pv 1) rfl) pa_nil)) pa_nil)) (pg_name (i := 3) scLS.nd rfl (.inl rfl))
          (pss_one (ps_expr (pe_bm PySem.F.plainAttrs_list PySem.F.slot_list_extend PySem.F.type_list_extend mt_extend (pv 2) (pa_cons (pe_op op_rep (pe_lst (pa_cons (pv 3) pa_nil)) (pe_call GD hr (by rfl) L0.draw.g L0.draw.F.kp L0.draw.b .nil pass0 (pa_cons (pv 0) (pa_cons pe_int pa_nil)))) pa_nil)))))
      (pss_one (ps_ret (pe_tupleOf (by rfl) TL.ztup (pv 2)))))), ?_⟩
    refine ⟨.ref p, rfl, p, _, 6, rfl, hp, by omega, by decide, by decide, fun r H1 r0 r1 hp1 k1 => ⟨rfl, _, rfl, ?_⟩⟩
    cases decide (V.int r = V.int 0) with
    | true =>
      refine iteT ⟨1, rfl, (show 1 ≤ sizeLine by decide), fun T0 n0 => ?_⟩
      have s0 := smU (o := HO.tup [V.int (-1)]) n0
      exact fin _ none _ ⟨T0, rfl, .inl (.inl upd_same)⟩ True.intro ((hp1.same s0).mono (by omega)) (k1.trans (Kp.same s0))
    | false =>
      refine iteF ⟨Nat.zero_le _, fun F nF => ?_⟩
      have nFp := hp1.ne nF
      have hF0 := kp_none k1 hp1 nF
      have s0 := smU (o := HO.lst []) nF
      have k2 : Kp p H (upd H1 F (.lst [])) := k1.trans (Kp.same s0)
      have po2 := po.ki (KI.kp hp k2)
      obtain ⟨⟨dx, tv, na, pl, fi, la, be, e1, _, _, ep, _⟩, h8, _⟩ := id po2
      have hl : (nmV (spts x.t)).length = sz x.t := by
        rw [nmV_len]
        exact spts_sz x.t (by omega)
      refine ⟨_, rfl, x.x, C, dx, _, _, rfl, e1, TP.cl, TP.n6, rfl, pl, _, rfl, .inr (.inl (.inl ep)), _, rfl, ?_, ?_, ?_⟩
      · rw [hl]
        omega
      · rw [hl]
        omega
      rw [hl, show ((sz x.t : Nat) : Int).toNat = sz x.t from Int.toNat_natCast _]
      refine for_it (walk_range (lo := 0) (n := sz x.t)) (fun i σ H3 => ∃ y ls, σ = [some (.ref p), some (.ref x.x), some (.ref F), y] ∧ H3 F = some (.lst (nIs ls)) ∧ ls.length ≤ i ∧ (∀ z ∈ ls, z < i) ∧ Pot H3 p (n + 1 + (i : Int)) ∧ Kp p H H3)
        ⟨_, [], rfl, upd_same, Nat.le_refl _, (fun _ h => nomatch h), (hp1.same s0).mono (by omega), k2⟩ (fun _ _ _ _ _ => True.intro) (fun i xi σ H3 H3' hi hP hy => ?_) (fun σ H3 hP => ?_)
      · obtain ⟨y, ls, rfl, eF, l1, l2, hp3, k3⟩ := hP
        obtain ⟨rfl, rfl⟩ := hy
        refine ⟨_, rfl, Or.inl ⟨rfl, _, .inl (.inl eF)⟩, _, rfl, (show 1 ≤ sizeLine by decide), fun l nl => ⟨.ref p, rfl, p, _, 2, rfl, hp3.up nl, by omega, by decide, by decide, fun r2 H4 q0 q1 hp4 k4 => ?_⟩⟩
        have sl := smU (o := HO.lst [V.int (0 + (i : Int))]) nl
        have el := k4 l _ (hp3.ne nl) upd_same
        have eF4 := k4 F _ nFp (sl _ _ eF)
        have k34 := (Kp.same (p := p) sl).trans k4
        refine ⟨l, r2, _, rfl, rfl, el, by omega, by omega, ?_, fun b nb => ?_⟩
        · show 1 * r2.toNat ≤ sizeLine
          exact Nat.le_trans (show _ ≤ 2 by omega) (by decide)
        have er : (List.replicate r2.toNat [V.int (0 + (i : Int))]).flatten = nIs (if r2 = 0 then [] else [i]) := by
          rcases (show r2 = 0 ∨ r2 = 1 by omega) with rfl | rfl
          · rfl
          · show [V.int (0 + (i : Int))] = [V.int (i : Int)]
            rw [Int.zero_add]
        rw [er]
        have lr : (if r2 = 0 then [] else [i] : List Nat).length ≤ 1 := by
          split
          · exact Nat.zero_le _
          · exact Nat.le_refl _
        have sb := smU (o := HO.lst (nIs (if r2 = 0 then [] else [i]))) nb
        refine ⟨F, b, _, _, rfl, rfl, sb _ _ eF4, upd_same, ?_, _, ls ++ (if r2 = 0 then [] else [i]), rfl, ?_, ?_, fun z hz => ?_, ((hp4.up nb).wr nFp).mono (by omega), kp_wr ((k3.trans k34).trans (Kp.same sb)) hF0⟩
        · rw [nIs_len, nIs_len]
          exact Nat.le_trans (show _ ≤ 10 by omega) (by decide)
        · rw [upd_same]
          unfold nIs
          rw [List.map_append]
        · rw [List.length_append]
          omega
        · rcases List.mem_append.mp hz with h | h
          · have := l2 z h
            omega
          · split at h
            · cases h
            · rw [List.mem_singleton.mp h]
              exact Nat.lt_succ_self i
      · obtain ⟨y, ls, rfl, eF, l1, l2, hp3, k3⟩ := hP
        refine ⟨_, rfl, .inl ⟨F, _, rfl, .inl (.inl eF), fun T nT => ?_⟩⟩
        have sT := smU (o := HO.tup (nIs ls)) nT
        exact fin _ (some ls) _ ⟨T, rfl, .inl (.inl (by rw [upd_same, staV_some]))⟩ ⟨by omega, l2⟩ ((hp3.same sT).mono (by omega)) (k3.trans (Kp.same sT))
end
end Sq
/-! A call by keywords alone; repr of what may be a constant of the module; set(tuple of ints). -/
namespace Sf
open PySem PySem.Spec PyProof.Rows L2
def tKwR (n : Nat) (sp : Sp) (E : XK) (tk : TA) : TE := fun σ H Q => tk σ H fun zs H1 => zs.length = n ∧ sp zs.reverse H1 Q E
theorem vals_rev : ∀ {zs : List V} {ws : List Value}, Vals zs ws → Vals zs.reverse ws.reverse
  | _, _, .nil => .nil
  | _, _, .cons a t => by
    rw [List.reverse_cons, List.reverse_cons]
    exact (vals_rev t).append (.cons a .nil)
section
variable {X : Cx}
/-- f(last = .., .., first = ..): all by keyword, in the order from the last to the first -/
theorem pe_kwR {CX : CXT} {E : XK} {k : Nat} {f : Addr} {fd : FuncData} {ps ks : List Str} {sp : Sp} {x : Str} {p pos : Pos} {kws : List Keyword} {tk : TA} (F : FnOk X.prog X.w X.K X.mg X.base CX k f fd ps sp) (room : Room k X.A) (hg : Gl X x) (hm : X.mg x = some (.ref f))
    (kp : PySem.W.keepIn X.K (.ref f) = true) (hb : ∀ (s : Shared) (ws : List Value), ws.length = ks.length → BindsTo s fd ⟨[], ks.zip ws⟩ (ps.zip ws.reverse)) (hx : Passes CX X E) (hkw : PK X kws tk)
    (hall : (backToKw pos (keywordEach kws X.env)).all (·.1.isSome) = true := by rfl) (hks : (backToKw pos (keywordEach kws X.env)).filterMap (·.1) = ks := by rfl) (hdb : (x == ("__debug__" : Str)) = false := by decide)
    (hpl : ((backTo pos (starEach [] X.env)).any (·.1) || (backToKw pos (keywordEach kws X.env)).any (·.1.isNone)) = false := by rfl) : PE X (.Call (.Name x p) [] kws pos) (tKwR ks.length sp E tk) :=
  ⟨fun pins sh σ Hh W I prom => wpAny_Call_Name_kw (ld_glob I hg hm
    (PySem.W.callWith_KW0 (h₀ := X.base) I.ok.mod.kin kp hall (thn (hkw.run pos pins sh σ Hh _ I prom) fun ws s2 ⟨zs, H2, I2, rz, lz, q2⟩ => ⟨I2.kIn, by
      rw [hks]
      refine wpAny_call (codeAny_mono (F.run X.A X.stack s2 H2 ⟨[], ks.zip ws⟩ ws.reverse zs.reverse W E room I2.env0 (hb s2 ws (by rw [← rz.length]; exact lz)) (vals_rev rz) q2) fun r s3 ends => ?_)
      match r, ends with
      | .error ex, z => exact hx pins σ H2 s2 ex s3 I2 z
      | .ok (.ret u), z => exact I2.after z
      | .ok .next, z => exact z.elim
      | .ok .brk, z => exact z.elim
      | .ok .cont, z => exact z.elim⟩) hpl) hdb)⟩
theorem kwr_binds {K : PySem.W.Frag} {x qual : Str} {st : Stmt} {f : Addr} {fd : FuncData} {ps ks : List Str} (F : Fun K x qual st f fd)
    (h : ∀ (kV doc pm : Value) (an : Option Addr) (cdv ct : Value) (ws : List Value), ws.length = ks.length → bindArgs (PySem.W.fnOf x qual (defArgs st) (defBody st) (defScope st) .none kV doc pm an cdv ct) ⟨[], ks.zip ws⟩ = pure (ps.zip ws.reverse)) :
    ∀ (s : Shared) (ws : List Value), ws.length = ks.length → BindsTo s fd ⟨[], ks.zip ws⟩ (ps.zip ws.reverse) := by
  obtain ⟨oc, od, kV, doc, pm, an, cdv, ct, osl, rfl, _⟩ := F.ex
  exact fun s ws hl => .of_eq (h kV doc pm an cdv ct ws hl)
mutual
theorem Dp.weak {K : PySem.W.Frag} {H : Hp} : ∀ {d : PyData} {v : V}, Dp K H v d → d.hasDict = false
  | .none, _, h => by
    cases h
    rfl
  | .bool b, _, h => by
    cases h
    rfl
  | .int i, _, h => by
    cases h
    rfl
  | .str x, _, h => by
    cases h
    rfl
  | .list ds, _, h => by
    cases h with
    | lst e k =>
      unfold PyData.hasDict
      exact DpAll.weak k
  | .tuple ds, _, h => by
    cases h with
    | tup e k =>
      unfold PyData.hasDict
      exact DpAll.weak k
  | .dict es, _, h => by cases h
theorem DpAll.weak {K : PySem.W.Frag} {H : Hp} : ∀ {ds : List PyData} {vs : List V}, DpAll K H vs ds → PyData.hasDictAll ds = false
  | [], _, h => rfl
  | d :: ds, _, h => by
    cases h with
    | cons a t =>
      unfold PyData.hasDictAll
      rw [Dp.weak a, DpAll.weak t] <;> rfl
end
def rReprD (K : PySem.W.Frag) : List V → Hp → VK → Prop := fun vs H Q => ∃ (v : V) (d : PyData) (n m : Nat), vs = [v] ∧ Dp K H v d ∧ Sm n m d ∧ n ≤ 100000 ∧ m ≤ 60 ∧ Q (.str d.shown) H
theorem cr_reprD (hg : X.A.guards = some []) (hu : X.A.units + 64 < cLine) : CallR X (.builtin "repr") (rReprD X.K) := by
  intro pins s σ H vs us Q I r h
  obtain ⟨v, d, n, m, rfl, ho, sm, hn, hm, q⟩ := h
  obtain ⟨u, rfl, r1⟩ := vals1 r
  obtain ⟨as, rd⟩ := Dp.reads I d v u ho r1
  have fit := sm.fits hn
  have dep : d.depth ≤ 60 := Nat.le_trans sm.dp hm
  have big : d.hasDict = true → sysModules ∉ as := fun z => by
    rw [Dp.weak ho] at z
    cases z
  cases rd with
  | none => exact PySem.P.repr_of_none ⟨.str _, H, I.tok _, ⟨_, rfl⟩, q⟩
  | bool b => exact PySem.P.repr_of_bool ⟨.str _, H, I.tok _, ⟨_, rfl⟩, q⟩
  | int i t => exact PySem.P.repr_of_int (by simpa [PyData.showable] using sm.sh) ⟨.str _, H, I.tok _, ⟨_, rfl⟩, q⟩
  | str x t => exact PySem.P.repr_of_str ⟨.str _, H, I.tok _, ⟨_, rfl⟩, q⟩ fit
  | list h1 h2 h3 h4 => exact repr_of_reads' (.list h1 h2 h3 h4) sm.sh big hg (by omega) (fun _ _ e => e) (fun h' u tk k => ⟨.str _, H, I.kept k, ⟨_, rfl⟩, q⟩) fit
  | tuple h1 h2 h3 h4 => exact repr_of_reads' (.tuple h1 h2 h3 h4) sm.sh big hg (by omega) (fun _ _ e => e) (fun h' u tk k => ⟨.str _, H, I.kept k, ⟨_, rfl⟩, q⟩) fit
  | dict h1 h2 h3 h4 h5 => exact repr_of_reads' (.dict h1 h2 h3 h4 h5) sm.sh big hg (by omega) (fun _ _ e => e) (fun h' u tk k => ⟨.str _, H, I.kept k, ⟨_, rfl⟩, q⟩) fit
end
end Sf
/-! set(tuple of ints). -/
namespace Sf
open PySem PySem.Spec PyProof.Rows L2 PySem.Froz
section
variable {X : Cx}
def rSetIT (K : PySem.W.Frag) (w : World) : List V → Hp → VK → Prop := fun vs H Q => ∃ (a : Addr) (ns : List Int) (m : Nat), vs = [.ref a] ∧ SqT K H a (ns.map V.int) ∧ ns.length + 1 < scanBound ∧ (∀ k ∈ ns, 0 ≤ k ∧ k < (m : Int)) ∧
  ∀ p n, H p = none → n ≤ m → Q (.ref p) (upd H p (SetO w p (fun j => decide (j ∈ ns)) n))
theorem cr_setIT (hc : X.calm = true) : CallR X (.type "set") (rSetIT X.K X.w) := by
  intro pins s σ H vs us Q I r h
  obtain ⟨a, ns, m, rfl, hs, hx, hm, q⟩ := h
  rw [Vals.ref1 r]
  obtain ⟨its, rv, pt, _⟩ := I.tuple hs
  refine call_set_tupI ns (I.ok.hd hc) (show s.heap.IsTuple a its.toArray from pt) rv.ints hx fun h' tk c T hcn k => ?_
  exact ⟨.ref _, upd H s.heap.objs.size (SetO X.w s.heap.objs.size (fun j => decide (j ∈ ns)) c), I.laid (t' := tk) k (Nat.le_refl _) (setO_new T), rfl, q _ _ (I.hok.fresh (Nat.le_refl _)) (setR_few T hm)⟩
end
end Sf
/-! What is shown; two parts of a state; _law_right. -/
namespace Sq
open PySem PySem.Spec PyProof.Rows L2 Sf Sf4
/-! ### plain: a state's parts -/
def both (p : Pi) (s t : Sta) : Sta := match s, t with
  | some a, some b => some (ascL (sz p.t) (a ++ b))
  | _, _ => none
theorem come_split (p : Pi) (isb : Bool) (a b : List Nat) (i : Nat) : i ∈ come p isb (a ++ b) ↔ i ∈ come p isb a ∨ i ∈ come p isb b := by
  unfold come
  rw [List.mem_append, List.mem_append, List.mem_append, List.flatMap_append, List.mem_append]
  constructor
  · rintro ((h | h) | h)
    · exact .inl (.inl h)
    · exact .inr (.inl h)
    · exact .inl (.inr h)
  · rintro ((h | h) | (h | h))
    · exact .inl (.inl h)
    · exact .inr h
    · exact .inl (.inr h)
    · exact .inr h
theorem found_mem {p : Pi} {c : Nat} {isb : Bool} {ls : List Nat} {i : Nat} : i ∈ found p c isb ls ↔ (i < sz p.t ∧ i ∈ come p isb ls) ∧ c ∈ (spts p.t).getD i [] := by
  unfold found
  rw [List.mem_filter, asc_mem, decide_eq_true_iff]
theorem found_split (p : Pi) (c : Nat) (isb : Bool) (a b : List Nat) : ascL (sz p.t) (found p c isb a ++ found p c isb b) = found p c isb (a ++ b) := by
  have e : found p c isb (a ++ b) = ascL (sz p.t) ((come p isb (a ++ b)).filter fun j => decide (c ∈ (spts p.t).getD j [])) := (asc_filter _ _ _).symm
  rw [e]
  refine asc_congr fun i hi => ?_
  rw [List.mem_append, found_mem, found_mem, List.mem_filter, decide_eq_true_iff, come_split]
  constructor
  · rintro (⟨⟨_, h⟩, k⟩ | ⟨⟨_, h⟩, k⟩)
    · exact ⟨.inl h, k⟩
    · exact ⟨.inr h, k⟩
  · rintro ⟨h | h, k⟩
    · exact .inl ⟨⟨hi, h⟩, k⟩
    · exact .inr ⟨⟨hi, h⟩, k⟩
theorem last_split (p : Pi) (c : Nat) (isb : Bool) (a b : List Nat) : hasLast p (found p c isb (a ++ b)) = (hasLast p (found p c isb a) || hasLast p (found p c isb b)) := by
  unfold hasLast
  rw [Bool.eq_iff_iff, Bool.or_eq_true, List.any_eq_true, List.any_eq_true, List.any_eq_true]
  constructor
  · rintro ⟨i, h, k⟩
    obtain ⟨⟨h1, h2⟩, h3⟩ := found_mem.mp h
    rcases (come_split p isb a b i).mp h2 with z | z
    · exact .inl ⟨i, found_mem.mpr ⟨⟨h1, z⟩, h3⟩, k⟩
    · exact .inr ⟨i, found_mem.mpr ⟨⟨h1, z⟩, h3⟩, k⟩
  · rintro (⟨i, h, k⟩ | ⟨i, h, k⟩)
    · obtain ⟨⟨h1, h2⟩, h3⟩ := found_mem.mp h
      exact ⟨i, found_mem.mpr ⟨⟨h1, (come_split p isb a b i).mpr (.inl h2)⟩, h3⟩, k⟩
    · obtain ⟨⟨h1, h2⟩, h3⟩ := found_mem.mp h
      exact ⟨i, found_mem.mpr ⟨⟨h1, (come_split p isb a b i).mpr (.inr h2)⟩, h3⟩, k⟩
theorem nxt_both (p : Pi) (c : Nat) (isb : Bool) (a b : List Nat) : nxt p c isb (some (a ++ b)) = both p (nxt p c isb (some a)) (nxt p c isb (some b)) := by
  show (if (!p.r && hasLast p (found p c isb (a ++ b))) = true then none else some (found p c isb (a ++ b))) = both p (if (!p.r && hasLast p (found p c isb a)) = true then none else some (found p c isb a)) (if (!p.r && hasLast p (found p c isb b)) = true then none else some (found p c isb b))
  rw [last_split]
  cases p.r with
  | true =>
    show some _ = some _
    rw [found_split]
  | false =>
    cases ha : hasLast p (found p c isb a) <;> cases hb : hasLast p (found p c isb b)
    · show some _ = some _
      rw [found_split]
    · rfl
    · rfl
    · rfl
/-! ### what is shown -/
def stD (s : Sta) : PyData := inD (staI s)
def nodD (c : Nat) (ss : List Sta) : PyData := .tuple [.str (tx [c]), .tuple (ss.map stD)]
theorem sta_dp {K : PySem.W.Frag} {H : Hp} {v : V} {s : Sta} (h : StaO K H v s) : Dp K H v (stD s) := by
  obtain ⟨a, rfl, q⟩ := h
  exact .tup q (inD_dp _)
theorem sts_dp {K : PySem.W.Frag} {H : Hp} : ∀ {vs : List V} {ps : List Pi} {ss : List Sta}, StsO K H vs ps ss → DpAll K H vs (ss.map stD)
  | [], _, [], _ => .nil
  | [], ps, s :: r, h => by
    have h1 := h.1
    have h2 := h.2.1
    rw [← h1] at h2
    cases h2
  | v :: vs, [], ss, h => by
    have h1 := h.1
    cases h1
  | v :: vs, p :: ps, [], h => by
    have h1 := h.2.1
    cases h1
  | v :: vs, p :: ps, s :: ss, h => by
    refine .cons (sta_dp (h.2.2 0 v p s rfl rfl rfl).1) (sts_dp (ps := ps) ⟨Nat.succ.inj h.1, Nat.succ.inj h.2.1, fun i u q t h1 h2 h3 => h.2.2 (i + 1) u q t h1 h2 h3⟩)
theorem NodO.dp {K : PySem.W.Frag} {H : Hp} {v : V} {c : Nat} {ps : List Pi} {ss : List Sta} (h : NodO K H v c ps ss) : Dp K H v (nodD c ss) := by
  obtain ⟨n, sa, svs, rfl, h1, h2, h3⟩ := h
  exact .tup h1 (.cons (.str _) (.cons (.tup h2 (sts_dp h3)) .nil))
theorem smC : ∀ c ∈ 94 :: LETc, ((PyData.str (tx [c])).showable && (PyData.str (tx [c])).leavesShort 40 && decide ((PyData.str (tx [c])).weight ≤ 5) && decide ((PyData.str (tx [c])).depth ≤ 0)) = true := by decide +kernel
theorem sm_sign {c : Nat} (h : c ∈ 94 :: LETc) : Sm 5 0 (.str (tx [c])) := by
  have q := smC c h
  simp only [Bool.and_eq_true, decide_eq_true_eq] at q
  exact ⟨q.1.1.1, q.1.1.2, q.1.2, q.2⟩
theorem smN : ∀ n : Nat, n < 9 → ((PyData.int ((n : Int) - 1)).showable && (PyData.int ((n : Int) - 1)).leavesShort 40 && decide ((PyData.int ((n : Int) - 1)).weight ≤ 5) && decide ((PyData.int ((n : Int) - 1)).depth ≤ 0)) = true := by decide +kernel
theorem sm_num {z : Int} (h1 : -1 ≤ z) (h2 : z < 8) : Sm 5 0 (.int z) := by
  have q := smN (z + 1).toNat (by omega)
  rw [show (((z + 1).toNat : Nat) : Int) - 1 = z by omega] at q
  simp only [Bool.and_eq_true, decide_eq_true_eq] at q
  exact ⟨q.1.1.1, q.1.1.2, q.1.2, q.2⟩
theorem sm_le {n m n' m' : Nat} {d : PyData} (h : Sm n m d) (h1 : n ≤ n') (h2 : m ≤ m') : Sm n' m' d := ⟨h.sh, h.lv, Nat.le_trans h.wt h1, Nat.le_trans h.dp h2⟩
theorem sm_all {n m k : Nat} {ds : List PyData} (h : ∀ d ∈ ds, Sm n m d) (l : ds.length ≤ k) : PyData.showableAll ds = true ∧ PyData.leavesShortAll 40 ds = true ∧ PyData.weightAll ds ≤ k * (n + 1) ∧ PyData.depthAll ds ≤ m := by
  induction ds generalizing k with
  | nil => exact ⟨rfl, rfl, Nat.zero_le _, Nat.zero_le _⟩
  | cons d r ih =>
    cases k with
    | zero => cases l
    | succ k =>
      obtain ⟨h1, h2, h3, h4⟩ := h d List.mem_cons_self
      obtain ⟨i1, i2, i3, i4⟩ := ih (fun e he => h e (List.mem_cons_of_mem _ he)) (Nat.le_of_succ_le_succ l)
      refine ⟨by simp [PyData.showableAll, h1, i1], by simp [PyData.leavesShortAll, h2, i2], ?_, ?_⟩
      · simp only [PyData.weightAll]
        rw [Nat.succ_mul]
        omega
      · simp only [PyData.depthAll]
        omega
theorem sm_tup {n m k : Nat} {ds : List PyData} (h : ∀ d ∈ ds, Sm n m d) (l : ds.length ≤ k) : Sm (k * (n + 1) + 2) (m + 1) (.tuple ds) := by
  obtain ⟨a, b, c, d⟩ := sm_all h l
  refine ⟨by simpa [PyData.showable] using a, by simpa [PyData.leavesShort] using b, ?_, ?_⟩
  · simp only [PyData.weight]
    omega
  · simp only [PyData.depth]
    omega
theorem sm_lst {n m k : Nat} {ds : List PyData} (h : ∀ d ∈ ds, Sm n m d) (l : ds.length ≤ k) : Sm (k * (n + 1) + 2) (m + 1) (.list ds) := by
  obtain ⟨a, b, c, d⟩ := sm_all h l
  refine ⟨by simpa [PyData.showable] using a, by simpa [PyData.leavesShort] using b, ?_, ?_⟩
  · simp only [PyData.weight]
    omega
  · simp only [PyData.depth]
    omega
theorem sm_sta {p : Pi} {s : Sta} (h : Wi p s) (h8 : sz p.t ≤ 8) : Sm 200 1 (stD s) := by
  unfold stD inD
  refine sm_le (sm_tup (n := 5) (m := 0) (k := 30) (fun d hd => ?_) ?_) (by decide) (Nat.le_refl _)
  · obtain ⟨z, hz, rfl⟩ := List.mem_map.mp hd
    cases s with
    | none =>
      rw [List.mem_singleton.mp (show z ∈ [(-1 : Int)] from hz)]
      exact sm_num (by decide) (by decide)
    | some ls =>
      obtain ⟨i, hi, rfl⟩ := List.mem_map.mp (show z ∈ ls.map (fun (i : Nat) => (i : Int)) from hz)
      have := h.2 i hi
      exact sm_num (by omega) (by omega)
  · rw [List.length_map]
    cases s with
    | none => exact (show 1 ≤ 30 by decide)
    | some ls =>
      show (ls.map (fun (i : Nat) => (i : Int))).length ≤ 30
      rw [List.length_map]
      exact h.1
theorem sm_nod {K : PySem.W.Frag} {H : Hp} {v : V} {c : Nat} {ps : List Pi} {ss : List Sta} (h : NodO K H v c ps ss) (hc : c ∈ 94 :: LETc) (hp : ∀ p ∈ ps, sz p.t ≤ 8) (hl : ps.length ≤ 3) : Sm 3000 3 (nodD c ss) := by
  obtain ⟨n, sa, svs, rfl, h1, h2, h3⟩ := h
  have t : Sm 1000 2 (.tuple (ss.map stD)) := by
    refine sm_le (sm_tup (n := 200) (m := 1) (k := 3) (fun d hd => ?_) ?_) (by decide) (Nat.le_refl _)
    · obtain ⟨s, hs, rfl⟩ := List.mem_map.mp hd
      obtain ⟨i, hi⟩ := List.mem_iff_getElem?.mp hs
      have hip : i < ps.length := by
        rw [← h3.2.1]
        exact (List.getElem?_eq_some_iff.mp hi).1
      obtain ⟨v, p, s', g1, g2, g3, g4, g5⟩ := h3.at hip
      obtain rfl : s' = s := Option.some.inj (g3.symm.trans hi)
      exact sm_sta g5 (hp p (List.mem_of_getElem? g2))
    · rw [List.length_map, h3.2.1]
      exact hl
  unfold nodD
  refine sm_le (sm_tup (n := 1000) (m := 2) (k := 2) (fun d hd => ?_) (Nat.le_refl 2)) (by decide) (Nat.le_refl _)
  rcases List.mem_cons.mp hd with rfl | hd
  · exact sm_le (sm_sign hc) (by decide) (by decide)
  · rw [List.mem_singleton.mp hd]
    exact t
theorem sm_bools (a b : Bool) : Sm 100 2 (.list [.bool a, .bool b]) := by
  have : ∀ a : Bool, Sm 10 1 (.bool a) := fun a => by
    cases a <;> exact ⟨by decide +kernel, by decide +kernel, by decide +kernel, by decide +kernel⟩
  refine sm_le (sm_lst (n := 10) (m := 1) (k := 2) (fun d hd => ?_) (Nat.le_refl 2)) (by decide) (Nat.le_refl _)
  rcases List.mem_cons.mp hd with rfl | hd
  · exact this a
  · rw [List.mem_singleton.mp hd]
    exact this b
theorem kb_next {K : PySem.W.Frag} {x qual : Str} {f : Addr} {fd : FuncData} (F : Fun K x qual sNext f fd) : ∀ (s : Shared) (ws : List Value), ws.length = ["letter", "node", "question"].length → BindsTo s fd ⟨[], (["letter", "node", "question"] : List Str).zip ws⟩ ((["question", "node", "letter"] : List Str).zip ws.reverse) :=
  kwr_binds (ps := ["question", "node", "letter"]) (ks := ["letter", "node", "question"]) F fun _ _ _ _ _ _ ws l => match ws, l with | [_, _, _], _ => rfl
theorem kb_iso {K : PySem.W.Frag} {x qual : Str} {f : Addr} {fd : FuncData} (F : Fun K x qual sIsSo f fd) : ∀ (s : Shared) (ws : List Value), ws.length = ["node", "question"].length → BindsTo s fd ⟨[], (["node", "question"] : List Str).zip ws⟩ ((["question", "node"] : List Str).zip ws.reverse) :=
  kwr_binds (ps := ["question", "node"]) (ks := ["node", "question"]) F fun _ _ _ _ _ _ ws l => match ws, l with | [_, _], _ => rfl
end Sq
/-! Slices and sums of tuples, read by what stands at their end. -/
namespace Sq
open PySem PySem.Spec PyProof.Rows L2 Sf Sf4
section
variable {K : PySem.W.Frag} {w : World} {H : Hp} {a b : Addr} {xs ys : List V} {Q : VK}
theorem sl_first (h : SqT K H a xs) (q : ∀ c H', Same H H' → SqT K H' c (xs.take 1) → Q (.ref c) H') : rSlA K (.ref a) none (some 1) H Q := by
  have e : HT.sIx xs.length xs.length (some 1) = min 1 xs.length := HT.sIx_nat _ _ 1
  refine ⟨a, xs, rfl, h, fun hw => ?_, fun _ p np => ?_⟩
  · rw [e] at hw
    have := hw.2
    exact q a H (Same.refl H) (by rw [List.take_of_length_le (by omega)]; exact h)
  · refine q p _ (smU np) (.inl (.inl ?_))
    rw [upd_same]
    unfold cutV
    rw [e]
    show some (HO.tup ((xs.drop 0).take (min 1 xs.length - 0))) = _
    rw [List.drop_zero, Nat.sub_zero, ← List.take_take, List.take_length]
theorem sl_rest (h : SqT K H a xs) (q : ∀ c H', Same H H' → SqT K H' c (xs.drop 1) → Q (.ref c) H') : rSlA K (.ref a) (some 1) none H Q := by
  have e : HT.sIx xs.length 0 (some 1) = min 1 xs.length := HT.sIx_nat _ _ 1
  refine ⟨a, xs, rfl, h, fun hw => ?_, fun _ p np => ?_⟩
  · rw [e] at hw
    have h0 : xs.length = 0 := by omega
    obtain rfl := List.eq_nil_of_length_eq_zero h0
    exact q a H (Same.refl H) h
  · refine q p _ (smU np) (.inl (.inl ?_))
    rw [upd_same]
    unfold cutV
    rw [e]
    show some (HO.tup ((xs.drop (min 1 xs.length)).take (xs.length - min 1 xs.length))) = _
    by_cases h0 : xs.length = 0
    · obtain rfl := List.eq_nil_of_length_eq_zero h0
      rfl
    · rw [Nat.min_eq_left (by omega), List.take_of_length_le (by rw [List.length_drop]; omega)]
theorem cat_any (h : SqT K H a xs) (k : SqT K H b ys) (l : xs.length + ys.length ≤ 20000) (q : ∀ c H', Same H H' → SqT K H' c (xs ++ ys) → Q (.ref c) H') : rCatA K (.ref a) (.ref b) H Q := by
  refine ⟨a, b, xs, ys, rfl, rfl, h, k, Nat.le_trans l (by decide), fun e => ?_, fun _ e => ?_, fun _ _ p np => ?_⟩
  · rw [e] at q
    exact q b H (Same.refl H) k
  · rw [e, List.append_nil] at q
    exact q a H (Same.refl H) h
  · exact q p _ (smU np) (.inl (.inl upd_same))
theorem ms_setT {l : List Nat} {N : Nat} (h : SqT K H b (nIs l)) (hl : ∀ i ∈ l, i < N) (hN : N ≤ 24) (hn : l.length ≤ 4000) (hR : ∀ T H', Same H H' → H' T = some (.tup (nIs (ascL N l))) → Q (.ref T) H') :
    rSetIT K w [.ref b] H fun v1 H4 => rSortedSet w [v1] H4 fun v2 H5 => kTup K v2 H5 Q := by
  refine ⟨b, zI l, N, rfl, by rw [← nIs_z]; exact h, ?_, fun k hk => ?_, fun S c hS hc => ?_⟩
  · unfold zI
    rw [List.length_map]
    exact Nat.lt_of_le_of_lt (show l.length + 1 ≤ 4001 by omega) (by decide)
  · obtain ⟨i, h1, rfl⟩ := zI_mem.mp hk
    have := hl i h1
    omega
  refine ⟨S, _, c, rfl, upd_same, by omega, fun ns L pw mem len hL => ?_⟩
  obtain rfl := asc_uniq pw mem hl
  refine .inl ⟨L, _, rfl, .inl (.inl upd_same), fun T hT => ?_⟩
  have s3 := smU (o := SetO w S (fun j => decide (j ∈ zI l)) c) hS
  have s4 := smU (o := HO.lst ((zI (ascL N l)).map V.int)) hL
  have s5 := smU (o := HO.tup ((zI (ascL N l)).map V.int)) hT
  exact hR T _ (s3.trans (s4.trans s5)) (by rw [upd_same, nIs_z])
end
def cutA : Sta → Sta
  | none => none
  | some ls => some (ls.take 1)
def cutB : Sta → Sta
  | none => some []
  | some ls => some (ls.drop 1)
theorem staV_A (s : Sta) : (staV s).take 1 = staV (cutA s) := by
  cases s with
  | none => rfl
  | some ls =>
    unfold cutA
    rw [staV_some, staV_some]
    unfold nIs
    rw [List.map_take]
theorem staV_B (s : Sta) : (staV s).drop 1 = staV (cutB s) := by
  cases s with
  | none => rfl
  | some ls =>
    unfold cutB
    rw [staV_some, staV_some]
    unfold nIs
    rw [List.map_drop]
theorem wi_A {p : Pi} {s : Sta} (h : Wi p s) : Wi p (cutA s) := by
  cases s with
  | none => exact True.intro
  | some ls =>
    refine ⟨?_, fun i hi => h.2 i (List.mem_of_mem_take hi)⟩
    have := List.length_take_le' 1 ls
    have := h.1
    omega
theorem wi_B {p : Pi} {s : Sta} (h : Wi p s) : Wi p (cutB s) := by
  cases s with
  | none => exact ⟨Nat.zero_le _, fun i hi => by cases hi⟩
  | some ls =>
    refine ⟨?_, fun i hi => h.2 i (List.mem_of_mem_drop hi)⟩
    rw [List.length_drop]
    have := h.1
    omega
/-- the first state changed -/
theorem sts_head {K : PySem.W.Frag} {H : Hp} {v0 v : V} {vs : List V} {p : Pi} {ps : List Pi} {s0 s : Sta} {ss : List Sta} (h : StsO K H (v0 :: vs) (p :: ps) (s0 :: ss)) (hv : StaO K H v s) (hw : Wi p s) : StsO K H (v :: vs) (p :: ps) (s :: ss) := by
  refine ⟨h.1, h.2.1, fun i u q t h1 h2 h3 => ?_⟩
  cases i with
  | zero =>
    cases h1
    cases h2
    cases h3
    exact ⟨hv, hw⟩
  | succ i => exact h.2.2 (i + 1) u q t h1 h2 h3
theorem StsO.snoc {K : PySem.W.Frag} {H : Hp} {ws : List V} {ps : List Pi} {ss : List Sta} {v : V} {p : Pi} {s : Sta} (h : StsO K H ws ps ss) (hv : StaO K H v s) (hw : Wi p s) : StsO K H (ws ++ [v]) (ps ++ [p]) (ss ++ [s]) := by
  have e1 := h.1
  have e2 := h.2.1
  refine ⟨by rw [List.length_append, List.length_append, e1] <;> rfl, by rw [List.length_append, List.length_append, e2] <;> rfl, fun j v5 p5 t5 h1 h2 h3 => ?_⟩
  by_cases hj : j < ps.length
  · rw [List.getElem?_append_left (by omega)] at h1 h2 h3
    exact h.2.2 j v5 p5 t5 h1 h2 h3
  · rw [List.getElem?_append_right (by omega)] at h1 h2 h3
    have hj0 : j - ps.length = 0 := by
      have := (List.getElem?_eq_some_iff.mp h2).1
      have : j - ps.length < 1 := this
      omega
    rw [e1, hj0] at h1
    rw [hj0] at h2
    rw [e2, hj0] at h3
    cases h1
    cases h2
    cases h3
    exact ⟨hv, hw⟩
theorem sta_shaped (s : Sta) : SeqAt.shaped (stD s) = true := inD_shaped _
theorem two_shaped (s t : Sta) : SeqAt.shaped (.list [stD s, stD t]) = true := by
  have h : ∀ s : Sta, PyData.canLay0 (stD s) = true ∧ PyData.depth (stD s) ≤ 1 := fun s => by
    obtain ⟨a, b⟩ := inD_lay (staI s)
    unfold stD inD
    exact ⟨by simpa only [PyData.canLay0] using a, by simp only [PyData.depth]; omega⟩
  obtain ⟨a1, a2⟩ := h s
  obtain ⟨b1, b2⟩ := h t
  unfold SeqAt.shaped
  have e1 : PyData.canLay0 (.list [stD s, stD t]) = true := by
    simp only [PyData.canLay0, PyData.canLayAll0, a1, b1]
    rfl
  have e2 : PyData.depth (.list [stD s, stD t]) ≤ 64 := by
    simp only [PyData.depth, PyData.depthAll]
    omega
  rw [e1, decide_eq_true e2] <;> rfl
theorem staI_inj {s t : Sta} : (staI s = staI t) ↔ s = t := by
  constructor
  · intro h
    cases s with
    | none =>
      have := sta_found t
      rw [← h, sta_found none] at this
      cases t with
      | none => rfl
      | some _ => cases this
    | some a =>
      cases t with
      | none =>
        have := sta_found (some a)
        rw [h, sta_found none] at this
        cases this
      | some b =>
        have e : a.map (fun (i : Nat) => (i : Int)) = b.map (fun (i : Nat) => (i : Int)) := h
        have : a = b := by
          have r : ∀ l : List Nat, (l.map (fun (i : Nat) => (i : Int))).map Int.toNat = l := fun l => by
            induction l with
            | nil => rfl
            | cons x y ih =>
              rw [List.map_cons, List.map_cons, ih] <;> rfl
          have := congrArg (List.map Int.toNat) e
          rw [r, r] at this
          exact this
        rw [this]
  · rintro rfl
    rfl
theorem std_eq (s t : Sta) : PyData.eqv (stD s) (stD t) = decide (s = t) := by
  unfold stD
  rw [inD_eq]
  exact decide_eq_decide.mpr staI_inj
theorem ends_len {ps : List Pi} {ss : List Sta} (h : ss.length = ps.length) : (ends ps ss).length = ps.length := zw_len _ h
theorem letsC {c : Nat} (h : c ∈ LSs.cps.toList) : c ∈ LETc := by
  have : LSs.cps.toList = LETc := by decide +kernel
  exact this ▸ h
end Sq
/-! _law_right. -/
namespace Sq
open PySem PySem.Spec PyProof.Rows L2 Sf Sf4
def NRt : List Str := ["_law_pot_here", "_law_letters", "_law_many", "_law_asked_here", "_law_query", "_law_turn", "_law_sign", "_law_here", "_law_one", "_law_sound", "_law_told", "_law_due", "_law_so_here", "_law_alone", "_law_both"]
theorem scRt : FnScope NRt ["_law_pot_here"] (defScope sLRight) := ⟨rfl, rfl, rfl, by decide +kernel, rfl, by decide +kernel, by decide +kernel⟩
abbrev S15 (p : Addr) (L : List Nat) (m : Nat) (v : V) (z : Addr) (a b c d e f g h k : Option V) : L2.St := [some (.ref p), some (.str (tx L)), some (.int (m : Int)), some v, some (.ref z), a, b, c, none, d, e, f, g, h, k]
theorem NodO.first {K : PySem.W.Frag} {H : Hp} {v : V} {c : Nat} {p : Pi} {ps : List Pi} {s : Sta} {ss : List Sta} (h : NodO K H v c (p :: ps) (s :: ss)) : ∃ n sa x xs, v = .ref n ∧ SqT K H n [.str (tx [c]), .ref sa] ∧ SqT K H sa (x :: xs) ∧ StaO K H x s ∧ Wi p s ∧ StsO K H (x :: xs) (p :: ps) (s :: ss) := by
  obtain ⟨n, sa, svs, rfl, h1, h2, h3⟩ := h
  cases svs with
  | nil =>
    have := h3.1
    cases this
  | cons x xs =>
    obtain ⟨a, b⟩ := h3.2.2 0 x p s rfl rfl rfl
    exact ⟨n, sa, x, xs, rfl, h1, h2, a, b, h3⟩
def spRt : Sp := fun vs H Q _ => ∃ (p : Addr) (n : Int), vs = [.ref p] ∧ Pot H p n ∧ n + 5000 < 1000000 ∧ ∀ H', Kp p H H' → Pot H' p (n + 5000) → Q (.bl true) H'
section
variable {P : Program} {w : World} {K : PySem.W.Frag} {mg : Str → Option Value} {base : Heap} {CQ C aF fb : Addr} {f : Nat → Addr} {fd : Nat → FuncData} {nf : Nat → Addr} {nfd : Nat → FuncData} {db : FuncData} {lf : Nat → Addr} {lfd : Nat → FuncData} {tk tn : Nat → Tok} {pf : Nat → Addr} {pfd : Nat → FuncData} {gR gW gS : Addr} {dR dW dS : FuncData} {qf : Nat → Addr} {qfd : Nat → FuncData} {tq : Nat → Tok}
variable {RC WC : Addr} {rf_ wf' : Nat → Addr} {rd wd : Nat → FuncData} {cd : Addr} {ces : Array DictEntry} {cn : Nat} {ct : Nat → Addr}
theorem ok_rt (L0 : LawT K mg f fd) (T : NoT K mg C aF nf nfd fb db tn) (TQ : QuT K mg CQ qf qfd tq) (TP : PatT K mg C pf pfd tk gR gW dR dW) (TR : RT K w mg RC rf_ rd tk cd ces cn ct) (TW : WT K mg WC wf' wd tk) (TS : ST K mg tk gS dS) (TL : LqT K mg lf lfd) :
    FnG P w K mg base 97 (lf 6) (lfd 6) ["_law_pot_here"] spRt := by
  refine okG (k := 96) TL.right.F scRt (fun vs H Q E h => ?_) (fun cdv A outer s H vs Q E hr hgd h => ?_)
  · obtain ⟨p, n, rfl, _⟩ := h
    rfl
  · obtain ⟨p, n, rfl, hp, hn, fin⟩ := h
    have hu := hr.units
    have hu65 := hr.un
    replace hu65 : (A.deeper (envOfC (Str.ofString "_law_right") (defScope sLRight) s.heap.objs.size (lf 6) cdv)).units + 65 < cLine := by omega
    have GD := law_draw (P := P) (w := w) (base := base) L0
    have GA := law_any (P := P) (w := w) (base := base) L0
    have GLt := ok_lets (P := P) (w := w) (base := base) (mg := mg) (k := 0) L0.lets.F
    have GAsk := ok_ask (P := P) (w := w) (base := base) L0 TL
    have GMd := ok_made (P := P) (w := w) (base := base) L0 TQ TP TR TW TS TL 8
    have GSt := ok_LS (P := P) (w := w) (base := base) L0 TP TL
    have GNx := ok_nx (P := P) (w := w) (base := base) T TQ TP
    have GLN := ok_LNx (P := P) (w := w) (base := base) T TQ TP TL
    have GIs := ok_iso (P := P) (w := w) (base := base) T TQ TP
    have GSo := ok_LSo (P := P) (w := w) (base := base) T TP TL 8
    have kbn := kb_next T.nn.F
    have kbi := kb_iso T.iso.F
    refine ⟨_, Evl.pss_cut (ps_par (i := 1) (j := 2) rfl scRt.nd rfl rfl (by decide) rfl rfl (pa_cons (pe_call GA (hr.mono (by decide)) (by rfl) L0.any.g L0.any.F.kp L0.any.b .nil pass0 (pa_cons (pv 0) (pa_cons (pe_lst (pa_cons pe_str (pa_cons pe_str (pa_cons pe_str pa_nil)))) pa_nil)))
          (pa_cons (pe_op op_add pe_int (pe_call GD (hr.mono (by decide)) (by rfl) L0.draw.g L0.draw.F.kp L0.draw.b .nil pass0 (pa_cons (pv 0) (pa_cons pe_int pa_nil)))) pa_nil)) (by rfl))
      (Evl.pss_cut (ps_set (i := 3) scRt.nd rfl (.inl rfl) (pe_call GAsk (hr.mono (by decide)) (by rfl) TL.ask.g TL.ask.F.kp TL.ask.b .nil pass0 (pa_cons (pv 0) (pa_cons (pv 1) (pa_cons pe_int (pa_cons (pv 2) pa_nil))))))
      (Evl.pss_cut (ps_set (i := 4) scRt.nd rfl (.inl rfl) (pe_call GMd (hr.mono (by decide)) (by rfl) TL.made.g TL.made.F.kp TL.made.b .nil pass0 (pa_cons (pv 3) pa_nil)))
      (pss_cons (ps_for PassesOwn.never rfl (pi_range1 rfl L0.zrange (pa_cons pe_int pa_nil)) (pg_name (i := 5) scRt.nd rfl (.inl rfl))
        (Evl.pss_cut (ps_set (i := 6) scRt.nd rfl (.inl rfl) (pe_call GA (hr.mono (by decide)) (by rfl) L0.any.g L0.any.F.kp L0.any.b .nil pass0 (pa_cons (pv 0) (pa_cons (pe_op op_add_str (pe_op op_add_str pe_str (pv 1)) (pe_call GA (hr.mono (by decide)) (by rfl) L0.any.g L0.any.F.kp L0.any.b .nil pass0 (pa_cons (pv 0) (pa_cons (pe_call0 GLt (hr.mono (by decide)) (by rfl) L0.lets.g L0.lets.F.kp L0.lets.b .nil pass0) pa_nil)))) pa_nil))))
        (Evl.pss_cut (ps_set (i := 7) scRt.nd rfl (.inl rfl) (pe_tup (pa_cons (pv 6) (pa_cons (pe_tupleOf (by rfl) TL.ztup (pe_lc (own := [("_law_one", 8)]) (g := gName 8) (tt := tYes) (te := tCall (spLS K C) [] E0 (tCons (tVar 0) (tCons (tVar 8) tNil))) rfl scRt.nd (pi_tup (pe_fld (pv 4) rfl)) (blkOk_by (N := NRt) (sc := defScope sLRight) (by decide +kernel))
            (fun _ _ _ _ _ => pg_name (i := 8) scRt.nd rfl (Or.inl rfl)) (fun _ _ _ _ _ => pts_nil) (fun _ _ _ _ _ => pe_call GSt (hr.mono (by decide)) (by rfl) TL.st.g TL.st.F.kp TL.st.b .nil pass0 (pa_cons (pv 0) (pa_cons (pv 8) pa_nil))))) pa_nil))))
        (Evl.pss_cut (ps_set (i := 9) scRt.nd rfl (.inl rfl) (pe_call GA (hr.mono (by decide)) (by rfl) L0.any.g L0.any.F.kp L0.any.b .nil pass0 (pa_cons (pv 0) (pa_cons (pe_op op_add_str (pv 1) (pe_call GA (hr.mono (by decide)) (by rfl) L0.any.g L0.any.F.kp L0.any.b .nil pass0 (pa_cons (pv 0) (pa_cons (pe_call0 GLt (hr.mono (by decide)) (by rfl) L0.lets.g L0.lets.F.kp L0.lets.b .nil pass0) pa_nil)))) pa_nil))))
        (Evl.pss_cut (ps_par (i := 10) (j := 11) rfl scRt.nd rfl rfl (by decide) rfl rfl (pa_cons (pe_call GNx (hr.mono (by decide)) (by rfl) T.nn.g T.nn.F.kp T.nn.b .nil pass0 (pa_cons (pv 4) (pa_cons (pv 7) (pa_cons (pv 9) pa_nil)))) (pa_cons (pe_call GLN (hr.mono (by decide)) (by rfl) TL.nx.g TL.nx.F.kp TL.nx.b .nil pass0 (pa_cons (pv 4) (pa_cons (pv 7) (pa_cons (pv 9) pa_nil)))) pa_nil)) (by rfl))
        (Evl.pss_cut (ps_if (PW.pt (pw_or (pt_cmpR op_ne (pe_callB (cr_reprD hgd hu) (by rfl) TL.zrepr (by decide +kernel) (pa_cons (pv 10) pa_nil)) (pe_callB (cr_reprD hgd hu) (by rfl) TL.zrepr (by decide +kernel) (pa_cons (pv 11) pa_nil)) (nomark _))
            (pw_or1 (pt_cmpR op_ne (pe_callB (cr_reprD hgd hu) (by rfl) TL.zrepr (by decide +kernel) (pa_cons (pe_kwR GNx (hr.mono (by decide)) (by rfl) T.nn.g T.nn.F.kp kbn pass0 (pk_cons (pv 9) (pk_cons (pv 7) (pk_cons (pv 4) pk_nil)))) pa_nil)) (pe_callB (cr_reprD hgd hu) (by rfl) TL.zrepr (by decide +kernel) (pa_cons (pv 11) pa_nil)) (nomark _))))) (pss_one (ps_ret pe_bl)) pss_nil)
        (Evl.pss_cut (ps_set (i := 12) scRt.nd rfl (.inl rfl) (pe_call GSo (hr.mono (by decide)) (by rfl) TL.so.g TL.so.F.kp TL.so.b .nil pass0 (pa_cons (pv 3) (pa_cons (pe_callTy call_list_of (by rfl) TL.zlist PySem.Pv.boot_list (pa_cons (pe_fld (pv 4) rfl) pa_nil)) (pa_cons (pe_callTy call_list_of (by rfl) TL.zlist PySem.Pv.boot_list (pa_cons (pe_ix ix_tup (pv 7) pe_int (fun _ _ => rfl)) pa_nil)) pa_nil)))))
        (Evl.pss_cut (ps_if (pt_cmpR op_ne (pe_callB (cr_reprD hgd hu) (by rfl) TL.zrepr (by decide +kernel) (pa_cons (pe_lst (pa_cons (pe_call GIs (hr.mono (by decide)) (by rfl) T.iso.g T.iso.F.kp T.iso.b .nil pass0 (pa_cons (pv 4) (pa_cons (pv 7) pa_nil))) (pa_cons (pe_kwR GIs (hr.mono (by decide)) (by rfl) T.iso.g T.iso.F.kp kbi pass0 (pk_cons (pv 7) (pk_cons (pv 4) pk_nil))) pa_nil))) pa_nil))
            (pe_callB (cr_reprD hgd hu) (by rfl) TL.zrepr (by decide +kernel) (pa_cons (pe_lst (pa_cons (pv 12) (pa_cons (pv 12) pa_nil))) pa_nil)) (nomark _)) (pss_one (ps_ret pe_bl)) pss_nil)
        (Evl.pss_cut (ps_set (i := 13) scRt.nd rfl (.inl rfl) (pe_lst (pa_cons (pe_ix ix_tup (pe_ix ix_tup (pe_call GNx (hr.mono (by decide)) (by rfl) T.nn.g T.nn.F.kp T.nn.b .nil pass0 (pa_cons (pv 4) (pa_cons (pe_tup (pa_cons (pv 6) (pa_cons (pe_op op_catA (pe_tup (pa_cons (pe_slice sl_tupA (pe_ix ix_tup (pe_ix ix_tup (pv 7) pe_int (fun _ _ => rfl)) pe_int (fun _ _ => rfl)) po_none (po_some pe_int)) pa_nil)) (pe_slice sl_tupA (pe_ix ix_tup (pv 7) pe_int (fun _ _ => rfl)) (po_some pe_int) po_none)) pa_nil))) (pa_cons (pv 9) pa_nil)))) pe_int (fun _ _ => rfl)) pe_int (fun _ _ => rfl)) pa_nil)))
        (Evl.pss_cut (ps_expr (pe_bm PySem.F.plainAttrs_list PySem.F.slot_list_append PySem.F.type_list_append mt_append (pv 13) (pa_cons (pe_ix ix_tup (pe_ix ix_tup (pe_call GNx (hr.mono (by decide)) (by rfl) T.nn.g T.nn.F.kp T.nn.b .nil pass0 (pa_cons (pv 4) (pa_cons (pe_tup (pa_cons (pv 6) (pa_cons (pe_op op_catA (pe_tup (pa_cons (pe_slice sl_tupA (pe_ix ix_tup (pe_ix ix_tup (pv 7) pe_int (fun _ _ => rfl)) pe_int (fun _ _ => rfl)) (po_some pe_int) po_none) pa_nil)) (pe_slice sl_tupA (pe_ix ix_tup (pv 7) pe_int (fun _ _ => rfl)) (po_some pe_int) po_none)) pa_nil))) (pa_cons (pv 9) pa_nil)))) pe_int (fun _ _ => rfl)) pe_int (fun _ _ => rfl)) pa_nil)))
        (Evl.pss_cut (ps_set (i := 14) scRt.nd rfl (.inl rfl) (pe_ifExp (pt_cmpR (op_inD hu65) (pe_tup (pa_cons (pe_un un_neg pe_int) pa_nil)) (pv 13) rfl) (pe_tup (pa_cons (pe_un un_neg pe_int) pa_nil))
            (pe_tupleOf (by rfl) TL.ztup (pe_callB (cr_sortedSet rfl) (by rfl) TL.zsorted (by decide +kernel) (pa_cons (pe_callTy (cr_setIT rfl) (by rfl) TL.zset PySem.Pv.boot_set (pa_cons (pe_op op_catA (pe_ix ix_list (pv 13) pe_int (fun _ _ => rfl)) (pe_ix ix_list (pv 13) pe_int (fun _ _ => rfl))) pa_nil)) pa_nil)))))
        (pss_one (ps_if (PW.pt (pw_and (pt_cmpR (op_neD hu) (pe_ix ix_tup (pe_ix ix_tup (pv 7) pe_int (fun _ _ => rfl)) pe_int (fun _ _ => rfl)) (pe_tup (pa_cons (pe_un un_neg pe_int) pa_nil)) (nomark _)) (pw_and1 (pt_cmpR (op_neD hu) (pe_ix ix_tup (pe_ix ix_tup (pv 10) pe_int (fun _ _ => rfl)) pe_int (fun _ _ => rfl)) (pv 14) (nomark _))))) (pss_one (ps_ret pe_bl)) pss_nil)))))))))))))
      (pss_one (ps_ret pe_bl))))), ?_⟩
    refine ⟨fun σ H1 => ∃ (L : List Nat) (m : Nat), σ = [some (.ref p), some (.str (tx L)), some (.int (m : Int)), none, none, none, none, none, none, none, none, none, none, none, none] ∧ L ≠ [] ∧ L.length ≤ 38 ∧ (∀ c ∈ L, c ∈ LETc) ∧ 1 ≤ m ∧ m ≤ 3 ∧ Pot H1 p (n + 5) ∧ Kp p H H1, ?_, fun σ H1 hM => ?_⟩
    · refine ⟨.ref p, rfl, (show 3 ≤ sizeLine by decide), fun l nl => ⟨p, _, .ref l, rfl, hp.up nl, by omega, .inr ⟨l, _, rfl, fun hK => .inl (.inl (hK l _ (hp.ne nl) upd_same)), (show 0 < 3 by decide), (show 3 ≤ 1000 by decide), fun vL H2 hvL hp2 k2 => ?_⟩⟩⟩
      obtain ⟨L, rfl, l0, lK, lc⟩ : ∃ L : List Nat, vL = .str (tx L) ∧ L ≠ [] ∧ L.length ≤ 38 ∧ ∀ c ∈ L, c ∈ LETc := by
        simp only [List.mem_cons, List.not_mem_nil, or_false] at hvL
        rcases hvL with rfl | rfl | rfl
        · exact ⟨[97, 98], by decide +kernel, by decide, by decide, by decide⟩
        · exact ⟨[97, 98, 32], by decide +kernel, by decide, by decide, by decide⟩
        · exact ⟨[97, 48, 95, 98], by decide +kernel, by decide, by decide, by decide⟩
      refine ⟨.ref p, rfl, p, _, 3, rfl, hp2, by omega, by decide, by decide, fun r H3 r0 r1 hp3 k3 => ⟨1, r, rfl, rfl, _, _, rfl, L, (1 + r).toNat, ?_, l0, lK, lc, by omega, by omega, hp3.mono (by omega), ((Kp.same (smU nl)).trans k2).trans k3⟩⟩
      rw [show (((1 + r).toNat : Nat) : Int) = 1 + r by omega] <;> rfl
    obtain ⟨L, m, rfl, l0, lK, lc, hm1, hm3, hp1, k1⟩ := hM
    refine ⟨fun σ H2 => ∃ v q, σ = [some (.ref p), some (.str (tx L)), some (.int (m : Int)), some v, none, none, none, none, none, none, none, none, none, none, none] ∧ AsO H2 v q ∧ (∀ x ∈ pats q, Askd (8 / m) x) ∧ 1 ≤ (pats q).length ∧ Fit q ∧ Pot H2 p (n + 4010) ∧ Kp p H H2,
      ⟨.ref p, rfl, _, rfl, _, rfl, p, _, L, m, rfl, hm1, hm3, hp1, by omega, l0, lK, lc, fun v q H2 o ak ln ft hp2 k2 => ⟨v, q, rfl, o, ak, ln, ft, hp2.mono (by omega), k1.trans k2⟩⟩, fun σ H2 hM => ?_⟩
    obtain ⟨v, q0, rfl, o, ak, ln0, ft0, hp2, k2⟩ := hM
    refine ⟨fun σ H3 => ∃ z q, σ = S15 p L m v z none none none none none none none none none ∧ QuO CQ C H3 z q ∧ AsO H3 v q ∧ 1 ≤ (pats q).length ∧ Fit q ∧ Pot H3 p (n + 4010) ∧ Kp p H H3,
      ⟨_, rfl, v, q0, rfl, o, ft0.d, ft0, fun x hx => ?_, fun z q H3 s3 qo e => ⟨z, q, rfl, qo, AsO.of_n e (o.ki (KI.same s3)), ?_, Fit.of_n e ft0, hp2.same s3, k2.trans (Kp.same s3)⟩⟩, fun σ H3 hM => ?_⟩
    · obtain ⟨a, b, c, d, s, l⟩ := ak x hx
      exact ⟨a, b, c, d, Nat.le_trans s (Nat.div_le_self 8 m), l⟩
    · have := congrArg List.length (congrArg pats e)
      rw [pats_n, pats_n, List.length_map, List.length_map] at this
      omega
    obtain ⟨z, q, rfl, qo, ao, ln, ft, hp3, k3⟩ := hM
    clear ak o
    have h3n := ft.n
    have eC94 : Str.ofString "^" = tx [94] := by decide +kernel
    obtain ⟨p0, pr, hq⟩ : ∃ p0 pr, pats q = p0 :: pr := by
      cases hh : pats q with
      | nil =>
        rw [hh] at ln
        cases ln
      | cons a b => exact ⟨a, b, rfl⟩
    have hpr : pr.length ≤ 2 := by
      rw [hq] at h3n
      exact Nat.le_of_succ_le_succ h3n
    refine ⟨_, rfl, by decide, by decide, ?_⟩
    refine for_it (walk_range (lo := 0) (n := 6)) (fun i σ H4 => ∃ y5 y6 y7 y9 y10 y11 y12 y13 y14, σ = S15 p L m v z y5 y6 y7 y9 y10 y11 y12 y13 y14 ∧ QuO CQ C H4 z q ∧ AsO H4 v q ∧ Pot H4 p (n + 4010 + 100 * (i : Int)) ∧ Kp p H H4)
      ⟨_, _, _, _, _, _, _, _, _, rfl, qo, ao, hp3.mono (by omega), k3⟩ (fun _ _ _ _ _ => True.intro) (fun i xi σ H4o H4 hi hP hy => ?_) (fun σ H4 hP => ?_)
    · obtain ⟨y5, y6, y7, y9, y10, y11, y12, y13, y14, rfl, qo4, ao4, hp4, k4⟩ := hP
      obtain ⟨rfl, rfl⟩ := hy
      have p8 : ∀ {H' : Hp}, QuO CQ C H' z q → ∀ x ∈ pats q, sz x.t ≤ 8 := fun h x hx => by
        obtain ⟨_, _, _, _, ot, _⟩ := h
        exact (ot.pis x hx).2.1
      have p8' := p8 qo4
      -- the sign
      refine ⟨fun σ H5 => ∃ c, σ = S15 p L m v z (some (.int (0 + (i : Int)))) (some (.str (tx [c]))) y7 y9 y10 y11 y12 y13 y14 ∧ c ∈ 94 :: LETc ∧ QuO CQ C H5 z q ∧ AsO H5 v q ∧ Pot H5 p (n + 4010 + 100 * (i : Int) + 2) ∧ Kp p H H5, ?_, fun σ H5 hM => ?_⟩
      · have es : ∀ c1 : Nat, Str.ofString "^" ++ tx L ++ (⟨#[c1]⟩ : Str) = tx (94 :: (L ++ [c1])) := fun c1 => by
          rw [eC94, tx_app]
          show tx _ ++ tx [c1] = _
          rw [tx_app] <;> rfl
        refine ⟨.ref p, rfl, _, rfl, _, _, rfl, rfl, ?_, .ref p, rfl, rfl, p, _, .str LSs, rfl, hp4, by omega, .inl ⟨LSs, rfl, by decide +kernel, by decide +kernel, fun c1 H5 hc1 hp5 k5 => ⟨_, _, rfl, rfl, ?_, p, _, _, rfl, hp5, by omega, .inl ⟨_, rfl, ?_, ?_, fun c H6 hc hp6 k6 => ⟨c, rfl, ?_, qo4.ki (KI.kp hp4 (k5.trans k6)), ao4.ki (KI.kp hp4 (k5.trans k6)), hp6.mono (by omega), k4.trans (k5.trans k6)⟩⟩⟩⟩⟩
        · rw [eC94]
          exact len2 (by rw [List.length_singleton]; omega)
        · rw [eC94, tx_app]
          show (tx _).length + (tx [c1]).length ≤ _
          exact len2 (by rw [List.length_append, List.length_singleton, List.length_singleton]; omega)
        · rw [es, tx_len]
          exact Nat.zero_lt_succ _
        · rw [es, tx_len, List.length_cons, List.length_append, List.length_singleton]
          omega
        · rw [es] at hc
          replace hc : c ∈ 94 :: (L ++ [c1]) := hc
          rcases List.mem_cons.mp hc with rfl | hc
          · exact List.mem_cons_self
          · refine List.mem_cons_of_mem _ ?_
            rcases List.mem_append.mp hc with h | h
            · exact lc c h
            · rw [List.mem_singleton.mp h]
              exact letsC hc1
      obtain ⟨c, rfl, hc94, qo5, ao5, hp5, k5⟩ := hM
      clear qo4 ao4 hp4 k4
      -- the node
      refine ⟨fun σ H6 => ∃ hv ss, σ = S15 p L m v z (some (.int (0 + (i : Int)))) (some (.str (tx [c]))) (some hv) y9 y10 y11 y12 y13 y14 ∧ NodO K H6 hv c (pats q) ss ∧ QuO CQ C H6 z q ∧ AsO H6 v q ∧ Pot H6 p (n + 4010 + 100 * (i : Int) + 50) ∧ Kp p H H6, ?_, fun σ H6 hM => ?_⟩
      · obtain ⟨dx, tv, pa, e1, ot, ep⟩ := id qo5
        refine ⟨_, rfl, _, rfl, z, CQ, dx, _, _, rfl, e1, TQ.cl, TQ.n2, rfl, pa, rfl, ⟨_, .inl (.inl ep)⟩, fun D hD => ?_⟩
        have nDp := hp5.ne hD
        refine lc_it (walk_tup (K := K) (a := pa) (xs := piV (pats q))) (fun j H6 => ∃ ws ss, H6 D = some (.lst ws) ∧ StsO K H6 ws ((pats q).take j) ss ∧ Pot H6 p (n + 4010 + 100 * (i : Int) + 2 + 10 * (j : Int)) ∧ Kp p H5 H6)
          ⟨[], [], upd_same, ⟨rfl, rfl, fun i v p s h => by cases h⟩, (hp5.up hD).mono (by omega), Kp.same (smU hD)⟩ (fun j H6 _ hP => ?_) (fun j xj H6 H6' hj hP hy => ?_) (fun H6 hP => ?_)
        · obtain ⟨_, _, _, _, _, k6⟩ := hP
          exact .inl (.inl ((KI.kp hp5 k6).kt _ _ ep))
        · obtain ⟨ws, ss, eD, sts, hp6, k6⟩ := hP
          obtain ⟨rfl, hx⟩ := hy
          obtain ⟨pk, hpk, rfl⟩ := piV_at hx
          have hj3 : j < 3 := by
            have : j < (pats q).length := (List.getElem?_eq_some_iff.mp hpk).1
            omega
          refine ⟨rfl, .ref p, rfl, _, rfl, p, _, pk, rfl, hp6, by omega, (ot.pis pk (List.mem_of_getElem? hpk)).ki (KI.kp hp5 k6), fun v' s' H7 so wi hp7 k7 => ?_⟩
          have eD7 := k7 D _ nDp eD
          have hwl := sts.1
          rw [List.length_take] at hwl
          refine ⟨ws, eD7, Nat.lt_of_le_of_lt (show ws.length ≤ 3 by omega) (by decide), ws ++ [v'], ss ++ [s'], upd_same, ?_, (hp7.wr nDp).mono (by omega), kp_wr (k6.trans k7) hD⟩
          rw [take_atG hpk]
          exact (sts.ki ((KI.kp hp6 k7).trans (KI.wr eD7))).snoc (so.ki (KI.wr eD7)) wi
        · obtain ⟨ws, ss, eD, sts, hp6, k6⟩ := hP
          rw [piV_len] at sts hp6
          rw [List.take_length] at sts
          refine .inl ⟨D, ws, rfl, .inl (.inl eD), fun Tw nT => ⟨(show 2 ≤ sizeLine by decide), fun hA nA => ?_⟩⟩
          have u1 := smU (o := HO.tup ws) nT
          have u2 := smU (o := HO.tup [V.str (tx [c]), .ref Tw]) nA
          have ki := (KI.kp hp5 k6).trans (KI.same (u1.trans u2))
          exact ⟨.ref hA, ss, rfl, ⟨hA, Tw, ws, rfl, .inl (.inl upd_same), .inl (.inl (u2 _ _ upd_same)), sts.ki (KI.same (u1.trans u2))⟩, qo5.ki ki, ao5.ki ki, (hp6.same (u1.trans u2)).mono (by omega), k5.trans (k6.trans (Kp.same (u1.trans u2)))⟩
      obtain ⟨hv, ss, rfl, nod6, qo6, ao6, hp6, k6⟩ := hM
      clear qo5 ao5 hp5 k5
      -- the letter
      refine ⟨fun σ H7 => ∃ c2, σ = S15 p L m v z (some (.int (0 + (i : Int)))) (some (.str (tx [c]))) (some hv) (some (.str (tx [c2]))) y10 y11 y12 y13 y14 ∧ c2 ∈ LETc ∧ NodO K H7 hv c (pats q) ss ∧ QuO CQ C H7 z q ∧ AsO H7 v q ∧ Pot H7 p (n + 4010 + 100 * (i : Int) + 60) ∧ Kp p H H7, ?_, fun σ H7 hM => ?_⟩
      · have es : ∀ c1 : Nat, tx L ++ (⟨#[c1]⟩ : Str) = tx (L ++ [c1]) := fun c1 => by
          show tx _ ++ tx [c1] = _
          rw [tx_app]
        refine ⟨.ref p, rfl, _, rfl, .ref p, rfl, rfl, p, _, .str LSs, rfl, hp6, by omega, .inl ⟨LSs, rfl, by decide +kernel, by decide +kernel, fun c1 H7 hc1 hp7 k7 => ⟨_, _, rfl, rfl, ?_, p, _, _, rfl, hp7, by omega, .inl ⟨_, rfl, ?_, ?_, fun c2 H8 hc hp8 k8 => ⟨c2, rfl, ?_, nod6.ki (KI.kp hp6 (k7.trans k8)), qo6.ki (KI.kp hp6 (k7.trans k8)), ao6.ki (KI.kp hp6 (k7.trans k8)), hp8.mono (by omega), k6.trans (k7.trans k8)⟩⟩⟩⟩⟩
        · show (tx _).length + (tx [c1]).length ≤ _
          exact len2 (by rw [List.length_singleton]; omega)
        · rw [es, tx_len, List.length_append]
          exact Nat.zero_lt_succ _
        · rw [es, tx_len, List.length_append, List.length_singleton]
          omega
        · rw [es] at hc
          replace hc : c2 ∈ L ++ [c1] := hc
          rcases List.mem_append.mp hc with h | h
          · exact lc c2 h
          · rw [List.mem_singleton.mp h]
            exact letsC hc1
      obtain ⟨c2, rfl, hc2, nod7, qo7, ao7, hp7, k7⟩ := hM
      clear nod6 qo6 ao6 hp6 k6
      have hc2' : c2 ∈ 94 :: LETc := List.mem_cons_of_mem _ hc2
      -- told and due
      refine ⟨fun σ H8 => ∃ tv dv, σ = S15 p L m v z (some (.int (0 + (i : Int)))) (some (.str (tx [c]))) (some hv) (some (.str (tx [c2]))) (some tv) (some dv) y12 y13 y14 ∧ NodO K H8 tv c2 (pats q) (steps c2 (decide (c = 94)) (pats q) ss) ∧ NodO K H8 dv c2 (pats q) (steps c2 (decide (c = 94)) (pats q) ss) ∧ NodO K H8 hv c (pats q) ss ∧ QuO CQ C H8 z q ∧ AsO H8 v q ∧ Pot H8 p (n + 4010 + 100 * (i : Int) + 60) ∧ Kp p H H8,
        ⟨_, rfl, _, rfl, _, rfl, z, q, hv, c, c2, ss, rfl, qo7, by omega, nod7, fun tv H8 s8 t8 => ⟨_, rfl, _, rfl, _, rfl, z, q, hv, c, c2, ss, rfl, qo7.ki (KI.same s8), by omega, nod7.ki (KI.same s8), fun dv H9 s9 d9 => ⟨_, _, rfl, tv, dv, rfl, t8.ki (KI.same s9), d9, nod7.ki (KI.same (s8.trans s9)), qo7.ki (KI.same (s8.trans s9)), ao7.ki (KI.same (s8.trans s9)), hp7.same (s8.trans s9), k7.trans (Kp.same (s8.trans s9))⟩⟩⟩, fun σ H8 hM => ?_⟩
      clear nod7 qo7 ao7 hp7 k7
      obtain ⟨tv, dv, rfl, tn, dn, nod7, qo7, ao7, hp7, k7⟩ := hM
      have smt := sm_nod tn hc2' p8' h3n
      -- the first question
      refine ⟨fun σ H9 => σ = S15 p L m v z (some (.int (0 + (i : Int)))) (some (.str (tx [c]))) (some hv) (some (.str (tx [c2]))) (some tv) (some dv) y12 y13 y14 ∧ Same H8 H9, ?_, fun σ H9 hM => ?_⟩
      · refine ⟨_, rfl, tv, _, 3000, 3, rfl, tn.dp, smt, by decide, by decide, _, rfl, dv, _, 3000, 3, rfl, dn.dp, smt, by decide, by decide, rfl, _, rfl, ?_⟩
        rw [decide_eq_true rfl]
        refine iteF ⟨_, rfl, _, rfl, _, rfl, rfl, z, q, hv, c, c2, ss, rfl, qo7, by omega, nod7, fun tv2 H9 s9 n9 => ⟨tv2, _, 3000, 3, rfl, n9.dp, smt, by decide, by decide, _, rfl, dv, _, 3000, 3, rfl, (dn.ki (KI.same s9)).dp, smt, by decide, by decide, rfl, _, rfl, ?_⟩⟩
        rw [decide_eq_true rfl]
        exact iteF ⟨rfl, s9⟩
      obtain ⟨rfl, s9⟩ := hM
      have s79 := s9
      have sts := nod7
      obtain ⟨n0, sa, svs, rfl, hn7, hs7, so7⟩ := sts
      -- the answer by its tree
      refine ⟨fun σ H10 => σ = S15 p L m v z (some (.int (0 + (i : Int)))) (some (.str (tx [c]))) (some (.ref n0)) (some (.str (tx [c2]))) (some tv) (some dv) (some (.bl (tru q (ends (pats q) ss)))) y13 y14 ∧ Same H8 H10, ?_, fun σ H10 hM => ?_⟩
      · obtain ⟨dx, tv', pa, e1, ot, ep⟩ := id (qo7.ki (KI.same s79))
        refine ⟨_, rfl, _, rfl, z, CQ, dx, _, _, rfl, e1, TQ.cl, TQ.n2, rfl, pa, _, rfl, .inr (.inl (.inl ep)), fun l1 nl1 => ?_⟩
        have u1 := smU (o := HO.lst (piV (pats q))) nl1
        refine ⟨_, rfl, n0, _, 1, _, rfl, rfl, hn7.ki (KI.same (s79.trans u1)), atI_nat (j := 1) rfl, sa, _, rfl, .inr (hs7.ki (KI.same (s79.trans u1))), fun l2 nl2 => ?_⟩
        have u2 := smU (o := HO.lst svs) nl2
        have n12 : l1 ≠ l2 := fun h => by
          rw [← h, upd_same] at nl2
          cases nl2
        have nl2' := u1.free nl2
        have sss := s79.trans (u1.trans u2)
        refine ⟨v, q, l1, l2, [], svs, ss, rfl, ao7.ki (KI.same sss), ft.d, n12, by rw [List.append_nil]; exact u2 _ _ upd_same, upd_same, by rw [List.append_nil]; exact so7.ki (KI.same sss), fun x hx => (ot.pis x hx).ki (KI.same (u1.trans u2)), fun H10 k10 _ _ => ?_⟩
        rw [List.append_nil]
        exact ⟨rfl, fun b o hb => k10 b o (ne_of_none (s79 _ _ hb) nl1) (ne_of_none (s79 _ _ hb) nl2') (sss _ _ hb)⟩
      obtain ⟨rfl, s10⟩ := hM
      clear s79
      -- the second question
      refine ⟨fun σ H11 => σ = S15 p L m v z (some (.int (0 + (i : Int)))) (some (.str (tx [c]))) (some (.ref n0)) (some (.str (tx [c2]))) (some tv) (some dv) (some (.bl (tru q (ends (pats q) ss)))) y13 y14 ∧ Same H8 H11, ?_, fun σ H11 hM => ?_⟩
      · refine ⟨_, rfl, _, rfl, z, q, .ref n0, c, ss, rfl, qo7.ki (KI.same s10), ft.d, by omega, nod7.ki (KI.same s10), fun H11 s11 => ⟨_, rfl, _, rfl, rfl, z, q, .ref n0, c, ss, rfl, qo7.ki (KI.same (s10.trans s11)), ft.d, by omega, nod7.ki (KI.same (s10.trans s11)), fun H12 s12 => ⟨(show 2 ≤ sizeLine by decide), fun l nl => ?_⟩⟩⟩
        refine ⟨.ref l, _, 100, 2, rfl, .lst (.inl (.inl upd_same)) (.cons (.bl _) (.cons (.bl _) .nil)), sm_bools _ _, by decide, by decide, _, rfl, _, rfl, (show 2 ≤ sizeLine by decide), fun l2 nl2 => ?_⟩
        refine ⟨.ref l2, _, 100, 2, rfl, .lst (.inl (.inl upd_same)) (.cons (.bl _) (.cons (.bl _) .nil)), sm_bools _ _, by decide, by decide, rfl, _, rfl, ?_⟩
        rw [decide_eq_true rfl]
        exact iteF ⟨rfl, s10.trans (s11.trans (s12.trans ((smU nl).trans (smU nl2))))⟩
      obtain ⟨rfl, s11⟩ := hM
      clear s10
      -- the parts
      obtain ⟨s0, sr, rfl⟩ : ∃ s0 sr, ss = s0 :: sr := by
        cases ss with
        | nil =>
          have := so7.2.1
          rw [hq] at this
          cases this
        | cons a b => exact ⟨a, b, rfl⟩
      obtain ⟨v0, vr, rfl⟩ : ∃ v0 vr, svs = v0 :: vr := by
        cases svs with
        | nil =>
          have := so7.1
          rw [hq] at this
          cases this
        | cons a b => exact ⟨a, b, rfl⟩
      have hvr : vr.length ≤ 2 := by
        have := so7.1
        rw [hq] at this
        have : vr.length = pr.length := Nat.succ.inj this
        omega
      have so7' : StsO K H8 (v0 :: vr) (p0 :: pr) (s0 :: sr) := by
        rw [hq] at so7
        exact so7
      obtain ⟨hv7, wi0⟩ := so7'.2.2 0 v0 p0 s0 rfl rfl rfl
      have h8 := p8' p0 (by rw [hq]; exact List.mem_cons_self)
      refine ⟨fun σ H12 => ∃ AL x0, σ = S15 p L m v z (some (.int (0 + (i : Int)))) (some (.str (tx [c]))) (some (.ref n0)) (some (.str (tx [c2]))) (some tv) (some dv) (some (.bl (tru q (ends (pats q) (s0 :: sr))))) (some (.ref AL)) y14 ∧ H12 AL = some (.lst [x0]) ∧ H8 AL = none ∧ StaO K H12 x0 (nxt p0 c2 (decide (c = 94)) (cutA s0)) ∧ Same H8 H12, ?_, fun σ H12 hM => ?_⟩
      · have hn10 := hn7.ki (KI.same s11)
        have hs10 := hs7.ki (KI.same s11)
        have hv10 := hv7.ki (KI.same s11)
        have so10 := so7'.ki (KI.same s11)
        have qo10 := qo7.ki (KI.same s11)
        refine ⟨_, rfl, _, rfl, _, rfl, n0, _, 1, _, rfl, rfl, hn10, atI_nat (j := 1) rfl, sa, _, 0, _, rfl, rfl, hs10, atI_nat (j := 0) rfl, 1, rfl, ?_⟩
        obtain ⟨a0, rfl, ha0⟩ := hv10
        refine sl_first ha0 fun b0 G11 r11 hb0 => ?_
        rw [staV_A] at hb0
        refine ⟨(show 1 ≤ sizeLine by decide), fun T1 n1 => ?_⟩
        have sT1 := smU (o := HO.tup [V.ref b0]) n1
        have s12 := r11.trans sT1
        refine ⟨_, rfl, n0, _, 1, _, rfl, rfl, hn10.ki (KI.same s12), atI_nat (j := 1) rfl, 1, rfl, ?_⟩
        try delta L2.tNoPart
        refine sl_rest (hs10.ki (KI.same s12)) fun b1 H13 s13 hb1 => ?_
        refine cat_any (.inl (.inl (s13 _ _ upd_same))) hb1 (by show 1 + vr.length ≤ 20000; omega) fun b2 H14 s14 hb2 => ?_
        replace hb2 : SqT K H14 b2 (.ref b0 :: vr) := hb2
        refine ⟨(show 2 ≤ sizeLine by decide), fun nd nnd => ?_⟩
        have sN := smU (o := HO.tup [V.str (tx [c]), .ref b2]) nnd
        have s15 := s12.trans (s13.trans (s14.trans sN))
        have st15 := sts_head (v := .ref b0) (s := cutA s0) (so10.ki (KI.same s15)) ⟨b0, rfl, (hb0.ki (KI.same sT1)).ki (KI.same (s13.trans (s14.trans sN)))⟩ (wi_A wi0)
        have nd15 : NodO K (upd H14 nd (.tup [V.str (tx [c]), .ref b2])) (.ref nd) c (pats q) (cutA s0 :: sr) := ⟨nd, b2, _, rfl, .inl (.inl upd_same), hb2.ki (KI.same sN), by rw [hq]; exact st15⟩
        refine ⟨_, rfl, z, q, .ref nd, c, c2, cutA s0 :: sr, rfl, qo10.ki (KI.same s15), by omega, nd15, fun v16 H16 s16 nd16 => ?_⟩
        rw [hq] at nd16
        obtain ⟨n16, sa16, x16, xs16, rfl, i1, i2, i3, i4, _⟩ := NodO.first (p := p0) (ps := pr) (s := nxt p0 c2 (decide (c = 94)) (cutA s0)) nd16
        refine ⟨n16, _, 1, _, rfl, rfl, i1, atI_nat (j := 1) rfl, sa16, _, 0, _, rfl, rfl, i2, atI_nat (j := 0) rfl, (show 1 ≤ sizeLine by decide), fun AL nAL => ?_⟩
        have uA := smU (o := HO.lst [x16]) nAL
        exact ⟨AL, x16, rfl, upd_same, (s11.trans (s15.trans s16)).free nAL, i3.ki (KI.same uA), s11.trans (s15.trans (s16.trans uA))⟩
      obtain ⟨AL, x0, rfl, eAL, hAL0, hx0, s12⟩ := hM
      clear s11
      refine ⟨fun σ H13 => ∃ x1, σ = S15 p L m v z (some (.int (0 + (i : Int)))) (some (.str (tx [c]))) (some (.ref n0)) (some (.str (tx [c2]))) (some tv) (some dv) (some (.bl (tru q (ends (pats q) (s0 :: sr))))) (some (.ref AL)) y14 ∧ H13 AL = some (.lst [x0, x1]) ∧ StaO K H13 x0 (nxt p0 c2 (decide (c = 94)) (cutA s0)) ∧ StaO K H13 x1 (nxt p0 c2 (decide (c = 94)) (cutB s0)) ∧ Same H8 H13, ?_, fun σ H13 hM => ?_⟩
      · have hn10 := hn7.ki (KI.same s12)
        have hs10 := hs7.ki (KI.same s12)
        have hv10 := hv7.ki (KI.same s12)
        have so10 := so7'.ki (KI.same s12)
        have qo10 := qo7.ki (KI.same s12)
        refine ⟨_, rfl, Or.inl ⟨rfl, _, .inl (.inl eAL)⟩, ?_⟩
        refine ⟨_, rfl, _, rfl, _, rfl, n0, _, 1, _, rfl, rfl, hn10, atI_nat (j := 1) rfl, sa, _, 0, _, rfl, rfl, hs10, atI_nat (j := 0) rfl, 1, rfl, ?_⟩
        obtain ⟨a0, rfl, ha0⟩ := hv10
        try delta L2.tNoPart
        refine sl_rest ha0 fun b0 G11 r11 hb0 => ?_
        rw [staV_B] at hb0
        refine ⟨(show 1 ≤ sizeLine by decide), fun T1 n1 => ?_⟩
        have sT1 := smU (o := HO.tup [V.ref b0]) n1
        have s12b := r11.trans sT1
        refine ⟨_, rfl, n0, _, 1, _, rfl, rfl, hn10.ki (KI.same s12b), atI_nat (j := 1) rfl, 1, rfl, ?_⟩
        try delta L2.tNoPart
        refine sl_rest (hs10.ki (KI.same s12b)) fun b1 H13 s13 hb1 => ?_
        refine cat_any (.inl (.inl (s13 _ _ upd_same))) hb1 (by show 1 + vr.length ≤ 20000; omega) fun b2 H14 s14 hb2 => ?_
        replace hb2 : SqT K H14 b2 (.ref b0 :: vr) := hb2
        refine ⟨(show 2 ≤ sizeLine by decide), fun nd nnd => ?_⟩
        have sN := smU (o := HO.tup [V.str (tx [c]), .ref b2]) nnd
        have s15 := s12b.trans (s13.trans (s14.trans sN))
        have st15 := sts_head (v := .ref b0) (s := cutB s0) (so10.ki (KI.same s15)) ⟨b0, rfl, (hb0.ki (KI.same sT1)).ki (KI.same (s13.trans (s14.trans sN)))⟩ (wi_B wi0)
        have nd15 : NodO K (upd H14 nd (.tup [V.str (tx [c]), .ref b2])) (.ref nd) c (pats q) (cutB s0 :: sr) := ⟨nd, b2, _, rfl, .inl (.inl upd_same), hb2.ki (KI.same sN), by rw [hq]; exact st15⟩
        refine ⟨_, rfl, z, q, .ref nd, c, c2, cutB s0 :: sr, rfl, qo10.ki (KI.same s15), by omega, nd15, fun v16 H16 s16 nd16 => ?_⟩
        rw [hq] at nd16
        obtain ⟨n16, sa16, x16, xs16, rfl, i1, i2, i3, i4, _⟩ := NodO.first (p := p0) (ps := pr) (s := nxt p0 c2 (decide (c = 94)) (cutB s0)) nd16
        have eAL16 := s16 _ _ (s15 _ _ eAL)
        refine ⟨n16, _, 1, _, rfl, rfl, i1, atI_nat (j := 1) rfl, sa16, _, 0, _, rfl, rfl, i2, atI_nat (j := 0) rfl, AL, _, x16, rfl, rfl, eAL16, (show 1 < sizeLine by decide), x16, rfl, upd_same, (hx0.ki (KI.same (s15.trans s16))).ki (KI.wr eAL16), i3.ki (KI.wr eAL16), fun b o hb => ?_⟩
        rw [upd_ne (ne_of_none hb hAL0)]
        exact s16 _ _ (s15 _ _ (s12 _ _ hb))
      obtain ⟨x1, rfl, eAL, hx0, hx1, s13⟩ := hM
      clear s12
      -- both
      have w0 : Wi p0 (nxt p0 c2 (decide (c = 94)) (cutA s0)) := nxt_wi _ _ _ _ h8
      have w1 : Wi p0 (nxt p0 c2 (decide (c = 94)) (cutB s0)) := nxt_wi _ _ _ _ h8
      refine ⟨fun σ H14 => ∃ bv, σ = S15 p L m v z (some (.int (0 + (i : Int)))) (some (.str (tx [c]))) (some (.ref n0)) (some (.str (tx [c2]))) (some tv) (some dv) (some (.bl (tru q (ends (pats q) (s0 :: sr))))) (some (.ref AL)) (some bv) ∧ StaO K H14 bv (both p0 (nxt p0 c2 (decide (c = 94)) (cutA s0)) (nxt p0 c2 (decide (c = 94)) (cutB s0))) ∧ Same H8 H14, ?_, fun σ H14 hM => ?_⟩
      · generalize nxt p0 c2 (decide (c = 94)) (cutA s0) = t0 at hx0 w0 ⊢
        generalize nxt p0 c2 (decide (c = 94)) (cutB s0) = t1 at hx1 w1 ⊢
        refine ⟨1, rfl, (show 1 ≤ sizeLine by decide), fun T1 n1 => ?_⟩
        have u1 := smU (o := HO.tup [V.int (-1)]) n1
        have eAL1 := u1 _ _ eAL
        have hx0' := hx0.ki (KI.same u1)
        have hx1' := hx1.ki (KI.same u1)
        refine ⟨_, rfl, stD none, [stD t0, stD t1], .tup (.inl (.inl upd_same)) (inD_dp [-1]), .lst (.inl (.inl eAL1)) (.cons (sta_dp hx0') (.cons (sta_dp hx1') .nil)), sta_shaped _, two_shaped _ _, _, rfl, ?_⟩
        have ea : ([stD t0, stD t1].any fun z => PyData.eqv z (stD none)) = (decide (t0 = none) || decide (t1 = none)) := by
          show (PyData.eqv (stD t0) (stD none) || (PyData.eqv (stD t1) (stD none) || false)) = _
          rw [std_eq, std_eq, Bool.or_false]
        rw [ea]
        have bad : ∀ DD : Ends, both p0 t0 t1 = none → (∀ T2 H', Same H13 H' → H' T2 = some (.tup [V.int (-1)]) → DD.nx (S15 p L m v z (some (.int (0 + (i : Int)))) (some (.str (tx [c]))) (some (.ref n0)) (some (.str (tx [c2]))) (some tv) (some dv) (some (.bl (tru q (ends (pats q) (s0 :: sr))))) (some (.ref AL)) (some (.ref T2))) H') → True := fun _ _ _ => True.intro
        cases t0 with
        | none => exact iteT ⟨1, rfl, (show 1 ≤ sizeLine by decide), fun T2 n2 => ⟨.ref T2, rfl, ⟨T2, rfl, .inl (.inl upd_same)⟩, s13.trans (u1.trans (smU n2))⟩⟩
        | some a =>
          cases t1 with
          | none => exact iteT ⟨1, rfl, (show 1 ≤ sizeLine by decide), fun T2 n2 => ⟨.ref T2, rfl, ⟨T2, rfl, .inl (.inl upd_same)⟩, s13.trans (u1.trans (smU n2))⟩⟩
          | some b =>
            obtain ⟨a1, rfl, qa⟩ := hx0'
            obtain ⟨b1, rfl, qb⟩ := hx1'
            rw [staV_some] at qa qb
            refine iteF ⟨_, rfl, AL, _, 0, _, rfl, rfl, .inl (.inl eAL1), atI_nat (j := 0) rfl, _, rfl, AL, _, 1, _, rfl, rfl, .inl (.inl eAL1), atI_nat (j := 1) rfl, ?_⟩
            have la := w0.1
            have lb := w1.1
            refine cat_any qa qb (by rw [nIs_len, nIs_len]; omega) fun cc H15 s15 hcc => ?_
            have eab : nIs a ++ nIs b = nIs (a ++ b) := by
              unfold nIs
              rw [List.map_append]
            rw [eab] at hcc
            refine ms_setT (N := sz p0.t) hcc (fun y hy => ?_) (by omega) (by rw [List.length_append]; omega) fun T H16 s16 eT => ?_
            · rcases List.mem_append.mp hy with h | h
              · exact w0.2 y h
              · exact w1.2 y h
            · exact ⟨.ref T, rfl, ⟨T, rfl, .inl (.inl (by rw [eT]; exact congrArg (fun x => some (HO.tup x)) (staV_some _).symm))⟩, s13.trans (u1.trans (s15.trans s16))⟩
      obtain ⟨bv, rfl, hbv, s14⟩ := hM
      clear s13 eAL hx0 hx1
      -- the third question
      refine ⟨_, rfl, n0, _, 1, _, rfl, rfl, hn7.ki (KI.same s14), atI_nat (j := 1) rfl, sa, _, 0, _, rfl, rfl, hs7.ki (KI.same s14), atI_nat (j := 0) rfl, 1, rfl, (show 1 ≤ sizeLine by decide), fun T1 n1 => ?_⟩
      have u1 := smU (o := HO.tup [V.int (-1)]) n1
      have s15 := s14.trans u1
      refine ⟨stD s0, stD none, sta_dp (hv7.ki (KI.same s15)), .tup (.inl (.inl upd_same)) (inD_dp [-1]), sta_shaped _, sta_shaped _, _, rfl, ?_⟩
      rw [std_eq]
      have nx : ∀ H', Same H8 H' → ∃ y5 y6 y7 y9 y10 y11 y12 y13 y14, S15 p L m v z (some (.int (0 + (i : Int)))) (some (.str (tx [c]))) (some (.ref n0)) (some (.str (tx [c2]))) (some tv) (some dv) (some (.bl (tru q (ends (pats q) (s0 :: sr))))) (some (.ref AL)) (some bv) = S15 p L m v z y5 y6 y7 y9 y10 y11 y12 y13 y14 ∧ QuO CQ C H' z q ∧ AsO H' v q ∧ Pot H' p (n + 4010 + 100 * ((i + 1 : Nat) : Int)) ∧ Kp p H H' :=
        fun H' s => ⟨_, _, _, _, _, _, _, _, _, rfl, qo7.ki (KI.same s), ao7.ki (KI.same s), (hp7.same s).mono (by omega), k7.trans (Kp.same s)⟩
      cases s0 with
      | none => exact iteF (iteF (nx _ s15))
      | some ls =>
        have tn' := tn.ki (KI.same s15)
        rw [hq] at tn'
        obtain ⟨n16, sa16, x16, xs16, rfl, i1, i2, i3, i4, _⟩ := NodO.first (p := p0) (ps := pr) (s := nxt p0 c2 (decide (c = 94)) (some ls)) tn'
        refine iteT ⟨_, rfl, n16, _, 1, _, rfl, rfl, i1, atI_nat (j := 1) rfl, sa16, _, 0, _, rfl, rfl, i2, atI_nat (j := 0) rfl, _, rfl, _, _, sta_dp i3, sta_dp (hbv.ki (KI.same u1)), sta_shaped _, sta_shaped _, _, rfl, ?_⟩
        rw [std_eq]
        have eb : nxt p0 c2 (decide (c = 94)) (some ls) = both p0 (nxt p0 c2 (decide (c = 94)) (cutA (some ls))) (nxt p0 c2 (decide (c = 94)) (cutB (some ls))) := by
          have := nxt_both p0 c2 (decide (c = 94)) (ls.take 1) (ls.drop 1)
          rw [List.take_append_drop] at this
          exact this
        rw [decide_eq_true eb]
        exact iteF (nx _ s15)
    · obtain ⟨y5, y6, y7, y9, y10, y11, y12, y13, y14, rfl, _, _, hp4, k4⟩ := hP
      exact fin _ k4 (hp4.mono (by omega))
end
end Sq
/-! law. -/
namespace Sq
open PySem PySem.Spec PyProof.Rows L2 Sf Sf4
abbrev sLaw31 : Stmt := topS 81
theorem scLaw31 : FnScope ["_law_script", "_law_k", "_law_pot_here", "_law_turn"] ["_law_script"] (defScope sLaw31) := ⟨rfl, rfl, rfl, by decide +kernel, rfl, by decide +kernel, by decide +kernel⟩
section
variable {P : Program} {w : World} {K : PySem.W.Frag} {mg : Str → Option Value} {base : Heap} {f : Nat → Addr} {fd : Nat → FuncData} {lf : Nat → Addr} {lfd : Nat → FuncData}
def spLaw31 (K : PySem.W.Frag) : Sp := fun vs H Q _ => ∃ (a : Addr) (ns : List Int), vs = [.ref a] ∧ SqL K H a (ns.map V.int) ∧ ns.length ≤ 63 ∧ ∀ H', Q (.bl true) H'
theorem turns31 (n : Nat) : ∃ m : Nat, (if (if (n : Int) < 3 then (n : Int) else 3) > 1 then (if (n : Int) < 3 then (n : Int) else 3) else 1) = (m : Int) ∧ m ≤ 3 := by
  by_cases h3 : (n : Int) < 3
  · rw [if_pos h3]
    by_cases h1 : (n : Int) > 1
    · rw [if_pos h1]
      exact ⟨n, rfl, by omega⟩
    · rw [if_neg h1]
      exact ⟨1, rfl, by omega⟩
  · rw [if_neg h3]
    exact ⟨3, rfl, by omega⟩
theorem all_true : ∀ bs : List Bool, (∀ b ∈ bs, b = true) → bs.all id = true := fun bs h => List.all_eq_true.mpr fun b hb => h b hb
theorem ok_law31 {fl : Addr} {fdl : FuncData} (L : LawT K mg f fd) (TL : LqT K mg lf lfd) (F : Fun K "law" "law" sLaw31 fl fdl) (GR : FnG P w K mg base 97 (lf 6) (lfd 6) ["_law_pot_here"] spRt) : FnG P w K mg base 98 fl fdl ["_law_script"] (spLaw31 K) := by
  refine okG (k := 97) F scLaw31 (fun vs H Q E h => ?_) (fun cdv A outer s H vs Q E hr hgd h => ?_)
  · obtain ⟨a, ns, rfl, _⟩ := h
    rfl
  · obtain ⟨a, ns, rfl, hS, hlen, q⟩ := h
    have GP := ok_pot (P := P) (w := w) (base := base) (k := 96) L.pot.F L.zint L.zabs L.zlen
    refine ⟨_, pss_cons (ps_for PassesOwn.never rfl (pi_range1 rfl L.zrange (pa_cons (pe_callB (call_max2 rfl) (by rfl) L.zmax (by decide +kernel) (pa_cons pe_int (pa_cons
          (pe_callB (call_min2 rfl) (by rfl) L.zmin (by decide +kernel) (pa_cons pe_int (pa_cons (pe_callB call_len_seq (by rfl) L.zlen PySem.boot_len (pa_cons (pv 0) pa_nil)) pa_nil))) pa_nil))) pa_nil)) (pg_name (i := 1) scLaw31.nd rfl (.inl rfl))
        (pss_cons (ps_set (i := 2) scLaw31.nd rfl (.inr rfl) (pe_call GP hr (by rfl) L.pot.g L.pot.F.kp L.pot.b .nil pass0 (pa_cons (pv 0) (pa_cons (pv 1) pa_nil))))
        (pss_one (ps_if (pt_not (pt_val (pe_callB (cr_all rfl) (by rfl) TL.zall (by decide +kernel) (pa_cons (pe_lc (own := [("_law_turn", 3)]) (g := gName 3) (tt := tYes) (te := tCall spRt [] E0 (tCons (tVar 2) tNil)) rfl scLaw31.nd (pi_range1 rfl L.zrange (pa_cons pe_int pa_nil)) (blkOk_by (N := ["_law_script", "_law_k", "_law_pot_here", "_law_turn"]) (sc := defScope sLaw31) (by decide +kernel))
            (fun _ _ _ _ _ => pg_name (i := 3) scLaw31.nd rfl (Or.inl rfl)) (fun _ _ _ _ _ => pts_nil) (fun _ _ _ _ _ => pe_callG GR hr hgd (by rfl) TL.right.g TL.right.F.kp TL.right.b (pa_cons (pv 2) pa_nil) pass0)) pa_nil)))) (pss_one (ps_ret pe_bl)) pss_nil))))
      (pss_one (ps_ret pe_bl)), ?_⟩
    refine ⟨.ref a, rfl, a, _, rfl, .inl hS, 3, _, rfl, 1, _, rfl, ?_⟩
    rw [List.length_map]
    obtain ⟨m, em, lm⟩ := turns31 ns.length
    rw [em]
    refine ⟨_, rfl, by omega, by omega, ?_⟩
    refine for_it (walk_range (lo := 0) (n := m)) (fun i σ H2 => ∃ y1 y2, σ = [some (.ref a), y1, y2, none] ∧ SqL K H2 a (ns.map V.int)) ⟨none, none, rfl, hS⟩ (fun _ _ _ _ _ => True.intro) (fun i x σ H2 H2' hi hP hy => ?_) (fun σ H2 hP => ?_)
    · obtain ⟨y1, y2, rfl, hS2⟩ := hP
      obtain ⟨rfl, rfl⟩ := hy
      refine ⟨.ref a, rfl, _, rfl, a, ns, i, by
        show [V.ref a, V.int ((0 : Int) + (i : Nat))] = _
        rw [Int.zero_add], hS2, by omega, fun p H3 np s3 hp3 => ?_⟩
      refine ⟨_, rfl, by decide, by decide, fun D hD => ?_⟩
      have nDp := hp3.ne hD
      refine lc_it (walk_range (lo := 0) (n := 8)) (fun j H4 => ∃ bs : List Bool, H4 D = some (.lst (bs.map V.bl)) ∧ bs.length = j ∧ (∀ b ∈ bs, b = true) ∧ Pot H4 p (5000 * (j : Int)) ∧ Kp p H3 H4)
        ⟨[], upd_same, rfl, (fun _ h => nomatch h), (hp3.up hD).mono (by omega), Kp.same (smU hD)⟩ (fun _ _ _ _ => True.intro) (fun j xj H4 H4' hj hP hy => ?_) (fun H4 hP => ?_)
      · obtain ⟨bs, eD, hbl, hb, hp4, k4⟩ := hP
        obtain ⟨rfl, rfl⟩ := hy
        refine ⟨rfl, .ref p, rfl, p, _, rfl, hp4, by omega, fun H5 k5 hp5 => ?_⟩
        have eD5 := k5 D _ nDp eD
        refine ⟨_, eD5, by rw [List.length_map]; exact Nat.lt_of_le_of_lt (show bs.length ≤ 8 by omega) (by decide), bs ++ [true], ?_, by rw [List.length_append, hbl] <;> rfl, fun b hb' => ?_, (hp5.wr nDp).mono (by omega), kp_wr (k4.trans k5) hD⟩
        · rw [upd_same, List.map_append] <;> rfl
        · rcases List.mem_append.mp hb' with h | h
          · exact hb b h
          · exact List.mem_singleton.mp h
      · obtain ⟨bs, eD, hbl, hb, hp4, k4⟩ := hP
        refine ⟨D, bs, rfl, .inl (.inl eD), bs.all id, rfl, ?_⟩
        rw [all_true bs hb]
        refine iteF ⟨_, _, rfl, ?_⟩
        have s4 : Same H2' H4 := fun b o hb => k4 b o (fun z => by
          rw [z, np] at hb
          cases hb) (s3 b o hb)
        exact s4.seq hS2
    · exact q H2
end
end Sq
set_option maxHeartbeats 2000000
namespace Sq
open PySem PySem.Spec PyProof.Rows L2 Sf Sf4
theorem all_mk {l : PySem.W.OpenLaw} {w : World} {K : PySem.W.Frag} {h : Heap} {mg : Str → Option Value} {fa : Addr} (X : K.In h) (G : h.Ns mainGlobals mg) (hfa : mg "law" = some (.ref fa))
    {f0 : Addr} (a0 : PySem.W.nsIn K mainGlobals "read_pattern" = some (some (.ref f0)))
    {od0 an0 : Option Addr} {sl0 : Array (Option Value)} {oc0 kV0 dc0 pm0 cd0 ct0 : Value}
    (l0 : K.lookup f0 = some ⟨oc0, od0, .func (PySem.W.fnOf "read_pattern" "read_pattern" (defArgs sRp) (defBody sRp) (defScope sRp) .none kV0 dc0 pm0 an0 cd0 ct0), sl0⟩) (c0 : PySem.W.codeIn K cd0 "read_pattern" = true) (k0 : PySem.W.keepIn K (.ref f0) = true)
    {f1 : Addr} (a1 : PySem.W.nsIn K mainGlobals "size_of" = some (some (.ref f1)))
    {od1 an1 : Option Addr} {sl1 : Array (Option Value)} {oc1 kV1 dc1 pm1 cd1 ct1 : Value}
    (l1 : K.lookup f1 = some ⟨oc1, od1, .func (PySem.W.fnOf "size_of" "size_of" (defArgs sSize) (defBody sSize) (defScope sSize) .none kV1 dc1 pm1 an1 cd1 ct1), sl1⟩) (c1 : PySem.W.codeIn K cd1 "size_of" = true) (k1 : PySem.W.keepIn K (.ref f1) = true)
    {f2 : Addr} (a2 : PySem.W.nsIn K mainGlobals "written" = some (some (.ref f2)))
    {od2 an2 : Option Addr} {sl2 : Array (Option Value)} {oc2 kV2 dc2 pm2 cd2 ct2 : Value}
    (l2 : K.lookup f2 = some ⟨oc2, od2, .func (PySem.W.fnOf "written" "written" (defArgs sWrt) (defBody sWrt) (defScope sWrt) .none kV2 dc2 pm2 an2 cd2 ct2), sl2⟩) (c2 : PySem.W.codeIn K cd2 "written" = true) (k2 : PySem.W.keepIn K (.ref f2) = true)
    {f3 : Addr} (a3 : PySem.W.nsIn K mainGlobals "is_integer" = some (some (.ref f3)))
    {od3 an3 : Option Addr} {sl3 : Array (Option Value)} {oc3 kV3 dc3 pm3 cd3 ct3 : Value}
    (l3 : K.lookup f3 = some ⟨oc3, od3, .func (PySem.W.fnOf "is_integer" "is_integer" (defArgs sIsI) (defBody sIsI) (defScope sIsI) .none kV3 dc3 pm3 an3 cd3 ct3), sl3⟩) (c3 : PySem.W.codeIn K cd3 "is_integer" = true) (k3 : PySem.W.keepIn K (.ref f3) = true)
    {f4 : Addr} (a4 : PySem.W.nsIn K mainGlobals "shown" = some (some (.ref f4)))
    {od4 an4 : Option Addr} {sl4 : Array (Option Value)} {oc4 kV4 dc4 pm4 cd4 ct4 : Value}
    (l4 : K.lookup f4 = some ⟨oc4, od4, .func (PySem.W.fnOf "shown" "shown" (defArgs sShown) (defBody sShown) (defScope sShown) .none kV4 dc4 pm4 an4 cd4 ct4), sl4⟩) (c4 : PySem.W.codeIn K cd4 "shown" = true) (k4 : PySem.W.keepIn K (.ref f4) = true)
    {f5 : Addr} (a5 : PySem.W.nsIn K mainGlobals "bracketed" = some (some (.ref f5)))
    {od5 an5 : Option Addr} {sl5 : Array (Option Value)} {oc5 kV5 dc5 pm5 cd5 ct5 : Value}
    (l5 : K.lookup f5 = some ⟨oc5, od5, .func (PySem.W.fnOf "bracketed" "bracketed" (defArgs sBrk) (defBody sBrk) (defScope sBrk) .none kV5 dc5 pm5 an5 cd5 ct5), sl5⟩) (c5 : PySem.W.codeIn K cd5 "bracketed" = true) (k5 : PySem.W.keepIn K (.ref f5) = true)
    {f6 : Addr} (a6 : PySem.W.nsIn K mainGlobals "patterns_in" = some (some (.ref f6)))
    {od6 an6 : Option Addr} {sl6 : Array (Option Value)} {oc6 kV6 dc6 pm6 cd6 ct6 : Value}
    (l6 : K.lookup f6 = some ⟨oc6, od6, .func (PySem.W.fnOf "patterns_in" "patterns_in" (defArgs sPatsIn) (defBody sPatsIn) (defScope sPatsIn) .none kV6 dc6 pm6 an6 cd6 ct6), sl6⟩) (c6 : PySem.W.codeIn K cd6 "patterns_in" = true) (k6 : PySem.W.keepIn K (.ref f6) = true)
    {f7 : Addr} (a7 : PySem.W.nsIn K mainGlobals "has" = some (some (.ref f7)))
    {od7 an7 : Option Addr} {sl7 : Array (Option Value)} {oc7 kV7 dc7 pm7 cd7 ct7 : Value}
    (l7 : K.lookup f7 = some ⟨oc7, od7, .func (PySem.W.fnOf "has" "has" (defArgs sHas) (defBody sHas) (defScope sHas) .none kV7 dc7 pm7 an7 cd7 ct7), sl7⟩) (c7 : PySem.W.codeIn K cd7 "has" = true) (k7 : PySem.W.keepIn K (.ref f7) = true)
    {f8 : Addr} (a8 : PySem.W.nsIn K mainGlobals "state_behind" = some (some (.ref f8)))
    {od8 an8 : Option Addr} {sl8 : Array (Option Value)} {oc8 kV8 dc8 pm8 cd8 ct8 : Value}
    (l8 : K.lookup f8 = some ⟨oc8, od8, .func (PySem.W.fnOf "state_behind" "state_behind" (defArgs sStB) (defBody sStB) (defScope sStB) .none kV8 dc8 pm8 an8 cd8 ct8), sl8⟩) (c8 : PySem.W.codeIn K cd8 "state_behind" = true) (k8 : PySem.W.keepIn K (.ref f8) = true)
    {f9 : Addr} (a9 : PySem.W.nsIn K mainGlobals "has_last" = some (some (.ref f9)))
    {od9 an9 : Option Addr} {sl9 : Array (Option Value)} {oc9 kV9 dc9 pm9 cd9 ct9 : Value}
    (l9 : K.lookup f9 = some ⟨oc9, od9, .func (PySem.W.fnOf "has_last" "has_last" (defArgs sHasLast) (defBody sHasLast) (defScope sHasLast) .none kV9 dc9 pm9 an9 cd9 ct9), sl9⟩) (c9 : PySem.W.codeIn K cd9 "has_last" = true) (k9 : PySem.W.keepIn K (.ref f9) = true)
    {f10 : Addr} (a10 : PySem.W.nsIn K mainGlobals "has_ended" = some (some (.ref f10)))
    {od10 an10 : Option Addr} {sl10 : Array (Option Value)} {oc10 kV10 dc10 pm10 cd10 ct10 : Value}
    (l10 : K.lookup f10 = some ⟨oc10, od10, .func (PySem.W.fnOf "has_ended" "has_ended" (defArgs sHasEnded) (defBody sHasEnded) (defScope sHasEnded) .none kV10 dc10 pm10 an10 cd10 ct10), sl10⟩) (c10 : PySem.W.codeIn K cd10 "has_ended" = true) (k10 : PySem.W.keepIn K (.ref f10) = true)
    {f11 : Addr} (a11 : PySem.W.nsIn K mainGlobals "truth_of" = some (some (.ref f11)))
    {od11 an11 : Option Addr} {sl11 : Array (Option Value)} {oc11 kV11 dc11 pm11 cd11 ct11 : Value}
    (l11 : K.lookup f11 = some ⟨oc11, od11, .func (PySem.W.fnOf "truth_of" "truth_of" (defArgs sTruth) (defBody sTruth) (defScope sTruth) .none kV11 dc11 pm11 an11 cd11 ct11), sl11⟩) (c11 : PySem.W.codeIn K cd11 "truth_of" = true) (k11 : PySem.W.keepIn K (.ref f11) = true)
    {f12 : Addr} (a12 : PySem.W.nsIn K mainGlobals "is_so_at" = some (some (.ref f12)))
    {od12 an12 : Option Addr} {sl12 : Array (Option Value)} {oc12 kV12 dc12 pm12 cd12 ct12 : Value}
    (l12 : K.lookup f12 = some ⟨oc12, od12, .func (PySem.W.fnOf "is_so_at" "is_so_at" (defArgs sIsSoAt) (defBody sIsSoAt) (defScope sIsSoAt) .none kV12 dc12 pm12 an12 cd12 ct12), sl12⟩) (c12 : PySem.W.codeIn K cd12 "is_so_at" = true) (k12 : PySem.W.keepIn K (.ref f12) = true)
    {f13 : Addr} (a13 : PySem.W.nsIn K mainGlobals "next_node" = some (some (.ref f13)))
    {od13 an13 : Option Addr} {sl13 : Array (Option Value)} {oc13 kV13 dc13 pm13 cd13 ct13 : Value}
    (l13 : K.lookup f13 = some ⟨oc13, od13, .func (PySem.W.fnOf "next_node" "next_node" (defArgs sNext) (defBody sNext) (defScope sNext) .none kV13 dc13 pm13 an13 cd13 ct13), sl13⟩) (c13 : PySem.W.codeIn K cd13 "next_node" = true) (k13 : PySem.W.keepIn K (.ref f13) = true)
    {f14 : Addr} (a14 : PySem.W.nsIn K mainGlobals "is_so" = some (some (.ref f14)))
    {od14 an14 : Option Addr} {sl14 : Array (Option Value)} {oc14 kV14 dc14 pm14 cd14 ct14 : Value}
    (l14 : K.lookup f14 = some ⟨oc14, od14, .func (PySem.W.fnOf "is_so" "is_so" (defArgs sIsSo) (defBody sIsSo) (defScope sIsSo) .none kV14 dc14 pm14 an14 cd14 ct14), sl14⟩) (c14 : PySem.W.codeIn K cd14 "is_so" = true) (k14 : PySem.W.keepIn K (.ref f14) = true)
    {f15 : Addr} (a15 : PySem.W.nsIn K mainGlobals "_law_pot" = some (some (.ref f15)))
    {od15 an15 : Option Addr} {sl15 : Array (Option Value)} {oc15 kV15 dc15 pm15 cd15 ct15 : Value}
    (l15 : K.lookup f15 = some ⟨oc15, od15, .func (PySem.W.fnOf "_law_pot" "_law_pot" (defArgs sPot) (defBody sPot) (defScope sPot) .none kV15 dc15 pm15 an15 cd15 ct15), sl15⟩) (c15 : PySem.W.codeIn K cd15 "_law_pot" = true) (k15 : PySem.W.keepIn K (.ref f15) = true)
    {f16 : Addr} (a16 : PySem.W.nsIn K mainGlobals "_law_draw" = some (some (.ref f16)))
    {od16 an16 : Option Addr} {sl16 : Array (Option Value)} {oc16 kV16 dc16 pm16 cd16 ct16 : Value}
    (l16 : K.lookup f16 = some ⟨oc16, od16, .func (PySem.W.fnOf "_law_draw" "_law_draw" (defArgs sDraw) (defBody sDraw) (defScope sDraw) .none kV16 dc16 pm16 an16 cd16 ct16), sl16⟩) (c16 : PySem.W.codeIn K cd16 "_law_draw" = true) (k16 : PySem.W.keepIn K (.ref f16) = true)
    {f17 : Addr} (a17 : PySem.W.nsIn K mainGlobals "_law_any" = some (some (.ref f17)))
    {od17 an17 : Option Addr} {sl17 : Array (Option Value)} {oc17 kV17 dc17 pm17 cd17 ct17 : Value}
    (l17 : K.lookup f17 = some ⟨oc17, od17, .func (PySem.W.fnOf "_law_any" "_law_any" (defArgs sAny) (defBody sAny) (defScope sAny) .none kV17 dc17 pm17 an17 cd17 ct17), sl17⟩) (c17 : PySem.W.codeIn K cd17 "_law_any" = true) (k17 : PySem.W.keepIn K (.ref f17) = true)
    {f18 : Addr} (a18 : PySem.W.nsIn K mainGlobals "_law_all_letters" = some (some (.ref f18)))
    {od18 an18 : Option Addr} {sl18 : Array (Option Value)} {oc18 kV18 dc18 pm18 cd18 ct18 : Value}
    (l18 : K.lookup f18 = some ⟨oc18, od18, .func (PySem.W.fnOf "_law_all_letters" "_law_all_letters" (defArgs sLets) (defBody sLets) (defScope sLets) .none kV18 dc18 pm18 an18 cd18 ct18), sl18⟩) (c18 : PySem.W.codeIn K cd18 "_law_all_letters" = true) (k18 : PySem.W.keepIn K (.ref f18) = true)
    {f19 : Addr} (a19 : PySem.W.nsIn K mainGlobals "_law_tree" = some (some (.ref f19)))
    {od19 an19 : Option Addr} {sl19 : Array (Option Value)} {oc19 kV19 dc19 pm19 cd19 ct19 : Value}
    (l19 : K.lookup f19 = some ⟨oc19, od19, .func (PySem.W.fnOf "_law_tree" "_law_tree" (defArgs sTree) (defBody sTree) (defScope sTree) .none kV19 dc19 pm19 an19 cd19 ct19), sl19⟩) (c19 : PySem.W.codeIn K cd19 "_law_tree" = true) (k19 : PySem.W.keepIn K (.ref f19) = true)
    {f20 : Addr} (a20 : PySem.W.nsIn K mainGlobals "_law_many_places" = some (some (.ref f20)))
    {od20 an20 : Option Addr} {sl20 : Array (Option Value)} {oc20 kV20 dc20 pm20 cd20 ct20 : Value}
    (l20 : K.lookup f20 = some ⟨oc20, od20, .func (PySem.W.fnOf "_law_many_places" "_law_many_places" (defArgs sMany) (defBody sMany) (defScope sMany) .none kV20 dc20 pm20 an20 cd20 ct20), sl20⟩) (c20 : PySem.W.codeIn K cd20 "_law_many_places" = true) (k20 : PySem.W.keepIn K (.ref f20) = true)
    {f21 : Addr} (a21 : PySem.W.nsIn K mainGlobals "_law_grouped" = some (some (.ref f21)))
    {od21 an21 : Option Addr} {sl21 : Array (Option Value)} {oc21 kV21 dc21 pm21 cd21 ct21 : Value}
    (l21 : K.lookup f21 = some ⟨oc21, od21, .func (PySem.W.fnOf "_law_grouped" "_law_grouped" (defArgs sGrouped) (defBody sGrouped) (defScope sGrouped) .none kV21 dc21 pm21 an21 cd21 ct21), sl21⟩) (c21 : PySem.W.codeIn K cd21 "_law_grouped" = true) (k21 : PySem.W.keepIn K (.ref f21) = true)
    {f22 : Addr} (a22 : PySem.W.nsIn K mainGlobals "_law_string" = some (some (.ref f22)))
    {od22 an22 : Option Addr} {sl22 : Array (Option Value)} {oc22 kV22 dc22 pm22 cd22 ct22 : Value}
    (l22 : K.lookup f22 = some ⟨oc22, od22, .func (PySem.W.fnOf "_law_string" "_law_string" (defArgs sString) (defBody sString) (defScope sString) .none kV22 dc22 pm22 an22 cd22 ct22), sl22⟩) (c22 : PySem.W.codeIn K cd22 "_law_string" = true) (k22 : PySem.W.keepIn K (.ref f22) = true)
    {f23 : Addr} (a23 : PySem.W.nsIn K mainGlobals "_law_whole" = some (some (.ref f23)))
    {od23 an23 : Option Addr} {sl23 : Array (Option Value)} {oc23 kV23 dc23 pm23 cd23 ct23 : Value}
    (l23 : K.lookup f23 = some ⟨oc23, od23, .func (PySem.W.fnOf "_law_whole" "_law_whole" (defArgs sWholeL) (defBody sWholeL) (defScope sWholeL) .none kV23 dc23 pm23 an23 cd23 ct23), sl23⟩) (c23 : PySem.W.codeIn K cd23 "_law_whole" = true) (k23 : PySem.W.keepIn K (.ref f23) = true)
    {f24 : Addr} (a24 : PySem.W.nsIn K mainGlobals "_law_pattern_string" = some (some (.ref f24)))
    {od24 an24 : Option Addr} {sl24 : Array (Option Value)} {oc24 kV24 dc24 pm24 cd24 ct24 : Value}
    (l24 : K.lookup f24 = some ⟨oc24, od24, .func (PySem.W.fnOf "_law_pattern_string" "_law_pattern_string" (defArgs sPatS) (defBody sPatS) (defScope sPatS) .none kV24 dc24 pm24 an24 cd24 ct24), sl24⟩) (c24 : PySem.W.codeIn K cd24 "_law_pattern_string" = true) (k24 : PySem.W.keepIn K (.ref f24) = true)
    {f25 : Addr} (a25 : PySem.W.nsIn K mainGlobals "_law_state_behind" = some (some (.ref f25)))
    {od25 an25 : Option Addr} {sl25 : Array (Option Value)} {oc25 kV25 dc25 pm25 cd25 ct25 : Value}
    (l25 : K.lookup f25 = some ⟨oc25, od25, .func (PySem.W.fnOf "_law_state_behind" "_law_state_behind" (defArgs sLSB) (defBody sLSB) (defScope sLSB) .none kV25 dc25 pm25 an25 cd25 ct25), sl25⟩) (c25 : PySem.W.codeIn K cd25 "_law_state_behind" = true) (k25 : PySem.W.keepIn K (.ref f25) = true)
    {f26 : Addr} (a26 : PySem.W.nsIn K mainGlobals "_law_next" = some (some (.ref f26)))
    {od26 an26 : Option Addr} {sl26 : Array (Option Value)} {oc26 kV26 dc26 pm26 cd26 ct26 : Value}
    (l26 : K.lookup f26 = some ⟨oc26, od26, .func (PySem.W.fnOf "_law_next" "_law_next" (defArgs sLNext) (defBody sLNext) (defScope sLNext) .none kV26 dc26 pm26 an26 cd26 ct26), sl26⟩) (c26 : PySem.W.codeIn K cd26 "_law_next" = true) (k26 : PySem.W.keepIn K (.ref f26) = true)
    {f27 : Addr} (a27 : PySem.W.nsIn K mainGlobals "_law_so" = some (some (.ref f27)))
    {od27 an27 : Option Addr} {sl27 : Array (Option Value)} {oc27 kV27 dc27 pm27 cd27 ct27 : Value}
    (l27 : K.lookup f27 = some ⟨oc27, od27, .func (PySem.W.fnOf "_law_so" "_law_so" (defArgs sLSo) (defBody sLSo) (defScope sLSo) .none kV27 dc27 pm27 an27 cd27 ct27), sl27⟩) (c27 : PySem.W.codeIn K cd27 "_law_so" = true) (k27 : PySem.W.keepIn K (.ref f27) = true)
    {f28 : Addr} (a28 : PySem.W.nsIn K mainGlobals "_law_state" = some (some (.ref f28)))
    {od28 an28 : Option Addr} {sl28 : Array (Option Value)} {oc28 kV28 dc28 pm28 cd28 ct28 : Value}
    (l28 : K.lookup f28 = some ⟨oc28, od28, .func (PySem.W.fnOf "_law_state" "_law_state" (defArgs sLState) (defBody sLState) (defScope sLState) .none kV28 dc28 pm28 an28 cd28 ct28), sl28⟩) (c28 : PySem.W.codeIn K cd28 "_law_state" = true) (k28 : PySem.W.keepIn K (.ref f28) = true)
    {f29 : Addr} (a29 : PySem.W.nsIn K mainGlobals "_law_asked" = some (some (.ref f29)))
    {od29 an29 : Option Addr} {sl29 : Array (Option Value)} {oc29 kV29 dc29 pm29 cd29 ct29 : Value}
    (l29 : K.lookup f29 = some ⟨oc29, od29, .func (PySem.W.fnOf "_law_asked" "_law_asked" (defArgs sLAsked) (defBody sLAsked) (defScope sLAsked) .none kV29 dc29 pm29 an29 cd29 ct29), sl29⟩) (c29 : PySem.W.codeIn K cd29 "_law_asked" = true) (k29 : PySem.W.keepIn K (.ref f29) = true)
    {f30 : Addr} (a30 : PySem.W.nsIn K mainGlobals "_law_made" = some (some (.ref f30)))
    {od30 an30 : Option Addr} {sl30 : Array (Option Value)} {oc30 kV30 dc30 pm30 cd30 ct30 : Value}
    (l30 : K.lookup f30 = some ⟨oc30, od30, .func (PySem.W.fnOf "_law_made" "_law_made" (defArgs sLMade) (defBody sLMade) (defScope sLMade) .none kV30 dc30 pm30 an30 cd30 ct30), sl30⟩) (c30 : PySem.W.codeIn K cd30 "_law_made" = true) (k30 : PySem.W.keepIn K (.ref f30) = true)
    {f31 : Addr} (a31 : PySem.W.nsIn K mainGlobals "_law_right" = some (some (.ref f31)))
    {od31 an31 : Option Addr} {sl31 : Array (Option Value)} {oc31 kV31 dc31 pm31 cd31 ct31 : Value}
    (l31 : K.lookup f31 = some ⟨oc31, od31, .func (PySem.W.fnOf "_law_right" "_law_right" (defArgs sLRight) (defBody sLRight) (defScope sLRight) .none kV31 dc31 pm31 an31 cd31 ct31), sl31⟩) (c31 : PySem.W.codeIn K cd31 "_law_right" = true) (k31 : PySem.W.keepIn K (.ref f31) = true)
    {f32 : Addr} (a32 : PySem.W.nsIn K mainGlobals "law" = some (some (.ref f32)))
    {od32 an32 : Option Addr} {sl32 : Array (Option Value)} {oc32 kV32 dc32 pm32 cd32 ct32 : Value}
    (l32 : K.lookup f32 = some ⟨oc32, od32, .func (PySem.W.fnOf "law" "law" (defArgs sLaw31) (defBody sLaw31) (defScope sLaw31) .none kV32 dc32 pm32 an32 cd32 ct32), sl32⟩) (c32 : PySem.W.codeIn K cd32 "law" = true) (k32 : PySem.W.keepIn K (.ref f32) = true)
    (z0 : PySem.W.nsIn K mainGlobals "int" = some none)
    (z1 : PySem.W.nsIn K mainGlobals "abs" = some none)
    (z2 : PySem.W.nsIn K mainGlobals "len" = some none)
    (z3 : PySem.W.nsIn K mainGlobals "max" = some none)
    (z4 : PySem.W.nsIn K mainGlobals "min" = some none)
    (z5 : PySem.W.nsIn K mainGlobals "range" = some none)
    (z6 : PySem.W.nsIn K mainGlobals "sum" = some none)
    (z7 : PySem.W.nsIn K mainGlobals "tuple" = some none)
    (z8 : PySem.W.nsIn K mainGlobals "str" = some none)
    (z9 : PySem.W.nsIn K mainGlobals "repr" = some none)
    (z10 : PySem.W.nsIn K mainGlobals "isinstance" = some none)
    (z11 : PySem.W.nsIn K mainGlobals "any" = some none)
    (z12 : PySem.W.nsIn K mainGlobals "sorted" = some none)
    (z13 : PySem.W.nsIn K mainGlobals "set" = some none)
    (z14 : PySem.W.nsIn K mainGlobals "bool" = some none)
    (z15 : PySem.W.nsIn K mainGlobals "all" = some none)
    (z16 : PySem.W.nsIn K mainGlobals "list" = some none)
    (z17 : PySem.W.nsIn K mainGlobals "zip" = some none)
    {tk0 : Tok} (v0 : PySem.W.nsIn K mainGlobals "LETTERS" = some (some (.str (Str.ofString " 0123456789_abcdefghijklmnopqrstuvwxyz") tk0)))
    {tk1 : Tok} (v1 : PySem.W.nsIn K mainGlobals "BEGIN" = some (some (.str (Str.ofString "^") tk1)))
    {tk2 : Tok} (v2 : PySem.W.nsIn K mainGlobals "END" = some (some (.str (Str.ofString "$") tk2)))
    {tk3 : Tok} (v3 : PySem.W.nsIn K mainGlobals "DIGITS" = some (some (.str (Str.ofString "0123456789") tk3)))
    {tk4 : Tok} (v4 : PySem.W.nsIn K mainGlobals "SMALL" = some (some (.str (Str.ofString "abcdefghijklmnopqrstuvwxyz") tk4)))
    {tk5 : Tok} (v5 : PySem.W.nsIn K mainGlobals "MOST_SIGNS_parsing" = some (some (.int 60 tk5)))
    {tk6 : Tok} (v6 : PySem.W.nsIn K mainGlobals "MOST_OPEN" = some (some (.int 8 tk6)))
    {tk7 : Tok} (v7 : PySem.W.nsIn K mainGlobals "MOST_NAME" = some (some (.int 8 tk7)))
    {tk8 : Tok} (v8 : PySem.W.nsIn K mainGlobals "MOST_COUNT" = some (some (.int 20 tk8)))
    {tk9 : Tok} (v9 : PySem.W.nsIn K mainGlobals "PLACE" = some (some (.str (Str.ofString "place") tk9)))
    {tk10 : Tok} (v10 : PySem.W.nsIn K mainGlobals "CHAIN" = some (some (.str (Str.ofString "chain") tk10)))
    {tk11 : Tok} (v11 : PySem.W.nsIn K mainGlobals "CHOICE" = some (some (.str (Str.ofString "choice") tk11)))
    {tk12 : Tok} (v12 : PySem.W.nsIn K mainGlobals "COUNT" = some (some (.str (Str.ofString "count") tk12)))
    {tk13 : Tok} (v13 : PySem.W.nsIn K mainGlobals "CAPTURE" = some (some (.str (Str.ofString "capture") tk13)))
    {tk14 : Tok} (v14 : PySem.W.nsIn K mainGlobals "EMPTY" = some (some (.str (Str.ofString "empty") tk14)))
    {tk15 : Tok} (v15 : PySem.W.nsIn K mainGlobals "MOST_PLACES_patterns" = some (some (.int 24 tk15)))
    {tk16 : Tok} (v16 : PySem.W.nsIn K mainGlobals "HAS" = some (some (.str (Str.ofString "has") tk16)))
    {tk17 : Tok} (v17 : PySem.W.nsIn K mainGlobals "AND" = some (some (.str (Str.ofString "and") tk17)))
    {tk18 : Tok} (v18 : PySem.W.nsIn K mainGlobals "OR" = some (some (.str (Str.ofString "or") tk18)))
    {tk19 : Tok} (v19 : PySem.W.nsIn K mainGlobals "NOT" = some (some (.str (Str.ofString "not") tk19)))
    {tk20 : Tok} (v20 : PySem.W.nsIn K mainGlobals "SLASH" = some (some (.str (Str.ofString "/") tk20)))
    {tk21 : Tok} (v21 : PySem.W.nsIn K mainGlobals "NOT_SIGN" = some (some (.str (Str.ofString "not ") tk21)))
    {tk22 : Tok} (v22 : PySem.W.nsIn K mainGlobals "AND_SIGN" = some (some (.str (Str.ofString " and ") tk22)))
    {tk23 : Tok} (v23 : PySem.W.nsIn K mainGlobals "OR_SIGN" = some (some (.str (Str.ofString " or ") tk23)))
    {tk24 : Tok} (v24 : PySem.W.nsIn K mainGlobals "MOST_PATTERNS" = some (some (.int 3 tk24)))
    {tk25 : Tok} (v25 : PySem.W.nsIn K mainGlobals "MOST_PLACES_questions" = some (some (.int 8 tk25)))
    {tk26 : Tok} (v26 : PySem.W.nsIn K mainGlobals "MOST_SIGNS_questions" = some (some (.int 200 tk26)))
    {CR : Addr} (aR : PySem.W.nsIn K mainGlobals "PatternReader" = some (some (.ref CR))) (pgR : PySem.W.plainGet K CR Str.empty = true) (hdR : PySem.W.hasDictIn K CR = true) (poR : PySem.W.plainOver K CR = true) (saR : PySem.W.findIn K (.ref CR) "__setattr__" = some (some (.builtin "object.__setattr__"))) (mkR : PySem.W.makesIn K CR = true) (kcR : PySem.W.keepIn K (.ref CR) = true)
    (nR0 : PySem.W.findIn K (.ref CR) "string" = some none)
    (nR1 : PySem.W.findIn K (.ref CR) "spot" = some none)
    (nR2 : PySem.W.findIn K (.ref CR) "names" = some none)
    (nR3 : PySem.W.findIn K (.ref CR) "many_open" = some none)
    {fR0 : Addr} (iR0 : PySem.W.findIn K (.ref CR) "__init__" = some (some (.ref fR0))) (jR0 : PySem.W.isFn K (.ref fR0) = true)
    {odR0 anR0 : Option Addr} {slR0 : Array (Option Value)} {ocR0 kVR0 dcR0 pmR0 cdR0 ctR0 : Value}
    (lR0 : K.lookup fR0 = some ⟨ocR0, odR0, .func (PySem.W.fnOf "__init__" "PatternReader.__init__" (defArgs sRI) (defBody sRI) (defScope sRI) .none kVR0 dcR0 pmR0 anR0 cdR0 ctR0), slR0⟩) (cR0 : PySem.W.codeIn K cdR0 "PatternReader.__init__" = true) (kR0 : PySem.W.keepIn K (.ref fR0) = true)
    {fR1 : Addr} (iR1 : PySem.W.findIn K (.ref CR) "sign" = some (some (.ref fR1))) (jR1 : PySem.W.isFn K (.ref fR1) = true)
    {odR1 anR1 : Option Addr} {slR1 : Array (Option Value)} {ocR1 kVR1 dcR1 pmR1 cdR1 ctR1 : Value}
    (lR1 : K.lookup fR1 = some ⟨ocR1, odR1, .func (PySem.W.fnOf "sign" "PatternReader.sign" (defArgs sSign) (defBody sSign) (defScope sSign) .none kVR1 dcR1 pmR1 anR1 cdR1 ctR1), slR1⟩) (cR1 : PySem.W.codeIn K cdR1 "PatternReader.sign" = true) (kR1 : PySem.W.keepIn K (.ref fR1) = true)
    {fR2 : Addr} (iR2 : PySem.W.findIn K (.ref CR) "skips" = some (some (.ref fR2))) (jR2 : PySem.W.isFn K (.ref fR2) = true)
    {odR2 anR2 : Option Addr} {slR2 : Array (Option Value)} {ocR2 kVR2 dcR2 pmR2 cdR2 ctR2 : Value}
    (lR2 : K.lookup fR2 = some ⟨ocR2, odR2, .func (PySem.W.fnOf "skips" "PatternReader.skips" (defArgs sSkips) (defBody sSkips) (defScope sSkips) .none kVR2 dcR2 pmR2 anR2 cdR2 ctR2), slR2⟩) (cR2 : PySem.W.codeIn K cdR2 "PatternReader.skips" = true) (kR2 : PySem.W.keepIn K (.ref fR2) = true)
    {fR3 : Addr} (iR3 : PySem.W.findIn K (.ref CR) "demand" = some (some (.ref fR3))) (jR3 : PySem.W.isFn K (.ref fR3) = true)
    {odR3 anR3 : Option Addr} {slR3 : Array (Option Value)} {ocR3 kVR3 dcR3 pmR3 cdR3 ctR3 : Value}
    (lR3 : K.lookup fR3 = some ⟨ocR3, odR3, .func (PySem.W.fnOf "demand" "PatternReader.demand" (defArgs sDemand) (defBody sDemand) (defScope sDemand) .none kVR3 dcR3 pmR3 anR3 cdR3 ctR3), slR3⟩) (cR3 : PySem.W.codeIn K cdR3 "PatternReader.demand" = true) (kR3 : PySem.W.keepIn K (.ref fR3) = true)
    {fR4 : Addr} (iR4 : PySem.W.findIn K (.ref CR) "read_whole" = some (some (.ref fR4))) (jR4 : PySem.W.isFn K (.ref fR4) = true)
    {odR4 anR4 : Option Addr} {slR4 : Array (Option Value)} {ocR4 kVR4 dcR4 pmR4 cdR4 ctR4 : Value}
    (lR4 : K.lookup fR4 = some ⟨ocR4, odR4, .func (PySem.W.fnOf "read_whole" "PatternReader.read_whole" (defArgs sWhole) (defBody sWhole) (defScope sWhole) .none kVR4 dcR4 pmR4 anR4 cdR4 ctR4), slR4⟩) (cR4 : PySem.W.codeIn K cdR4 "PatternReader.read_whole" = true) (kR4 : PySem.W.keepIn K (.ref fR4) = true)
    {fR5 : Addr} (iR5 : PySem.W.findIn K (.ref CR) "read_choice" = some (some (.ref fR5))) (jR5 : PySem.W.isFn K (.ref fR5) = true)
    {odR5 anR5 : Option Addr} {slR5 : Array (Option Value)} {ocR5 kVR5 dcR5 pmR5 cdR5 ctR5 : Value}
    (lR5 : K.lookup fR5 = some ⟨ocR5, odR5, .func (PySem.W.fnOf "read_choice" "PatternReader.read_choice" (defArgs sChoice) (defBody sChoice) (defScope sChoice) .none kVR5 dcR5 pmR5 anR5 cdR5 ctR5), slR5⟩) (cR5 : PySem.W.codeIn K cdR5 "PatternReader.read_choice" = true) (kR5 : PySem.W.keepIn K (.ref fR5) = true)
    {fR6 : Addr} (iR6 : PySem.W.findIn K (.ref CR) "read_chain" = some (some (.ref fR6))) (jR6 : PySem.W.isFn K (.ref fR6) = true)
    {odR6 anR6 : Option Addr} {slR6 : Array (Option Value)} {ocR6 kVR6 dcR6 pmR6 cdR6 ctR6 : Value}
    (lR6 : K.lookup fR6 = some ⟨ocR6, odR6, .func (PySem.W.fnOf "read_chain" "PatternReader.read_chain" (defArgs sChain) (defBody sChain) (defScope sChain) .none kVR6 dcR6 pmR6 anR6 cdR6 ctR6), slR6⟩) (cR6 : PySem.W.codeIn K cdR6 "PatternReader.read_chain" = true) (kR6 : PySem.W.keepIn K (.ref fR6) = true)
    {fR7 : Addr} (iR7 : PySem.W.findIn K (.ref CR) "read_item" = some (some (.ref fR7))) (jR7 : PySem.W.isFn K (.ref fR7) = true)
    {odR7 anR7 : Option Addr} {slR7 : Array (Option Value)} {ocR7 kVR7 dcR7 pmR7 cdR7 ctR7 : Value}
    (lR7 : K.lookup fR7 = some ⟨ocR7, odR7, .func (PySem.W.fnOf "read_item" "PatternReader.read_item" (defArgs sItem) (defBody sItem) (defScope sItem) .none kVR7 dcR7 pmR7 anR7 cdR7 ctR7), slR7⟩) (cR7 : PySem.W.codeIn K cdR7 "PatternReader.read_item" = true) (kR7 : PySem.W.keepIn K (.ref fR7) = true)
    {fR8 : Addr} (iR8 : PySem.W.findIn K (.ref CR) "read_number" = some (some (.ref fR8))) (jR8 : PySem.W.isFn K (.ref fR8) = true)
    {odR8 anR8 : Option Addr} {slR8 : Array (Option Value)} {ocR8 kVR8 dcR8 pmR8 cdR8 ctR8 : Value}
    (lR8 : K.lookup fR8 = some ⟨ocR8, odR8, .func (PySem.W.fnOf "read_number" "PatternReader.read_number" (defArgs sNumber) (defBody sNumber) (defScope sNumber) .none kVR8 dcR8 pmR8 anR8 cdR8 ctR8), slR8⟩) (cR8 : PySem.W.codeIn K cdR8 "PatternReader.read_number" = true) (kR8 : PySem.W.keepIn K (.ref fR8) = true)
    {fR9 : Addr} (iR9 : PySem.W.findIn K (.ref CR) "read_unit" = some (some (.ref fR9))) (jR9 : PySem.W.isFn K (.ref fR9) = true)
    {odR9 anR9 : Option Addr} {slR9 : Array (Option Value)} {ocR9 kVR9 dcR9 pmR9 cdR9 ctR9 : Value}
    (lR9 : K.lookup fR9 = some ⟨ocR9, odR9, .func (PySem.W.fnOf "read_unit" "PatternReader.read_unit" (defArgs sUnit) (defBody sUnit) (defScope sUnit) .none kVR9 dcR9 pmR9 anR9 cdR9 ctR9), slR9⟩) (cR9 : PySem.W.codeIn K cdR9 "PatternReader.read_unit" = true) (kR9 : PySem.W.keepIn K (.ref fR9) = true)
    {fR10 : Addr} (iR10 : PySem.W.findIn K (.ref CR) "read_group" = some (some (.ref fR10))) (jR10 : PySem.W.isFn K (.ref fR10) = true)
    {odR10 anR10 : Option Addr} {slR10 : Array (Option Value)} {ocR10 kVR10 dcR10 pmR10 cdR10 ctR10 : Value}
    (lR10 : K.lookup fR10 = some ⟨ocR10, odR10, .func (PySem.W.fnOf "read_group" "PatternReader.read_group" (defArgs sGroup) (defBody sGroup) (defScope sGroup) .none kVR10 dcR10 pmR10 anR10 cdR10 ctR10), slR10⟩) (cR10 : PySem.W.codeIn K cdR10 "PatternReader.read_group" = true) (kR10 : PySem.W.keepIn K (.ref fR10) = true)
    {fR11 : Addr} (iR11 : PySem.W.findIn K (.ref CR) "read_capture" = some (some (.ref fR11))) (jR11 : PySem.W.isFn K (.ref fR11) = true)
    {odR11 anR11 : Option Addr} {slR11 : Array (Option Value)} {ocR11 kVR11 dcR11 pmR11 cdR11 ctR11 : Value}
    (lR11 : K.lookup fR11 = some ⟨ocR11, odR11, .func (PySem.W.fnOf "read_capture" "PatternReader.read_capture" (defArgs sCapture) (defBody sCapture) (defScope sCapture) .none kVR11 dcR11 pmR11 anR11 cdR11 ctR11), slR11⟩) (cR11 : PySem.W.codeIn K cdR11 "PatternReader.read_capture" = true) (kR11 : PySem.W.keepIn K (.ref fR11) = true)
    {fR12 : Addr} (iR12 : PySem.W.findIn K (.ref CR) "read_class" = some (some (.ref fR12))) (jR12 : PySem.W.isFn K (.ref fR12) = true)
    {odR12 anR12 : Option Addr} {slR12 : Array (Option Value)} {ocR12 kVR12 dcR12 pmR12 cdR12 ctR12 : Value}
    (lR12 : K.lookup fR12 = some ⟨ocR12, odR12, .func (PySem.W.fnOf "read_class" "PatternReader.read_class" (defArgs sClass) (defBody sClass) (defScope sClass) .none kVR12 dcR12 pmR12 anR12 cdR12 ctR12), slR12⟩) (cR12 : PySem.W.codeIn K cdR12 "PatternReader.read_class" = true) (kR12 : PySem.W.keepIn K (.ref fR12) = true)
    {fR13 : Addr} (iR13 : PySem.W.findIn K (.ref CR) "read_part" = some (some (.ref fR13))) (jR13 : PySem.W.isFn K (.ref fR13) = true)
    {odR13 anR13 : Option Addr} {slR13 : Array (Option Value)} {ocR13 kVR13 dcR13 pmR13 cdR13 ctR13 : Value}
    (lR13 : K.lookup fR13 = some ⟨ocR13, odR13, .func (PySem.W.fnOf "read_part" "PatternReader.read_part" (defArgs sPart) (defBody sPart) (defScope sPart) .none kVR13 dcR13 pmR13 anR13 cdR13 ctR13), slR13⟩) (cR13 : PySem.W.codeIn K cdR13 "PatternReader.read_part" = true) (kR13 : PySem.W.keepIn K (.ref fR13) = true)
    {CW : Addr} (aW : PySem.W.nsIn K mainGlobals "Written" = some (some (.ref CW))) (pgW : PySem.W.plainGet K CW Str.empty = true) (hdW : PySem.W.hasDictIn K CW = true) (poW : PySem.W.plainOver K CW = true) (saW : PySem.W.findIn K (.ref CW) "__setattr__" = some (some (.builtin "object.__setattr__"))) (mkW : PySem.W.makesIn K CW = true) (kcW : PySem.W.keepIn K (.ref CW) = true)
    (nW0 : PySem.W.findIn K (.ref CW) "letters" = some none)
    (nW1 : PySem.W.findIn K (.ref CW) "followers" = some none)
    {fW0 : Addr} (iW0 : PySem.W.findIn K (.ref CW) "__init__" = some (some (.ref fW0))) (jW0 : PySem.W.isFn K (.ref fW0) = true)
    {odW0 anW0 : Option Addr} {slW0 : Array (Option Value)} {ocW0 kVW0 dcW0 pmW0 cdW0 ctW0 : Value}
    (lW0 : K.lookup fW0 = some ⟨ocW0, odW0, .func (PySem.W.fnOf "__init__" "Written.__init__" (defArgs sWI) (defBody sWI) (defScope sWI) .none kVW0 dcW0 pmW0 anW0 cdW0 ctW0), slW0⟩) (cW0 : PySem.W.codeIn K cdW0 "Written.__init__" = true) (kW0 : PySem.W.keepIn K (.ref fW0) = true)
    {fW1 : Addr} (iW1 : PySem.W.findIn K (.ref CW) "link" = some (some (.ref fW1))) (jW1 : PySem.W.isFn K (.ref fW1) = true)
    {odW1 anW1 : Option Addr} {slW1 : Array (Option Value)} {ocW1 kVW1 dcW1 pmW1 cdW1 ctW1 : Value}
    (lW1 : K.lookup fW1 = some ⟨ocW1, odW1, .func (PySem.W.fnOf "link" "Written.link" (defArgs sLink) (defBody sLink) (defScope sLink) .none kVW1 dcW1 pmW1 anW1 cdW1 ctW1), slW1⟩) (cW1 : PySem.W.codeIn K cdW1 "Written.link" = true) (kW1 : PySem.W.keepIn K (.ref fW1) = true)
    {fW2 : Addr} (iW2 : PySem.W.findIn K (.ref CW) "joined" = some (some (.ref fW2))) (jW2 : PySem.W.isFn K (.ref fW2) = true)
    {odW2 anW2 : Option Addr} {slW2 : Array (Option Value)} {ocW2 kVW2 dcW2 pmW2 cdW2 ctW2 : Value}
    (lW2 : K.lookup fW2 = some ⟨ocW2, odW2, .func (PySem.W.fnOf "joined" "Written.joined" (defArgs sJoined) (defBody sJoined) (defScope sJoined) .none kVW2 dcW2 pmW2 anW2 cdW2 ctW2), slW2⟩) (cW2 : PySem.W.codeIn K cdW2 "Written.joined" = true) (kW2 : PySem.W.keepIn K (.ref fW2) = true)
    {fW3 : Addr} (iW3 : PySem.W.findIn K (.ref CW) "part_of" = some (some (.ref fW3))) (jW3 : PySem.W.isFn K (.ref fW3) = true)
    {odW3 anW3 : Option Addr} {slW3 : Array (Option Value)} {ocW3 kVW3 dcW3 pmW3 cdW3 ctW3 : Value}
    (lW3 : K.lookup fW3 = some ⟨ocW3, odW3, .func (PySem.W.fnOf "part_of" "Written.part_of" (defArgs sPartOf) (defBody sPartOf) (defScope sPartOf) .none kVW3 dcW3 pmW3 anW3 cdW3 ctW3), slW3⟩) (cW3 : PySem.W.codeIn K cdW3 "Written.part_of" = true) (kW3 : PySem.W.keepIn K (.ref fW3) = true)
    {fW4 : Addr} (iW4 : PySem.W.findIn K (.ref CW) "counted" = some (some (.ref fW4))) (jW4 : PySem.W.isFn K (.ref fW4) = true)
    {odW4 anW4 : Option Addr} {slW4 : Array (Option Value)} {ocW4 kVW4 dcW4 pmW4 cdW4 ctW4 : Value}
    (lW4 : K.lookup fW4 = some ⟨ocW4, odW4, .func (PySem.W.fnOf "counted" "Written.counted" (defArgs sCounted) (defBody sCounted) (defScope sCounted) .none kVW4 dcW4 pmW4 anW4 cdW4 ctW4), slW4⟩) (cW4 : PySem.W.codeIn K cdW4 "Written.counted" = true) (kW4 : PySem.W.keepIn K (.ref fW4) = true)
    {CP : Addr} (aP : PySem.W.nsIn K mainGlobals "Pattern" = some (some (.ref CP))) (pgP : PySem.W.plainGet K CP Str.empty = true) (hdP : PySem.W.hasDictIn K CP = true) (poP : PySem.W.plainOver K CP = true) (saP : PySem.W.findIn K (.ref CP) "__setattr__" = some (some (.builtin "object.__setattr__"))) (mkP : PySem.W.makesIn K CP = true) (kcP : PySem.W.keepIn K (.ref CP) = true)
    (nP0 : PySem.W.findIn K (.ref CP) "is_bound_left" = some none)
    (nP1 : PySem.W.findIn K (.ref CP) "tree" = some none)
    (nP2 : PySem.W.findIn K (.ref CP) "is_bound_right" = some none)
    (nP3 : PySem.W.findIn K (.ref CP) "string" = some none)
    (nP4 : PySem.W.findIn K (.ref CP) "names" = some none)
    (nP5 : PySem.W.findIn K (.ref CP) "places" = some none)
    (nP6 : PySem.W.findIn K (.ref CP) "first" = some none)
    (nP7 : PySem.W.findIn K (.ref CP) "last" = some none)
    (nP8 : PySem.W.findIn K (.ref CP) "later_places" = some none)
    {fP0 : Addr} (iP0 : PySem.W.findIn K (.ref CP) "__init__" = some (some (.ref fP0))) (jP0 : PySem.W.isFn K (.ref fP0) = true)
    {odP0 anP0 : Option Addr} {slP0 : Array (Option Value)} {ocP0 kVP0 dcP0 pmP0 cdP0 ctP0 : Value}
    (lP0 : K.lookup fP0 = some ⟨ocP0, odP0, .func (PySem.W.fnOf "__init__" "Pattern.__init__" (defArgs sPI) (defBody sPI) (defScope sPI) .none kVP0 dcP0 pmP0 anP0 cdP0 ctP0), slP0⟩) (cP0 : PySem.W.codeIn K cdP0 "Pattern.__init__" = true) (kP0 : PySem.W.keepIn K (.ref fP0) = true)
    {fP1 : Addr} (iP1 : PySem.W.findIn K (.ref CP) "__eq__" = some (some (.ref fP1))) (jP1 : PySem.W.isFn K (.ref fP1) = true)
    {odP1 anP1 : Option Addr} {slP1 : Array (Option Value)} {ocP1 kVP1 dcP1 pmP1 cdP1 ctP1 : Value}
    (lP1 : K.lookup fP1 = some ⟨ocP1, odP1, .func (PySem.W.fnOf "__eq__" "Pattern.__eq__" (defArgs sPEq) (defBody sPEq) (defScope sPEq) .none kVP1 dcP1 pmP1 anP1 cdP1 ctP1), slP1⟩) (cP1 : PySem.W.codeIn K cdP1 "Pattern.__eq__" = true) (kP1 : PySem.W.keepIn K (.ref fP1) = true)
    {fP2 : Addr} (iP2 : PySem.W.findIn K (.ref CP) "behind" = some (some (.ref fP2))) (jP2 : PySem.W.isFn K (.ref fP2) = true)
    {odP2 anP2 : Option Addr} {slP2 : Array (Option Value)} {ocP2 kVP2 dcP2 pmP2 cdP2 ctP2 : Value}
    (lP2 : K.lookup fP2 = some ⟨ocP2, odP2, .func (PySem.W.fnOf "behind" "Pattern.behind" (defArgs sBeh) (defBody sBeh) (defScope sBeh) .none kVP2 dcP2 pmP2 anP2 cdP2 ctP2), slP2⟩) (cP2 : PySem.W.codeIn K cdP2 "Pattern.behind" = true) (kP2 : PySem.W.keepIn K (.ref fP2) = true)
    {CQ : Addr} (aQ : PySem.W.nsIn K mainGlobals "Question" = some (some (.ref CQ))) (pgQ : PySem.W.plainGet K CQ Str.empty = true) (hdQ : PySem.W.hasDictIn K CQ = true) (poQ : PySem.W.plainOver K CQ = true) (saQ : PySem.W.findIn K (.ref CQ) "__setattr__" = some (some (.builtin "object.__setattr__"))) (mkQ : PySem.W.makesIn K CQ = true) (kcQ : PySem.W.keepIn K (.ref CQ) = true)
    (nQ0 : PySem.W.findIn K (.ref CQ) "tree" = some none)
    (nQ1 : PySem.W.findIn K (.ref CQ) "patterns" = some none)
    (nQ2 : PySem.W.findIn K (.ref CQ) "string" = some none)
    {fQ0 : Addr} (iQ0 : PySem.W.findIn K (.ref CQ) "__init__" = some (some (.ref fQ0))) (jQ0 : PySem.W.isFn K (.ref fQ0) = true)
    {odQ0 anQ0 : Option Addr} {slQ0 : Array (Option Value)} {ocQ0 kVQ0 dcQ0 pmQ0 cdQ0 ctQ0 : Value}
    (lQ0 : K.lookup fQ0 = some ⟨ocQ0, odQ0, .func (PySem.W.fnOf "__init__" "Question.__init__" (defArgs sQI) (defBody sQI) (defScope sQI) .none kVQ0 dcQ0 pmQ0 anQ0 cdQ0 ctQ0), slQ0⟩) (cQ0 : PySem.W.codeIn K cdQ0 "Question.__init__" = true) (kQ0 : PySem.W.keepIn K (.ref fQ0) = true)
    {fQ1 : Addr} (iQ1 : PySem.W.findIn K (.ref CQ) "__and__" = some (some (.ref fQ1))) (jQ1 : PySem.W.isFn K (.ref fQ1) = true)
    {odQ1 anQ1 : Option Addr} {slQ1 : Array (Option Value)} {ocQ1 kVQ1 dcQ1 pmQ1 cdQ1 ctQ1 : Value}
    (lQ1 : K.lookup fQ1 = some ⟨ocQ1, odQ1, .func (PySem.W.fnOf "__and__" "Question.__and__" (defArgs sQAnd) (defBody sQAnd) (defScope sQAnd) .none kVQ1 dcQ1 pmQ1 anQ1 cdQ1 ctQ1), slQ1⟩) (cQ1 : PySem.W.codeIn K cdQ1 "Question.__and__" = true) (kQ1 : PySem.W.keepIn K (.ref fQ1) = true)
    {fQ2 : Addr} (iQ2 : PySem.W.findIn K (.ref CQ) "__or__" = some (some (.ref fQ2))) (jQ2 : PySem.W.isFn K (.ref fQ2) = true)
    {odQ2 anQ2 : Option Addr} {slQ2 : Array (Option Value)} {ocQ2 kVQ2 dcQ2 pmQ2 cdQ2 ctQ2 : Value}
    (lQ2 : K.lookup fQ2 = some ⟨ocQ2, odQ2, .func (PySem.W.fnOf "__or__" "Question.__or__" (defArgs sQOr) (defBody sQOr) (defScope sQOr) .none kVQ2 dcQ2 pmQ2 anQ2 cdQ2 ctQ2), slQ2⟩) (cQ2 : PySem.W.codeIn K cdQ2 "Question.__or__" = true) (kQ2 : PySem.W.keepIn K (.ref fQ2) = true)
    {fQ3 : Addr} (iQ3 : PySem.W.findIn K (.ref CQ) "__neg__" = some (some (.ref fQ3))) (jQ3 : PySem.W.isFn K (.ref fQ3) = true)
    {odQ3 anQ3 : Option Addr} {slQ3 : Array (Option Value)} {ocQ3 kVQ3 dcQ3 pmQ3 cdQ3 ctQ3 : Value}
    (lQ3 : K.lookup fQ3 = some ⟨ocQ3, odQ3, .func (PySem.W.fnOf "__neg__" "Question.__neg__" (defArgs sQNeg) (defBody sQNeg) (defScope sQNeg) .none kVQ3 dcQ3 pmQ3 anQ3 cdQ3 ctQ3), slQ3⟩) (cQ3 : PySem.W.codeIn K cdQ3 "Question.__neg__" = true) (kQ3 : PySem.W.keepIn K (.ref fQ3) = true)
    (ha : PySem.W.findIn K (.ref CP) "__class__" = some (some (.builtin "object.__class__"))) (hn : PySem.W.specialIn K (.builtin "object.__class__") "__get__" = some (some (.builtin "getset_descriptor.__get__"))) (ht : PySem.W.takesIn K (.builtin "object.__class__") = some true) (hm : PySem.W.mroIn K CP (.type "object") = some true)
    (kk1 : PySem.W.kitOne K (.ref CP) (.ref CP) = some true) (kk2 : PySem.W.kitOne K (.type "str") (.ref CP) = some false) (sb : PySem.W.subIn K (.type "str") (.ref CP) = some false)
    {dd T0 T1 T2 : Addr} {ces : Array DictEntry} {cn n0 n1 n2 : Nat} {d0 d1 d2 : Option Addr} {s0 s1 s2 : Array (Option Value)} {ta tb tc td : Tok}
    (aCs : PySem.W.nsIn K mainGlobals "COUNTS" = some (some (.ref dd))) (lCs : K.lookup dd = some ⟨.type "dict", none, .dict ces cn, #[]⟩) (klCs : PySem.W.KeysLit w.params ces.toList) (loCs : (dd == sysModules) = false)
    (q0 : PySem.W.nsIn K dd "*" = some (some (.ref T0))) (q1 : PySem.W.nsIn K dd "+" = some (some (.ref T1))) (q2 : PySem.W.nsIn K dd "?" = some (some (.ref T2)))
    (qk : ∃ h1 h2 h3 t1 t2 t3 v1 v2 v3, ces.toList = [⟨h1, .str (Str.ofString "*") t1, v1⟩, ⟨h2, .str (Str.ofString "+") t2, v2⟩, ⟨h3, .str (Str.ofString "?") t3, v3⟩])
    (lT0 : K.lookup T0 = some ⟨.type "tuple", d0, .seq [Value.int 0 ta, Value.none].toArray n0, s0⟩) (lT1 : K.lookup T1 = some ⟨.type "tuple", d1, .seq [Value.int 1 tb, Value.none].toArray n1, s1⟩) (lT2 : K.lookup T2 = some ⟨.type "tuple", d2, .seq [Value.int 0 tc, Value.int 1 td].toArray n2, s2⟩)
    (sfQ : PySem.W.selfFirst K CQ = true) {AF : Addr} {nF : Nat} {dF : Option Addr} {sF : Array (Option Value)} {tF : Tok} (aFo : PySem.W.nsIn K mainGlobals "FOUND" = some (some (.ref AF))) (lAF : K.lookup AF = some ⟨.type "tuple", dF, .seq [Value.int (-1) tF].toArray nF, sF⟩)
    : ∃ fd : FuncData, (∀ (s : Shared) (v : Value), BindsTo s fd ⟨[v], []⟩ [("_law_script", v)]) ∧ ∀ base : Heap, K.In base → base.Ns mainGlobals mg → FnG l.prog w K mg base 98 fa fd ["_law_script"] (spLaw31 K) := by
  have e := hfa.symm.trans (PySem.W.mg_of X G a32)
  cases e
  have F0 := fun_mk (st := sRp) l0 c0 k0
  have b0 := F0.binds (ps := ["value"]) fun _ _ _ _ _ _ us hl => match us, hl with | [_], _ => rfl
  have g0 := PySem.W.mg_of X G a0
  have F1 := fun_mk (st := sSize) l1 c1 k1
  have b1 := F1.binds (ps := ["tree"]) fun _ _ _ _ _ _ us hl => match us, hl with | [_], _ => rfl
  have g1 := PySem.W.mg_of X G a1
  have F2 := fun_mk (st := sWrt) l2 c2 k2
  have b2 := F2.binds (ps := ["tree"]) fun _ _ _ _ _ _ us hl => match us, hl with | [_], _ => rfl
  have g2 := PySem.W.mg_of X G a2
  have F3 := fun_mk (st := sIsI) l3 c3 k3
  have b3 := F3.binds (ps := ["value", "least", "greatest"]) fun _ _ _ _ _ _ us hl => match us, hl with | [_, _, _], _ => rfl
  have g3 := PySem.W.mg_of X G a3
  have F4 := fun_mk (st := sShown) l4 c4 k4
  have b4 := F4.binds (ps := ["tree"]) fun _ _ _ _ _ _ us hl => match us, hl with | [_], _ => rfl
  have g4 := PySem.W.mg_of X G a4
  have F5 := fun_mk (st := sBrk) l5 c5 k5
  have b5 := F5.binds (ps := ["tree", "words"]) fun _ _ _ _ _ _ us hl => match us, hl with | [_, _], _ => rfl
  have g5 := PySem.W.mg_of X G a5
  have F6 := fun_mk (st := sPatsIn) l6 c6 k6
  have b6 := F6.binds (ps := ["tree"]) fun _ _ _ _ _ _ us hl => match us, hl with | [_], _ => rfl
  have g6 := PySem.W.mg_of X G a6
  have F7 := fun_mk (st := sHas) l7 c7 k7
  have b7 := F7.binds (ps := ["pattern"]) fun _ _ _ _ _ _ us hl => match us, hl with | [_], _ => rfl
  have g7 := PySem.W.mg_of X G a7
  have F8 := fun_mk (st := sStB) l8 c8 k8
  have b8 := F8.binds (ps := ["pattern", "state", "letter", "is_begin"]) fun _ _ _ _ _ _ us hl => match us, hl with | [_, _, _, _], _ => rfl
  have g8 := PySem.W.mg_of X G a8
  have F9 := fun_mk (st := sHasLast) l9 c9 k9
  have b9 := F9.binds (ps := ["pattern", "state"]) fun _ _ _ _ _ _ us hl => match us, hl with | [_, _], _ => rfl
  have g9 := PySem.W.mg_of X G a9
  have F10 := fun_mk (st := sHasEnded) l10 c10 k10
  have b10 := F10.binds (ps := ["pattern", "state"]) fun _ _ _ _ _ _ us hl => match us, hl with | [_, _], _ => rfl
  have g10 := PySem.W.mg_of X G a10
  have F11 := fun_mk (st := sTruth) l11 c11 k11
  have b11 := F11.binds (ps := ["tree", "truths", "at"]) fun _ _ _ _ _ _ us hl => match us, hl with | [_, _, _], _ => rfl
  have g11 := PySem.W.mg_of X G a11
  have F12 := fun_mk (st := sIsSoAt) l12 c12 k12
  have b12 := F12.binds (ps := ["question", "states"]) fun _ _ _ _ _ _ us hl => match us, hl with | [_, _], _ => rfl
  have g12 := PySem.W.mg_of X G a12
  have F13 := fun_mk (st := sNext) l13 c13 k13
  have b13 := F13.binds (ps := ["question", "node", "letter"]) fun _ _ _ _ _ _ us hl => match us, hl with | [_, _, _], _ => rfl
  have g13 := PySem.W.mg_of X G a13
  have F14 := fun_mk (st := sIsSo) l14 c14 k14
  have b14 := F14.binds (ps := ["question", "node"]) fun _ _ _ _ _ _ us hl => match us, hl with | [_, _], _ => rfl
  have g14 := PySem.W.mg_of X G a14
  have F15 := fun_mk (st := sPot) l15 c15 k15
  have b15 := F15.binds (ps := ["_law_script", "_law_k"]) fun _ _ _ _ _ _ us hl => match us, hl with | [_, _], _ => rfl
  have g15 := PySem.W.mg_of X G a15
  have F16 := fun_mk (st := sDraw) l16 c16 k16
  have b16 := F16.binds (ps := ["_law_pot_here", "_law_many"]) fun _ _ _ _ _ _ us hl => match us, hl with | [_, _], _ => rfl
  have g16 := PySem.W.mg_of X G a16
  have F17 := fun_mk (st := sAny) l17 c17 k17
  have b17 := F17.binds (ps := ["_law_pot_here", "_law_items"]) fun _ _ _ _ _ _ us hl => match us, hl with | [_, _], _ => rfl
  have g17 := PySem.W.mg_of X G a17
  have F18 := fun_mk (st := sLets) l18 c18 k18
  have b18 := F18.binds (ps := []) fun _ _ _ _ _ _ us hl => match us, hl with | [], _ => rfl
  have g18 := PySem.W.mg_of X G a18
  have F19 := fun_mk (st := sTree) l19 c19 k19
  have b19 := F19.binds (ps := ["_law_pot_here", "_law_deep", "_law_letters", "_law_names"]) fun _ _ _ _ _ _ us hl => match us, hl with | [_, _, _, _], _ => rfl
  have g19 := PySem.W.mg_of X G a19
  have F20 := fun_mk (st := sMany) l20 c20 k20
  have b20 := F20.binds (ps := ["_law_tree_here"]) fun _ _ _ _ _ _ us hl => match us, hl with | [_], _ => rfl
  have g20 := PySem.W.mg_of X G a20
  have F21 := fun_mk (st := sGrouped) l21 c21 k21
  have b21 := F21.binds (ps := ["_law_tree_here", "_law_words"]) fun _ _ _ _ _ _ us hl => match us, hl with | [_, _], _ => rfl
  have g21 := PySem.W.mg_of X G a21
  have F22 := fun_mk (st := sString) l22 c22 k22
  have b22 := F22.binds (ps := ["_law_tree_here"]) fun _ _ _ _ _ _ us hl => match us, hl with | [_], _ => rfl
  have g22 := PySem.W.mg_of X G a22
  have F23 := fun_mk (st := sWholeL) l23 c23 k23
  have b23 := F23.binds (ps := ["_law_pot_here", "_law_letters", "_law_most", "_law_names"]) fun _ _ _ _ _ _ us hl => match us, hl with | [_, _, _, _], _ => rfl
  have g23 := PySem.W.mg_of X G a23
  have F24 := fun_mk (st := sPatS) l24 c24 k24
  have b24 := F24.binds (ps := ["_law_whole_here"]) fun _ _ _ _ _ _ us hl => match us, hl with | [_], _ => rfl
  have g24 := PySem.W.mg_of X G a24
  have F25 := fun_mk (st := sLSB) l25 c25 k25
  have b25 := F25.binds (ps := ["_law_pattern", "_law_state_here", "_law_sound", "_law_is_begin"]) fun _ _ _ _ _ _ us hl => match us, hl with | [_, _, _, _], _ => rfl
  have g25 := PySem.W.mg_of X G a25
  have F26 := fun_mk (st := sLNext) l26 c26 k26
  have b26 := F26.binds (ps := ["_law_query", "_law_here", "_law_sound"]) fun _ _ _ _ _ _ us hl => match us, hl with | [_, _, _], _ => rfl
  have g26 := PySem.W.mg_of X G a26
  have F27 := fun_mk (st := sLSo) l27 c27 k27
  have b27 := F27.binds (ps := ["_law_asked_here", "_law_patterns", "_law_states"]) fun _ _ _ _ _ _ us hl => match us, hl with | [_, _, _], _ => rfl
  have g27 := PySem.W.mg_of X G a27
  have F28 := fun_mk (st := sLState) l28 c28 k28
  have b28 := F28.binds (ps := ["_law_pot_here", "_law_pattern"]) fun _ _ _ _ _ _ us hl => match us, hl with | [_, _], _ => rfl
  have g28 := PySem.W.mg_of X G a28
  have F29 := fun_mk (st := sLAsked) l29 c29 k29
  have b29 := F29.binds (ps := ["_law_pot_here", "_law_letters", "_law_most", "_law_many"]) fun _ _ _ _ _ _ us hl => match us, hl with | [_, _, _, _], _ => rfl
  have g29 := PySem.W.mg_of X G a29
  have F30 := fun_mk (st := sLMade) l30 c30 k30
  have b30 := F30.binds (ps := ["_law_asked_here"]) fun _ _ _ _ _ _ us hl => match us, hl with | [_], _ => rfl
  have g30 := PySem.W.mg_of X G a30
  have F31 := fun_mk (st := sLRight) l31 c31 k31
  have b31 := F31.binds (ps := ["_law_pot_here"]) fun _ _ _ _ _ _ us hl => match us, hl with | [_], _ => rfl
  have g31 := PySem.W.mg_of X G a31
  have F32 := fun_mk (st := sLaw31) l32 c32 k32
  have g32 := PySem.W.mg_of X G a32
  have m_int := PySem.W.mg_none_of X G z0
  have m_abs := PySem.W.mg_none_of X G z1
  have m_len := PySem.W.mg_none_of X G z2
  have m_max := PySem.W.mg_none_of X G z3
  have m_min := PySem.W.mg_none_of X G z4
  have m_range := PySem.W.mg_none_of X G z5
  have m_sum := PySem.W.mg_none_of X G z6
  have m_tuple := PySem.W.mg_none_of X G z7
  have m_str := PySem.W.mg_none_of X G z8
  have m_repr := PySem.W.mg_none_of X G z9
  have m_isinstance := PySem.W.mg_none_of X G z10
  have m_any := PySem.W.mg_none_of X G z11
  have m_sorted := PySem.W.mg_none_of X G z12
  have m_set := PySem.W.mg_none_of X G z13
  have m_bool := PySem.W.mg_none_of X G z14
  have m_all := PySem.W.mg_none_of X G z15
  have m_list := PySem.W.mg_none_of X G z16
  have m_zip := PySem.W.mg_none_of X G z17
  have y0 := PySem.W.mg_of X G v0
  have y1 := PySem.W.mg_of X G v1
  have y2 := PySem.W.mg_of X G v2
  have y3 := PySem.W.mg_of X G v3
  have y4 := PySem.W.mg_of X G v4
  have y5 := PySem.W.mg_of X G v5
  have y6 := PySem.W.mg_of X G v6
  have y7 := PySem.W.mg_of X G v7
  have y8 := PySem.W.mg_of X G v8
  have y9 := PySem.W.mg_of X G v9
  have y10 := PySem.W.mg_of X G v10
  have y11 := PySem.W.mg_of X G v11
  have y12 := PySem.W.mg_of X G v12
  have y13 := PySem.W.mg_of X G v13
  have y14 := PySem.W.mg_of X G v14
  have y15 := PySem.W.mg_of X G v15
  have y16 := PySem.W.mg_of X G v16
  have y17 := PySem.W.mg_of X G v17
  have y18 := PySem.W.mg_of X G v18
  have y19 := PySem.W.mg_of X G v19
  have y20 := PySem.W.mg_of X G v20
  have y21 := PySem.W.mg_of X G v21
  have y22 := PySem.W.mg_of X G v22
  have y23 := PySem.W.mg_of X G v23
  have y24 := PySem.W.mg_of X G v24
  have y25 := PySem.W.mg_of X G v25
  have y26 := PySem.W.mg_of X G v26
  have gR := PySem.W.mg_of X G aR
  have FR0 := fun_mk (st := sRI) lR0 cR0 kR0
  have bR0 := FR0.binds (ps := ["self", "string"]) fun _ _ _ _ _ _ us hl => match us, hl with | [_, _], _ => rfl
  have FR1 := fun_mk (st := sSign) lR1 cR1 kR1
  have bR1 := FR1.binds (ps := ["self"]) fun _ _ _ _ _ _ us hl => match us, hl with | [_], _ => rfl
  have FR2 := fun_mk (st := sSkips) lR2 cR2 kR2
  have bR2 := FR2.binds (ps := ["self", "sign"]) fun _ _ _ _ _ _ us hl => match us, hl with | [_, _], _ => rfl
  have FR3 := fun_mk (st := sDemand) lR3 cR3 kR3
  have bR3 := FR3.binds (ps := ["self", "is_right"]) fun _ _ _ _ _ _ us hl => match us, hl with | [_, _], _ => rfl
  have FR4 := fun_mk (st := sWhole) lR4 cR4 kR4
  have bR4 := FR4.binds (ps := ["self"]) fun _ _ _ _ _ _ us hl => match us, hl with | [_], _ => rfl
  have FR5 := fun_mk (st := sChoice) lR5 cR5 kR5
  have bR5 := FR5.binds (ps := ["self"]) fun _ _ _ _ _ _ us hl => match us, hl with | [_], _ => rfl
  have FR6 := fun_mk (st := sChain) lR6 cR6 kR6
  have bR6 := FR6.binds (ps := ["self"]) fun _ _ _ _ _ _ us hl => match us, hl with | [_], _ => rfl
  have FR7 := fun_mk (st := sItem) lR7 cR7 kR7
  have bR7 := FR7.binds (ps := ["self"]) fun _ _ _ _ _ _ us hl => match us, hl with | [_], _ => rfl
  have FR8 := fun_mk (st := sNumber) lR8 cR8 kR8
  have bR8 := FR8.binds (ps := ["self"]) fun _ _ _ _ _ _ us hl => match us, hl with | [_], _ => rfl
  have FR9 := fun_mk (st := sUnit) lR9 cR9 kR9
  have bR9 := FR9.binds (ps := ["self"]) fun _ _ _ _ _ _ us hl => match us, hl with | [_], _ => rfl
  have FR10 := fun_mk (st := sGroup) lR10 cR10 kR10
  have bR10 := FR10.binds (ps := ["self"]) fun _ _ _ _ _ _ us hl => match us, hl with | [_], _ => rfl
  have FR11 := fun_mk (st := sCapture) lR11 cR11 kR11
  have bR11 := FR11.binds (ps := ["self"]) fun _ _ _ _ _ _ us hl => match us, hl with | [_], _ => rfl
  have FR12 := fun_mk (st := sClass) lR12 cR12 kR12
  have bR12 := FR12.binds (ps := ["self"]) fun _ _ _ _ _ _ us hl => match us, hl with | [_], _ => rfl
  have FR13 := fun_mk (st := sPart) lR13 cR13 kR13
  have bR13 := FR13.binds (ps := ["self"]) fun _ _ _ _ _ _ us hl => match us, hl with | [_], _ => rfl
  have gW := PySem.W.mg_of X G aW
  have FW0 := fun_mk (st := sWI) lW0 cW0 kW0
  have bW0 := FW0.binds (ps := ["self"]) fun _ _ _ _ _ _ us hl => match us, hl with | [_], _ => rfl
  have FW1 := fun_mk (st := sLink) lW1 cW1 kW1
  have bW1 := FW1.binds (ps := ["self", "ahead", "later"]) fun _ _ _ _ _ _ us hl => match us, hl with | [_, _, _], _ => rfl
  have FW2 := fun_mk (st := sJoined) lW2 cW2 kW2
  have bW2 := FW2.binds (ps := ["self", "one", "other"]) fun _ _ _ _ _ _ us hl => match us, hl with | [_, _, _], _ => rfl
  have FW3 := fun_mk (st := sPartOf) lW3 cW3 kW3
  have bW3 := FW3.binds (ps := ["self", "tree"]) fun _ _ _ _ _ _ us hl => match us, hl with | [_, _], _ => rfl
  have FW4 := fun_mk (st := sCounted) lW4 cW4 kW4
  have bW4 := FW4.binds (ps := ["self", "least", "most", "tree"]) fun _ _ _ _ _ _ us hl => match us, hl with | [_, _, _, _], _ => rfl
  have gP := PySem.W.mg_of X G aP
  have FP0 := fun_mk (st := sPI) lP0 cP0 kP0
  have bP0 := FP0.binds (ps := ["self", "string"]) fun _ _ _ _ _ _ us hl => match us, hl with | [_, _], _ => rfl
  have FP1 := fun_mk (st := sPEq) lP1 cP1 kP1
  have bP1 := FP1.binds (ps := ["self", "other"]) fun _ _ _ _ _ _ us hl => match us, hl with | [_, _], _ => rfl
  have FP2 := fun_mk (st := sBeh) lP2 cP2 kP2
  have bP2 := FP2.binds (ps := ["self", "place"]) fun _ _ _ _ _ _ us hl => match us, hl with | [_, _], _ => rfl
  have gQ := PySem.W.mg_of X G aQ
  have FQ0 := fun_mk (st := sQI) lQ0 cQ0 kQ0
  have bQ0 := FQ0.binds (ps := ["self", "tree"]) fun _ _ _ _ _ _ us hl => match us, hl with | [_, _], _ => rfl
  have FQ1 := fun_mk (st := sQAnd) lQ1 cQ1 kQ1
  have bQ1 := FQ1.binds (ps := ["self", "other"]) fun _ _ _ _ _ _ us hl => match us, hl with | [_, _], _ => rfl
  have FQ2 := fun_mk (st := sQOr) lQ2 cQ2 kQ2
  have bQ2 := FQ2.binds (ps := ["self", "other"]) fun _ _ _ _ _ _ us hl => match us, hl with | [_, _], _ => rfl
  have FQ3 := fun_mk (st := sQNeg) lQ3 cQ3 kQ3
  have bQ3 := FQ3.binds (ps := ["self"]) fun _ _ _ _ _ _ us hl => match us, hl with | [_], _ => rfl
  have gCs := PySem.W.mg_of X G aCs
  have cz : ∀ z : Str, z ≠ Str.ofString "*" → z ≠ Str.ofString "+" → z ≠ Str.ofString "?" → PySem.W.nsIn K dd z = some none := fun z z1 z2 z3 => by
    obtain ⟨h1, h2, h3, t1, t2, t3, v1, v2, v3, he⟩ := qk
    have p1 : ∀ (y : Str) (t : Tok), z ≠ y → (Value.str y t).isStr z = false := fun y t n => by
      show (y == z) = false
      exact beq_eq_false_iff_ne.mpr (Ne.symm n)
    unfold PySem.W.nsIn
    rw [lCs]
    dsimp only
    rw [he, List.find?_cons, List.find?_cons, List.find?_cons, List.find?_nil]
    dsimp only
    rw [p1 _ _ z1, p1 _ _ z2, p1 _ _ z3] <;> rfl
  let tk : Nat → Tok := fun i => [tk0, tk1, tk2, tk3, tk4, tk5, tk6, tk7, tk8, tk9, tk10, tk11, tk12, tk13, tk14, tk15].getD i tk0
  let fR : Nat → Addr := fun i => [fR0, fR1, fR2, fR3, fR4, fR5, fR6, fR7, fR8, fR9, fR10, fR11, fR12, fR13].getD i fR0
  let dR : Nat → FuncData := fun i => [(PySem.W.fnOf "__init__" "PatternReader.__init__" (defArgs sRI) (defBody sRI) (defScope sRI) .none kVR0 dcR0 pmR0 anR0 cdR0 ctR0), (PySem.W.fnOf "sign" "PatternReader.sign" (defArgs sSign) (defBody sSign) (defScope sSign) .none kVR1 dcR1 pmR1 anR1 cdR1 ctR1), (PySem.W.fnOf "skips" "PatternReader.skips" (defArgs sSkips) (defBody sSkips) (defScope sSkips) .none kVR2 dcR2 pmR2 anR2 cdR2 ctR2), (PySem.W.fnOf "demand" "PatternReader.demand" (defArgs sDemand) (defBody sDemand) (defScope sDemand) .none kVR3 dcR3 pmR3 anR3 cdR3 ctR3), (PySem.W.fnOf "read_whole" "PatternReader.read_whole" (defArgs sWhole) (defBody sWhole) (defScope sWhole) .none kVR4 dcR4 pmR4 anR4 cdR4 ctR4), (PySem.W.fnOf "read_choice" "PatternReader.read_choice" (defArgs sChoice) (defBody sChoice) (defScope sChoice) .none kVR5 dcR5 pmR5 anR5 cdR5 ctR5), (PySem.W.fnOf "read_chain" "PatternReader.read_chain" (defArgs sChain) (defBody sChain) (defScope sChain) .none kVR6 dcR6 pmR6 anR6 cdR6 ctR6), (PySem.W.fnOf "read_item" "PatternReader.read_item" (defArgs sItem) (defBody sItem) (defScope sItem) .none kVR7 dcR7 pmR7 anR7 cdR7 ctR7), (PySem.W.fnOf "read_number" "PatternReader.read_number" (defArgs sNumber) (defBody sNumber) (defScope sNumber) .none kVR8 dcR8 pmR8 anR8 cdR8 ctR8), (PySem.W.fnOf "read_unit" "PatternReader.read_unit" (defArgs sUnit) (defBody sUnit) (defScope sUnit) .none kVR9 dcR9 pmR9 anR9 cdR9 ctR9), (PySem.W.fnOf "read_group" "PatternReader.read_group" (defArgs sGroup) (defBody sGroup) (defScope sGroup) .none kVR10 dcR10 pmR10 anR10 cdR10 ctR10), (PySem.W.fnOf "read_capture" "PatternReader.read_capture" (defArgs sCapture) (defBody sCapture) (defScope sCapture) .none kVR11 dcR11 pmR11 anR11 cdR11 ctR11), (PySem.W.fnOf "read_class" "PatternReader.read_class" (defArgs sClass) (defBody sClass) (defScope sClass) .none kVR12 dcR12 pmR12 anR12 cdR12 ctR12), (PySem.W.fnOf "read_part" "PatternReader.read_part" (defArgs sPart) (defBody sPart) (defScope sPart) .none kVR13 dcR13 pmR13 anR13 cdR13 ctR13)].getD i (PySem.W.fnOf "__init__" "PatternReader.__init__" (defArgs sRI) (defBody sRI) (defScope sRI) .none kVR0 dcR0 pmR0 anR0 cdR0 ctR0)
  let fW : Nat → Addr := fun i => [fW0, fW1, fW2, fW3, fW4].getD i fW0
  let dW : Nat → FuncData := fun i => [(PySem.W.fnOf "__init__" "Written.__init__" (defArgs sWI) (defBody sWI) (defScope sWI) .none kVW0 dcW0 pmW0 anW0 cdW0 ctW0), (PySem.W.fnOf "link" "Written.link" (defArgs sLink) (defBody sLink) (defScope sLink) .none kVW1 dcW1 pmW1 anW1 cdW1 ctW1), (PySem.W.fnOf "joined" "Written.joined" (defArgs sJoined) (defBody sJoined) (defScope sJoined) .none kVW2 dcW2 pmW2 anW2 cdW2 ctW2), (PySem.W.fnOf "part_of" "Written.part_of" (defArgs sPartOf) (defBody sPartOf) (defScope sPartOf) .none kVW3 dcW3 pmW3 anW3 cdW3 ctW3), (PySem.W.fnOf "counted" "Written.counted" (defArgs sCounted) (defBody sCounted) (defScope sCounted) .none kVW4 dcW4 pmW4 anW4 cdW4 ctW4)].getD i (PySem.W.fnOf "__init__" "Written.__init__" (defArgs sWI) (defBody sWI) (defScope sWI) .none kVW0 dcW0 pmW0 anW0 cdW0 ctW0)
  let fP : Nat → Addr := fun i => [fP0, fP1, fP2].getD i fP0
  let dP : Nat → FuncData := fun i => [(PySem.W.fnOf "__init__" "Pattern.__init__" (defArgs sPI) (defBody sPI) (defScope sPI) .none kVP0 dcP0 pmP0 anP0 cdP0 ctP0), (PySem.W.fnOf "__eq__" "Pattern.__eq__" (defArgs sPEq) (defBody sPEq) (defScope sPEq) .none kVP1 dcP1 pmP1 anP1 cdP1 ctP1), (PySem.W.fnOf "behind" "Pattern.behind" (defArgs sBeh) (defBody sBeh) (defScope sBeh) .none kVP2 dcP2 pmP2 anP2 cdP2 ctP2)].getD i (PySem.W.fnOf "__init__" "Pattern.__init__" (defArgs sPI) (defBody sPI) (defScope sPI) .none kVP0 dcP0 pmP0 anP0 cdP0 ctP0)
  let fQ : Nat → Addr := fun i => [fQ0, fQ1, fQ2, fQ3].getD i fQ0
  let dQ : Nat → FuncData := fun i => [(PySem.W.fnOf "__init__" "Question.__init__" (defArgs sQI) (defBody sQI) (defScope sQI) .none kVQ0 dcQ0 pmQ0 anQ0 cdQ0 ctQ0), (PySem.W.fnOf "__and__" "Question.__and__" (defArgs sQAnd) (defBody sQAnd) (defScope sQAnd) .none kVQ1 dcQ1 pmQ1 anQ1 cdQ1 ctQ1), (PySem.W.fnOf "__or__" "Question.__or__" (defArgs sQOr) (defBody sQOr) (defScope sQOr) .none kVQ2 dcQ2 pmQ2 anQ2 cdQ2 ctQ2), (PySem.W.fnOf "__neg__" "Question.__neg__" (defArgs sQNeg) (defBody sQNeg) (defScope sQNeg) .none kVQ3 dcQ3 pmQ3 anQ3 cdQ3 ctQ3)].getD i (PySem.W.fnOf "__init__" "Question.__init__" (defArgs sQI) (defBody sQI) (defScope sQI) .none kVQ0 dcQ0 pmQ0 anQ0 cdQ0 ctQ0)
  let fL : Nat → Addr := fun i => [f15, f16, f17, f18, f19, f20, f21, f22, f23, f24].getD i f15
  let dL : Nat → FuncData := fun i => [(PySem.W.fnOf "_law_pot" "_law_pot" (defArgs sPot) (defBody sPot) (defScope sPot) .none kV15 dc15 pm15 an15 cd15 ct15), (PySem.W.fnOf "_law_draw" "_law_draw" (defArgs sDraw) (defBody sDraw) (defScope sDraw) .none kV16 dc16 pm16 an16 cd16 ct16), (PySem.W.fnOf "_law_any" "_law_any" (defArgs sAny) (defBody sAny) (defScope sAny) .none kV17 dc17 pm17 an17 cd17 ct17), (PySem.W.fnOf "_law_all_letters" "_law_all_letters" (defArgs sLets) (defBody sLets) (defScope sLets) .none kV18 dc18 pm18 an18 cd18 ct18), (PySem.W.fnOf "_law_tree" "_law_tree" (defArgs sTree) (defBody sTree) (defScope sTree) .none kV19 dc19 pm19 an19 cd19 ct19), (PySem.W.fnOf "_law_many_places" "_law_many_places" (defArgs sMany) (defBody sMany) (defScope sMany) .none kV20 dc20 pm20 an20 cd20 ct20), (PySem.W.fnOf "_law_grouped" "_law_grouped" (defArgs sGrouped) (defBody sGrouped) (defScope sGrouped) .none kV21 dc21 pm21 an21 cd21 ct21), (PySem.W.fnOf "_law_string" "_law_string" (defArgs sString) (defBody sString) (defScope sString) .none kV22 dc22 pm22 an22 cd22 ct22), (PySem.W.fnOf "_law_whole" "_law_whole" (defArgs sWholeL) (defBody sWholeL) (defScope sWholeL) .none kV23 dc23 pm23 an23 cd23 ct23), (PySem.W.fnOf "_law_pattern_string" "_law_pattern_string" (defArgs sPatS) (defBody sPatS) (defScope sPatS) .none kV24 dc24 pm24 an24 cd24 ct24)].getD i (PySem.W.fnOf "_law_pot" "_law_pot" (defArgs sPot) (defBody sPot) (defScope sPot) .none kV15 dc15 pm15 an15 cd15 ct15)
  let cT : Nat → Addr := fun i => [T0, T1, T2].getD i T0
  have TR : RT K w mg CR fR dR tk dd ces cn cT := { cl := ⟨pgR, hdR, poR, saR⟩, nStr := nR0, nSp := nR1, nNm := nR2, nMo := nR3, mI := ⟨FR0, bR0, ⟨iR0, jR0, kR0⟩⟩, mSign := ⟨FR1, bR1, ⟨iR1, jR1, kR1⟩⟩, mSkips := ⟨FR2, bR2, ⟨iR2, jR2, kR2⟩⟩, mDemand := ⟨FR3, bR3, ⟨iR3, jR3, kR3⟩⟩, mWhole := ⟨FR4, bR4, ⟨iR4, jR4, kR4⟩⟩, mChoice := ⟨FR5, bR5, ⟨iR5, jR5, kR5⟩⟩, mChain := ⟨FR6, bR6, ⟨iR6, jR6, kR6⟩⟩, mItem := ⟨FR7, bR7, ⟨iR7, jR7, kR7⟩⟩, mNumber := ⟨FR8, bR8, ⟨iR8, jR8, kR8⟩⟩, mUnit := ⟨FR9, bR9, ⟨iR9, jR9, kR9⟩⟩, mGroup := ⟨FR10, bR10, ⟨iR10, jR10, kR10⟩⟩, mCapture := ⟨FR11, bR11, ⟨iR11, jR11, kR11⟩⟩, mClass := ⟨FR12, bR12, ⟨iR12, jR12, kR12⟩⟩, mPart := ⟨FR13, bR13, ⟨iR13, jR13, kR13⟩⟩, gLet := y0, gBeg := y1, gEnd := y2, gDig := y3, gSma := y4, gMS := y5, gMO := y6, gMN := y7, gMC := y8, gPl := y9, gCh := y10, gAl := y11, gCo := y12, gCa := y13, gEm := y14, gCs := gCs, kd := ⟨lCs, klCs, loCs⟩, c1 := q0, c2 := q1, c3 := q2, c0 := cz, t1 := fun H => .inr ⟨_, _, _, lT0, rfl, rfl, (show 2 ≤ sizeLine by decide), .cons ⟨_, rfl⟩ (.cons rfl .nil)⟩, t2 := fun H => .inr ⟨_, _, _, lT1, rfl, rfl, (show 2 ≤ sizeLine by decide), .cons ⟨_, rfl⟩ (.cons rfl .nil)⟩, t3 := fun H => .inr ⟨_, _, _, lT2, rfl, rfl, (show 2 ≤ sizeLine by decide), .cons ⟨_, rfl⟩ (.cons ⟨_, rfl⟩ .nil)⟩, mkC := ⟨mkR, iR0, jR0, kcR⟩, gC := gR, zisi := m_isinstance, zlen := m_len, zint := m_int, zstr := m_str, ztup := m_tuple }
  have TW : WT K mg CW fW dW tk := { cl := ⟨pgW, hdW, poW, saW⟩, nLe := nW0, nFo := nW1, mI := ⟨FW0, bW0, ⟨iW0, jW0, kW0⟩⟩, mLink := ⟨FW1, bW1, ⟨iW1, jW1, kW1⟩⟩, mJoin := ⟨FW2, bW2, ⟨iW2, jW2, kW2⟩⟩, mPart := ⟨FW3, bW3, ⟨iW3, jW3, kW3⟩⟩, mCount := ⟨FW4, bW4, ⟨iW4, jW4, kW4⟩⟩, mkC := ⟨mkW, iW0, jW0, kcW⟩, gC := gW, gPl := y9, gCh := y10, gAl := y11, gCo := y12, gCa := y13, zlen := m_len, zany := m_any, zmax := m_max, zrange := m_range, ztup := m_tuple, zsorted := m_sorted, zset := m_set }
  have TS : ST K mg tk f1 _ := { F := F1, b := b1, gg := g1, gPl := y9, gCh := y10, gAl := y11, gCo := y12, gCa := y13, zsum := m_sum, zmax := m_max }
  have TP : PatT K mg CP fP dP tk f0 f2 _ _ := { cl := ⟨pgP, hdP, poP, saP⟩, n1 := nP0, n2 := nP1, n3 := nP2, n4 := nP3, n5 := nP4, n6 := nP5, n7 := nP6, n8 := nP7, n9 := nP8, mI := ⟨FP0, bP0, ⟨iP0, jP0, kP0⟩⟩, mE := ⟨FP1, bP1, ⟨iP1, jP1, kP1⟩⟩, mkC := ⟨mkP, iP0, jP0, kcP⟩, gC := gP, FR := F0, bR := b0, gR_ := g0, FW := F2, bW := b2, gW_ := g2, gMP := y15, ztup := m_tuple, zisi := m_isinstance, ha := ha, hn := hn, ht := ht, hm := hm, k1 := kk1, k2 := kk2, sb := sb }
  have TL : LawT K mg fL dL := { pot := ⟨F15, b15, g15⟩, draw := ⟨F16, b16, g16⟩, any := ⟨F17, b17, g17⟩, lets := ⟨F18, b18, g18⟩, tree := ⟨F19, b19, g19⟩, many := ⟨F20, b20, g20⟩, grouped := ⟨F21, b21, g21⟩, string := ⟨F22, b22, g22⟩, whole := ⟨F23, b23, g23⟩, pats := ⟨F24, b24, g24⟩, zint := m_int, zabs := m_abs, zlen := m_len, zmax := m_max, zmin := m_min, zrange := m_range, zsum := m_sum, ztup := m_tuple, zstr := m_str, zrepr := m_repr }
  let fG : Nat → Addr := fun i => [f25, f26, f27, f28, f29, f30, f31].getD i f25
  let dG : Nat → FuncData := fun i => [(PySem.W.fnOf "_law_state_behind" "_law_state_behind" (defArgs sLSB) (defBody sLSB) (defScope sLSB) .none kV25 dc25 pm25 an25 cd25 ct25), (PySem.W.fnOf "_law_next" "_law_next" (defArgs sLNext) (defBody sLNext) (defScope sLNext) .none kV26 dc26 pm26 an26 cd26 ct26), (PySem.W.fnOf "_law_so" "_law_so" (defArgs sLSo) (defBody sLSo) (defScope sLSo) .none kV27 dc27 pm27 an27 cd27 ct27), (PySem.W.fnOf "_law_state" "_law_state" (defArgs sLState) (defBody sLState) (defScope sLState) .none kV28 dc28 pm28 an28 cd28 ct28), (PySem.W.fnOf "_law_asked" "_law_asked" (defArgs sLAsked) (defBody sLAsked) (defScope sLAsked) .none kV29 dc29 pm29 an29 cd29 ct29), (PySem.W.fnOf "_law_made" "_law_made" (defArgs sLMade) (defBody sLMade) (defScope sLMade) .none kV30 dc30 pm30 an30 cd30 ct30), (PySem.W.fnOf "_law_right" "_law_right" (defArgs sLRight) (defBody sLRight) (defScope sLRight) .none kV31 dc31 pm31 an31 cd31 ct31)].getD i (PySem.W.fnOf "_law_state_behind" "_law_state_behind" (defArgs sLSB) (defBody sLSB) (defScope sLSB) .none kV25 dc25 pm25 an25 cd25 ct25)
  have TG : LqT K mg fG dG := { sb := ⟨F25, b25, g25⟩, nx := ⟨F26, b26, g26⟩, so := ⟨F27, b27, g27⟩, st := ⟨F28, b28, g28⟩, ask := ⟨F29, b29, g29⟩, made := ⟨F30, b30, g30⟩, right := ⟨F31, b31, g31⟩, zany := m_any, zall := m_all, zsorted := m_sorted, zset := m_set, ztup := m_tuple, zlist := m_list, zzip := m_zip, zrange := m_range, zlen := m_len, zrepr := m_repr }
  let fU : Nat → Addr := fun i => [fQ0, fQ1, fQ2, fQ3, f4, f5, f6, f7].getD i fQ0
  let dU : Nat → FuncData := fun i => [(PySem.W.fnOf "__init__" "Question.__init__" (defArgs sQI) (defBody sQI) (defScope sQI) .none kVQ0 dcQ0 pmQ0 anQ0 cdQ0 ctQ0), (PySem.W.fnOf "__and__" "Question.__and__" (defArgs sQAnd) (defBody sQAnd) (defScope sQAnd) .none kVQ1 dcQ1 pmQ1 anQ1 cdQ1 ctQ1), (PySem.W.fnOf "__or__" "Question.__or__" (defArgs sQOr) (defBody sQOr) (defScope sQOr) .none kVQ2 dcQ2 pmQ2 anQ2 cdQ2 ctQ2), (PySem.W.fnOf "__neg__" "Question.__neg__" (defArgs sQNeg) (defBody sQNeg) (defScope sQNeg) .none kVQ3 dcQ3 pmQ3 anQ3 cdQ3 ctQ3), (PySem.W.fnOf "shown" "shown" (defArgs sShown) (defBody sShown) (defScope sShown) .none kV4 dc4 pm4 an4 cd4 ct4), (PySem.W.fnOf "bracketed" "bracketed" (defArgs sBrk) (defBody sBrk) (defScope sBrk) .none kV5 dc5 pm5 an5 cd5 ct5), (PySem.W.fnOf "patterns_in" "patterns_in" (defArgs sPatsIn) (defBody sPatsIn) (defScope sPatsIn) .none kV6 dc6 pm6 an6 cd6 ct6), (PySem.W.fnOf "has" "has" (defArgs sHas) (defBody sHas) (defScope sHas) .none kV7 dc7 pm7 an7 cd7 ct7)].getD i (PySem.W.fnOf "__init__" "Question.__init__" (defArgs sQI) (defBody sQI) (defScope sQI) .none kVQ0 dcQ0 pmQ0 anQ0 cdQ0 ctQ0)
  let tq : Nat → Tok := fun i => [tk0, tk0, tk0, tk0, tk0, tk0, tk0, tk0, tk0, tk0, tk0, tk0, tk0, tk0, tk0, tk0, tk0, tk0, tk0, tk0, tk16, tk17, tk18, tk19, tk20, tk21, tk22, tk23, tk24, tk25, tk26].getD i tk0
  have TQ : QuT K mg CQ fU dU tq := { cl := ⟨pgQ, hdQ, poQ, saQ⟩, n1 := nQ0, n2 := nQ1, n3 := nQ2, mI := ⟨FQ0, bQ0, ⟨iQ0, jQ0, kQ0⟩⟩, mA := ⟨FQ1, bQ1, ⟨iQ1, jQ1, kQ1⟩⟩, mO := ⟨FQ2, bQ2, ⟨iQ2, jQ2, kQ2⟩⟩, mN := ⟨FQ3, bQ3, ⟨iQ3, jQ3, kQ3⟩⟩, mkC := ⟨mkQ, iQ0, jQ0, kcQ⟩, self := sfQ, gC := gQ, shown := ⟨F4, b4, g4⟩, brk := ⟨F5, b5, g5⟩, pin := ⟨F6, b6, g6⟩, has := ⟨F7, b7, g7⟩, gHas := y16, gAnd := y17, gOr := y18, gNot := y19, gSl := y20, gNs := y21, gAs := y22, gOs := y23, gMPt := y24, gMPl := y25, gMSg := y26, zlen := m_len, zsum := m_sum, ztup := m_tuple }
  let fN : Nat → Addr := fun i => [f8, f9, f10, f11, f12, f13, f14, f3].getD i f8
  let dN : Nat → FuncData := fun i => [(PySem.W.fnOf "state_behind" "state_behind" (defArgs sStB) (defBody sStB) (defScope sStB) .none kV8 dc8 pm8 an8 cd8 ct8), (PySem.W.fnOf "has_last" "has_last" (defArgs sHasLast) (defBody sHasLast) (defScope sHasLast) .none kV9 dc9 pm9 an9 cd9 ct9), (PySem.W.fnOf "has_ended" "has_ended" (defArgs sHasEnded) (defBody sHasEnded) (defScope sHasEnded) .none kV10 dc10 pm10 an10 cd10 ct10), (PySem.W.fnOf "truth_of" "truth_of" (defArgs sTruth) (defBody sTruth) (defScope sTruth) .none kV11 dc11 pm11 an11 cd11 ct11), (PySem.W.fnOf "is_so_at" "is_so_at" (defArgs sIsSoAt) (defBody sIsSoAt) (defScope sIsSoAt) .none kV12 dc12 pm12 an12 cd12 ct12), (PySem.W.fnOf "next_node" "next_node" (defArgs sNext) (defBody sNext) (defScope sNext) .none kV13 dc13 pm13 an13 cd13 ct13), (PySem.W.fnOf "is_so" "is_so" (defArgs sIsSo) (defBody sIsSo) (defScope sIsSo) .none kV14 dc14 pm14 an14 cd14 ct14), (PySem.W.fnOf "is_integer" "is_integer" (defArgs sIsI) (defBody sIsI) (defScope sIsI) .none kV3 dc3 pm3 an3 cd3 ct3)].getD i (PySem.W.fnOf "state_behind" "state_behind" (defArgs sStB) (defBody sStB) (defScope sStB) .none kV8 dc8 pm8 an8 cd8 ct8)
  let tn : Nat → Tok := fun i => [tk1].getD i tk1
  have gFo := PySem.W.mg_of X G aFo
  have TN : NoT K mg CP AF fN dN fP2 _ tn := { sb := ⟨F8, b8, g8⟩, hl := ⟨F9, b9, g9⟩, he := ⟨F10, b10, g10⟩, tr := ⟨F11, b11, g11⟩, isa := ⟨F12, b12, g12⟩, nn := ⟨F13, b13, g13⟩, iso := ⟨F14, b14, g14⟩, isi := ⟨F3, b3, g3⟩, mB := ⟨FP2, bP2, ⟨iP2, jP2, kP2⟩⟩, gF := gFo, sF := fun H => .inr ⟨_, _, _, lAF, rfl, rfl, (show 1 ≤ sizeLine by decide), .cons ⟨_, rfl⟩ .nil⟩, gBe := y1, zany := m_any, zsorted := m_sorted, ztup := m_tuple, zzip := m_zip, zlen := m_len, zisi := m_isinstance, zint := m_int, zbool := m_bool }
  exact ⟨_, fun s v => .of_eq rfl, fun base _ _ => ok_law31 TL TG F32 (ok_rt (P := l.prog) (w := w) (base := base) TL TN TQ TP TR TW TS TG)⟩
end Sq
open PySem PySem.W PyProof.Rows
set_option maxHeartbeats 0 in
theorem PySem.Challenge.cw_siftstore_k31_nodes_of_any_form_holds : PySem.Challenge.rw_siftstore_k31_nodes_of_any_form.Holds := by
  w_on; o_law; k_head; (case hw => w_witness2)
  k_fill
  refine Sf.walk_G (l := PySem.Challenge.rw_siftstore_k31_nodes_of_any_form) (n := 63) (k := 98) (x := "_law_script") (sp := fun w => Sq.spLaw31 _) rfl (by decide) rfl ⟨rfl, by decide, by decide⟩ (fun w h Y => PySem.W.kIn_of Y) ?F (fun _ _ a ns hl hS => ⟨a, ns, rfl, hS, hl, fun _ => rfl⟩)
  case F =>
    intro w mg fa h KX G hmg
    refine' Sq.all_mk KX G hmg ?a0 ?l0 ?c0 ?k0 ?a1 ?l1 ?c1 ?k1 ?a2 ?l2 ?c2 ?k2 ?a3 ?l3 ?c3 ?k3 ?a4 ?l4 ?c4 ?k4 ?a5 ?l5 ?c5 ?k5 ?a6 ?l6 ?c6 ?k6 ?a7 ?l7 ?c7 ?k7 ?a8 ?l8 ?c8 ?k8 ?a9 ?l9 ?c9 ?k9 ?a10 ?l10 ?c10 ?k10 ?a11 ?l11 ?c11 ?k11 ?a12 ?l12 ?c12 ?k12 ?a13 ?l13 ?c13 ?k13 ?a14 ?l14 ?c14 ?k14 ?a15 ?l15 ?c15 ?k15 ?a16 ?l16 ?c16 ?k16 ?a17 ?l17 ?c17 ?k17 ?a18 ?l18 ?c18 ?k18 ?a19 ?l19 ?c19 ?k19 ?a20 ?l20 ?c20 ?k20 ?a21 ?l21 ?c21 ?k21 ?a22 ?l22 ?c22 ?k22 ?a23 ?l23 ?c23 ?k23 ?a24 ?l24 ?c24 ?k24 ?a25 ?l25 ?c25 ?k25 ?a26 ?l26 ?c26 ?k26 ?a27 ?l27 ?c27 ?k27 ?a28 ?l28 ?c28 ?k28 ?a29 ?l29 ?c29 ?k29 ?a30 ?l30 ?c30 ?k30 ?a31 ?l31 ?c31 ?k31 ?a32 ?l32 ?c32 ?k32 ?z0 ?z1 ?z2 ?z3 ?z4 ?z5 ?z6 ?z7 ?z8 ?z9 ?z10 ?z11 ?z12 ?z13 ?z14 ?z15 ?z16 ?z17 ?v0 ?v1 ?v2 ?v3 ?v4 ?v5 ?v6 ?v7 ?v8 ?v9 ?v10 ?v11 ?v12 ?v13 ?v14 ?v15 ?v16 ?v17 ?v18 ?v19 ?v20 ?v21 ?v22 ?v23 ?v24 ?v25 ?v26 ?aR ?pgR ?hdR ?poR ?saR ?mkR ?kcR ?nR0 ?nR1 ?nR2 ?nR3 ?iR0 ?jR0 ?lR0 ?cR0 ?kR0 ?iR1 ?jR1 ?lR1 ?cR1 ?kR1 ?iR2 ?jR2 ?lR2 ?cR2 ?kR2 ?iR3 ?jR3 ?lR3 ?cR3 ?kR3 ?iR4 ?jR4 ?lR4 ?cR4 ?kR4 ?iR5 ?jR5 ?lR5 ?cR5 ?kR5 ?iR6 ?jR6 ?lR6 ?cR6 ?kR6 ?iR7 ?jR7 ?lR7 ?cR7 ?kR7 ?iR8 ?jR8 ?lR8 ?cR8 ?kR8 ?iR9 ?jR9 ?lR9 ?cR9 ?kR9 ?iR10 ?jR10 ?lR10 ?cR10 ?kR10 ?iR11 ?jR11 ?lR11 ?cR11 ?kR11 ?iR12 ?jR12 ?lR12 ?cR12 ?kR12 ?iR13 ?jR13 ?lR13 ?cR13 ?kR13 ?aW ?pgW ?hdW ?poW ?saW ?mkW ?kcW ?nW0 ?nW1 ?iW0 ?jW0 ?lW0 ?cW0 ?kW0 ?iW1 ?jW1 ?lW1 ?cW1 ?kW1 ?iW2 ?jW2 ?lW2 ?cW2 ?kW2 ?iW3 ?jW3 ?lW3 ?cW3 ?kW3 ?iW4 ?jW4 ?lW4 ?cW4 ?kW4 ?aP ?pgP ?hdP ?poP ?saP ?mkP ?kcP ?nP0 ?nP1 ?nP2 ?nP3 ?nP4 ?nP5 ?nP6 ?nP7 ?nP8 ?iP0 ?jP0 ?lP0 ?cP0 ?kP0 ?iP1 ?jP1 ?lP1 ?cP1 ?kP1 ?iP2 ?jP2 ?lP2 ?cP2 ?kP2 ?aQ ?pgQ ?hdQ ?poQ ?saQ ?mkQ ?kcQ ?nQ0 ?nQ1 ?nQ2 ?iQ0 ?jQ0 ?lQ0 ?cQ0 ?kQ0 ?iQ1 ?jQ1 ?lQ1 ?cQ1 ?kQ1 ?iQ2 ?jQ2 ?lQ2 ?cQ2 ?kQ2 ?iQ3 ?jQ3 ?lQ3 ?cQ3 ?kQ3 ?ha ?hn ?ht ?hm ?kk1 ?kk2 ?sb ?aCs ?lCs ?klCs ?loCs ?q0 ?q1 ?q2 ?qk ?lT0 ?lT1 ?lT2 ?sfQ ?aFo ?lAF
    (case a0 => k_is)
    (case l0 => k_is)
    (case c0 => k_is)
    (case k0 => k_is)
    (case a1 => k_is)
    (case l1 => k_is)
    (case c1 => k_is)
    (case k1 => k_is)
    (case a2 => k_is)
    (case l2 => k_is)
    (case c2 => k_is)
    (case k2 => k_is)
    (case a3 => k_is)
    (case l3 => k_is)
    (case c3 => k_is)
    (case k3 => k_is)
    (case a4 => k_is)
    (case l4 => k_is)
    (case c4 => k_is)
    (case k4 => k_is)
    (case a5 => k_is)
    (case l5 => k_is)
    (case c5 => k_is)
    (case k5 => k_is)
    (case a6 => k_is)
    (case l6 => k_is)
    (case c6 => k_is)
    (case k6 => k_is)
    (case a7 => k_is)
    (case l7 => k_is)
    (case c7 => k_is)
    (case k7 => k_is)
    (case a8 => k_is)
    (case l8 => k_is)
    (case c8 => k_is)
    (case k8 => k_is)
    (case a9 => k_is)
    (case l9 => k_is)
    (case c9 => k_is)
    (case k9 => k_is)
    (case a10 => k_is)
    (case l10 => k_is)
    (case c10 => k_is)
    (case k10 => k_is)
    (case a11 => k_is)
    (case l11 => k_is)
    (case c11 => k_is)
    (case k11 => k_is)
    (case a12 => k_is)
    (case l12 => k_is)
    (case c12 => k_is)
    (case k12 => k_is)
    (case a13 => k_is)
    (case l13 => k_is)
    (case c13 => k_is)
    (case k13 => k_is)
    (case a14 => k_is)
    (case l14 => k_is)
    (case c14 => k_is)
    (case k14 => k_is)
    (case a15 => k_is)
    (case l15 => k_is)
    (case c15 => k_is)
    (case k15 => k_is)
    (case a16 => k_is)
    (case l16 => k_is)
    (case c16 => k_is)
    (case k16 => k_is)
    (case a17 => k_is)
    (case l17 => k_is)
    (case c17 => k_is)
    (case k17 => k_is)
    (case a18 => k_is)
    (case l18 => k_is)
    (case c18 => k_is)
    (case k18 => k_is)
    (case a19 => k_is)
    (case l19 => k_is)
    (case c19 => k_is)
    (case k19 => k_is)
    (case a20 => k_is)
    (case l20 => k_is)
    (case c20 => k_is)
    (case k20 => k_is)
    (case a21 => k_is)
    (case l21 => k_is)
    (case c21 => k_is)
    (case k21 => k_is)
    (case a22 => k_is)
    (case l22 => k_is)
    (case c22 => k_is)
    (case k22 => k_is)
    (case a23 => k_is)
    (case l23 => k_is)
    (case c23 => k_is)
    (case k23 => k_is)
    (case a24 => k_is)
    (case l24 => k_is)
    (case c24 => k_is)
    (case k24 => k_is)
    (case a25 => k_is)
    (case l25 => k_is)
    (case c25 => k_is)
    (case k25 => k_is)
    (case a26 => k_is)
    (case l26 => k_is)
    (case c26 => k_is)
    (case k26 => k_is)
    (case a27 => k_is)
    (case l27 => k_is)
    (case c27 => k_is)
    (case k27 => k_is)
    (case a28 => k_is)
    (case l28 => k_is)
    (case c28 => k_is)
    (case k28 => k_is)
    (case a29 => k_is)
    (case l29 => k_is)
    (case c29 => k_is)
    (case k29 => k_is)
    (case a30 => k_is)
    (case l30 => k_is)
    (case c30 => k_is)
    (case k30 => k_is)
    (case a31 => k_is)
    (case l31 => k_is)
    (case c31 => k_is)
    (case k31 => k_is)
    (case a32 => k_is)
    (case l32 => k_is)
    (case c32 => k_is)
    (case k32 => k_is)
    (case z0 => k_is)
    (case z1 => k_is)
    (case z2 => k_is)
    (case z3 => k_is)
    (case z4 => k_is)
    (case z5 => k_is)
    (case z6 => k_is)
    (case z7 => k_is)
    (case z8 => k_is)
    (case z9 => k_is)
    (case z10 => k_is)
    (case z11 => k_is)
    (case z12 => k_is)
    (case z13 => k_is)
    (case z14 => k_is)
    (case z15 => k_is)
    (case z16 => k_is)
    (case z17 => k_is)
    (case v0 => k_is)
    (case v1 => k_is)
    (case v2 => k_is)
    (case v3 => k_is)
    (case v4 => k_is)
    (case v5 => k_is)
    (case v6 => k_is)
    (case v7 => k_is)
    (case v8 => k_is)
    (case v9 => k_is)
    (case v10 => k_is)
    (case v11 => k_is)
    (case v12 => k_is)
    (case v13 => k_is)
    (case v14 => k_is)
    (case v15 => k_is)
    (case v16 => k_is)
    (case v17 => k_is)
    (case v18 => k_is)
    (case v19 => k_is)
    (case v20 => k_is)
    (case v21 => k_is)
    (case v22 => k_is)
    (case v23 => k_is)
    (case v24 => k_is)
    (case v25 => k_is)
    (case v26 => k_is)
    (case aR => k_is)
    (case pgR => k_is)
    (case hdR => k_is)
    (case poR => k_is)
    (case saR => k_is)
    (case mkR => k_is)
    (case kcR => k_is)
    (case nR0 => k_is)
    (case nR1 => k_is)
    (case nR2 => k_is)
    (case nR3 => k_is)
    (case iR0 => k_is)
    (case jR0 => k_is)
    (case lR0 => k_is)
    (case cR0 => k_is)
    (case kR0 => k_is)
    (case iR1 => k_is)
    (case jR1 => k_is)
    (case lR1 => k_is)
    (case cR1 => k_is)
    (case kR1 => k_is)
    (case iR2 => k_is)
    (case jR2 => k_is)
    (case lR2 => k_is)
    (case cR2 => k_is)
    (case kR2 => k_is)
    (case iR3 => k_is)
    (case jR3 => k_is)
    (case lR3 => k_is)
    (case cR3 => k_is)
    (case kR3 => k_is)
    (case iR4 => k_is)
    (case jR4 => k_is)
    (case lR4 => k_is)
    (case cR4 => k_is)
    (case kR4 => k_is)
    (case iR5 => k_is)
    (case jR5 => k_is)
    (case lR5 => k_is)
    (case cR5 => k_is)
    (case kR5 => k_is)
    (case iR6 => k_is)
    (case jR6 => k_is)
    (case lR6 => k_is)
    (case cR6 => k_is)
    (case kR6 => k_is)
    (case iR7 => k_is)
    (case jR7 => k_is)
    (case lR7 => k_is)
    (case cR7 => k_is)
    (case kR7 => k_is)
    (case iR8 => k_is)
    (case jR8 => k_is)
    (case lR8 => k_is)
    (case cR8 => k_is)
    (case kR8 => k_is)
    (case iR9 => k_is)
    (case jR9 => k_is)
    (case lR9 => k_is)
    (case cR9 => k_is)
    (case kR9 => k_is)
    (case iR10 => k_is)
    (case jR10 => k_is)
    (case lR10 => k_is)
    (case cR10 => k_is)
    (case kR10 => k_is)
    (case iR11 => k_is)
    (case jR11 => k_is)
    (case lR11 => k_is)
    (case cR11 => k_is)
    (case kR11 => k_is)
    (case iR12 => k_is)
    (case jR12 => k_is)
    (case lR12 => k_is)
    (case cR12 => k_is)
    (case kR12 => k_is)
    (case iR13 => k_is)
    (case jR13 => k_is)
    (case lR13 => k_is)
    (case cR13 => k_is)
    (case kR13 => k_is)
    (case aW => k_is)
    (case pgW => k_is)
    (case hdW => k_is)
    (case poW => k_is)
    (case saW => k_is)
    (case mkW => k_is)
    (case kcW => k_is)
    (case nW0 => k_is)
    (case nW1 => k_is)
    (case iW0 => k_is)
    (case jW0 => k_is)
    (case lW0 => k_is)
    (case cW0 => k_is)
    (case kW0 => k_is)
    (case iW1 => k_is)
    (case jW1 => k_is)
    (case lW1 => k_is)
    (case cW1 => k_is)
    (case kW1 => k_is)
    (case iW2 => k_is)
    (case jW2 => k_is)
    (case lW2 => k_is)
    (case cW2 => k_is)
    (case kW2 => k_is)
    (case iW3 => k_is)
    (case jW3 => k_is)
    (case lW3 => k_is)
    (case cW3 => k_is)
    (case kW3 => k_is)
    (case iW4 => k_is)
    (case jW4 => k_is)
    (case lW4 => k_is)
    (case cW4 => k_is)
    (case kW4 => k_is)
    (case aP => k_is)
    (case pgP => k_is)
    (case hdP => k_is)
    (case poP => k_is)
    (case saP => k_is)
    (case mkP => k_is)
    (case kcP => k_is)
    (case nP0 => k_is)
    (case nP1 => k_is)
    (case nP2 => k_is)
    (case nP3 => k_is)
    (case nP4 => k_is)
    (case nP5 => k_is)
    (case nP6 => k_is)
    (case nP7 => k_is)
    (case nP8 => k_is)
    (case iP0 => k_is)
    (case jP0 => k_is)
    (case lP0 => k_is)
    (case cP0 => k_is)
    (case kP0 => k_is)
    (case iP1 => k_is)
    (case jP1 => k_is)
    (case lP1 => k_is)
    (case cP1 => k_is)
    (case kP1 => k_is)
    (case iP2 => k_is)
    (case jP2 => k_is)
    (case lP2 => k_is)
    (case cP2 => k_is)
    (case kP2 => k_is)
    (case aQ => k_is)
    (case pgQ => k_is)
    (case hdQ => k_is)
    (case poQ => k_is)
    (case saQ => k_is)
    (case mkQ => k_is)
    (case kcQ => k_is)
    (case nQ0 => k_is)
    (case nQ1 => k_is)
    (case nQ2 => k_is)
    (case iQ0 => k_is)
    (case jQ0 => k_is)
    (case lQ0 => k_is)
    (case cQ0 => k_is)
    (case kQ0 => k_is)
    (case iQ1 => k_is)
    (case jQ1 => k_is)
    (case lQ1 => k_is)
    (case cQ1 => k_is)
    (case kQ1 => k_is)
    (case iQ2 => k_is)
    (case jQ2 => k_is)
    (case lQ2 => k_is)
    (case cQ2 => k_is)
    (case kQ2 => k_is)
    (case iQ3 => k_is)
    (case jQ3 => k_is)
    (case lQ3 => k_is)
    (case cQ3 => k_is)
    (case kQ3 => k_is)
    (case ha => k_is)
    (case hn => k_is)
    (case ht => k_is)
    (case hm => k_is)
    (case kk1 => first | k_is | exact rfl | decide +kernel)
    (case kk2 => first | k_is | exact rfl | decide +kernel)
    (case sb => first | k_is | exact rfl | decide +kernel)
    (case aCs => k_is)
    (case lCs => k_is)
    (case klCs => exact ⟨⟨_, _, rfl, rfl⟩, ⟨_, _, rfl, rfl⟩, ⟨_, _, rfl, rfl⟩, trivial⟩)
    (case loCs => first | exact rfl | decide +kernel | k_is)
    (case q0 => k_is)
    (case q1 => k_is)
    (case q2 => k_is)
    (case qk => exact ⟨_, _, _, _, _, _, _, _, _, rfl⟩)
    (case lT0 => k_is)
    (case lT1 => k_is)
    (case lT2 => k_is)
    (case sfQ => first | k_is | exact rfl | decide +kernel)
    (case aFo => k_is)
    (case lAF => k_is)
