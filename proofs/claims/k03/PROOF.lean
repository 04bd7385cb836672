import PyProof.Rows.All
import Wide.All
import OpenK.AllK
import Wide.FinOn
import PySem.Challenge.RW_siftstore_k03_texts_that_are_allowed
import HandS.ForMost
import HandS.Set
import HandS.SetFor
import HandS.SetTxt0
import PyProof.Rows.SortShellAny
import KE.GoesEnum
import HandS.Walk
import HandS.Wide
import HandS.IsInst
import HandS.Steps
import HandS.TupAny
import HandS.Conv
import HandS.Evl
set_option Elab.async false
set_option linter.all false
set_option maxRecDepth 100000
/-! Sets of texts: set(list or tuple of texts), sorted of such a set, at any size below the scan's. -/
namespace Sf
open PySem PySem.Spec PyProof.Rows L2 PySem.Froz
/-- the members behind one more text -/
def insT (l : List Str) (x : Str) : List Str := if x ∈ l then l else x :: l
theorem insT_nodup {l : List Str} {x : Str} (h : l.Nodup) : (insT l x).Nodup := by
  unfold insT
  split
  · exact h
  · rename_i hx
    exact List.nodup_cons.mpr ⟨hx, h⟩
theorem insT_mem {l : List Str} {x y : Str} : y ∈ insT l x ↔ y ∈ l ∨ y = x := by
  unfold insT
  split
  · rename_i hx
    exact ⟨.inl, fun z => z.elim id fun e => e ▸ hx⟩
  · rw [List.mem_cons]
    exact Or.comm
theorem insT_len {l : List Str} {x : Str} : (insT l x).length ≤ l.length + 1 := by
  unfold insT
  split
  · omega
  · exact Nat.le_refl _
def toSet (xs : List Str) : List Str := xs.foldl insT []
theorem fold_mem (y : Str) : ∀ (xs l : List Str), y ∈ xs.foldl insT l ↔ y ∈ l ∨ y ∈ xs
  | [], l => by simp
  | x :: r, l => by
    rw [List.foldl_cons, fold_mem y r, insT_mem, List.mem_cons]
    constructor
    · rintro ((h | h) | h)
      · exact .inl h
      · exact .inr (.inl h)
      · exact .inr (.inr h)
    · rintro (h | h | h)
      · exact .inl (.inl h)
      · exact .inl (.inr h)
      · exact .inr h
theorem toSet_mem {y : Str} {xs : List Str} : y ∈ toSet xs ↔ y ∈ xs := by
  unfold toSet
  rw [fold_mem]
  simp
theorem toSet_snoc (xs : List Str) (x : Str) : toSet (xs ++ [x]) = insT (toSet xs) x := by
  unfold toSet
  rw [List.foldl_append] <;> rfl
section
variable {P : Program} {w : World} {A : Around} {E : Value → Shared → Prop} {s : Shared}
theorem addTx_ris {h : Int} {v : Value} {D : SD} (r : Ris D.2.2.place.toList) : Ris (addTx h v D).2.2.place.toList ∧ (addTx h v D).2.2.led = D.2.2.led := by
  have r1 := layNew_ris D.2.2 D.1 h v r
  have l1 := layNew_led D.2.2 D.1 h v
  unfold addTx tailTx
  generalize layNew D.2.2 D.1 h v = L at r1 l1
  have hp : (if L.2.1.plain = true then { L.2.1 with plain := false } else L.2.1).place = L.2.1.place := by split <;> rfl
  have hl : (if L.2.1.plain = true then { L.2.1 with plain := false } else L.2.1).led = L.2.1.led := by split <;> rfl
  generalize (if L.2.1.plain = true then { L.2.1 with plain := false } else L.2.1) = t2 at hp hl
  split
  · exact ⟨relayAll_ris _ _ _, (relayAll_led _ _ _).trans (hl.trans l1)⟩
  · exact ⟨by show Ris t2.place.toList; rw [hp]; exact r1, hl.trans l1⟩
/-- at a stands a set of just the texts l, each once, which can be walked -/
def TxSet (P : Program) (w : World) (h : Heap) (a : Addr) (l : List Str) : Prop :=
  ∃ D : SD, h.get? a = some (sObj "set" D) ∧ TxOk P w D l ∧ l.Nodup ∧ Ris D.2.2.place.toList ∧ (w.params.followText "set-order" = true ∨ D.2.2.led = true)
theorem TxSet.at {h h' : Heap} {a : Addr} {l : List Str} (R : TxSet P w h a l) (k : ∀ o, h.get? a = some o → h'.get? a = some o) : TxSet P w h' a l := by
  obtain ⟨D, e, r⟩ := R
  exact ⟨D, k _ e, r⟩
theorem TxSet.new {h : Heap} {a : Addr} (e : h.get? a = some { cls := .type "set", dict := none, data := .set #[] 0 (.fresh 0 0 (!w.params.followText "set-order")) }) : TxSet P w h a [] := by
  refine ⟨(#[], 0, .fresh 0 0 (!w.params.followText "set-order")), e, TxOk.nil (by rfl), List.nodup_nil, List.Pairwise.nil, ?_⟩
  show _ ∨ (!w.params.followText "set-order") = true
  cases w.params.followText "set-order"
  · exact .inr rfl
  · exact .inl rfl
/-- a text that is in is not laid again -/
theorem add_held {a : Addr} {D : SD} {l : List Str} {k : Str} {u : Tok} {Q : Bool → Shared → Prop} (ho : s.heap.get? a = some (sObj "set" D)) (F : TxOk P w D l) (hk : k ∈ l) (hb : l.length < scanBound)
    (h : ∀ b, Q b s) : wpAny (model P w) A (setAddHashed a (.str k u) (hashStr w k)) Q E s := by
  obtain ⟨es, ep, t⟩ := D
  have sz : es.size < scanBound := by
    have e : es.size = l.length := F.sz
    omega
  obtain ⟨e, he, hi⟩ := (F.mem k).mp hk
  cases hf : List.findIdx? (fun e => (strKind P w).is k e.2) es.toList with
  | none =>
    have c := List.findIdx?_eq_none_iff.mp hf e he
    rw [hi] at c
    cases c
  | some j =>
    unfold setAddHashed setAddHashedIn
    refine wpAny_holding (wpAny_bind (wpAny_setState_of ho rfl F.fit ?_))
    dsimp only
    rw [byScan_of rfl sz F.el]
    simp only [↓reduceIte]
    unfold setAddByScan
    refine wpAny_bind (wpAny_bind (wpAny_rule (wpAny_bind (wpAny_setScan_of (knd := strKind P w) (k := k) (is_str k u) ho rfl F.fit F.el ?_))))
    rw [hf]
    exact wpAny_pure (wpAny_pure (h _))
/-- the set's add of any text -/
theorem add_any {a : Addr} {l : List Str} {k : Str} {u : Tok} {Q : Bool → Shared → Prop} (R : TxSet P w s.heap a l) (hb : l.length + 1 < scanBound)
    (h : ∀ b h', (∀ c o, c ≠ a → s.heap.get? c = some o → h'.get? c = some o) → TxSet P w h' a (insT l k) → Q b { s with heap := h', toks := s.toks + 1 }) :
    wpAny (model P w) A (setAdd a (.str k u)) Q E s := by
  obtain ⟨D, ho, F, nd, r, led⟩ := R
  unfold setAdd
  refine wpAny_holding (wpAny_bind ((strKind P w).pyHash (is_str k u) ?_))
  by_cases hk : k ∈ l
  · refine add_held (s := { s with toks := s.toks + 1 }) ho F hk (by omega) fun b => h b s.heap (fun _ _ _ e => e) ?_
    unfold insT
    rw [if_pos hk]
    exact ⟨D, ho, F, nd, r, led⟩
  · refine add_x (s := { s with toks := s.toks + 1 }) ho F hk hb (h true _ (fun c o ne e => (Heap.get?_update_other _ _ ne.symm).trans e) ?_)
    obtain ⟨r2, l2⟩ := addTx_ris (h := hashStr w k) (v := Value.str k u) r
    unfold insT
    rw [if_neg hk]
    exact ⟨_, get_upd _ ho rfl, add_ok u F, List.nodup_cons.mpr ⟨hk, nd⟩, r2, led.imp id fun z => l2.trans z⟩
/-- set.update's turns over a walk of texts -/
theorem upd_texts {I : Addr} {fp wr : List Addr} {xs : List Str} {Pv : Nat → Value → Prop} {St : Nat → Heap → Prop} {R : Result → Shared → Prop} (W : Walks P w A.in1 I fp wr xs.length Pv St) (a : Addr) (na : a ∉ fp)
    (hv : ∀ i v, Pv i v → ∃ x t, xs[i]? = some x ∧ v = .str x t) (hx : xs.length + 1 < scanBound) :
    ∀ (m i : Nat) (s : Shared), i + m = xs.length → St i s.heap → TxSet P w s.heap a (toSet (xs.take i)) →
      (∀ h' tk, (∀ b o, b ≠ a → b ∉ wr → s.heap.get? b = some o → h'.get? b = some o) → TxSet P w h' a (toSet xs) → R (.ok (.ret .none)) { s with heap := h', toks := tk }) →
      codeAny (model P w) A (.builtin "set.update.loop" ⟨[.ref a, .ref I], []⟩) R s := by
  have nw : a ∉ wr := fun z => na (W.sub _ z)
  intro m
  induction m with
  | zero =>
    intro i s e st T k
    have ei : i = xs.length := by omega
    subst ei
    rw [List.take_length] at T
    refine codeAny_builtin F.entry_set_update_loop ?_
    rw [Around.under_plainId F.plain_set_update_loop _]
    refine wpAny_bind (W.done s _ _ st fun h' tk kk => ?_)
    exact wpAny_pure (k h' tk (fun b o _ hb e => kk b o hb e) (T.at fun o e => kk a o nw e))
  | succ m ih =>
    intro i s e st T k
    have hi : i < xs.length := by omega
    refine codeAny_builtin F.entry_set_update_loop ?_
    rw [Around.under_plainId F.plain_set_update_loop _]
    refine wpAny_bind (W.item i s _ _ hi st fun v h1 tk1 hp st1 k1 => ?_)
    obtain ⟨x, t, hxi, rfl⟩ := hv i v hp
    have hlen : ∀ l : List Str, (toSet l).length ≤ l.length := fun l => by
      have q : ∀ (l acc : List Str), (l.foldl insT acc).length ≤ acc.length + l.length := by
        intro l
        induction l with
        | nil => intro acc; exact Nat.le_refl _
        | cons y r ih2 =>
          intro acc
          have b1 := ih2 (insT acc y)
          have b2 := insT_len (l := acc) (x := y)
          rw [List.foldl_cons, List.length_cons]
          omega
      have q2 := q l []
      rw [List.length_nil] at q2
      unfold toSet
      omega
    refine wpAny_bind (m := holding [Value.str x t] (setAdd a (.str x t))) (wpAny_holding (add_any (s := { s with heap := h1, toks := tk1 }) (T.at fun o e => k1 a o nw e) (by
      have b1 := hlen (xs.take i)
      rw [List.length_take] at b1
      omega) fun b h2 k2 T2 => ?_))
    refine wpAny_pure ⟨plainId_quiet F.plain_set_update_loop _, ih (i + 1) _ (by omega) (W.frame _ _ _ st1 fun b hb o e => k2 b o (fun z => na (z ▸ hb)) e) ?_ fun h3 tk3 k3 T3 => k h3 tk3 (fun b o nb hb e => k3 b o nb hb (k2 b o nb (k1 b o hb e))) T3⟩
    rw [List.take_add_one, hxi]
    show TxSet P w h2 a (toSet (xs.take i ++ [x]))
    rw [toSet_snoc]
    exact T2
/-- what is walked: a list or a tuple of texts -/
def SeqAt2 (s : Shared) (l : Addr) (xs : List Str) : Prop := ∃ items : Array Value, StrsAre items.toList xs ∧ (s.heap.IsList l items ∨ s.heap.IsTuple l items)
theorem strs_get : ∀ {us : List Value} {xs : List Str} {i : Nat} {v : Value}, StrsAre us xs → us[i]? = some v → ∃ x t, xs[i]? = some x ∧ v = .str x t
  | _, _, _, _, .nil, h => by simp at h
  | _, _, 0, _, .cons n t _, h => by
    rw [List.getElem?_cons_zero] at h
    exact ⟨n, t, rfl, (Option.some.inj h).symm⟩
  | _, _, i + 1, _, .cons n t r, h => by
    rw [List.getElem?_cons_succ] at h
    exact strs_get (i := i) r h
set_option maxHeartbeats 4000000 in
theorem call_setT {l : Addr} {xs : List Str} {Q : Value → Shared → Prop} (hh : A.handled = none) (hl : SeqAt2 s l xs) (hx : xs.length + 1 < scanBound)
    (h : ∀ (h' : Heap) (tk : Nat), (∀ b o, s.heap.get? b = some o → h'.get? b = some o) → TxSet P w h' s.heap.objs.size (toSet xs) → Q (.ref s.heap.objs.size) { s with heap := h', toks := tk }) :
    wpAny (model P w) A (call (.type "set") [.ref l]) Q E s := by
  obtain ⟨c, tl, hmro⟩ := PySem.F.called_set.mro
  have q1 := PySem.F.called_set.made
  have q2 := PySem.F.called_set.sub
  have q3 := PySem.F.called_set.notType
  have q4 := PySem.F.called_set.canCreate
  have q5 := PySem.F.typeCall_set_1 (.ref l)
  refine wpAny_call (codeAny_of_tree (wpAny_pure ⟨Code.quiet_builtin _ (by decide +kernel), codeAny_builtin PySem.F.entry_type_call ?_⟩))
  rw [Around.under_plain (weight_type_call_type "set" [.ref l] []) rfl]
  repeat (any_goals (first | assumption | wp_step))
  generalize hO : ({ cls := .type "set", dict := none, data := .set #[] 0 (.fresh 0 0 (!w.params.followText "set-order")) } : Obj) = O
  have hS : (s.heap.push O).get? s.heap.objs.size = some O := Heap.get?_push_size _ (by rw [← hO]; rfl)
  have hT : Shared.TypeIs { s with heap := s.heap.push O } (.ref s.heap.objs.size) "set" := ⟨_, hS, by rw [← hO]⟩
  refine codeAny_mono (code_set_led1 (.ref l) (E := E) (Q₁ := fun obj s₁ => obj = .ref s.heap.objs.size ∧ s₁ = { s with heap := s.heap.push O }) ⟨rfl, by rw [hO]⟩) fun r s₁ hr => ?_
  cases r with
  | error e => exact hr
  | ok fl =>
    cases fl with
    | ret obj =>
      obtain ⟨rfl, rfl⟩ := hr
      have q6 := PySem.F.called_set.init.lookup
      have q7 := PySem.F.called_set.init.bind (.ref s.heap.objs.size)
      repeat (any_goals (first | assumption | wp_step))
      refine codeAny_mono (codeAny_call_builtin (R := wants (fun r s₂ => r = .none ∧ ∃ h' tk, s₂ = { s with heap := h', toks := tk } ∧ (∀ b o, s.heap.get? b = some o → h'.get? b = some o) ∧ TxSet P w h' s.heap.objs.size (toSet xs)) E)
        PySem.F.called_set.init.plain PySem.F.entry_set_init (check_set_init_1 hT ?_)) fun r₂ s₂ hr₂ => ?_
      · have hneI : ∀ {b : Addr} {o : Obj}, s.heap.get? b = some o → b ≠ (s.heap.push O).objs.size := fun e => by
          rw [Heap.size_push]
          exact Nat.ne_of_lt (Nat.lt_succ_of_lt (Heap.lt_size e))
        have hh3 : A.in1.in1.in1.handled = none := by simp [hh]
        have fin : ∀ (h' : Heap) (tk : Nat), (∀ b o, b ≠ s.heap.objs.size → b ∉ [(s.heap.push O).objs.size] → ((s.heap.push O)).get? b = some o → h'.get? b = some o) → ∀ b o, s.heap.get? b = some o → h'.get? b = some o := fun h' tk k b o e =>
          k b o (Nat.ne_of_lt (Heap.lt_size e)) (fun z => hneI e (List.mem_singleton.mp z)) (Heap.get?_push_of_some _ e)
        obtain ⟨items, hi, hli⟩ := hl
        have hsz : items.size = xs.length := by rw [← StrsAre.length hi, Array.length_toList]
        have hv : ∀ (i : Nat) (v : Value), items[i]? = some v → ∃ x t, xs[i]? = some x ∧ v = .str x t := fun i v e => strs_get hi (by rw [Array.getElem?_toList]; exact e)
        rcases hli with hli | hli
        · obtain ⟨ol, hol, hcl, nl, hdl⟩ := id hli
          obtain ⟨ocls, odict, odata, oslots⟩ := ol
          simp only at hcl hdl
          subst hcl; subst hdl
          have hol' : (s.heap.push O).get? l = some { cls := .type "list", dict := odict, data := .seq items nl, slots := oslots } := Heap.get?_push_of_some _ hol
          have q8 := PySem.F.sub_list_set
          have q9 := PySem.F.sub_list_frozenset
          have q10 : (Value.type "list" == Value.type "dict") = false := by decide
          have hl1 : (s.heap.push O).IsList l items := ⟨_, hol', rfl, nl, rfl⟩
          have nf : s.heap.objs.size ∉ [(s.heap.push O).objs.size, l] := by
            rw [Heap.size_push, List.mem_cons, List.mem_singleton, not_or]
            exact ⟨Nat.ne_of_lt (Nat.lt_succ_self _), Nat.ne_of_gt (Heap.lt_size hol)⟩
          have W := Walks.list (prog := P) (w := w) hh3 (s.heap.push O).objs.size l (hneI hol) items
          rw [hsz] at W
          subst hO
          unfold Builtin.«set.__init__» noKeywords Builtin.Frozenset.updateFrom
          generalize hPI : pyIter = PI
          wp_walk
          subst hPI
          refine wpAny_pyIter_list hl1 ?_
          refine wpAny_bind (wpAny_runValue ?_)
          refine upd_texts W s.heap.objs.size nf hv hx xs.length 0 _ (Nat.zero_add _) ⟨⟨_, Heap.get?_push_size _ rfl, rfl, rfl⟩, hl1.push _⟩ (TxSet.new (Heap.get?_push_of_some _ hS)) fun h' tk k T => ?_
          exact wpAny_pure (wpAny_pure ⟨rfl, h', tk, rfl, fin h' tk fun b o n1 n2 e => k b o n1 n2 (Heap.get?_push_of_some _ e), T⟩)
        · obtain ⟨ol, hol, hcl, nl, hdl⟩ := id hli
          obtain ⟨ocls, odict, odata, oslots⟩ := ol
          simp only at hcl hdl
          subst hcl; subst hdl
          have hol' : (s.heap.push O).get? l = some { cls := .type "tuple", dict := odict, data := .seq items nl, slots := oslots } := Heap.get?_push_of_some _ hol
          have q8 := PySem.F.sub_tuple_set
          have q9 := PySem.F.sub_tuple_frozenset
          have q10 : (Value.type "tuple" == Value.type "dict") = false := by decide
          have hl1 : (s.heap.push O).IsTuple l items := ⟨_, hol', rfl, nl, rfl⟩
          have nf : s.heap.objs.size ∉ [(s.heap.push O).objs.size, l] := by
            rw [Heap.size_push, List.mem_cons, List.mem_singleton, not_or]
            exact ⟨Nat.ne_of_lt (Nat.lt_succ_self _), Nat.ne_of_gt (Heap.lt_size hol)⟩
          have W := Walks.tuple (prog := P) (w := w) hh3 (s.heap.push O).objs.size l (hneI hol) items
          rw [hsz] at W
          subst hO
          unfold Builtin.«set.__init__» noKeywords Builtin.Frozenset.updateFrom
          generalize hPI : pyIter = PI
          wp_walk
          subst hPI
          refine wpAny_pyIter_tuple hl1 ?_
          refine wpAny_bind (wpAny_runValue ?_)
          refine upd_texts W s.heap.objs.size nf hv hx xs.length 0 _ (Nat.zero_add _) ⟨⟨_, Heap.get?_push_size _ rfl, rfl, rfl⟩, hl1.push _⟩ (TxSet.new (Heap.get?_push_of_some _ hS)) fun h' tk k T => ?_
          exact wpAny_pure (wpAny_pure ⟨rfl, h', tk, rfl, fin h' tk fun b o n1 n2 e => k b o n1 n2 (Heap.get?_push_of_some _ e), T⟩)
      · cases r₂ with
        | error e => exact hr₂
        | ok fl₂ =>
          cases fl₂ with
          | ret r =>
            obtain ⟨rfl, h', tk, rfl, k, T⟩ := hr₂
            repeat (any_goals (first | assumption | wp_step))
            exact h _ _ k T
          | _ => exact hr₂.elim
    | _ => exact hr.elim
end
end Sf
namespace Sf
open PySem PySem.Spec PyProof.Rows L2 PySem.Froz
section
variable {P : Program} {w : World} {A : Around} {E : Value → Shared → Prop} {s : Shared}
/-- the texts of the entries -/
theorem rows_strs : ∀ (l : List (Int × Value)), (∀ e ∈ l, ∃ x t, e.2 = Value.str x t) → ∃ xs, StrsAre (l.map (·.2)) xs
  | [], _ => ⟨[], .nil⟩
  | e :: l, h => by
    obtain ⟨x, t, ex⟩ := h e List.mem_cons_self
    obtain ⟨xs, r⟩ := rows_strs l fun u hu => h u (List.mem_cons_of_mem _ hu)
    refine ⟨x :: xs, ?_⟩
    rw [List.map_cons, ex]
    exact .cons x t r
theorem strs_mem : ∀ {us : List Value} {xs : List Str}, StrsAre us xs → ∀ k : Str, k ∈ xs ↔ ∃ v ∈ us, (Value.isStrOf k v) = true
  | _, _, .nil, k => by simp
  | _, _, .cons n t r, k => by
    rw [List.mem_cons, strs_mem r k]
    constructor
    · rintro (h | ⟨v, hv, e⟩)
      · exact ⟨.str n t, List.mem_cons_self, by rw [h]; simp [Value.isStrOf]⟩
      · exact ⟨v, List.mem_cons_of_mem _ hv, e⟩
    · rintro ⟨v, hv, e⟩
      rcases List.mem_cons.mp hv with rfl | hv
      · left
        obtain ⟨t', e'⟩ := Value.isStrOf_shape e
        injection e' with e1 _
        exact e1.symm
      · exact .inr ⟨v, hv, e⟩
theorem strs_perm {us vs : List Value} (p : us.Perm vs) : ∀ {xs : List Str}, StrsAre vs xs → ∃ ys, StrsAre us ys ∧ ys.Perm xs := by
  induction p with
  | nil => intro xs h; exact ⟨xs, h, .refl _⟩
  | cons v p ih =>
    intro xs h
    cases h with
    | cons n t r =>
      obtain ⟨ys, h1, h2⟩ := ih r
      exact ⟨n :: ys, .cons n t h1, h2.cons n⟩
  | swap u v l =>
    intro xs h
    cases h with
    | cons n t r =>
      cases r with
      | cons m t2 r2 => exact ⟨m :: n :: _, .cons m t2 (.cons n t r2), .swap _ _ _⟩
  | trans p q ih1 ih2 =>
    intro xs h
    obtain ⟨ys, h1, h2⟩ := ih2 h
    obtain ⟨zs, h3, h4⟩ := ih1 h1
    exact ⟨zs, h3, h4.trans h2⟩
theorem perm_of_sub : ∀ (l m : List Str), l.Nodup → (∀ x ∈ l, x ∈ m) → m.length ≤ l.length → l.Perm m
  | [], m, _, _, h => by
    have e : m = [] := List.eq_nil_of_length_eq_zero (Nat.le_zero.mp h)
    rw [e]
  | x :: l, m, nd, sub, h => by
    obtain ⟨m1, m2, rfl⟩ := List.append_of_mem (sub x List.mem_cons_self)
    obtain ⟨n1, n2⟩ := List.nodup_cons.mp nd
    have p : l.Perm (m1 ++ m2) := perm_of_sub l (m1 ++ m2) n2 (fun y hy => by
      have q := sub y (List.mem_cons_of_mem _ hy)
      rw [List.mem_append, List.mem_cons] at q
      rw [List.mem_append]
      rcases q with q | q | q
      · exact .inl q
      · exact absurd (q ▸ hy) n1
      · exact .inr q) (by
      rw [List.length_append, List.length_cons, List.length_cons] at h
      rw [List.length_append]
      omega)
    exact (p.cons x).trans List.perm_middle.symm
set_option maxHeartbeats 2000000 in
theorem sorted_txset {a : Addr} {l : List Str} {Q : Value → Shared → Prop} (R : TxSet P w s.heap a l) (hh : A.handled = none) (hb : l.length < scanBound)
    (h : ∀ s' p (out : Array Value) (c : Nat) (ys : List Str), (∀ b o, s.heap.get? b = some o → s'.heap.get? b = some o) → s'.gens = s.gens → s'.os = s.os → s.heap.objs.size ≤ p →
      s'.heap.get? p = some (seqObj "list" out c) → StrsAre out.toList ys → sortedS ys = true → ys.Perm l → Q (.ref p) s') :
    wpAny (model P w) A (call (.builtin "sorted") [.ref a]) Q E s := by
  obtain ⟨⟨es, ep, t⟩, ho, F, nd, r, led⟩ := R
  have hsz : es.size = l.length := F.sz
  have hes : es.size < scanBound := by omega
  refine Calls.call_function_entry kind_sorted plain_sorted entry_sorted (args_sorted1 _) ?_
  unfold Builtin.«sorted»
  refine wpAny_bind (m := checkCount "sorted" 1 1 _) (wpAny_pure (wpAny_bind (collect_set (A := A.in1) hh ⟨_, ho, rfl, rfl⟩ F.fit hes r led fun s1 vs k1 hz g1 o1 pm0 => ?_)))
  have pm : vs.Perm (es.toList.map (·.2)) := pm0
  have hel : ∀ e ∈ es.toList, ∃ x t, e.2 = Value.str x t := fun e he => by
    obtain ⟨⟨k, hk, _⟩, _⟩ := F.el e he
    obtain ⟨t', e'⟩ := Value.isStrOf_shape (x := k) (v := e.2) hk
    exact ⟨k, t', e'⟩
  obtain ⟨xs0, hx0⟩ := rows_strs es.toList hel
  obtain ⟨xs, hxs, pxs⟩ := strs_perm pm hx0
  have len0 : xs0.length = l.length := by rw [← StrsAre.length hx0, List.length_map, Array.length_toList, hsz]
  have pl : xs0.Perm l := by
    have mem : ∀ k, k ∈ xs0 ↔ k ∈ l := fun k => by
      rw [strs_mem hx0 k]
      refine Iff.trans ?_ (F.mem k).symm
      constructor
      · rintro ⟨v, hv, e⟩
        obtain ⟨en, he, rfl⟩ := List.mem_map.mp hv
        exact ⟨en, he, e⟩
      · rintro ⟨en, he, e⟩
        exact ⟨en.2, List.mem_map.mpr ⟨en, he, rfl⟩, e⟩
    exact (perm_of_sub l xs0 nd (fun k hk => (mem k).mpr hk) (Nat.le_of_eq len0)).symm
  have vlen : vs.length ≤ sizeLine := by
    have q := pm.length_eq
    rw [List.length_map, Array.length_toList] at q
    exact Nat.le_trans (Nat.le_of_eq q) (fits_of_scanBound hes)
  refine wpAny_bind (wpAny_newList ?_ vlen)
  have hoL : (s1.heap.push (seqObj "list" vs.toArray 0)).get? s1.heap.objs.size = some (seqObj "list" vs.toArray 0) := Heap.get?_push_size _ rfl
  refine wpAny_bind (wpAny_holding (wpAny_call_entry slot_list_sort ⟨_, hoL, rfl⟩ entry_list_sort (list_sort_treeKAny strKind_oneLt hoL hxs.keysOf (fun v₁ v₂ rest e => keyKind_strs (by rw [← e]; exact hxs)) vlen fun st' a1 a2 => ⟨_, rfl, ?_⟩) (args_list_sort _)))
  obtain ⟨ys, y1, y2, y3⟩ := sorted_out_str hxs a1 a2
  obtain ⟨c, hc⟩ := sortedHeap_at (vs := vs) (out := (arrOf st').map (·.2)) hoL
  refine wpAny_pure ⟨_, rfl, h _ s1.heap.objs.size _ c ys (fun b u e => ?_) g1 o1 hz hc y1 y3 (y2.trans (pxs.trans pl))⟩
  have q := k1 b u e
  have hlt := Heap.lt_size q
  refine Eq.trans (sortedHeap_old (Nat.ne_of_lt hlt) ?_) (Heap.get?_push_of_some _ q)
  rw [size_push']
  exact Nat.lt_succ_of_lt hlt
end
section
variable {X : Cx}
/-- a set of the texts l at a -/
def SetTx (P : Program) (w : World) (a : Addr) (l : List Str) : HO := .ext fun h => TxSet P w h a l
theorem setTx_ok {P : Program} {w : World} {H : Hp} {h : Heap} {a : Addr} {l : List Str} (R : TxSet P w h a l) : ObjOk P w H h a (SetTx P w a l) := by
  have ⟨D, e, _⟩ := R
  exact ⟨R, ⟨_, e⟩, fun h1 h2 p k => TxSet.at p k⟩
/-- set(texts) -/
def rSetTx (K : PySem.W.Frag) (P : Program) (w : World) : List V → Hp → VK → Prop := fun vs H Q => ∃ (a : Addr) (xs : List Str), vs = [.ref a] ∧ (SqL K H a (xs.map V.str) ∨ SqT K H a (xs.map V.str)) ∧ xs.length + 1 < scanBound ∧
  ∀ p, H p = none → Q (.ref p) (upd H p (SetTx P w p (toSet xs)))
theorem cr_setTx (hc : X.calm = true) : CallR X (.type "set") (rSetTx X.K X.prog X.w) := by
  intro pins s σ H vs us Q I r h
  obtain ⟨a, xs, rfl, hs, hx, q⟩ := h
  rw [Vals.ref1 r]
  have hl : SeqAt2 s a xs := by
    rcases hs with hs | hs
    · obtain ⟨its, rv, pl, _⟩ := I.list hs
      exact ⟨its.toArray, rv.strs, .inl pl.isList⟩
    · obtain ⟨its, rv, pl, _⟩ := I.tuple hs
      obtain ⟨o, e1, e2, e3⟩ := pl
      exact ⟨its.toArray, rv.strs, .inr ⟨o, e1, e2, e3⟩⟩
  refine call_setT (I.ok.hd hc) hl hx fun h' tk k T => ?_
  exact ⟨.ref _, upd H s.heap.objs.size (SetTx X.prog X.w s.heap.objs.size (toSet xs)), I.laid (t' := tk) k (Nat.le_refl _) (setTx_ok T), rfl, q _ (I.hok.fresh (Nat.le_refl _))⟩
/-- sorted(set of texts) -/
def rSortedTx (P : Program) (w : World) : List V → Hp → VK → Prop := fun vs H Q => ∃ (a : Addr) (l : List Str), vs = [.ref a] ∧ H a = some (SetTx P w a l) ∧ l.length < scanBound ∧
  ∀ (ys : List Str) p, sortedS ys = true → ys.Perm l → H p = none → Q (.ref p) (upd H p (.lst (ys.map V.str)))
theorem cr_sortedTx (hc : X.calm = true) : CallR X (.builtin "sorted") (rSortedTx X.prog X.w) := by
  intro pins s σ H vs us Q I r h
  obtain ⟨a, l, rfl, ha, hb, q⟩ := h
  rw [Vals.ref1 r]
  refine sorted_txset (I.hok a _ ha).1 (I.ok.hd hc) hb fun s' p out c ys k g o hp hg hi h1 h2 => ?_
  have hn : H p = none := I.hok.fresh hp
  have hlen : (ys.map V.str).length ≤ sizeLine := by
    rw [List.length_map, h2.length_eq]
    exact fits_of_scanBound hb
  have e : s' = { s with heap := s'.heap, gens := s'.gens, drawn := s'.drawn, toks := s'.toks } := by
    cases s'
    cases s
    cases o
    rfl
  rw [e]
  exact ⟨.ref p, upd H p (.lst (ys.map V.str)), I.call (ch := []) (Un.laid k hp hn) (I.hok.laid k hp ⟨hlen, out.toList, c, vals_of_strs hi, hg⟩) (by rw [g]; exact I.bare) (fun _ z => nomatch z), rfl, q ys p h1 h2 hn⟩
/-- sorted(list of texts), any length -/
def rSortedTL (K : PySem.W.Frag) : List V → Hp → VK → Prop := fun vs H Q => ∃ (a : Addr) (xs : List Str), vs = [.ref a] ∧ SqL K H a (xs.map V.str) ∧
  ∀ (ys : List Str) p, sortedS ys = true → ys.Perm xs → H p = none → Q (.ref p) (upd H p (.lst (ys.map V.str)))
theorem cr_sortedTL : CallR X (.builtin "sorted") (rSortedTL X.K) := by
  intro pins s σ H vs us Q I r h
  obtain ⟨a, xs, rfl, hs, q⟩ := h
  obtain ⟨its, rv, hl, hz⟩ := I.list hs
  rw [Vals.ref1 r]
  refine sorted_strsAny hl.isList rv.strs (by rw [← rv.length]; exact hz) fun out ys h1 h2 h3 => ?_
  obtain ⟨ep, he⟩ := sortedAll_at s.heap its out
  have hlen : (ys.map V.str).length ≤ sizeLine := by
    rw [List.length_map, h2.length_eq]
    rw [List.length_map] at hz
    exact hz
  exact ⟨.ref _, upd H (s.heap.objs.size + 1) (.lst (ys.map V.str)), I.laid (t' := s.toks) (fun _ _ => sortedAll_old) (Nat.le_succ _) ⟨hlen, out.toList, ep, vals_of_strs h1, he⟩, rfl, q ys _ h3 h2 (I.hok.fresh (Nat.le_succ _))⟩
end
end Sf
namespace Sf
open PySem PySem.Spec PyProof.Rows L2
/-- two texts walked side by side, the signs in new pairs -/
def Itz2 (x y : Str) : It :=
  ⟨fun i _ => i < x.cps.size ∧ i < y.cps.size,
    fun i H v H' => ∃ T c d, v = .ref T ∧ H T = none ∧ H' = upd H T (.tup [.str ⟨#[c]⟩, .str ⟨#[d]⟩]) ∧ x.cps[i]? = some c ∧ y.cps[i]? = some d,
    fun i _ => i = min x.cps.size y.cps.size⟩
def StZ (x y : Str) (t u : Tok) (z TI TO i1 i2 : Addr) (i : Nat) (h : Heap) : Prop :=
  IsZip h z TI TO .none ∧ IsTupOf2 h TI (.ref i1) (.ref i2) ∧ (∃ a1 a2, IsTupOf2 h TO a1 a2) ∧ h.IsStrIter i1 (strIterType x) x t i ∧ h.IsStrIter i2 (strIterType y) y u i
theorem turn_zip2 {P : Program} {w : World} {K : PySem.W.Frag} {elts : List Expr} {kk : Nat} {tpos : Pos} {z TI TO i1 i2 : Addr} {x y : Str} {t u : Tok} (S : ZipSep2 z TI TO i1 i2 [i1] [i2]) :
    Turn P w K (.Tuple elts kk tpos) (Itz2 x y) [z, TI, TO, i1, i2] z (StZ x y t u z TI TO i1 i2) where
  mem := by simp
  obj := fun i h st c hc => by
    obtain ⟨hz, hTI, ⟨a1, a2, hTO⟩, ⟨o1, e1, _, d1⟩, ⟨o2, e2, _, d2⟩⟩ := st
    have e' : c = z ∨ c = TI ∨ c = TO ∨ c = i1 ∨ c = i2 := by simpa using hc
    rcases e' with q | q | q | q | q
    · rw [q]
      exact ⟨_, hz, fun v r => nomatch r⟩
    · rw [q]
      exact ⟨_, hTI, fun v r => nomatch r⟩
    · rw [q]
      exact ⟨_, hTO, fun v r => nomatch r⟩
    · exact ⟨o1, by rw [q]; exact e1, fun v r => nomatch d1.symm.trans r⟩
    · exact ⟨o2, by rw [q]; exact e2, fun v r => nomatch d2.symm.trans r⟩
  keep := fun i h h' st k => by
    obtain ⟨hz, hTI, ⟨a1, a2, hTO⟩, ⟨o1, e1, r1⟩, ⟨o2, e2, r2⟩⟩ := st
    exact ⟨k z (by simp) _ hz, k TI (by simp) _ hTI, ⟨a1, a2, k TO (by simp) _ hTO⟩, ⟨o1, k i1 (by simp) _ e1, r1⟩, ⟨o2, k i2 (by simp) _ e2, r2⟩⟩
  item := by
    intro X hP hw hK hc i pins s σ H E I hf st hg
    subst hP hw hK
    have W := WalksT.zipD2 (prog := X.prog) (w := X.w) (A := X.A) S (Draws.text (A := X.A.in1) (I.ok.hd hc) i1 x t) (Draws.text (A := X.A.in1) (I.ok.hd hc) i2 y u)
    refine W.item i s _ _ (by have a1 := hg.1; have a2 := hg.2; omega) st fun T vals h1 tk1 hp hT hI hm k1 => ?_
    obtain ⟨v1, v2, ⟨c, t1, hc1, rfl⟩, ⟨d, t2, hd1, rfl⟩, rfl⟩ := hp
    refine ⟨_, rfl, W.go elts kk tpos i T { s with heap := h1, toks := tk1 } _ _ hm fun h2 st2 k2 => ?_⟩
    have hlt : ∀ b ∈ [z, TI, TO, i1, i2], b < s.heap.objs.size := by
      obtain ⟨hz, hTI, ⟨a1, a2, hTO⟩, ⟨o1, e1, _⟩, ⟨o2, e2, _⟩⟩ := st
      intro b hb
      have e' : b = z ∨ b = TI ∨ b = TO ∨ b = i1 ∨ b = i2 := by simpa using hb
      rcases e' with q | q | q | q | q
      · exact q ▸ Heap.lt_size hz
      · exact q ▸ Heap.lt_size hTI
      · exact q ▸ Heap.lt_size hTO
      · exact q ▸ Heap.lt_size e1
      · exact q ▸ Heap.lt_size e2
    have sub : ∀ b, b ∉ [z, TI, TO, i1, i2] → b ∉ [z, TO, i1, i2] := fun b hb => by
      simp only [List.mem_cons, List.not_mem_nil, or_false, not_or] at hb ⊢
      exact ⟨hb.1, hb.2.2⟩
    obtain ⟨oT, eT, cT, nT, dT⟩ := hI
    have hT2 : h2.get? T = some oT := k2 T oT (W.apart i T h1 hm) eT
    have new : ObjOk X.prog X.w (upd H T (.tup [.str ⟨#[c]⟩, .str ⟨#[d]⟩])) h2 T (.tup [.str ⟨#[c]⟩, .str ⟨#[d]⟩]) :=
      ⟨by show 2 ≤ sizeLine; decide, [.str ⟨#[c]⟩ t1, .str ⟨#[d]⟩ t2], .cons ⟨t1, rfl⟩ (.cons ⟨t2, rfl⟩ .nil), ⟨oT, hT2, cT, nT, dT⟩⟩
    refine ⟨.ref T, _, I.turnedNew (t' := tk1) (ch := [z, TI, TO, i1, i2]) (fun b o hb e => k2 b o (sub b hb) (k1 b o (sub b hb) e)) hf hT new, rfl, ⟨T, c, d, rfl, I.hok.fresh hT, rfl, hc1, hd1⟩, st2, fun b hb => ?_⟩
    rw [upd_ne (Nat.ne_of_lt (Nat.lt_of_lt_of_le (hlt b hb) hT))]
    exact (hf b hb).1
  done := by
    intro X hP hw hK hc i pins s σ H E I hf st hg
    subst hP hw hK
    have e : i = min x.cps.size y.cps.size := hg
    rw [e] at st
    have W := WalksT.zipD2 (prog := X.prog) (w := X.w) (A := X.A) S (Draws.text (A := X.A.in1) (I.ok.hd hc) i1 x t) (Draws.text (A := X.A.in1) (I.ok.hd hc) i2 y u)
    refine W.done s _ _ st fun h' tk k => ⟨rfl, I.turnedL (t' := tk) (ch := [z, TI, TO, i1, i2]) (fun b o hb q => k b o (fun m => hb ?_) q) hf⟩
    simp only [List.mem_cons, List.not_mem_nil, or_false] at m ⊢
    rcases m with m | m | m | m
    · exact .inl m
    · exact .inr (.inr (.inl m))
    · exact .inr (.inr (.inr (.inl m)))
    · exact .inr (.inr (.inr (.inr m)))
  self := fun A i s Q E st h => wpAny_pyIter_zip st.1 h
/-- for a, b in zip(text, text) -/
def iZip2 (ta : TA) : TI := fun σ H R => ta σ H fun vs H1 => ∃ x y, vs = [.str x, .str y] ∧ R (Itz2 x y) H1
theorem pi_zip2 {X : Cx} {e e2 : Expr} {ta : TA} {p pos tpos : Pos} {elts : List Expr} {kk : Nat} (hg : Gl X "zip") (hm : X.mg "zip" = none) (ha : PA X [e, e2] ta)
    (hs : starEach [e, e2] X.env = (false, eval e X.env) :: starEach [e2] X.env := by rfl) (hp : (backTo pos (starEach [e2] X.env)).any (·.1) = false := by rfl) :
    PI X (.Tuple elts kk tpos) (.Call (.Name "zip" p) [e, e2] [] pos) (iZip2 ta) := by
  refine ⟨fun pins s σ H R I h => Call_ (ld_blt I hg hm PyProof.Rows.boot_zip (PyProof.Rows.callWith_type1 (thn (ha.run pos pins s σ H _ I h) fun us s1 ⟨vs, H1, I1, r1, q1⟩ => ?_) hs hp))⟩
  obtain ⟨x, y, rfl, q⟩ := q1
  cases r1 with
  | cons r rr =>
    cases rr with
    | cons r' rr =>
      cases rr
      obtain ⟨t, rfl⟩ := r
      obtain ⟨u, rfl⟩ := r'
      refine zip_begins2 (begins_text x t) (begins_text y u) trivial trivial fun h' hz hTI hTO g1 g2 hsz k => wpAny_pyIter_zip hz ?_
      refine ⟨s1.heap.objs.size + 4, [s1.heap.objs.size + 4, s1.heap.objs.size + 2, s1.heap.objs.size + 3, s1.heap.objs.size, s1.heap.objs.size + 1], _, _, H1, rfl, I1.kept (t' := s1.toks) k,
        turn_zip2 (x := x) (y := y) (t := t) (u := u) (zip_sep2 (fp1 := []) (fp2 := []) (fun _ h => nomatch h) (fun _ h => nomatch h)), ⟨hz, hTI, ⟨_, _, hTO⟩, ⟨_, g1, rfl, rfl⟩, ⟨_, g2, rfl, rfl⟩⟩, fun c hc => ?_, q⟩
      have le : s1.heap.objs.size ≤ c := by
        have e' : c = s1.heap.objs.size + 4 ∨ c = s1.heap.objs.size + 2 ∨ c = s1.heap.objs.size + 3 ∨ c = s1.heap.objs.size ∨ c = s1.heap.objs.size + 1 := by simpa using hc
        have l0 : ∀ j, s1.heap.objs.size ≤ s1.heap.objs.size + j := fun j => Nat.le_add_right _ j
        rcases e' with z | z | z | z | z
        · rw [z]; exact l0 4
        · rw [z]; exact l0 2
        · rw [z]; exact l0 3
        · rw [z]; exact l0 0
        · rw [z]; exact l0 1
      exact I1.fpOk le (I1.hok.fresh le)
theorem walk_zip2 {x y : Str} {n : Nat} (hn : n = min x.cps.size y.cps.size) : Walk (Itz2 x y) n (fun _ => True)
    (fun i H v H' => ∃ T c d, v = .ref T ∧ H T = none ∧ H' = upd H T (.tup [.str ⟨#[c]⟩, .str ⟨#[d]⟩]) ∧ x.cps[i]? = some c ∧ y.cps[i]? = some d) :=
  ⟨fun i _ hi _ => ⟨by omega, by omega⟩, fun _ _ => hn, fun _ _ _ _ _ _ y => y⟩
end Sf
namespace Sf
open PySem PySem.Spec PyProof.Rows L2
theorem ltc_tot : ∀ a b : List Nat, ltCps a b = false → ltCps b a = false → a = b
  | [], [], _, _ => rfl
  | [], _ :: _, h, _ => by simp [ltCps] at h
  | _ :: _, [], _, h => by simp [ltCps] at h
  | x :: a, y :: b, h1, h2 => by
    simp only [ltCps, Bool.or_eq_false_iff, Bool.and_eq_false_iff, decide_eq_false_iff_not, beq_eq_false_iff_ne] at h1 h2
    have e : x = y := by omega
    subst e
    have h3 : ltCps a b = false := h1.2.resolve_left (fun z => z rfl)
    have h4 : ltCps b a = false := h2.2.resolve_left (fun z => z rfl)
    rw [ltc_tot a b h3 h4]
theorem ltc_trans : ∀ a b c : List Nat, ltCps b a = false → ltCps c b = false → ltCps c a = false
  | [], _, [], _, _ => rfl
  | [], [], _ :: _, _, h => by simp [ltCps]
  | [], _ :: _, _ :: _, h, _ => by simp [ltCps]
  | _ :: _, [], _, h, _ => by simp [ltCps] at h
  | _ :: _, _ :: _, [], _, h => by simp [ltCps] at h
  | x :: a, y :: b, z :: c, h1, h2 => by
    simp only [ltCps, Bool.or_eq_false_iff, Bool.and_eq_false_iff, decide_eq_false_iff_not, beq_eq_false_iff_ne] at h1 h2 ⊢
    refine ⟨by omega, ?_⟩
    by_cases e : z = x
    · right
      have e1 : y = x := by omega
      exact ltc_trans a b c (h1.2.resolve_left (fun q => q e1)) (h2.2.resolve_left (fun q => q (e.trans e1.symm)))
    · exact .inl e
def leS (a b : Str) : Prop := ltCps b.cps.toList a.cps.toList = false
theorem risingS_pw : ∀ (p : Str) (l : List Str), risingS p l = true → (∀ x ∈ l, leS p x) ∧ l.Pairwise leS
  | p, [], _ => ⟨(fun _ h => nomatch h), .nil⟩
  | p, x :: r, h => by
    simp only [risingS, Bool.and_eq_true, Bool.not_eq_true'] at h
    obtain ⟨h1, h2⟩ := risingS_pw x r h.2
    refine ⟨fun y hy => ?_, .cons h1 h2⟩
    rcases List.mem_cons.mp hy with rfl | hy
    · exact h.1
    · exact ltc_trans _ _ _ h.1 (h1 y hy)
theorem sortedS_pw : ∀ {l : List Str}, sortedS l = true → l.Pairwise leS
  | [], _ => .nil
  | x :: r, h => .cons (risingS_pw x r h).1 (risingS_pw x r h).2
theorem leS_anti {a b : Str} (h1 : leS a b) (h2 : leS b a) : a = b := Str.ext' (Array.toList_inj.mp (ltc_tot _ _ h2 h1))
theorem pw_uniq {l m : List Str} (h1 : l.Pairwise leS) (h2 : m.Pairwise leS) (p : l.Perm m) : l = m := p.eq_of_pairwise (fun _ _ _ _ => leS_anti) h1 h2
theorem sortedS_uniq {l m : List Str} (h1 : sortedS l = true) (h2 : sortedS m = true) (p : l.Perm m) : l = m := pw_uniq (sortedS_pw h1) (sortedS_pw h2) p
theorem insT_fold_nodup : ∀ (xs l : List Str), l.Nodup → (xs.foldl insT l).Nodup
  | [], l, h => h
  | x :: r, l, h => insT_fold_nodup r _ (insT_nodup h)
theorem toSet_nodup (xs : List Str) : (toSet xs).Nodup := insT_fold_nodup xs [] List.nodup_nil
theorem toSet_perm {xs ys : List Str} (h : ∀ k, k ∈ xs ↔ k ∈ ys) : (toSet xs).Perm (toSet ys) := by
  refine (List.perm_ext_iff_of_nodup (toSet_nodup xs) (toSet_nodup ys)).mpr fun k => ?_
  rw [toSet_mem, toSet_mem, h]
/-- ys is what sorted(set(xs)) gives -/
def SrtOf (xs ys : List Str) : Prop := sortedS ys = true ∧ ys.Perm (toSet xs)
theorem SrtOf.uniq {xs xs' ys ys' : List Str} (a : SrtOf xs ys) (b : SrtOf xs' ys') (h : ∀ k, k ∈ xs ↔ k ∈ xs') : ys = ys' :=
  sortedS_uniq a.1 b.1 (a.2.trans ((toSet_perm h).trans b.2.symm))
theorem SrtOf.mem {xs ys : List Str} (a : SrtOf xs ys) {k : Str} : k ∈ ys ↔ k ∈ xs := by rw [a.2.mem_iff, toSet_mem]
/-! ### pairs -/
def two (a b : Nat) : Str := ⟨#[a, b]⟩
def one (a : Nat) : Str := ⟨#[a]⟩
def tx (l : List Nat) : Str := ⟨l.toArray⟩
def prs : List Nat → List Str
  | a :: b :: r => two a b :: prs (b :: r)
  | _ => []
theorem prs_snoc : ∀ (z : List Nat) (a b : Nat), prs (z ++ [a, b]) = prs (z ++ [a]) ++ [two a b]
  | [], a, b => rfl
  | [x], a, b => rfl
  | x :: y :: z, a, b => by
    exact congrArg (two x y :: ·) (prs_snoc (y :: z) a b)
def pin (t : List Nat) : List Str := prs (94 :: (t ++ [36]))
theorem prs_len : ∀ l : List Nat, (prs l).length = l.length - 1
  | [] => rfl
  | [_] => rfl
  | a :: b :: r => by
    show (prs (b :: r)).length + 1 = _
    rw [prs_len (b :: r)]
    simp
theorem prs_get : ∀ (l : List Nat) (i a b : Nat), l[i]? = some a → l[i + 1]? = some b → (prs l)[i]? = some (two a b)
  | [], i, a, b, h, _ => by simp at h
  | [_], 0, a, b, _, h => by simp at h
  | [_], i + 1, a, b, h, _ => by simp at h
  | x :: y :: r, 0, a, b, h1, h2 => by
    simp at h1 h2
    subst h1; subst h2
    rfl
  | x :: y :: r, i + 1, a, b, h1, h2 => prs_get (y :: r) i a b h1 h2
/-! ### texts over some letters -/
def lst (t : List Nat) : Nat := (94 :: t).getLast (List.cons_ne_nil _ _)
theorem lst_nil : lst [] = 94 := rfl
theorem lst_snoc (t : List Nat) (c : Nat) : lst (t ++ [c]) = c := by
  unfold lst
  show ((94 :: t) ++ [c]).getLast _ = c
  exact List.getLast_concat
theorem prs_more (t : List Nat) (c : Nat) : prs (94 :: (t ++ [c])) = prs (94 :: t) ++ [two (lst t) c] := by
  have e : 94 :: t = (94 :: t).dropLast ++ [lst t] := (List.dropLast_concat_getLast (List.cons_ne_nil 94 t)).symm
  have q := prs_snoc (94 :: t).dropLast (lst t) c
  rw [← e] at q
  rw [← q]
  refine congrArg prs ?_
  rw [show (94 :: t).dropLast ++ [lst t, c] = ((94 :: t).dropLast ++ [lst t]) ++ [c] by rw [List.append_assoc] <;> rfl, ← e] <;> rfl
theorem pin_eq (t : List Nat) : pin t = prs (94 :: t) ++ [two (lst t) 36] := prs_more t 36
def chn (m : Str → Bool) (t : List Nat) : Bool := (prs (94 :: t)).all m
theorem chn_snoc (m : Str → Bool) (t : List Nat) (c : Nat) : chn m (t ++ [c]) = (chn m t && m (two (lst t) c)) := by
  unfold chn
  rw [prs_more, List.all_append]
  simp
def alw (m : Str → Bool) (t : List Nat) : Bool := (pin t).all m
theorem alw_eq (m : Str → Bool) (t : List Nat) : alw m t = (chn m t && m (two (lst t) 36)) := by
  unfold alw chn
  rw [pin_eq, List.all_append]
  simp
def more1 (L : List Nat) (t : List Nat) : List (List Nat) := L.map fun c => t ++ [c]
def lev (L : List Nat) : Nat → List (List Nat)
  | 0 => [[]]
  | n + 1 => (lev L n).flatMap (more1 L)
def allT (L : List Nat) : Nat → List (List Nat)
  | 0 => [[]]
  | n + 1 => allT L n ++ lev L (n + 1)
def rws (m : Str → Bool) (L : List Nat) (n : Nat) : List (List Nat) := (lev L n).filter (chn m)
def mor (m : Str → Bool) (L : List Nat) (t : List Nat) : List (List Nat) := (L.filter fun c => m (two (lst t) c)).map fun c => t ++ [c]
theorem mor_eq (m : Str → Bool) (L : List Nat) (t : List Nat) : (more1 L t).filter (chn m) = if chn m t = true then mor m L t else [] := by
  unfold more1 mor
  induction L with
  | nil => simp
  | cons c L ih =>
    rw [List.map_cons, List.filter_cons, ih, chn_snoc, List.filter_cons]
    cases h1 : chn m t <;> cases h2 : m (two (lst t) c) <;> simp
theorem rws_succ (m : Str → Bool) (L : List Nat) (n : Nat) : rws m L (n + 1) = (rws m L n).flatMap (mor m L) := by
  unfold rws
  show ((lev L n).flatMap (more1 L)).filter (chn m) = _
  induction lev L n with
  | nil => rfl
  | cons t r ih =>
    rw [List.flatMap_cons, List.filter_append, ih, mor_eq, List.filter_cons]
    split
    · rw [List.flatMap_cons]
    · rfl
def endOk (m : Str → Bool) (t : List Nat) : Bool := m (two (lst t) 36)
/-- what the walk has found behind n turns -/
def fnd (m : Str → Bool) (L : List Nat) : Nat → List (List Nat)
  | 0 => []
  | n + 1 => fnd m L n ++ (rws m L n).filter (endOk m)
theorem fnd_eq (m : Str → Bool) (L : List Nat) : ∀ n, fnd m L (n + 1) = (allT L n).filter (alw m)
  | 0 => by
    show [] ++ ([[]].filter (chn m)).filter (endOk m) = [[]].filter (alw m)
    rw [List.nil_append, List.filter_filter]
    refine List.filter_congr fun t _ => ?_
    rw [alw_eq, Bool.and_comm] <;> rfl
  | n + 1 => by
    show fnd m L (n + 1) ++ ((lev L (n + 1)).filter (chn m)).filter (endOk m) = (allT L n ++ lev L (n + 1)).filter (alw m)
    rw [fnd_eq m L n, List.filter_append, List.filter_filter]
    refine congrArg _ (List.filter_congr fun t _ => ?_)
    rw [alw_eq, Bool.and_comm] <;> rfl
theorem lev_len (L : List Nat) (k : Nat) (h : L.length ≤ k) : ∀ n, (lev L n).length ≤ k ^ n
  | 0 => Nat.le_refl _
  | n + 1 => by
    have b : ∀ l : List (List Nat), (l.flatMap (more1 L)).length = l.length * L.length := by
      intro l
      induction l with
      | nil => simp
      | cons t r ih =>
        rw [List.flatMap_cons, List.length_append, ih]
        unfold more1
        rw [List.length_map, List.length_cons, Nat.add_mul]
        omega
    show ((lev L n).flatMap (more1 L)).length ≤ _
    rw [b, Nat.pow_succ]
    exact Nat.mul_le_mul (lev_len L k h n) h
theorem lev_mem {L : List Nat} : ∀ {n : Nat} {t : List Nat}, t ∈ lev L n → t.length = n ∧ ∀ c ∈ t, c ∈ L
  | 0, t, h => by
    have e : t = [] := List.mem_singleton.mp h
    subst e
    exact ⟨rfl, fun _ h => nomatch h⟩
  | n + 1, t, h => by
    obtain ⟨u, hu, ht⟩ := List.mem_flatMap.mp h
    obtain ⟨c, hc, rfl⟩ := List.mem_map.mp ht
    obtain ⟨h1, h2⟩ := lev_mem hu
    refine ⟨by rw [List.length_append, h1] <;> rfl, fun d hd => ?_⟩
    rcases List.mem_append.mp hd with q | q
    · exact h2 d q
    · exact List.mem_singleton.mp q ▸ hc
theorem allT_mem {L : List Nat} : ∀ {n : Nat} {t : List Nat}, t ∈ allT L n → t.length ≤ n ∧ ∀ c ∈ t, c ∈ L
  | 0, t, h => by
    have q := lev_mem (L := L) (n := 0) h
    exact ⟨Nat.le_of_eq q.1, q.2⟩
  | n + 1, t, h => by
    rcases List.mem_append.mp h with q | q
    · have r := allT_mem q
      exact ⟨Nat.le_succ_of_le r.1, r.2⟩
    · have r := lev_mem q
      exact ⟨Nat.le_of_eq r.1, r.2⟩
end Sf
namespace Sf
open PySem PySem.Spec PyProof.Rows L2
/-! ### the text -/
def topS (i : Nat) : Stmt := PySem.Challenge.pw_siftstore_k03_texts_that_are_allowed.main.body.getD i (.Pass ⟨0, 0, 0, 0⟩)
abbrev sPot : Stmt := topS 13
abbrev sDraw : Stmt := topS 14
theorem scPot : FnScope ["_law_script", "_law_k", "_law_cell", "_law_own"] ["_law_script", "_law_k"] (defScope sPot) := ⟨rfl, rfl, rfl, by decide +kernel, rfl, by decide +kernel, by decide +kernel⟩
theorem scDraw : FnScope ["_law_pot_here", "_law_many", "_law_digit", "_law_prime", "_law_made"] ["_law_pot_here", "_law_many"] (defScope sDraw) := ⟨rfl, rfl, rfl, by decide +kernel, rfl, by decide +kernel, by decide +kernel⟩
/-! ### the pot -/
/-- a pot out of which at most n mixed numbers were drawn -/
def Pot (H : Hp) (p : Addr) (n : Int) : Prop := ∃ a b c : Int, H p = some (.lst [.int a, .int b, .int c]) ∧ 0 ≤ a ∧ 0 ≤ b ∧ b < 2305843009213693951 ∧ 0 ≤ c ∧ c ≤ n
theorem Pot.mono {H : Hp} {p : Addr} {n m : Int} (h : Pot H p n) (l : n ≤ m) : Pot H p m := by
  obtain ⟨a, b, c, e, h1, h2, h3, h4, h5⟩ := h
  exact ⟨a, b, c, e, h1, h2, h3, h4, by omega⟩
/-- all but the pot stands as it stood -/
def Kp (p : Addr) (H H' : Hp) : Prop := ∀ b o, b ≠ p → H b = some o → H' b = some o
theorem Kp.refl (p : Addr) (H : Hp) : Kp p H H := fun _ _ _ h => h
theorem Kp.trans {p : Addr} {H H1 H2 : Hp} (a : Kp p H H1) (b : Kp p H1 H2) : Kp p H H2 := fun c o n h => b c o n (a c o n h)
theorem Kp.same {p : Addr} {H H1 : Hp} (a : Same H H1) : Kp p H H1 := fun c o _ h => a c o h
theorem Kp.pot {p : Addr} {H : Hp} {o : HO} : Kp p H (upd H p o) := fun c u n h => by
  rw [upd_ne n]
  exact h
theorem sq_le {c : Int} (h0 : 0 ≤ c) (h1 : c ≤ 1000000) : 0 ≤ 99991 * c * c ∧ 99991 * c * c ≤ 99991000000000000 := by
  have h2 : 0 ≤ c * c := Int.mul_nonneg h0 h0
  have h3 : c * c ≤ 1000000 * 1000000 := Int.mul_le_mul h1 h1 h0 (by decide)
  rw [Int.mul_assoc]
  omega
def spDraw : Sp := fun vs H Q _ => ∃ (p : Addr) (n m : Int), vs = [.ref p, .int m] ∧ Pot H p n ∧ n < 1000000 ∧ 0 < m ∧ m < 1073741824 ∧
  ∀ (r : Int) (H' : Hp), 0 ≤ r → r < m → Pot H' p (n + 1) → Kp p H H' → Q (.int r) H'
section
variable {P : Program} {w : World} {K : PySem.W.Frag} {mg : Str → Option Value} {base : Heap}
theorem ok_draw {f : Addr} {fd : FuncData} {k : Nat} (F : Fun K "_law_draw" "_law_draw" sDraw f fd) (mi : mg "int" = none) : FnOk P w K mg base CX0 (k + 1) f fd ["_law_pot_here", "_law_many"] spDraw := by
  refine F.ok scDraw (fun vs H Q E h => ?_) (fun cdv A outer s H vs Q E hr h => ?_)
  · obtain ⟨p, n, m, rfl, _⟩ := h
    rfl
  · obtain ⟨p, n, m, rfl, ⟨a, b, c, hp, ha, hb0, hb1, hc0, hc1⟩, hn, hm0, hm1, q⟩ := h
    refine ⟨_, pss_cons (ps_if (pt_cmpR op_gt (pe_ix ix_list (pv 0) pe_int (fun _ _ => rfl)) pe_int (nomark _))
        (pss_cons (ps_set (i := 2) scDraw.nd rfl (.inl rfl) (pe_op op_mod (pe_callTy call_int1 (by rfl) mi PySem.Pv.boot_int (pa_cons (pe_ix ix_list (pv 0) pe_int (fun _ _ => rfl)) pa_nil)) (pv 1)))
        (pss_cons (ps_asg (pe_op op_fdiv (pe_ix ix_list (pv 0) pe_int (fun _ _ => rfl)) (pv 1)) (pg_sub (pv 0) pe_int set_list (fun _ => rfl)))
        (pss_one (ps_ret (pv 2)))))
        pss_nil)
      (pss_cons (ps_asg (pe_op op_add (pe_ix ix_list (pv 0) pe_int (fun _ _ => rfl)) pe_int) (pg_sub (pv 0) pe_int set_list (fun _ => rfl)))
      (pss_cons (ps_set (i := 3) scDraw.nd rfl (.inl rfl) (pe_ix ix_list (pe_lst (pa_cons pe_int (pa_cons pe_int (pa_cons pe_int (pa_cons pe_int (pa_cons pe_int pa_nil))))))
          (pe_op op_mod (pe_callTy call_int1 (by rfl) mi PySem.Pv.boot_int (pa_cons (pe_ix ix_list (pv 0) pe_int (fun _ _ => rfl)) pa_nil)) pe_int) (fun _ _ => rfl)))
      (pss_cons (ps_set (i := 4) scDraw.nd rfl (.inl rfl) (pe_op op_mod (pe_callTy call_int1 (by rfl) mi PySem.Pv.boot_int (pa_cons
          (pe_op op_pow (pe_op op_add (pe_op op_add (pe_ix ix_list (pv 0) pe_int (fun _ _ => rfl)) (pe_op op_mul (pe_op op_mul pe_int (pe_ix ix_list (pv 0) pe_int (fun _ _ => rfl))) (pe_ix ix_list (pv 0) pe_int (fun _ _ => rfl)))) pe_int) pe_int) pa_nil)) (pv 3)))
      (pss_cons (ps_set (i := 4) scDraw.nd rfl (.inl rfl) (pe_op op_mod (pe_callTy call_int1 (by rfl) mi PySem.Pv.boot_int (pa_cons
          (pe_op op_mul (pv 4) (pe_op op_add (pe_op op_mod (pe_callTy call_int1 (by rfl) mi PySem.Pv.boot_int (pa_cons (pv 4) pa_nil)) pe_int) (pe_op op_mul pe_int (pe_ix ix_list (pv 0) pe_int (fun _ _ => rfl))))) pa_nil)) pe_int))
      (pss_one (ps_ret (pe_op op_mod (pe_callTy call_int1 (by rfl) mi PySem.Pv.boot_int (pa_cons (pe_op op_fdiv (pv 4) pe_int) pa_nil)) (pv 1)))))))), ?_⟩
    have hS : ∀ {H1 : Hp} {xs : List V}, H1 p = some (.lst xs) → SqL K H1 p xs := fun h => .inl (.inl h)
    -- pot[0] > 0
    refine ⟨.ref p, rfl, p, _, 0, _, rfl, rfl, hS hp, rfl, _, _, rfl, rfl, _, rfl, ?_⟩
    refine ite2 (fun h => ?_) (fun h => ?_)
    · have h0 : 0 < a := of_decide_eq_true h
      -- digit
      refine ⟨.ref p, rfl, p, _, 0, _, rfl, rfl, hS hp, rfl, .inl ⟨_, rfl, .int m, rfl, _, _, rfl, rfl, hm0, ?_⟩⟩
      -- pot[0] = pot[0] // many
      refine ⟨.ref p, rfl, p, _, 0, _, rfl, rfl, hS hp, rfl, .int m, rfl, _, _, rfl, rfl, ⟨hm0, hm1⟩, ?_⟩
      refine ⟨.ref p, rfl, p, _, 0, 0, rfl, rfl, hp, rfl, ?_⟩
      refine ⟨_, rfl, q _ _ (Int.emod_nonneg _ (by omega)) (Int.emod_lt_of_pos _ hm0) ⟨a / m, b, c, upd_same, Int.ediv_nonneg ha (by omega), hb0, hb1, hc0, by omega⟩ Kp.pot⟩
    · have h0 : ¬ 0 < a := fun z => h (decide_eq_true z)
      -- pot[2] = pot[2] + 1
      refine ⟨.ref p, rfl, p, _, 2, _, rfl, rfl, hS hp, rfl, _, _, rfl, rfl, .ref p, rfl, p, _, 2, 2, rfl, rfl, hp, rfl, ?_⟩
      have e1 : upd H p (.lst [.int a, .int b, .int (c + 1)]) p = some (.lst [.int a, .int b, .int (c + 1)]) := upd_same
      -- prime
      refine ⟨by show 5 ≤ sizeLine; decide, fun l hl => ?_⟩
      have nlp : p ≠ l := ne_of_none e1 hl
      have e2 : upd (upd H p (.lst [.int a, .int b, .int (c + 1)])) l (.lst [.int 2147483647, .int 2147483629, .int 2147483587, .int 2147483579, .int 2147483563]) p = some (.lst [.int a, .int b, .int (c + 1)]) := by
        rw [upd_ne nlp]
        exact e1
      have kp : Kp p H (upd (upd H p (.lst [.int a, .int b, .int (c + 1)])) l (.lst [.int 2147483647, .int 2147483629, .int 2147483587, .int 2147483579, .int 2147483563])) := by
        intro b' o nb hb
        have nl : H l = none := by
          rw [upd_ne nlp.symm] at hl
          exact hl
        rw [upd_ne (ne_of_none hb nl), upd_ne nb]
        exact hb
      obtain ⟨pr, hpr, p0⟩ : ∃ pr : Int, atI [V.int 2147483647, V.int 2147483629, V.int 2147483587, V.int 2147483579, V.int 2147483563] ((c + 1) % 5) = some (.int pr) ∧ 0 < pr ∧ pr ≤ 2147483647 := by
        have h1 : 0 ≤ (c + 1) % 5 := Int.emod_nonneg _ (by decide)
        have h2 : (c + 1) % 5 < 5 := Int.emod_lt_of_pos _ (by decide)
        generalize (c + 1) % 5 = r at h1 h2
        have : r = 0 ∨ r = 1 ∨ r = 2 ∨ r = 3 ∨ r = 4 := by omega
        rcases this with rfl | rfl | rfl | rfl | rfl
        · exact ⟨2147483647, rfl, by decide⟩
        · exact ⟨2147483629, rfl, by decide⟩
        · exact ⟨2147483587, rfl, by decide⟩
        · exact ⟨2147483579, rfl, by decide⟩
        · exact ⟨2147483563, rfl, by decide⟩
      refine ⟨.ref p, rfl, p, _, 2, _, rfl, rfl, hS e2, rfl, .inl ⟨_, rfl, _, _, rfl, rfl, by show (0 : Int) < 5; decide, l, _, _, _, rfl, rfl, .inl (.inl upd_same), hpr, ?_⟩⟩
      -- made
      refine ⟨.ref p, rfl, p, _, 1, _, rfl, rfl, hS e2, rfl, .ref p, rfl, p, _, 2, _, rfl, rfl, hS e2, rfl, _, _, rfl, rfl, .inl ⟨by decide, by decide⟩, .ref p, rfl, p, _, 2, _, rfl, rfl, hS e2, rfl, _, _, rfl, rfl, .inl ⟨?_, ?_⟩, _, _, rfl, rfl, _, _, rfl, rfl, ?_⟩
      · omega
      · omega
      refine ⟨_, _, rfl, rfl, ⟨by decide, by decide, ?_⟩, .inl ⟨_, rfl, _, rfl, _, _, rfl, rfl, p0.1, ?_⟩⟩
      · have hq := sq_le (c := c + 1) (by omega) (by omega)
        show (b + 99991 * (c + 1) * (c + 1) + 61).natAbs < 2 ^ 64
        omega
      generalize (b + 99991 * (c + 1) * (c + 1) + 61) ^ Int.toNat 3 = X
      have hM0 : 0 ≤ X % pr := Int.emod_nonneg _ (by omega)
      have hM1 : X % pr < pr := Int.emod_lt_of_pos _ p0.1
      refine ⟨.int (X % pr), rfl, .int (X % pr), rfl, .inl ⟨_, rfl, _, _, rfl, rfl, by show (0 : Int) < 10007; decide, .ref p, rfl, p, _, 2, _, rfl, rfl, hS e2, rfl, _, _, rfl, rfl, .inl ⟨by decide, by decide⟩, _, _, rfl, rfl, _, _, rfl, rfl, .inl ⟨by omega, by omega⟩, .inl ⟨_, rfl, _, _, rfl, rfl, by show (0 : Int) < 2305843009213693907; decide, ?_⟩⟩⟩
      generalize X % pr * (X % pr % 10007 + 83 * (c + 1)) = Y
      refine ⟨.int (Y % 2305843009213693907), rfl, _, _, rfl, rfl, ⟨by decide, by decide⟩, .inl ⟨_, rfl, .int m, rfl, _, _, rfl, rfl, hm0, ?_⟩⟩
      exact q _ _ (Int.emod_nonneg _ (by omega)) (Int.emod_lt_of_pos _ hm0) ⟨a, b, c + 1, e2, ha, hb0, hb1, by omega, by omega⟩ kp
end
end Sf
namespace Sf
open PySem PySem.Spec PyProof.Rows L2
abbrev sIsText : Stmt := topS 7
abbrev sCheck : Stmt := topS 8
abbrev sPairsIn : Stmt := topS 9
abbrev sPairsAll : Stmt := topS 10
abbrev sAllows : Stmt := topS 11
theorem scIsText : FnScope ["value", "sign"] ["value"] (defScope sIsText) := ⟨rfl, rfl, rfl, by decide +kernel, rfl, by decide +kernel, by decide +kernel⟩
theorem scCheck : FnScope ["value"] ["value"] (defScope sCheck) := ⟨rfl, rfl, rfl, by decide +kernel, rfl, by decide +kernel, by decide +kernel⟩
theorem scPairsIn : FnScope ["text", "signs", "one", "other"] ["text"] (defScope sPairsIn) := ⟨rfl, rfl, rfl, by decide +kernel, rfl, by decide +kernel, by decide +kernel⟩
theorem scPairsAll : FnScope ["texts", "found", "text"] ["texts"] (defScope sPairsAll) := ⟨rfl, rfl, rfl, by decide +kernel, rfl, by decide +kernel, by decide +kernel⟩
theorem scAllows : FnScope ["pairs", "text", "pair"] ["pairs", "text"] (defScope sAllows) := ⟨rfl, rfl, rfl, by decide +kernel, rfl, by decide +kernel, by decide +kernel⟩
/-- the letters' codes -/
def LET : List Nat := (Str.ofString " 0123456789_abcdefghijklmnopqrstuvwxyz").cps.toList
def isTx (x : Str) : Bool := x.cps.toList.all fun c => decide (c ∈ LET)
theorem Same.upd {H : Hp} {p : Addr} {o : HO} (h : H p = none) : Same H (upd H p o) := fun b u e => by
  rw [upd_ne (ne_of_none e h)]
  exact e
/-- an object that was not there may change -/
theorem Same.mut {H H' : Hp} {p : Addr} {o : HO} (a : Same H H') (h : H p = none) : Same H (L2.upd H' p o) := fun b u e => by
  rw [upd_ne (ne_of_none e h)]
  exact a b u e
theorem str_len (x : Str) : x.length = x.cps.toList.length := TL.len_tl x
theorem map_getD {α β : Type} (F : β → α) (d : β) (l : List β) : (List.range l.length).map (fun i => F (l.getD i d)) = l.map F := by
  apply List.ext_getElem
  · simp
  · intro i a b
    have hi : i < l.length := by
      rw [List.length_map] at b
      exact b
    rw [List.getElem_map, List.getElem_map, List.getElem_range, List.getD_eq_getElem?_getD, List.getElem?_eq_getElem hi] <;> rfl
theorem getD_at {β : Type} {d x : β} {l : List β} {i : Nat} (h : l[i]? = some x) : l.getD i d = x := by
  rw [List.getD_eq_getElem?_getD, h] <;> rfl
/-- a comprehension whose elements are told by the turn -/
theorem lc_fun {J : It} {n : Nat} {G : Hp → Prop} {Y : Nat → Hp → V → Hp → Prop} (w : Walk J n G Y) {g : TG} {tt : TT} {te : TE} {vs : List Nat} {σ : L2.St} {H1 : Hp} {D : Addr} {Qd : Hp → Prop} (p : Nat → Bool) (f : Nat → V)
    (hn : n ≤ 1000000) (hD : H1 D = none) (hG : ∀ H, Same H1 H → G H)
    (he : ∀ i x H H' (N : V → Hp → Prop) (M : Hp → Prop), i < n → Same H1 H → Y i H x H' → (p i = true → ∀ H4, Same H H4 → N (f i) H4) → (p i = false → ∀ H4, Same H H4 → M H4) →
      g x (wipe σ vs) H' fun σ2 H2 => wipe σ2 vs = wipe σ vs ∧ tt σ2 H2 fun b H3 => if b = true then te σ2 H3 N else M H3)
    (hd : ∀ H, Same H1 H → H D = some (.lst (((List.range n).filter p).map f)) → Qd H) :
    ∃ W : Nat → Nat → Hp → Prop, (∃ m, W 0 m (upd H1 D (.lst []))) ∧ ∀ i m H, W i m H →
      (J.stop i H ∧ Qd H) ∨ (J.go i H ∧ ∃ Nx : Hp → Prop, (∀ H', Nx H' → ∃ m', m' < m ∧ W (i + 1) m' H') ∧ ∀ x H', J.yld i H x H' → g x (wipe σ vs) H' fun σ2 H2 => wipe σ2 vs = wipe σ vs ∧ tt σ2 H2 fun b H3 =>
        if b = true then te σ2 H3 fun y H4 => ∃ acc, H4 D = some (.lst acc) ∧ acc.length < sizeLine ∧ Nx (upd H4 D (.lst (acc ++ [y]))) else Nx H3) := by
  refine lc_it w (fun i H => i ≤ n ∧ Same H1 H ∧ H D = some (.lst (((List.range i).filter p).map f))) ⟨Nat.zero_le _, Same.upd hD, upd_same⟩ (fun i H _ h => hG H h.2.1) (fun i x H H' hi h y => ?_) (fun H h => hd H h.2.1 h.2.2)
  obtain ⟨_, h1, h2⟩ := h
  refine he i x H H' _ _ hi h1 y (fun hp H4 s4 => ⟨_, s4 D _ h2, ?_, hi, Same.mut (h1.trans s4) hD, ?_⟩) (fun hp H4 s4 => ⟨hi, h1.trans s4, ?_⟩)
  · rw [List.length_map]
    have q := List.length_filter_le p (List.range i)
    rw [List.length_range] at q
    exact Nat.lt_of_le_of_lt (Nat.le_trans q (Nat.le_of_lt hi)) (Nat.lt_of_le_of_lt hn (by decide))
  · rw [upd_same, List.range_succ, List.filter_append, List.map_append, List.filter_cons, if_pos hp] <;> rfl
  · rw [s4 D _ h2, List.range_succ, List.filter_append, List.map_append, List.filter_cons, if_neg (by rw [hp]; decide)]
    rw [List.filter_nil, List.map_nil, List.append_nil]
/-- without a test -/
theorem lc_map {J : It} {n : Nat} {G : Hp → Prop} {Y : Nat → Hp → V → Hp → Prop} (w : Walk J n G Y) {g : TG} {te : TE} {vs : List Nat} {σ : L2.St} {H1 : Hp} {D : Addr} {Qd : Hp → Prop} (f : Nat → V)
    (hn : n ≤ 1000000) (hD : H1 D = none) (hG : ∀ H, Same H1 H → G H)
    (he : ∀ i x H H' (N : V → Hp → Prop), i < n → Same H1 H → Y i H x H' → (∀ H4, Same H H4 → N (f i) H4) → g x (wipe σ vs) H' fun σ2 H2 => wipe σ2 vs = wipe σ vs ∧ te σ2 H2 N)
    (hd : ∀ H, Same H1 H → H D = some (.lst ((List.range n).map f)) → Qd H) :
    ∃ W : Nat → Nat → Hp → Prop, (∃ m, W 0 m (upd H1 D (.lst []))) ∧ ∀ i m H, W i m H →
      (J.stop i H ∧ Qd H) ∨ (J.go i H ∧ ∃ Nx : Hp → Prop, (∀ H', Nx H' → ∃ m', m' < m ∧ W (i + 1) m' H') ∧ ∀ x H', J.yld i H x H' → g x (wipe σ vs) H' fun σ2 H2 => wipe σ2 vs = wipe σ vs ∧ tYes σ2 H2 fun b H3 =>
        if b = true then te σ2 H3 fun y H4 => ∃ acc, H4 D = some (.lst acc) ∧ acc.length < sizeLine ∧ Nx (upd H4 D (.lst (acc ++ [y]))) else Nx H3) := by
  refine lc_fun w (fun _ => true) f hn hD hG (fun i x H H' N M hi h1 y hN _ => he i x H H' N hi h1 y (hN rfl)) (fun H h1 h2 => hd H h1 ?_)
  rw [h2, List.filter_eq_self.mpr (fun _ _ => rfl)]
def spIsText : Sp := fun vs H Q _ => ∃ x : Str, vs = [.str x] ∧ x.length ≤ 100000 ∧ ∀ H', Same H H' → Q (.bl (isTx x)) H'
section
variable {P : Program} {w : World} {K : PySem.W.Frag} {mg : Str → Option Value} {base : Heap}
/-- the values of a mapped list as it grows -/
theorem map_snoc {α : Type} (f : Nat → α) (n : Nat) : (List.range (n + 1)).map f = (List.range n).map f ++ [f n] := by
  rw [List.range_succ, List.map_append] <;> rfl
theorem ok_isText {f : Addr} {fd : FuncData} {k : Nat} (F : Fun K "is_text" "is_text" sIsText f fd) (mi : mg "isinstance" = none) (ms : mg "str" = none) (ma : mg "all" = none) {tk : Tok}
    (gL : mg "LETTERS" = some (.str (Str.ofString " 0123456789_abcdefghijklmnopqrstuvwxyz") tk)) : FnOk P w K mg base CX0 (k + 1) f fd ["value"] spIsText := by
  refine F.ok scIsText (fun vs H Q E h => ?_) (fun cdv A outer s H vs Q E hr h => ?_)
  · obtain ⟨x, rfl, _⟩ := h
    rfl
  · obtain ⟨x, rfl, hx, q⟩ := h
    refine ⟨_, pss_one (ps_ret (pe_and (pe_callB call_isi (by rfl) mi PyProof.Rows.boot_isinstance (pa_cons (pv 0) (pa_cons (pe_bltn (by rfl) ms PySem.Pv.boot_str (v := .ty "str") rfl) pa_nil)))
      (pe_one (pe_callB (cr_all rfl) (by rfl) ma (by decide +kernel) (pa_cons (pe_lc (own := [("sign", 1)]) (g := gName 1) (tt := tYes) rfl scIsText.nd (pi_str (pv 0)) (blkOk_by (N := ["value", "sign"]) (sc := defScope sIsText) (by decide +kernel))
        (fun _ _ _ _ _ => pg_name (i := 1) scIsText.nd rfl (Or.inl rfl)) (fun _ _ _ _ _ => pts_nil) (fun _ _ _ _ _ => pe_cmpR op_in_sign (pv 1) (pe_glob (v := .str _) rfl gL ⟨_, rfl⟩) (by rfl))) pa_nil))))), ?_⟩
    refine ⟨.str x, rfl, .str x, .ty "str", .type "str", .type "str", true, rfl, ?_, ?_, ?_, ?_⟩
    · exact .ty "str"
    · exact .base (.str x)
    · exact kit_ty (by decide +kernel)
    refine ⟨true, rfl, iteT ?_⟩
    refine ⟨.str x, rfl, x, rfl, fun D hD => lc_map (walk_str (z := x)) (fun i => .bl (decide ((x.cps.toList.getD i 0) ∈ LET))) (Nat.le_trans hx (by decide)) hD (fun _ _ => True.intro) (fun i y H1 H2 N hi h1 hy hN => ?_) (fun H1 h1 h2 => ?_)⟩
    · obtain ⟨rfl, c, hc, rfl⟩ := hy
      refine ⟨rfl, _, rfl, c, _, rfl, rfl, ?_⟩
      have q2 := hN H2 (Same.refl _)
      have e : x.cps.toList.getD i 0 = c := getD_at (by rw [Array.getElem?_toList]; exact hc)
      rw [e] at q2
      exact q2
    · have e := map_getD (fun c => V.bl (decide (c ∈ LET))) 0 x.cps.toList
      rw [Array.length_toList] at e
      have h3 : H1 D = some (.lst ((x.cps.toList.map fun c => decide (c ∈ LET)).map V.bl)) := by
        rw [h2, e, List.map_map] <;> rfl
      refine ⟨D, _, rfl, .inl (.inl h3), ?_⟩
      rw [List.all_map]
      exact q H1 h1
/-! ### check_text -/
def spCheck : Sp := fun vs H Q _ => ∃ x : Str, vs = [.str x] ∧ x.length ≤ 100000 ∧ isTx x = true ∧ ∀ H', Same H H' → Q .non H'
theorem ok_check {f fI : Addr} {fd fdI : FuncData} {k : Nat} (F : Fun K "check_text" "check_text" sCheck f fd) (FI : Fun K "is_text" "is_text" sIsText fI fdI) (bI : Binds K fdI ["value"] []) (gI : mg "is_text" = some (.ref fI))
    (GI : FnOk P w K mg base CX0 (k + 1) fI fdI ["value"] spIsText) : FnOk P w K mg base CX0 (k + 2) f fd ["value"] spCheck := by
  refine F.ok scCheck (fun vs H Q E h => ?_) (fun cdv A outer s H vs Q E hr h => ?_)
  · obtain ⟨x, rfl, _⟩ := h
    rfl
  · obtain ⟨x, rfl, hx, ht, q⟩ := h
    refine ⟨_, pss_one (ps_if (pt_not (pt_val (pe_call GI hr (by rfl) gI FI.kp bI .nil pass0 (pa_cons (pv 0) pa_nil)))) (pss_one ps_never) pss_nil), ?_⟩
    refine ⟨.str x, rfl, x, rfl, hx, fun H' s1 => ⟨_, rfl, ?_⟩⟩
    rw [ht]
    exact q H' s1
/-! ### pairs_in -/
theorem tl_ap (x y : Str) : (x ++ y).cps.toList = x.cps.toList ++ y.cps.toList := TL.tl_append x y
theorem len_ap (x y : Str) : (x ++ y).length = x.length + y.length := by
  rw [TL.len_tl, TL.len_tl, TL.len_tl, TL.tl_append, List.length_append]
theorem one_ap (a b : Nat) : (⟨#[a]⟩ : Str) ++ ⟨#[b]⟩ = two a b := rfl
theorem bg : (Str.ofString "^").cps.toList = [94] := by decide +kernel
theorem en : (Str.ofString "$").cps.toList = [36] := by decide +kernel
theorem cut1 {z : Str} (h : 1 ≤ z.length) : (cutS z (some 1) none).cps.toList = z.cps.toList.drop 1 := by
  show ((z.cps.toList.drop (HT.sIx z.length 0 (some ((1 : Nat) : Int)))).take (HT.sIx z.length z.length none - HT.sIx z.length 0 (some ((1 : Nat) : Int)))).toArray.toList = _
  rw [HT.sIx_nat, HT.sIx_none, Nat.min_eq_left h]
  show (z.cps.toList.drop 1).take (z.length - 1) = _
  rw [TL.len_tl]
  exact List.take_of_length_le (Nat.le_of_eq List.length_drop)
def spPairsIn : Sp := fun vs H Q _ => ∃ x : Str, vs = [.str x] ∧ x.length ≤ 1000 ∧ ∀ (p : Addr) H', H p = none → Same H H' → H' p = some (.lst ((pin x.cps.toList).map V.str)) → Q (.ref p) H'
theorem ok_pairsIn {f : Addr} {fd : FuncData} {k : Nat} (F : Fun K "pairs_in" "pairs_in" sPairsIn f fd) (mz : mg "zip" = none) {t1 t2 : Tok} (gB : mg "BEGIN" = some (.str (Str.ofString "^") t1)) (gE : mg "END" = some (.str (Str.ofString "$") t2)) :
    FnOk P w K mg base CX0 (k + 1) f fd ["text"] spPairsIn := by
  refine F.ok scPairsIn (fun vs H Q E h => ?_) (fun cdv A outer s H vs Q E hr h => ?_)
  · obtain ⟨x, rfl, _⟩ := h
    rfl
  · obtain ⟨x, rfl, hx, q⟩ := h
    refine ⟨_, pss_cons (ps_set (i := 1) scPairsIn.nd rfl (.inl rfl) (pe_op op_add_str (pe_op op_add_str (pe_glob (v := .str _) rfl gB ⟨_, rfl⟩) (pv 0)) (pe_glob (v := .str _) rfl gE ⟨_, rfl⟩)))
      (pss_one (ps_ret (pe_lc (own := [("one", 2), ("other", 3)]) (g := gTup K 2 (gCons (gName 2) (gCons (gName 3) gNil))) (tt := tYes) rfl scPairsIn.nd (pi_zip2 (by rfl) mz (pa_cons (pv 1) (pa_cons (pe_slice sl_str (pv 1) (po_some pe_int) po_none) pa_nil)))
        (blkOk_by (N := ["text", "signs", "one", "other"]) (sc := defScope sPairsIn) (by decide +kernel))
        (fun _ _ _ _ _ => pg_tup rfl (pgs_cons (pg_name (i := 2) scPairsIn.nd rfl (.inl rfl) (.inr rfl)) (pgs_cons (pg_name (i := 3) scPairsIn.nd rfl (.inl rfl) (.inr rfl)) pgs_nil)))
        (fun _ _ _ _ _ => pts_nil) (fun _ _ _ _ _ => pe_op op_add_str (pv 2) (pv 3))))), ?_⟩
    have lx : x.cps.toList.length ≤ 1000 := by
      rw [← TL.len_tl]
      exact hx
    have sl : ∀ n : Nat, n ≤ 2000 → n ≤ sizeLine := fun n h => Nat.le_trans h (by decide)
    have l1 : (Str.ofString "^").length = 1 := by
      rw [TL.len_tl, TL.tl, bg] <;> rfl
    have l2 : (Str.ofString "$").length = 1 := by
      rw [TL.len_tl, TL.tl, en] <;> rfl
    have l3 := len_ap (Str.ofString "^") x
    refine ⟨.str x, rfl, _, _, rfl, rfl, sl _ (by omega), _, _, rfl, rfl, sl _ (by omega), ?_⟩
    generalize hz : Str.ofString "^" ++ x ++ Str.ofString "$" = z
    have ez : z.cps.toList = 94 :: (x.cps.toList ++ [36]) := by
      rw [← hz, tl_ap, tl_ap, bg, en] <;> rfl
    have lz : z.length = x.cps.toList.length + 2 := by
      rw [TL.len_tl, TL.tl, ez, List.length_cons, List.length_append] <;> rfl
    have ec := cut1 (z := z) (by omega)
    have ep : (pin x.cps.toList).length = x.cps.toList.length + 1 := by
      unfold pin
      rw [prs_len, List.length_cons, List.length_append] <;> rfl
    refine ⟨.str z, rfl, .str z, rfl, 1, rfl, z, rfl, sl _ (by omega), z, cutS z (some 1) none, rfl, fun D hD => lc_map (walk_zip2 (x := z) (y := cutS z (some 1) none) (n := x.cps.toList.length + 1) ?_)
      (fun i => .str ((pin x.cps.toList).getD i Str.empty)) (by omega) hD (fun _ _ => True.intro) (fun i y H1 H2 N hi h1 hy hN => ?_) (fun H1 h1 h2 => q D H1 hD h1 ?_)⟩
    · have lz2 : z.cps.toList.length = x.cps.toList.length + 2 := (TL.len_tl z).symm.trans lz
      rw [← Array.length_toList, ← Array.length_toList, ec, List.length_drop, lz2]
      omega
    · obtain ⟨T, c, d, rfl, hT, rfl, hc, hd⟩ := hy
      have hc2 : z.cps.toList[i]? = some c := by
        rw [Array.getElem?_toList]
        exact hc
      have hd2 : z.cps.toList[i + 1]? = some d := by
        have e : (cutS z (some 1) none).cps.toList[i]? = some d := by
          rw [Array.getElem?_toList]
          exact hd
        rw [ec, List.getElem?_drop, Nat.add_comm] at e
        exact e
      have e : (pin x.cps.toList).getD i Str.empty = two c d := getD_at (by
        unfold pin
        rw [← ez]
        exact prs_get _ i c d hc2 hd2)
      have q2 := hN _ (Same.upd (o := .tup [.str ⟨#[c]⟩, .str ⟨#[d]⟩]) hT)
      rw [e] at q2
      exact ⟨T, _, rfl, .inl (.inl upd_same), rfl, _, _, rfl, _, _, rfl, rfl, rfl, _, rfl, _, rfl, _, _, rfl, rfl, by show 1 + 1 ≤ sizeLine; decide, q2⟩
    · rw [h2, ← ep, map_getD V.str Str.empty]
/-! ### pairs_of_all -/
theorem toSet_len (l : List Str) : (toSet l).length ≤ l.length := by
  have q : ∀ (l acc : List Str), (l.foldl insT acc).length ≤ acc.length + l.length := by
    intro l
    induction l with
    | nil => intro acc; exact Nat.le_refl _
    | cons y r ih =>
      intro acc
      have b1 := ih (insT acc y)
      have b2 := insT_len (l := acc) (x := y)
      rw [List.foldl_cons, List.length_cons]
      omega
  have q2 := q l []
  rw [List.length_nil] at q2
  unfold toSet
  omega
def spPairsAll (K : PySem.W.Frag) : Sp := fun vs H Q _ => ∃ (a : Addr) (xs : List Str), vs = [.ref a] ∧ SqT K H a (xs.map V.str) ∧ xs.length ≤ 200 ∧ (∀ x ∈ xs, isTx x = true ∧ x.length ≤ 10) ∧
  ∀ (ys : List Str) (p : Addr) H', SrtOf (xs.flatMap fun x => pin x.cps.toList) ys → H p = none → Same H H' → H' p = some (.tup (ys.map V.str)) → Q (.ref p) H'
theorem pin_len (l : List Nat) : (pin l).length = l.length + 1 := by
  unfold pin
  rw [prs_len, List.length_cons, List.length_append] <;> rfl
theorem flat_len (f : Str → List Str) (k : Nat) : ∀ xs : List Str, (∀ x ∈ xs, (f x).length ≤ k) → (xs.flatMap f).length ≤ xs.length * k
  | [], _ => Nat.zero_le _
  | x :: r, h => by
    have h1 := h x List.mem_cons_self
    have h2 := flat_len f k r fun y hy => h y (List.mem_cons_of_mem _ hy)
    rw [List.flatMap_cons, List.length_append, List.length_cons, Nat.add_mul]
    omega
theorem ok_pairsAll {f fC fP : Addr} {fd fdC fdP : FuncData} {k : Nat} (F : Fun K "pairs_of_all" "pairs_of_all" sPairsAll f fd)
    (FC : Fun K "check_text" "check_text" sCheck fC fdC) (bC : Binds K fdC ["value"] []) (gC : mg "check_text" = some (.ref fC)) (GC : FnOk P w K mg base CX0 (k + 2) fC fdC ["value"] spCheck)
    (FP : Fun K "pairs_in" "pairs_in" sPairsIn fP fdP) (bP : Binds K fdP ["text"] []) (gP : mg "pairs_in" = some (.ref fP)) (GP : FnOk P w K mg base CX0 (k + 2) fP fdP ["text"] spPairsIn)
    (mt : mg "tuple" = none) (ms : mg "sorted" = none) (mS : mg "set" = none) : FnOk P w K mg base CX0 (k + 3) f fd ["texts"] (spPairsAll K) := by
  refine F.ok scPairsAll (fun vs H Q E h => ?_) (fun cdv A outer s H vs Q E hr h => ?_)
  · obtain ⟨a, xs, rfl, _⟩ := h
    rfl
  · obtain ⟨a, xs, rfl, hS, hl, ht, q⟩ := h
    refine ⟨_, pss_cons (ps_set (i := 1) scPairsAll.nd rfl (.inl rfl) (pe_lst pa_nil))
      (pss_cons (ps_for PassesOwn.never rfl (pi_tup (pv 0)) (pg_name (i := 2) scPairsAll.nd rfl (.inl rfl))
        (pss_cons (ps_expr (pe_call GC hr (by rfl) gC FC.kp bC .nil pass0 (pa_cons (pv 2) pa_nil)))
        (pss_one (ps_expr (pe_bm PySem.F.plainAttrs_list PySem.F.slot_list_extend PySem.F.type_list_extend mt_extend (pv 1) (pa_cons (pe_call GP hr (by rfl) gP FP.kp bP .nil pass0 (pa_cons (pv 2) pa_nil)) pa_nil))))))
      (pss_one (ps_ret (pe_tupleOf (by rfl) mt (pe_callB (cr_sortedTx rfl) (by rfl) ms (by decide +kernel) (pa_cons (pe_callTy (cr_setTx rfl) (by rfl) mS PySem.Pv.boot_set (pa_cons (pv 1) pa_nil)) pa_nil)))))), ?_⟩
    refine ⟨Nat.zero_le _, fun o no => ?_⟩
    have tlen : ∀ i, (((xs.take i).flatMap fun x => pin x.cps.toList)).length ≤ 200 * 11 := fun i => by
      have q1 := flat_len (fun x => pin x.cps.toList) 11 (xs.take i) fun x hx => by
        have h2 := (ht x (List.mem_of_mem_take hx)).2
        rw [str_len] at h2
        rw [pin_len]
        omega
      have q2 := List.length_take_le' i xs
      have q3 : (xs.take i).length * 11 ≤ 200 * 11 := Nat.mul_le_mul_right 11 (Nat.le_trans q2 hl)
      omega
    refine ⟨.ref a, rfl, a, rfl, ⟨_, hS.elim (fun r => .inl (r.elim (fun e => .inl (Same.upd no _ _ e)) (fun ⟨u, e⟩ => .inr ⟨u, Same.upd no _ _ e⟩))) .inr⟩, ?_⟩
    have hSa : ∀ {H2 : Hp}, Same H H2 → SqT K H2 a (xs.map V.str) := fun s2 => hS.elim (fun r => .inl (r.elim (fun e => .inl (s2 _ _ e)) (fun ⟨u, e⟩ => .inr ⟨u, s2 _ _ e⟩))) .inr
    refine for_it (walk_tup (K := K) (a := a) (xs := xs.map V.str)) (fun i σ H2 => ∃ y2, σ = [some (.ref a), some (.ref o), y2] ∧ Same H H2 ∧ H2 o = some (.lst (((xs.take i).flatMap fun x => pin x.cps.toList).map V.str)))
      ⟨none, rfl, Same.upd no, upd_same⟩ (fun i σ H2 _ hP => ?_) (fun i v σ H2 H3 hi hP hy => ?_) (fun σ H2 hP => ?_)
    · obtain ⟨y2, _, s2, _⟩ := hP
      exact hSa s2
    · obtain ⟨y2, rfl, s2, e2⟩ := hP
      obtain ⟨rfl, hv⟩ := hy
      rw [List.getElem?_map] at hv
      cases hx : xs[i]? with
      | none =>
        rw [hx] at hv
        cases hv
      | some x =>
        rw [hx] at hv
        obtain rfl : V.str x = v := Option.some.inj hv
        have hm : x ∈ xs := List.mem_of_getElem? hx
        obtain ⟨h1, h2⟩ := ht x hm
        refine ⟨.str x, rfl, x, rfl, by omega, h1, fun H4 s4 => ?_⟩
        have e4 := s4 _ _ e2
        refine ⟨.ref o, rfl, .inl ⟨rfl, _, .inl (.inl e4)⟩, .str x, rfl, x, rfl, by omega, fun p H5 np s5 hp => ?_⟩
        have e5 := s5 _ _ e4
        refine ⟨o, p, _, _, rfl, rfl, e5, hp, ?_, _, rfl, Same.mut (s2.trans (s4.trans s5)) no, ?_⟩
        · have q1 := tlen i
          rw [List.length_map, List.length_map, pin_len]
          rw [str_len] at h2
          exact Nat.le_trans (show _ ≤ 10000 by omega) (by decide)
        · rw [upd_same, List.take_add_one, hx, List.flatMap_append, List.map_append]
          show some (HO.lst (_ ++ List.map V.str (pin x.cps.toList))) = some (HO.lst (_ ++ List.map V.str (List.flatMap (fun x => pin x.cps.toList) [x])))
          rw [List.flatMap_cons, List.flatMap_nil, List.append_nil]
    · obtain ⟨y2, rfl, s2, e2⟩ := hP
      rw [List.length_map, List.take_length] at e2
      have t2 := tlen xs.length
      rw [List.take_length] at t2
      refine ⟨.ref o, rfl, o, _, rfl, .inl (.inl (.inl e2)), ?_, fun S nS => ?_⟩
      · exact Nat.lt_of_le_of_lt (Nat.succ_le_succ t2) (by decide)
      have slen : (toSet (xs.flatMap fun x => pin x.cps.toList)).length < scanBound := by
        have q1 := toSet_len (xs.flatMap fun x => pin x.cps.toList)
        exact Nat.lt_of_le_of_lt (Nat.le_trans q1 t2) (by decide)
      refine ⟨S, _, rfl, upd_same, slen, fun ys p h1 h2 np => .inl ⟨p, _, rfl, .inl (.inl upd_same), fun r nr => ?_⟩⟩
      have s3 : Same H (upd (upd H2 S (SetTx P w S (toSet (xs.flatMap fun x => pin x.cps.toList)))) p (.lst (ys.map V.str))) := s2.trans ((Same.upd nS).trans (Same.upd np))
      exact q ys r _ ⟨h1, h2⟩ (s3.free nr) (s3.trans (Same.upd nr)) upd_same
/-! ### allows -/
def spAllows (K : PySem.W.Frag) : Sp := fun vs H Q _ => ∃ (a : Addr) (ps : List Str) (x : Str), vs = [.ref a, .str x] ∧ SqT K H a (ps.map V.str) ∧ isTx x = true ∧ x.length ≤ 1000 ∧
  ∀ H', Same H H' → Q (.bl (alw (fun p => decide (p ∈ ps)) x.cps.toList)) H'
theorem inV_str (x : Str) : ∀ ps : List Str, inV (.str x) (ps.map V.str) = decide (x ∈ ps)
  | [] => by simp [inV]
  | y :: r => by
    have ih := inV_str x r
    unfold inV at ih ⊢
    rw [List.map_cons, List.any_cons, ih]
    have e : eqV (.str y) (.str x) = decide (x = y) := by
      by_cases h : x = y
      · subst h
        simp [eqV]
      · rw [decide_eq_false h]
        simp [eqV]
        exact fun z => h z.symm
    rw [e, Bool.eq_iff_iff]
    simp [List.mem_cons]
theorem flat_str : ∀ ps : List Str, (ps.map V.str).all flatV = true
  | [] => rfl
  | y :: r => by
    rw [List.map_cons, List.all_cons, flat_str r] <;> rfl
theorem ok_allows {f fC fP : Addr} {fd fdC fdP : FuncData} {k : Nat} (F : Fun K "allows" "allows" sAllows f fd)
    (FC : Fun K "check_text" "check_text" sCheck fC fdC) (bC : Binds K fdC ["value"] []) (gC : mg "check_text" = some (.ref fC)) (GC : FnOk P w K mg base CX0 (k + 2) fC fdC ["value"] spCheck)
    (FP : Fun K "pairs_in" "pairs_in" sPairsIn fP fdP) (bP : Binds K fdP ["text"] []) (gP : mg "pairs_in" = some (.ref fP)) (GP : FnOk P w K mg base CX0 (k + 2) fP fdP ["text"] spPairsIn)
    (ma : mg "all" = none) : FnOk P w K mg base CX0 (k + 3) f fd ["pairs", "text"] (spAllows K) := by
  refine F.ok scAllows (fun vs H Q E h => ?_) (fun cdv A outer s H vs Q E hr h => ?_)
  · obtain ⟨a, ps, x, rfl, _⟩ := h
    rfl
  · obtain ⟨a, ps, x, rfl, hS, ht, hx, q⟩ := h
    refine ⟨_, pss_cons (ps_expr (pe_call GC hr (by rfl) gC FC.kp bC .nil pass0 (pa_cons (pv 1) pa_nil)))
      (pss_one (ps_ret (pe_callB (cr_all rfl) (by rfl) ma (by decide +kernel) (pa_cons (pe_lc (own := [("pair", 2)]) (g := gName 2) (tt := tYes) rfl scAllows.nd
        (pi_list (pe_call GP hr (by rfl) gP FP.kp bP .nil pass0 (pa_cons (pv 1) pa_nil))) (blkOk_by (N := ["pairs", "text", "pair"]) (sc := defScope sAllows) (by decide +kernel))
        (fun _ _ _ _ _ => pg_name (i := 2) scAllows.nd rfl (Or.inl rfl)) (fun _ _ _ _ _ => pts_nil) (te := tOp (rIn K false) (tVar 2) (tVar 0)) (fun _ _ _ _ _ => pe_cmpR op_in_seq (pv 2) (pv 0) (by rfl))) pa_nil)))), ?_⟩
    refine ⟨.str x, rfl, x, rfl, by omega, ht, fun H1 s1 => ?_⟩
    have hSa : ∀ {H2 : Hp}, Same H H2 → SqT K H2 a (ps.map V.str) := fun s2 => hS.elim (fun r => .inl (r.elim (fun e => .inl (s2 _ _ e)) (fun ⟨u, e⟩ => .inr ⟨u, s2 _ _ e⟩))) .inr
    refine ⟨.str x, rfl, x, rfl, hx, fun p H2 np s2 hp => ⟨p, rfl, ⟨_, .inl (.inl hp)⟩, fun D hD => ?_⟩⟩
    have lp : (pin x.cps.toList).length ≤ 1001 := by
      rw [pin_len, ← str_len]
      omega
    refine lc_map (walk_list (K := K) (a := p) (xs := (pin x.cps.toList).map V.str)) (fun i => .bl (decide ((pin x.cps.toList).getD i Str.empty ∈ ps))) (by rw [List.length_map]; omega) hD (fun _ s3 => .inl (.inl (s3 _ _ hp))) (fun i y H3 H4 N hi s3 hy hN => ?_) (fun H3 s3 e3 => ?_)
    · obtain ⟨rfl, hv⟩ := hy
      rw [List.getElem?_map] at hv
      cases hz : (pin x.cps.toList)[i]? with
      | none =>
        rw [hz] at hv
        cases hv
      | some z =>
        rw [hz] at hv
        obtain rfl : V.str z = y := Option.some.inj hv
        have q2 := hN _ (Same.refl _)
        rw [getD_at hz] at q2
        refine ⟨rfl, .str z, rfl, .ref a, rfl, a, _, rfl, .inr (hSa (s1.trans (s2.trans s3))), rfl, flat_str ps, ?_⟩
        rw [inV_str]
        exact q2
    · have e4 : H3 D = some (.lst (((pin x.cps.toList).map fun z => decide (z ∈ ps)).map V.bl)) := by
        rw [e3, List.length_map, map_getD (fun z => V.bl (decide (z ∈ ps))) Str.empty, List.map_map] <;> rfl
      refine ⟨D, _, rfl, .inl (.inl e4), ?_⟩
      rw [List.all_map]
      exact q H3 (s1.trans (s2.trans s3))
end
end Sf
namespace Sf
open PySem PySem.Spec PyProof.Rows L2
abbrev sAny : Stmt := topS 15
abbrev sText : Stmt := topS 16
theorem scAny : FnScope ["_law_pot_here", "_law_items"] ["_law_pot_here", "_law_items"] (defScope sAny) := ⟨rfl, rfl, rfl, by decide +kernel, rfl, by decide +kernel, by decide +kernel⟩
theorem scText : FnScope ["_law_pot_here", "_law_letters", "_law_most", "_law_turn"] ["_law_pot_here", "_law_letters", "_law_most"] (defScope sText) := ⟨rfl, rfl, rfl, by decide +kernel, rfl, by decide +kernel, by decide +kernel⟩
/-! ### powers of greater numbers -/
def CPw (i j : Int) : Prop := 0 ≤ j ∧ (Builtin.Int.intBits i : Int) * j ≤ 2 ^ 27
section
variable {X : Cx}
theorem op_powW : OpR X (binaryOp .Pow) (rI CPw fun i j => .int (i ^ j.toNat)) := opI fun _ _ _ _ _ _ _ hc q => pow_int hc.1 hc.2 q
end
section
variable {P : Program} {w : World} {K : PySem.W.Frag} {mg : Str → Option Value} {base : Heap}
/-! ### _law_pot -/
def spPot (K : PySem.W.Frag) : Sp := fun vs H Q _ => ∃ (a : Addr) (ns : List Int) (k : Nat), vs = [.ref a, .int (k : Int)] ∧ SqL K H a (ns.map V.int) ∧ k ≤ 2 ∧ ∀ (p : Addr) H', H p = none → Same H H' → Pot H' p 0 → Q (.ref p) H'
theorem ok_pot {f : Addr} {fd : FuncData} {k : Nat} (F : Fun K "_law_pot" "_law_pot" sPot f fd) (mi : mg "int" = none) (ma : mg "abs" = none) (ml : mg "len" = none) : FnOk P w K mg base CX0 (k + 1) f fd ["_law_script", "_law_k"] (spPot K) := by
  refine F.ok scPot (fun vs H Q E h => ?_) (fun cdv A outer s H vs Q E hr h => ?_)
  · obtain ⟨a, ns, k, rfl, _⟩ := h
    rfl
  · obtain ⟨a, ns, k, rfl, hS, hk, q⟩ := h
    refine ⟨_, Evl.pss_cut (ps_set (i := 2) scPot.nd rfl (.inl rfl) (pe_ifExp (pt_cmpR op_lt (pv 1) (pe_callB call_len_seq (by rfl) ml PySem.boot_len (pa_cons (pv 0) pa_nil)) (nomark _))
        (pe_ix ix_list (pv 0) (pv 1) (fun _ _ => rfl)) (pe_op op_add (pe_op op_mul pe_int (pv 1)) pe_int)))
      (pss_cons (ps_set (i := 3) scPot.nd rfl (.inl rfl) (pe_op op_mul (pe_op op_mod (pe_callTy call_int1 (by rfl) mi PySem.Pv.boot_int (pa_cons (pe_callB call_abs (by rfl) ma (by decide +kernel) (pa_cons (pv 2) pa_nil)) pa_nil))
          (pe_op op_powW (pe_op op_pow pe_int pe_int) pe_int))
        (pe_callTy call_int1 (by rfl) mi PySem.Pv.boot_int (pa_cons (pe_cmpR op_ge (pe_callB call_abs (by rfl) ma (by decide +kernel) (pa_cons (pv 2) pa_nil)) (pe_op op_pow pe_int pe_int) (nomark _)) pa_nil))))
      (pss_one (ps_ret (pe_lst (pa_cons (pv 3) (pa_cons (pe_op op_mod (pe_callTy call_int1 (by rfl) mi PySem.Pv.boot_int (pa_cons
          (pe_op op_add (pe_op op_add (pe_op op_mul (pe_op op_mod (pe_callTy call_int1 (by rfl) mi PySem.Pv.boot_int (pa_cons (pv 2) pa_nil)) pe_int) pe_int) (pe_op op_mul (pe_op op_mul pe_int (pv 1)) (pv 1))) pe_int) pa_nil)) pe_int)
        (pa_cons pe_int pa_nil))))))), ?_⟩
    refine ⟨fun σ H' => ∃ c : Int, σ = [some (.ref a), some (.int k), some (.int c), none] ∧ H' = H, ?_, fun σ H' hM => ?_⟩
    · refine ⟨.int k, rfl, .ref a, rfl, a, _, rfl, .inl hS, _, _, rfl, rfl, _, rfl, ?_⟩
      refine ite2 (fun h => ?_) (fun h => ?_)
      · have h1 : (k : Int) < ((ns.map V.int).length : Int) := of_decide_eq_true h
        rw [List.length_map] at h1
        have hk2 : k < ns.length := by omega
        exact ⟨.ref a, rfl, .int k, rfl, a, _, k, .int ns[k], rfl, rfl, hS, atI_nat (by rw [List.getElem?_map, List.getElem?_eq_getElem hk2] <;> rfl), ns[k], rfl, rfl⟩
      · exact ⟨.int k, rfl, _, _, rfl, rfl, .inl ⟨by decide, by decide⟩, _, _, rfl, rfl, _, rfl, rfl⟩
    · obtain ⟨c, rfl, rfl⟩ := hM
      have p0 : (0 : Int) < (10 ^ Int.toNat 60) ^ Int.toNat 5 := by decide +kernel
      have m0 : ∀ z : Int, 0 ≤ z % (10 ^ Int.toNat 60) ^ Int.toNat 5 := fun z => Int.emod_nonneg _ (by omega)
      have b0 : ∀ b : Bool, (0 : Int) ≤ (if b = true then 1 else 0) ∧ (if b = true then (1 : Int) else 0) < 2 ^ 64 := fun b => by cases b <;> decide
      have c0 : 0 ≤ c % 2305843009213693951 ∧ c % 2305843009213693951 < 2305843009213693951 := ⟨Int.emod_nonneg _ (by decide), Int.emod_lt_of_pos _ (by decide)⟩
      refine ⟨.int c, rfl, c, rfl, .inl ⟨_, rfl, _, _, rfl, rfl, ⟨by decide, by decide, by decide⟩, _, _, rfl, rfl, ⟨by decide, by decide +kernel⟩, _, _, rfl, rfl, p0,
        .int c, rfl, c, rfl, _, _, rfl, rfl, ⟨by decide, by decide, by decide⟩, _, _, rfl, rfl, .inr ⟨_, rfl, _, _, rfl, rfl, .inr ⟨Int.lt_of_lt_of_le (by decide) (b0 _).1, (b0 _).2⟩, ?_⟩⟩⟩
      refine ⟨_, rfl, .int c, rfl, .inl ⟨_, rfl, _, _, rfl, rfl, by show (0 : Int) < 2305843009213693951; decide, _, _, rfl, rfl, .inr ⟨by decide, by decide⟩,
        .int k, rfl, _, _, rfl, rfl, .inl ⟨by decide, by decide⟩, .int k, rfl, _, _, rfl, rfl, .inl ⟨by omega, by omega⟩, _, _, rfl, rfl, _, _, rfl, rfl,
        .inl ⟨_, rfl, _, _, rfl, rfl, by show (0 : Int) < 2305843009213693921; decide, by show 3 ≤ sizeLine; decide, fun p np => q p _ np (Same.upd np) ?_⟩⟩⟩
      refine ⟨_, _, 0, upd_same, Int.mul_nonneg (m0 _) (b0 _).1, Int.emod_nonneg _ (by decide), Int.lt_trans (Int.emod_lt_of_pos _ (by decide)) (by decide), Int.le_refl _, Int.le_refl _⟩
/-! ### _law_any -/
def spAny (K : PySem.W.Frag) : Sp := fun vs H Q _ => ∃ (p : Addr) (n : Int) (x : V), vs = [.ref p, x] ∧ Pot H p n ∧ n < 1000000 ∧
  ((∃ z : Str, x = .str z ∧ 0 < z.length ∧ z.length ≤ 1000 ∧ ∀ (c : Nat) H', c ∈ z.cps.toList → Pot H' p (n + 1) → Kp p H H' → Q (.str ⟨#[c]⟩) H') ∨
   (∃ (a : Addr) (xs : List V), x = .ref a ∧ (∀ {H'}, Kp p H H' → SqL K H' a xs) ∧ 0 < xs.length ∧ xs.length ≤ 1000 ∧ ∀ (v : V) H', v ∈ xs → Pot H' p (n + 1) → Kp p H H' → Q v H'))
theorem atI_of {α : Type} {xs : List α} {r : Int} (h0 : 0 ≤ r) (h1 : r < (xs.length : Int)) : ∃ x, atI xs r = some x ∧ x ∈ xs := by
  obtain ⟨n, rfl⟩ := Int.eq_ofNat_of_zero_le h0
  have hn : n < xs.length := by omega
  exact ⟨xs[n], atI_nat (List.getElem?_eq_getElem hn), List.getElem_mem hn⟩
theorem ok_any {f fD : Addr} {fd fdD : FuncData} {k : Nat} (F : Fun K "_law_any" "_law_any" sAny f fd) (FD : Fun K "_law_draw" "_law_draw" sDraw fD fdD) (bD : Binds K fdD ["_law_pot_here", "_law_many"] []) (gD : mg "_law_draw" = some (.ref fD))
    (GD : FnOk P w K mg base CX0 (k + 1) fD fdD ["_law_pot_here", "_law_many"] spDraw) (ml : mg "len" = none) : FnOk P w K mg base CX0 (k + 2) f fd ["_law_pot_here", "_law_items"] (spAny K) := by
  refine F.ok scAny (fun vs H Q E h => ?_) (fun cdv A outer s H vs Q E hr h => ?_)
  · obtain ⟨p, n, x, rfl, _⟩ := h
    rfl
  · obtain ⟨p, n, x, rfl, hp, hn, h⟩ := h
    refine ⟨_, pss_one (ps_ret (pe_ix ix_seq (pv 1) (pe_call GD hr (by rfl) gD FD.kp bD .nil pass0 (pa_cons (pv 0) (pa_cons (pe_callB (CallR.or call_len_seq call_len_str) (by rfl) ml PySem.boot_len (pa_cons (pv 1) pa_nil)) pa_nil))) (fun _ _ => rfl))), ?_⟩
    rcases h with ⟨z, rfl, z0, z1, q⟩ | ⟨a, xs, rfl, hS, x0, x1, q⟩
    · have zl : z.length ≤ sizeLine := Nat.le_trans z1 (by decide)
      refine ⟨.str z, rfl, .ref p, rfl, .str z, rfl, .inr ⟨z, rfl, zl, p, n, _, rfl, hp, hn, by omega, by omega, fun r H' h0 h1 hp' hk => ?_⟩⟩
      rw [str_len] at h1
      obtain ⟨c, e, hc⟩ := atI_of h0 h1
      exact .inr (.inr ⟨z, r, c, rfl, rfl, zl, e, q c H' hc hp' hk⟩)
    · refine ⟨.ref a, rfl, .ref p, rfl, .ref a, rfl, .inl ⟨a, xs, rfl, .inl (hS (Kp.refl p H)), p, n, _, rfl, hp, hn, by omega, by omega, fun r H' h0 h1 hp' hk => ?_⟩⟩
      obtain ⟨v, e, hv⟩ := atI_of h0 h1
      exact .inl ⟨a, xs, r, v, rfl, rfl, hS hk, e, q v H' hv hp' hk⟩
/-! ### _law_text -/
theorem em : (Str.ofString "").cps.toList = [] := by decide +kernel
theorem joinL_ones : ∀ cs : List Nat, TL.joinL [] (cs.map fun c => [c]) = cs
  | [] => rfl
  | [c] => rfl
  | c :: d :: r => by
    show [c] ++ ([] ++ TL.joinL [] ((d :: r).map fun c => [c])) = _
    rw [joinL_ones (d :: r)] <;> rfl
theorem join_ones (cs : List Nat) : Txt.join (Str.ofString "") (cs.map fun c => (⟨#[c]⟩ : Str)) = tx cs := by
  rw [TL.join_eq]
  refine TL.ext_tl ?_
  rw [TL.tl_join, TL.tl, em, List.map_map]
  exact joinL_ones cs
theorem sum_ones (cs : List Nat) : ((cs.map fun c => (⟨#[c]⟩ : Str)).map (·.length)).sum = cs.length := by
  induction cs with
  | nil => rfl
  | cons c r ih =>
    rw [List.map_cons, List.map_cons, List.sum_cons, ih, List.length_cons]
    show 1 + r.length = r.length + 1
    omega
theorem Pot.up {H : Hp} {p D : Addr} {o : HO} {n : Int} (h : Pot H p n) (hD : H D = none) : Pot (upd H D o) p n := by
  obtain ⟨a, b, c, e, r⟩ := h
  refine ⟨a, b, c, ?_, r⟩
  rw [upd_ne (ne_of_none e hD)]
  exact e
theorem Pot.ne {H : Hp} {p D : Addr} {n : Int} (h : Pot H p n) (hD : H D = none) : D ≠ p := by
  obtain ⟨a, b, c, e, r⟩ := h
  exact (ne_of_none e hD).symm
theorem Pot.wr {H : Hp} {p D : Addr} {o : HO} {n : Int} (h : Pot H p n) (hD : D ≠ p) : Pot (upd H D o) p n := by
  obtain ⟨a, b, c, e, r⟩ := h
  refine ⟨a, b, c, ?_, r⟩
  rw [upd_ne hD.symm]
  exact e
def spText : Sp := fun vs H Q _ => ∃ (p : Addr) (n : Int) (L : Str) (m : Nat), vs = [.ref p, .str L, .int (m : Int)] ∧ Pot H p n ∧ n + m + 2 ≤ 1000000 ∧ m ≤ 100 ∧ 0 < L.length ∧ L.length ≤ 1000 ∧
  ∀ (t : List Nat) H', t.length ≤ m → (∀ c ∈ t, c ∈ L.cps.toList) → Pot H' p (n + m + 1) → Kp p H H' → Q (.str (tx t)) H'
theorem ok_text {f fD fA : Addr} {fd fdD fdA : FuncData} {k : Nat} (F : Fun K "_law_text" "_law_text" sText f fd) (FD : Fun K "_law_draw" "_law_draw" sDraw fD fdD) (bD : Binds K fdD ["_law_pot_here", "_law_many"] []) (gD : mg "_law_draw" = some (.ref fD))
    (GD : FnOk P w K mg base CX0 (k + 2) fD fdD ["_law_pot_here", "_law_many"] spDraw) (FA : Fun K "_law_any" "_law_any" sAny fA fdA) (bA : Binds K fdA ["_law_pot_here", "_law_items"] []) (gA : mg "_law_any" = some (.ref fA))
    (GA : FnOk P w K mg base CX0 (k + 2) fA fdA ["_law_pot_here", "_law_items"] (spAny K)) (mr : mg "range" = none) : FnOk P w K mg base CX0 (k + 3) f fd ["_law_pot_here", "_law_letters", "_law_most"] spText := by
  refine F.ok scText (fun vs H Q E h => ?_) (fun cdv A outer s H vs Q E hr h => ?_)
  · obtain ⟨p, n, L, m, rfl, _⟩ := h
    rfl
  · obtain ⟨p, n, L, m, rfl, hp, hn, hm, l0, l1, q⟩ := h
    refine ⟨_, pss_one (ps_ret (pe_join pe_str (pe_lc (own := [("_law_turn", 3)]) (g := gName 3) (tt := tYes) rfl scText.nd
        (pi_range1 rfl mr (pa_cons (pe_call GD hr (by rfl) gD FD.kp bD .nil pass0 (pa_cons (pv 0) (pa_cons (pe_op op_add (pv 2) pe_int) pa_nil))) pa_nil))
        (blkOk_by (N := ["_law_pot_here", "_law_letters", "_law_most", "_law_turn"]) (sc := defScope sText) (by decide +kernel))
        (fun _ _ _ _ _ => pg_name (i := 3) scText.nd rfl (Or.inl rfl)) (fun _ _ _ _ _ => pts_nil)
        (fun _ _ _ _ _ => pe_call GA hr (by rfl) gA FA.kp bA .nil pass0 (pa_cons (pv 0) (pa_cons (pv 1) pa_nil)))))), ?_⟩
    refine ⟨⟨_, rfl⟩, ?_⟩
    refine ⟨.ref p, rfl, .int m, rfl, _, _, rfl, rfl, p, n, _, rfl, hp, by omega, by omega, by omega, fun r H1 r0 r1 hp1 k1 => ⟨r, rfl, by omega, by omega, fun D hD => ?_⟩⟩
    obtain ⟨j, rfl⟩ := Int.eq_ofNat_of_zero_le r0
    rw [Int.toNat_natCast]
    have hj : j ≤ m := by omega
    refine lc_it (walk_range (lo := 0) (n := j)) (fun i H2 => ∃ cs : List Nat, cs.length = i ∧ (∀ c ∈ cs, c ∈ L.cps.toList) ∧ Pot H2 p (n + 1 + i) ∧ Kp p H H2 ∧ H2 D = some (.lst (cs.map fun c => V.str ⟨#[c]⟩)))
      ⟨[], rfl, (fun _ h => nomatch h), ?_, ?_, upd_same⟩ (fun _ _ _ _ => True.intro) (fun i x H2 H3 hi hP hy => ?_) (fun H2 hP => ?_)
    · exact (hp1.up hD).mono (by omega)
    · exact k1.trans (Kp.same (Same.upd hD))
    · obtain ⟨cs, hc1, hc2, hp2, k2, e2⟩ := hP
      obtain ⟨rfl, rfl⟩ := hy
      have nD : D ≠ p := hp1.ne hD
      refine ⟨rfl, .ref p, rfl, .str L, rfl, p, _, .str L, rfl, hp2, by omega, .inl ⟨L, rfl, l0, l1, fun c H5 hc hp5 k5 => ?_⟩⟩
      refine ⟨_, k5 D _ nD e2, ?_, cs ++ [c], by rw [List.length_append, hc1] <;> rfl, fun d hd => ?_, (hp5.wr nD).mono (by omega), ?_, ?_⟩
      · rw [List.length_map, hc1]
        exact Nat.lt_of_lt_of_le (show i < 200 by omega) (by decide)
      · rcases List.mem_append.mp hd with z | z
        · exact hc2 d z
        · exact List.mem_singleton.mp z ▸ hc
      · intro b o nb hb
        have nbD : b ≠ D := fun z => by
          have q1 := k1 b o nb hb
          rw [z, hD] at q1
          cases q1
        rw [upd_ne nbD]
        exact k5 b o nb (k2 b o nb hb)
      · rw [upd_same, List.map_append] <;> rfl
    · obtain ⟨cs, hc1, hc2, hp2, k2, e2⟩ := hP
      have e3 : H2 D = some (.lst ((cs.map fun c => (⟨#[c]⟩ : Str)).map V.str)) := by
        rw [e2, List.map_map] <;> rfl
      refine ⟨_, D, _, rfl, rfl, .inl (.inl (.inl e3)), ?_, ?_⟩
      · rw [sum_ones, List.length_map, str_len, em]
        show cs.length + cs.length * 0 ≤ _
        omega
      · rw [join_ones]
        exact q cs H2 (by omega) hc2 (hp2.mono (by omega)) k2
end
end Sf
namespace Sf
open PySem PySem.Spec PyProof.Rows L2
abbrev sPairs : Stmt := topS 17
abbrev sWalked : Stmt := topS 18
abbrev sAllT : Stmt := topS 19
def NPairs : List Str := ["_law_texts", "_law_found", "_law_text_here", "_law_signs", "_law_at"]
theorem scPairs : FnScope NPairs ["_law_texts"] (defScope sPairs) := ⟨rfl, rfl, rfl, by decide +kernel, rfl, by decide +kernel, by decide +kernel⟩
def NWalked : List Str := ["_law_pairs_here", "_law_letters", "_law_most", "_law_found", "_law_rows", "_law_turn", "_law_longer", "_law_text_here", "_law_last", "_law_letter"]
theorem scWalked : FnScope NWalked ["_law_pairs_here", "_law_letters", "_law_most"] (defScope sWalked) := ⟨rfl, rfl, rfl, by decide +kernel, rfl, by decide +kernel, by decide +kernel⟩
def NAllT : List Str := ["_law_letters", "_law_most", "_law_found", "_law_rows", "_law_turn", "_law_longer", "_law_text_here", "_law_letter"]
theorem scAllT : FnScope NAllT ["_law_letters", "_law_most"] (defScope sAllT) := ⟨rfl, rfl, rfl, by decide +kernel, rfl, by decide +kernel, by decide +kernel⟩
section
variable {P : Program} {w : World} {K : PySem.W.Frag} {mg : Str → Option Value} {base : Heap}
theorem SqT.same {H H' : Hp} {a : Addr} {xs : List V} (s : Same H H') (h : SqT K H a xs) : SqT K H' a xs :=
  h.elim (fun r => .inl (r.elim (fun e => .inl (s _ _ e)) (fun ⟨u, e⟩ => .inr ⟨u, s _ _ e⟩))) .inr
/-! ### _law_pairs -/
def spPairs (K : PySem.W.Frag) : Sp := fun vs H Q _ => ∃ (a : Addr) (xs : List Str), vs = [.ref a] ∧ SqT K H a (xs.map V.str) ∧ xs.length ≤ 200 ∧ (∀ x ∈ xs, x.length ≤ 10) ∧
  ∀ (ys : List Str) (p : Addr) H', SrtOf (xs.flatMap fun x => pin x.cps.toList) ys → H p = none → Same H H' → H' p = some (.tup (ys.map V.str)) → Q (.ref p) H'
theorem cut2 {z : Str} {i : Nat} {a b : Nat} (h1 : z.cps.toList[i]? = some a) (h2 : z.cps.toList[i + 1]? = some b) : cutS z (some (i : Int)) (some ((i : Int) + 2)) = two a b := by
  refine TL.ext_tl ?_
  show ((z.cps.toList.drop (HT.sIx z.length 0 (some (i : Int)))).take (HT.sIx z.length z.length (some ((i : Int) + 2)) - HT.sIx z.length 0 (some (i : Int)))).toArray.toList = [a, b]
  have l2 : i + 1 < z.cps.toList.length := (List.getElem?_eq_some_iff.mp h2).1
  have e2 : ((i : Int) + 2) = ((i + 2 : Nat) : Int) := by omega
  rw [e2, HT.sIx_nat, HT.sIx_nat, str_len, Nat.min_eq_left (by omega), Nat.min_eq_left (by omega), show i + 2 - i = 2 by omega]
  have d1 : z.cps.toList.drop i = a :: b :: z.cps.toList.drop (i + 2) := by
    rw [List.drop_eq_getElem_cons (show i < z.cps.toList.length by omega), List.drop_eq_getElem_cons l2]
    rw [List.getElem?_eq_getElem (by omega)] at h1 h2
    rw [Option.some.inj h1, Option.some.inj h2]
  rw [d1] <;> rfl
theorem ok_pairs {f : Addr} {fd : FuncData} {k : Nat} (F : Fun K "_law_pairs" "_law_pairs" sPairs f fd) (mt : mg "tuple" = none) (ms : mg "sorted" = none) (mS : mg "set" = none) (mr : mg "range" = none) (ml : mg "len" = none) :
    FnOk P w K mg base CX0 (k + 1) f fd ["_law_texts"] (spPairs K) := by
  refine F.ok scPairs (fun vs H Q E h => ?_) (fun cdv A outer s H vs Q E hr h => ?_)
  · obtain ⟨a, xs, rfl, _⟩ := h
    rfl
  · obtain ⟨a, xs, rfl, hS, hl, ht, q⟩ := h
    refine ⟨_, pss_cons (ps_set (i := 1) scPairs.nd rfl (.inl rfl) (pe_lst pa_nil))
      (pss_cons (ps_for PassesOwn.never rfl (pi_tup (pv 0)) (pg_name (i := 2) scPairs.nd rfl (.inl rfl))
        (pss_cons (ps_set (i := 3) scPairs.nd rfl (.inr rfl) (pe_op op_add_str (pe_op op_add_str pe_str (pv 2)) pe_str))
        (pss_one (ps_expr (pe_bm PySem.F.plainAttrs_list PySem.F.slot_list_extend PySem.F.type_list_extend mt_extend (pv 1) (pa_cons
          (pe_lc (own := [("_law_at", 4)]) (g := gName 4) (tt := tYes) rfl scPairs.nd
            (pi_range1 rfl mr (pa_cons (pe_op op_sub (pe_callB call_len_str (by rfl) ml PySem.boot_len (pa_cons (pv 3) pa_nil)) pe_int) pa_nil))
            (blkOk_by (N := NPairs) (sc := defScope sPairs) (by decide +kernel))
            (fun _ _ _ _ _ => pg_name (i := 4) scPairs.nd rfl (Or.inl rfl)) (fun _ _ _ _ _ => pts_nil)
            (fun _ _ _ _ _ => pe_slice sl_str (pv 3) (po_some (pv 4)) (po_some (pe_op op_add (pv 4) pe_int)))) pa_nil))))))
      (pss_one (ps_ret (pe_tupleOf (by rfl) mt (pe_callB (cr_sortedTx rfl) (by rfl) ms (by decide +kernel) (pa_cons (pe_callTy (cr_setTx rfl) (by rfl) mS PySem.Pv.boot_set (pa_cons (pv 1) pa_nil)) pa_nil)))))), ?_⟩
    refine ⟨Nat.zero_le _, fun o no => ?_⟩
    have tlen : ∀ i, (((xs.take i).flatMap fun x => pin x.cps.toList)).length ≤ 200 * 11 := fun i => by
      have q1 := flat_len (fun x => pin x.cps.toList) 11 (xs.take i) fun x hx => by
        have h2 := ht x (List.mem_of_mem_take hx)
        rw [str_len] at h2
        rw [pin_len]
        omega
      have q2 := List.length_take_le' i xs
      have q3 : (xs.take i).length * 11 ≤ 200 * 11 := Nat.mul_le_mul_right 11 (Nat.le_trans q2 hl)
      omega
    refine ⟨.ref a, rfl, a, rfl, ⟨_, SqT.same (Same.upd no) hS⟩, ?_⟩
    refine for_it (walk_tup (K := K) (a := a) (xs := xs.map V.str)) (fun i σ H2 => ∃ y2 y3 y4, σ = [some (.ref a), some (.ref o), y2, y3, y4] ∧ Same H H2 ∧ H2 o = some (.lst (((xs.take i).flatMap fun x => pin x.cps.toList).map V.str)))
      ⟨none, none, none, rfl, Same.upd no, upd_same⟩ (fun i σ H2 _ hP => ?_) (fun i v σ H2 H3 hi hP hy => ?_) (fun σ H2 hP => ?_)
    · obtain ⟨y2, y3, y4, _, s2, _⟩ := hP
      exact SqT.same s2 hS
    · obtain ⟨y2, y3, y4, rfl, s2, e2⟩ := hP
      obtain ⟨rfl, hv⟩ := hy
      rw [List.getElem?_map] at hv
      cases hx : xs[i]? with
      | none =>
        rw [hx] at hv
        cases hv
      | some x =>
        rw [hx] at hv
        obtain rfl : V.str x = v := Option.some.inj hv
        have h2 := ht x (List.mem_of_getElem? hx)
        rw [str_len] at h2
        have sl : ∀ n : Nat, n ≤ 20000 → n ≤ sizeLine := fun n h => Nat.le_trans h (by decide)
        have l1 : (Str.ofString "^").length = 1 := by
          rw [str_len, bg] <;> rfl
        have l2 : (Str.ofString "$").length = 1 := by
          rw [str_len, en] <;> rfl
        have l3 := len_ap (Str.ofString "^") x
        rw [str_len x] at l3
        refine ⟨.str x, rfl, _, _, rfl, rfl, sl _ (by rw [str_len x]; omega), _, _, rfl, rfl, sl _ (by omega), ?_⟩
        generalize hz : Str.ofString "^" ++ x ++ Str.ofString "$" = z
        have ez : z.cps.toList = 94 :: (x.cps.toList ++ [36]) := by
          rw [← hz, tl_ap, tl_ap, bg, en] <;> rfl
        have lz : z.length = x.cps.toList.length + 2 := by
          rw [str_len, ez, List.length_cons, List.length_append] <;> rfl
        have ep : (pin x.cps.toList).length = x.cps.toList.length + 1 := pin_len _
        refine ⟨.ref o, rfl, .inl ⟨rfl, _, .inl (.inl e2)⟩, .str z, rfl, z, rfl, sl _ (by omega), _, _, rfl, rfl, _, rfl, by omega, by omega, fun D hD => ?_⟩
        have en1 : ((z.length : Int) - 1).toNat = x.cps.toList.length + 1 := by omega
        rw [en1]
        refine lc_map (walk_range (lo := 0) (n := x.cps.toList.length + 1)) (fun j => .str ((pin x.cps.toList).getD j Str.empty)) (by omega) hD (fun _ _ => True.intro) (fun j y H4 H5 N hj s4 hy hN => ?_) (fun H4 s4 e4 => ?_)
        · obtain ⟨rfl, rfl⟩ := hy
          have g1 : z.cps.toList[j]? = some (z.cps.toList.getD j 0) := by
            rw [List.getD_eq_getElem?_getD, List.getElem?_eq_getElem (by rw [← str_len]; omega)] <;> rfl
          have g2 : z.cps.toList[j + 1]? = some (z.cps.toList.getD (j + 1) 0) := by
            rw [List.getD_eq_getElem?_getD, List.getElem?_eq_getElem (by rw [← str_len]; omega)] <;> rfl
          have q2 := hN _ (Same.refl _)
          have e : (pin x.cps.toList).getD j Str.empty = two (z.cps.toList.getD j 0) (z.cps.toList.getD (j + 1) 0) := getD_at (by
            unfold pin
            rw [← ez]
            exact prs_get _ j _ _ g1 g2)
          rw [e, ← cut2 g1 g2] at q2
          have e0 : (0 : Int) + (j : Int) = (j : Int) := Int.zero_add _
          refine ⟨rfl, .str z, rfl, .int ((0 : Int) + (j : Int)), rfl, _, rfl, .int ((0 : Int) + (j : Int)), rfl, _, _, rfl, rfl, _, rfl, z, rfl, sl _ (by omega), ?_⟩
          rw [e0]
          exact q2
        · have e5 : H4 D = some (.lst ((pin x.cps.toList).map V.str)) := by
            rw [e4, ← ep, map_getD V.str Str.empty]
          have e6 := s4 _ _ e2
          refine ⟨o, D, _, _, rfl, rfl, e6, e5, ?_, _, _, _, rfl, Same.mut (s2.trans s4) no, ?_⟩
          · have q1 := tlen i
            rw [List.length_map, List.length_map, pin_len]
            exact sl _ (by omega)
          · rw [upd_same, List.take_add_one, hx, List.flatMap_append, List.map_append]
            show some (HO.lst (_ ++ List.map V.str (pin x.cps.toList))) = some (HO.lst (_ ++ List.map V.str (List.flatMap (fun x => pin x.cps.toList) [x])))
            rw [List.flatMap_cons, List.flatMap_nil, List.append_nil]
    · obtain ⟨y2, y3, y4, rfl, s2, e2⟩ := hP
      rw [List.length_map, List.take_length] at e2
      have t2 := tlen xs.length
      rw [List.take_length] at t2
      refine ⟨.ref o, rfl, o, _, rfl, .inl (.inl (.inl e2)), ?_, fun S nS => ?_⟩
      · exact Nat.lt_of_le_of_lt (Nat.succ_le_succ t2) (by decide)
      have slen : (toSet (xs.flatMap fun x => pin x.cps.toList)).length < scanBound := by
        have q1 := toSet_len (xs.flatMap fun x => pin x.cps.toList)
        exact Nat.lt_of_le_of_lt (Nat.le_trans q1 t2) (by decide)
      refine ⟨S, _, rfl, upd_same, slen, fun ys p h1 h2 np => .inl ⟨p, _, rfl, .inl (.inl upd_same), fun r nr => ?_⟩⟩
      have s3 : Same H (upd (upd H2 S (SetTx P w S (toSet (xs.flatMap fun x => pin x.cps.toList)))) p (.lst (ys.map V.str))) := s2.trans ((Same.upd nS).trans (Same.upd np))
      exact q ys r _ ⟨h1, h2⟩ (s3.free nr) (s3.trans (Same.upd nr)) upd_same
end
end Sf
namespace Sf
open PySem PySem.Spec PyProof.Rows L2
theorem rws_len (mem : Str → Bool) (L : List Nat) (hL : L.length ≤ 3) (n : Nat) (hn : n ≤ 5) : (rws mem L n).length ≤ 243 := by
  have h1 := List.length_filter_le (chn mem) (lev L n)
  have h2 := lev_len L 3 hL n
  have h3 : 3 ^ n ≤ 3 ^ 5 := Nat.pow_le_pow_right (by decide) hn
  exact Nat.le_trans h1 (Nat.le_trans h2 (Nat.le_trans h3 (by decide)))
theorem fnd_len (mem : Str → Bool) (L : List Nat) (hL : L.length ≤ 3) : ∀ n, n ≤ 6 → (fnd mem L n).length ≤ n * 243
  | 0, _ => Nat.zero_le _
  | n + 1, h => by
    have h1 := fnd_len mem L hL n (by omega)
    have h2 := rws_len mem L hL n (by omega)
    have h3 := List.length_filter_le (endOk mem) (rws mem L n)
    show (fnd mem L n ++ (rws mem L n).filter (endOk mem)).length ≤ _
    rw [List.length_append]
    omega
theorem mor_len (mem : Str → Bool) (L : List Nat) (t : List Nat) : (mor mem L t).length ≤ L.length := by
  unfold mor
  rw [List.length_map]
  exact List.length_filter_le _ _
theorem flatm_len {α β : Type} (f : α → List β) (k : Nat) : ∀ xs : List α, (∀ x ∈ xs, (f x).length ≤ k) → (xs.flatMap f).length ≤ xs.length * k
  | [], _ => Nat.zero_le _
  | x :: r, h => by
    have h1 := h x List.mem_cons_self
    have h2 := flatm_len f k r fun y hy => h y (List.mem_cons_of_mem _ hy)
    rw [List.flatMap_cons, List.length_append, List.length_cons, Nat.add_mul]
    omega
/-- the rows: (text, last sign) each, in tuples -/
def RowsAt (H : Hp) : List V → List (List Nat) → Prop := Paired fun x t => ∃ T, x = .ref T ∧ H T = some (.tup [.str (tx t), .str (one (lst t))])
theorem RowsAt.mono {H H' : Hp} (h : ∀ T ys, H T = some (.tup ys) → H' T = some (.tup ys)) : ∀ {xs : List V} {ts : List (List Nat)}, RowsAt H xs ts → RowsAt H' xs ts
  | _, _, .nil => .nil
  | _, _, .cons ⟨T, e1, e2⟩ r => .cons ⟨T, e1, h _ _ e2⟩ (RowsAt.mono h r)
theorem RowsAt.wr {H : Hp} {xs ys : List V} {ts : List (List Nat)} {a : Addr} {o : HO} (h : RowsAt H xs ts) (ha : H a = some (.lst ys)) : RowsAt (upd H a o) xs ts :=
  h.mono fun T zs e => by
    rw [upd_ne (ne_of e ha (by intro z; cases z))]
    exact e
theorem RowsAt.same {H H' : Hp} {xs : List V} {ts : List (List Nat)} (h : RowsAt H xs ts) (s : Same H H') : RowsAt H' xs ts := h.mono fun T zs e => s _ _ e
theorem RowsAt.get : ∀ {H : Hp} {xs : List V} {ts : List (List Nat)} {i : Nat} {x : V}, RowsAt H xs ts → xs[i]? = some x → ∃ t T, ts[i]? = some t ∧ x = .ref T ∧ H T = some (.tup [.str (tx t), .str (one (lst t))])
  | _, _, _, _, _, .nil, h => by simp at h
  | _, _, _, 0, _, .cons ⟨T, e1, e2⟩ _, h => by
    rw [List.getElem?_cons_zero] at h
    cases h
    exact ⟨_, T, rfl, e1, e2⟩
  | _, _, _, i + 1, _, .cons _ r, h => by
    rw [List.getElem?_cons_succ] at h
    obtain ⟨t, T, h1, h2⟩ := RowsAt.get r h
    exact ⟨t, T, h1, h2⟩
theorem RowsAt.app : ∀ {H : Hp} {xs ys : List V} {ts us : List (List Nat)}, RowsAt H xs ts → RowsAt H ys us → RowsAt H (xs ++ ys) (ts ++ us)
  | _, _, _, _, _, .nil, h => h
  | _, _, _, _, _, .cons r t, h => .cons r (RowsAt.app t h)
theorem RowsAt.len {H : Hp} {xs : List V} {ts : List (List Nat)} (h : RowsAt H xs ts) : xs.length = ts.length := Paired.length h
theorem one_end (c : Nat) : one c ++ Str.ofString "$" = two c 36 := by
  refine TL.ext_tl ?_
  rw [TL.tl_append, TL.tl, TL.tl, en] <;> rfl
theorem one_one (c d : Nat) : one c ++ one d = two c d := rfl
theorem tx_one (t : List Nat) (d : Nat) : tx t ++ one d = tx (t ++ [d]) := by
  refine TL.ext_tl ?_
  rw [TL.tl_append] <;> rfl
theorem tx_len (t : List Nat) : (tx t).length = t.length := str_len _
section
variable {P : Program} {w : World} {K : PySem.W.Frag} {mg : Str → Option Value} {base : Heap}
def mems (ps : List Str) : Str → Bool := fun z => decide (z ∈ ps)
def spWalked (K : PySem.W.Frag) : Sp := fun vs H Q _ => ∃ (a : Addr) (ps : List Str) (L : Str) (m : Nat), vs = [.ref a, .str L, .int (m : Int)] ∧ SqT K H a (ps.map V.str) ∧ L.length ≤ 3 ∧ m ≤ 5 ∧
  ∀ (p : Addr) H', H p = none → Same H H' → H' p = some (.lst ((fnd (mems ps) L.cps.toList (m + 1)).map fun t => V.str (tx t))) → Q (.ref p) H'
theorem ok_walked {f : Addr} {fd : FuncData} {k : Nat} (F : Fun K "_law_walked" "_law_walked" sWalked f fd) (mr : mg "range" = none) :
    FnOk P w K mg base CX0 (k + 1) f fd ["_law_pairs_here", "_law_letters", "_law_most"] (spWalked K) := by
  refine F.ok scWalked (fun vs H Q E h => ?_) (fun cdv A outer s H vs Q E hr h => ?_)
  · obtain ⟨a, ps, L, m, rfl, _⟩ := h
    rfl
  · obtain ⟨a, ps, L, m, rfl, hS, hL, hm, q⟩ := h
    refine ⟨_, pss_cons (ps_par (i := 3) (j := 4) rfl scWalked.nd rfl rfl (by decide) rfl rfl (pa_cons (pe_lst pa_nil) (pa_cons (pe_lst (pa_cons (pe_tup (pa_cons pe_str (pa_cons pe_str pa_nil))) pa_nil)) pa_nil)) (by rfl))
      (pss_cons (ps_for PassesOwn.never rfl (pi_range1 rfl mr (pa_cons (pe_op op_add (pv 2) pe_int) pa_nil)) (pg_name (i := 5) scWalked.nd rfl (.inl rfl))
        (pss_cons (ps_set (i := 6) scWalked.nd rfl (.inl rfl) (pe_lst pa_nil))
        (pss_cons (ps_for PassesOwn.never rfl (pi_list (pv 4)) (pg_tup rfl (pgs_cons (pg_name (i := 7) scWalked.nd rfl (.inr rfl)) (pgs_cons (pg_name (i := 8) scWalked.nd rfl (.inr rfl)) pgs_nil)))
          (Evl.pss_cut (ps_if (pt_cmpR op_in_seq (pe_op op_add_str (pv 8) pe_str) (pv 0) (by rfl))
            (pss_one (ps_expr (pe_bm PySem.F.plainAttrs_list PySem.F.slot_list_append PySem.F.type_list_append mt_append (pv 3) (pa_cons (pv 7) pa_nil)))) pss_nil)
          (pss_one (ps_expr (pe_bm PySem.F.plainAttrs_list PySem.F.slot_list_extend PySem.F.type_list_extend mt_extend (pv 6) (pa_cons
            (pe_lc (own := [("_law_letter", 9)]) (g := gName 9) (tt := tTest (tOp (rIn K false) (tOp rAddS (tVar 8) (tVar 9)) (tVar 0))) rfl scWalked.nd (pi_str (pv 1))
              (blkOk_by (N := NWalked) (sc := defScope sWalked) (by decide +kernel)) (fun _ _ _ _ _ => pg_name (i := 9) scWalked.nd rfl (Or.inl rfl))
              (fun _ _ _ _ _ => pts_one (pt_cmpR op_in_seq (pe_op op_add_str (pv 8) (pv 9)) (pv 0) (by rfl)))
              (fun _ _ _ _ _ => pe_tup (pa_cons (pe_op op_add_str (pv 7) (pv 9)) (pa_cons (pv 9) pa_nil)))) pa_nil))))))
        (pss_one (ps_set (i := 4) scWalked.nd rfl (.inl rfl) (pv 6))))))
      (pss_one (ps_ret (pv 3)))), ?_⟩
    have sl : ∀ n : Nat, n ≤ 20000 → n ≤ sizeLine := fun n h => Nat.le_trans h (by decide)
    have sl2 : ∀ n : Nat, n ≤ 20000 → n < sizeLine := fun n h => Nat.lt_of_le_of_lt h (by decide)
    have hLc : L.cps.toList.length ≤ 3 := by
      rw [← str_len]
      exact hL
    generalize hLc2 : L.cps.toList = Lc at q hLc
    generalize hmem : mems ps = mem at q
    refine ⟨Nat.zero_le _, fun fo nfo => ⟨sl 2 (by decide), fun T0 nT0 => ⟨sl 1 (by decide), fun ro nro => ⟨_, _, rfl, ?_⟩⟩⟩⟩
    have sa : Same H (upd H fo (.lst [])) := Same.upd nfo
    have sb := Same.upd (o := HO.tup [.str (Str.ofString ""), .str (Str.ofString "^")]) nT0
    have sc := Same.upd (o := HO.lst [.ref T0]) nro
    have e0 := sc _ _ (sb _ _ (upd_same (H := H) (a := fo) (o := .lst [])))
    have nfr : ro ≠ fo := (ne_of_none (sb _ _ (upd_same (H := H) (a := fo) (o := .lst []))) nro).symm
    have nHro : H ro = none := (sa.trans sb).free nro
    have em1 : ((m : Int) + 1).toNat = m + 1 := by omega
    refine ⟨.int m, rfl, _, _, rfl, rfl, _, rfl, by omega, by omega, ?_⟩
    show ∃ W : Nat → Nat → L2.St → Hp → Prop, _
    rw [em1]
    refine for_it (walk_range (lo := 0) (n := m + 1)) (fun i σ H2 => ∃ ro xs y5 y6 y7 y8 y9, σ = [some (.ref a), some (.str L), some (.int m), some (.ref fo), some (.ref ro), y5, y6, y7, y8, y9] ∧ Same H H2 ∧ ro ≠ fo ∧ H ro = none ∧
        H2 fo = some (.lst ((fnd mem Lc i).map fun t => V.str (tx t))) ∧ H2 ro = some (.lst xs) ∧ RowsAt H2 xs (rws mem Lc i))
      ⟨ro, _, none, none, none, none, none, rfl, sa.trans (sb.trans sc), nfr, nHro, e0, upd_same, ?_⟩ (fun _ _ _ _ _ => True.intro) (fun i x σ H2 H2' hi hP hy => ?_) (fun σ H2 hP => ?_)
    · refine .cons ⟨T0, rfl, ?_⟩ .nil
      rw [sc _ _ upd_same, TL.ext_tl (x := Str.ofString "") (y := tx []) em, TL.ext_tl (x := Str.ofString "^") (y := one (lst [])) bg]
    · obtain ⟨ro, xs, y5, y6, y7, y8, y9, rfl, s2, nfr, nHro, eF, eR, hR⟩ := hP
      obtain ⟨rfl, rfl⟩ := hy
      generalize hrw : rws mem Lc i = rows at hR
      have lrow : rows.length ≤ 243 := by
        rw [← hrw]
        exact rws_len mem Lc hLc i (by omega)
      have lfnd := fnd_len mem Lc hLc i (by omega)
      -- longer = []
      refine ⟨Nat.zero_le _, fun lo nlo => ?_⟩
      have nHlo : H lo = none := s2.free nlo
      have nlf : lo ≠ fo := (ne_of_none eF nlo).symm
      have nlr : lo ≠ ro := (ne_of_none eR nlo).symm
      refine ⟨.ref ro, rfl, ro, rfl, ⟨xs, .inl (.inl (Same.upd nlo _ _ eR))⟩, ?_⟩
      refine for_it (walk_list (K := K) (a := ro) (xs := xs)) (fun j σ H4 => ∃ zs y7 y8 y9, σ = [some (.ref a), some (.str L), some (.int m), some (.ref fo), some (.ref ro), some (.int ((0 : Int) + (i : Nat))), some (.ref lo), y7, y8, y9] ∧ Same H H4 ∧
          H4 ro = some (.lst xs) ∧ RowsAt H4 xs rows ∧ H4 fo = some (.lst ((fnd mem Lc i ++ (rows.take j).filter (endOk mem)).map fun t => V.str (tx t))) ∧ H4 lo = some (.lst zs) ∧ RowsAt H4 zs ((rows.take j).flatMap (mor mem Lc)))
        ⟨[], y7, y8, y9, rfl, s2.trans (Same.upd nlo), Same.upd nlo _ _ eR, hR.same (Same.upd nlo), ?_, upd_same, .nil⟩ (fun j σ H4 _ hP => ?_) (fun j v σ H4 H4' hj hP hy => ?_) (fun σ H4 hP => ?_)
      · rw [Same.upd nlo _ _ eF, List.take_zero, List.filter_nil, List.append_nil]
      · obtain ⟨zs, y7, y8, y9, _, _, eR4, _⟩ := hP
        exact .inl (.inl eR4)
      · obtain ⟨zs, y7, y8, y9, rfl, s4, eR4, hR4, eF4, eL4, hL4⟩ := hP
        obtain ⟨rfl, hv⟩ := hy
        obtain ⟨t, T, ht, rfl, eT⟩ := RowsAt.get hR4 hv
        have htk : rows.take (j + 1) = rows.take j ++ [t] := by
          rw [List.take_add_one, ht] <;> rfl
        have lz := hL4.len
        have lz2 : ((rows.take j).flatMap (mor mem Lc)).length ≤ 243 * 3 := by
          have q1 := flatm_len (mor mem Lc) 3 (rows.take j) fun x _ => Nat.le_trans (mor_len mem Lc x) hLc
          have q2 := List.length_take_le' j rows
          omega
        have lf2 : ((fnd mem Lc i ++ (rows.take j).filter (endOk mem)).map fun t => V.str (tx t)).length ≤ 5000 := by
          have q1 := List.length_filter_le (endOk mem) (rows.take j)
          have q2 := List.length_take_le' j rows
          rw [List.length_map, List.length_append]
          omega
        have hlt : t.length ≤ 10 := by
          have q1 : t ∈ rows := List.mem_of_getElem? ht
          rw [← hrw] at q1
          have q2 := (lev_mem (List.mem_filter.mp q1).1).1
          omega
        refine ⟨T, _, rfl, .inl (.inl eT), rfl, _, _, rfl, _, _, rfl, rfl, ?_⟩
        refine ⟨fun σ H5 => σ = [some (.ref a), some (.str L), some (.int m), some (.ref fo), some (.ref ro), some (.int ((0 : Int) + (i : Nat))), some (.ref lo), some (.str (tx t)), some (.str (one (lst t))), y9] ∧ Same H H5 ∧
          H5 ro = some (.lst xs) ∧ RowsAt H5 xs rows ∧ H5 fo = some (.lst ((fnd mem Lc i ++ (rows.take (j + 1)).filter (endOk mem)).map fun t => V.str (tx t))) ∧ H5 lo = some (.lst zs) ∧ RowsAt H5 zs ((rows.take j).flatMap (mor mem Lc)), ?_, fun σ H5 hM => ?_⟩
        · refine ⟨.str (one (lst t)), rfl, _, _, rfl, rfl, sl _ ?_, .ref a, rfl, a, _, rfl, .inr (SqT.same s4 hS), rfl, flat_str ps, _, rfl, ?_⟩
          · rw [str_len, str_len, en]
            show 1 + 1 ≤ 20000
            decide
          have hdec : inV (.str (one (lst t) ++ Str.ofString "$")) (ps.map V.str) = endOk mem t := by
            rw [one_end, inV_str, ← hmem] <;> rfl
          show if (inV (.str (one (lst t) ++ Str.ofString "$")) (ps.map V.str)) = true then _ else _
          rw [hdec]
          refine ite2 (fun h => ?_) (fun h => ?_)
          · refine ⟨.ref fo, rfl, .inl ⟨rfl, _, .inl (.inl eF4)⟩, .str (tx t), rfl, fo, _, _, rfl, rfl, eF4, sl2 _ (by omega), rfl, Same.mut s4 nfo, ?_, hR4.wr eF4, ?_, ?_, hL4.wr eF4⟩
            · rw [upd_ne nfr]
              exact eR4
            · rw [upd_same, htk, List.filter_append, List.filter_cons, if_pos h, List.filter_nil, ← List.append_assoc, List.map_append (l₂ := [t])] <;> rfl
            · rw [upd_ne nlf]
              exact eL4
          · refine ⟨rfl, s4, eR4, hR4, ?_, eL4, hL4⟩
            rw [eF4, htk, List.filter_append, List.filter_cons, if_neg h, List.filter_nil, List.append_nil]
        · obtain ⟨rfl, s5, eR5, hR5, eF5, eL5, hL5⟩ := hM
          refine ⟨.ref lo, rfl, .inl ⟨rfl, _, .inl (.inl eL5)⟩, .str L, rfl, L, rfl, fun D hD => ?_⟩
          refine lc_it (walk_str (z := L)) (fun n H6 => ∃ us, Same H5 H6 ∧ H6 D = some (.lst us) ∧ RowsAt H6 us (((Lc.take n).filter fun c => mem (two (lst t) c)).map fun c => t ++ [c]))
            ⟨[], Same.upd hD, upd_same, .nil⟩ (fun _ _ _ _ => True.intro) (fun n x H6 H6' hn hP hy => ?_) (fun H6 hP => ?_)
          · obtain ⟨us, s6, eD, hU⟩ := hP
            obtain ⟨rfl, c, hc, rfl⟩ := hy
            have hcn : Lc[n]? = some c := by
              rw [← hLc2, Array.getElem?_toList]
              exact hc
            have htn : Lc.take (n + 1) = Lc.take n ++ [c] := by
              rw [List.take_add_one, hcn] <;> rfl
            have lu : us.length ≤ 3 := by
              have q0 := hU.len
              rw [List.length_map] at q0
              have q1 := List.length_filter_le (fun c => mem (two (lst t) c)) (Lc.take n)
              have q2 := List.length_take_le' n Lc
              omega
            refine ⟨rfl, .str (one (lst t)), rfl, .str ⟨#[c]⟩, rfl, _, _, rfl, rfl, sl _ (by show 1 + 1 ≤ 20000; decide), .ref a, rfl, a, _, rfl, .inr (SqT.same (s5.trans s6) hS), rfl, flat_str ps, _, rfl, ?_⟩
            have hdec : inV (.str (one (lst t) ++ (⟨#[c]⟩ : Str))) (ps.map V.str) = mem (two (lst t) c) := by
              rw [inV_str, ← hmem] <;> rfl
            show if (inV (.str (one (lst t) ++ (⟨#[c]⟩ : Str))) (ps.map V.str)) = true then _ else _
            rw [hdec]
            refine ite2 (fun h => ?_) (fun h => ?_)
            · refine ⟨.str (tx t), rfl, .str ⟨#[c]⟩, rfl, _, _, rfl, rfl, sl _ (by rw [tx_len]; show t.length + 1 ≤ 20000; omega), .str ⟨#[c]⟩, rfl, sl 2 (by decide), fun T nT => ?_⟩
              have s7 := Same.upd (o := HO.tup [.str (tx t ++ ⟨#[c]⟩), .str ⟨#[c]⟩]) nT
              refine ⟨us, s7 _ _ eD, sl2 _ (by omega), us ++ [.ref T], Same.mut (s6.trans s7) hD, upd_same, ?_⟩
              rw [htn, List.filter_append, List.filter_cons, if_pos h, List.filter_nil, List.map_append]
              refine RowsAt.app ((hU.same s7).wr (s7 _ _ eD)) (.cons ⟨T, rfl, ?_⟩ .nil)
              have nTD : T ≠ D := (ne_of_none eD nT).symm
              rw [upd_ne nTD, upd_same, lst_snoc, ← tx_one] <;> rfl
            · refine ⟨us, s6, eD, ?_⟩
              rw [htn, List.filter_append, List.filter_cons, if_neg h, List.filter_nil, List.append_nil]
              exact hU
          · obtain ⟨us, s6, eD, hU⟩ := hP
            have nDl : lo ≠ D := ne_of_none eL5 hD
            have ln : Lc.take L.cps.size = Lc := by
              rw [← hLc2]
              exact List.take_of_length_le (Nat.le_of_eq Array.length_toList)
            rw [ln] at hU
            have hU2 : RowsAt H6 us (mor mem Lc t) := hU
            have lu : us.length ≤ 3 := by
              have q0 := hU2.len
              have q1 := mor_len mem Lc t
              omega
            have eL6 := s6 _ _ eL5
            refine ⟨lo, D, zs, us, rfl, rfl, eL6, eD, sl _ (by omega), zs ++ us, _, _, _, rfl, Same.mut (s5.trans s6) nHlo, ?_, (hR5.same s6).wr eL6, ?_, upd_same, ?_⟩
            · rw [upd_ne nlr.symm]
              exact s6 _ _ eR5
            · rw [upd_ne nlf.symm]
              exact s6 _ _ eF5
            · rw [htk, List.flatMap_append, List.flatMap_cons, List.flatMap_nil, List.append_nil]
              exact RowsAt.app ((hL5.same s6).wr eL6) (hU2.wr eL6)
      · obtain ⟨zs, y7, y8, y9, rfl, s4, eR4, hR4, eF4, eL4, hL4⟩ := hP
        have lx : rows.take xs.length = rows := List.take_of_length_le (Nat.le_of_eq hR4.len.symm)
        rw [lx] at eF4 hL4
        refine ⟨.ref lo, rfl, lo, zs, _, _, y7, y8, y9, rfl, s4, nlf, nHlo, ?_, eL4, ?_⟩
        · rw [eF4, ← hrw] <;> rfl
        · rw [rws_succ, hrw]
          exact hL4
    · obtain ⟨ro, xs, y5, y6, y7, y8, y9, rfl, s2, nfr, nHro, eF, eR, hR⟩ := hP
      exact ⟨.ref fo, rfl, q fo H2 nfo s2 eF⟩
end
end Sf
namespace Sf
open PySem PySem.Spec PyProof.Rows L2
theorem lev_le (L : List Nat) (hL : L.length ≤ 3) (n : Nat) (hn : n ≤ 5) : (lev L n).length ≤ 243 := by
  have h2 := lev_len L 3 hL n
  have h3 : 3 ^ n ≤ 3 ^ 5 := Nat.pow_le_pow_right (by decide) hn
  exact Nat.le_trans h2 (Nat.le_trans h3 (by decide))
theorem allT_le (L : List Nat) (hL : L.length ≤ 3) : ∀ n, n ≤ 5 → (allT L n).length ≤ (n + 1) * 243
  | 0, _ => by show 1 ≤ 243; decide
  | n + 1, h => by
    have h1 := allT_le L hL n (by omega)
    have h2 := lev_le L hL (n + 1) h
    show (allT L n ++ lev L (n + 1)).length ≤ _
    rw [List.length_append]
    omega
def stx (t : List Nat) : V := .str (tx t)
section
variable {P : Program} {w : World} {K : PySem.W.Frag} {mg : Str → Option Value} {base : Heap}
def spAllT : Sp := fun vs H Q _ => ∃ (L : Str) (m : Nat), vs = [.str L, .int (m : Int)] ∧ L.length ≤ 3 ∧ m ≤ 5 ∧
  ∀ (p : Addr) H', H p = none → Same H H' → H' p = some (.lst ((allT L.cps.toList m).map stx)) → Q (.ref p) H'
theorem ok_allT {f : Addr} {fd : FuncData} {k : Nat} (F : Fun K "_law_all_texts" "_law_all_texts" sAllT f fd) (mr : mg "range" = none) :
    FnOk P w K mg base CX0 (k + 1) f fd ["_law_letters", "_law_most"] spAllT := by
  refine F.ok scAllT (fun vs H Q E h => ?_) (fun cdv A outer s H vs Q E hr h => ?_)
  · obtain ⟨L, m, rfl, _⟩ := h
    rfl
  · obtain ⟨L, m, rfl, hL, hm, q⟩ := h
    refine ⟨_, pss_cons (ps_par (i := 2) (j := 3) rfl scAllT.nd rfl rfl (by decide) rfl rfl (pa_cons (pe_lst (pa_cons pe_str pa_nil)) (pa_cons (pe_lst (pa_cons pe_str pa_nil)) pa_nil)) (by rfl))
      (pss_cons (ps_for PassesOwn.never rfl (pi_range1 rfl mr (pa_cons (pv 1) pa_nil)) (pg_name (i := 4) scAllT.nd rfl (.inl rfl))
        (pss_cons (ps_set (i := 5) scAllT.nd rfl (.inl rfl) (pe_lst pa_nil))
        (pss_cons (ps_for PassesOwn.never rfl (pi_list (pv 3)) (pg_name (i := 6) scAllT.nd rfl (.inr rfl))
          (pss_one (ps_expr (pe_bm PySem.F.plainAttrs_list PySem.F.slot_list_extend PySem.F.type_list_extend mt_extend (pv 5) (pa_cons
            (pe_lc (own := [("_law_letter", 7)]) (g := gName 7) (tt := tYes) rfl scAllT.nd (pi_str (pv 0))
              (blkOk_by (N := NAllT) (sc := defScope sAllT) (by decide +kernel)) (fun _ _ _ _ _ => pg_name (i := 7) scAllT.nd rfl (Or.inl rfl))
              (fun _ _ _ _ _ => pts_nil) (fun _ _ _ _ _ => pe_op op_add_str (pv 6) (pv 7))) pa_nil)))))
        (pss_cons (ps_set (i := 3) scAllT.nd rfl (.inl rfl) (pv 5))
        (pss_one (ps_set (i := 2) scAllT.nd rfl (.inl rfl) (pe_op op_cat (pv 2) (pv 3))))))))
      (pss_one (ps_ret (pv 2)))), ?_⟩
    have sl : ∀ n : Nat, n ≤ 20000 → n ≤ sizeLine := fun n h => Nat.le_trans h (by decide)
    have hLc : L.cps.toList.length ≤ 3 := by
      rw [← str_len]
      exact hL
    generalize hLc2 : L.cps.toList = Lc at q hLc
    have e0 : Str.ofString "" = tx [] := TL.ext_tl em
    refine ⟨sl 1 (by decide), fun fo nfo => ⟨sl 1 (by decide), fun ro nro => ⟨_, _, rfl, ?_⟩⟩⟩
    have eF0 := upd_same (H := H) (a := fo) (o := .lst [.str (Str.ofString "")])
    have nfr : fo ≠ ro := ne_of_none eF0 nro
    have sa : Same H (upd (upd H fo (.lst [.str (Str.ofString "")])) ro (.lst [.str (Str.ofString "")])) := (Same.upd nfo).trans (Same.upd nro)
    refine ⟨.int m, rfl, _, rfl, by omega, by omega, ?_⟩
    show ∃ W : Nat → Nat → L2.St → Hp → Prop, _
    rw [Int.toNat_natCast]
    refine for_it (walk_range (lo := 0) (n := m)) (fun i σ H2 => ∃ fo ro y4 y5 y6 y7, σ = [some (.str L), some (.int m), some (.ref fo), some (.ref ro), y4, y5, y6, y7] ∧ Same H H2 ∧ H fo = none ∧
        H2 fo = some (.lst ((allT Lc i).map stx)) ∧ H2 ro = some (.lst ((lev Lc i).map stx)))
      ⟨fo, ro, none, none, none, none, rfl, sa, nfo, ?_, ?_⟩ (fun _ _ _ _ _ => True.intro) (fun i x σ H2 H2' hi hP hy => ?_) (fun σ H2 hP => ?_)
    · rw [upd_ne nfr, upd_same, e0] <;> rfl
    · rw [upd_same, e0] <;> rfl
    · obtain ⟨fo, ro, y4, y5, y6, y7, rfl, s2, nfo, eF, eR⟩ := hP
      obtain ⟨rfl, rfl⟩ := hy
      have lrow := lev_le Lc hLc i (by omega)
      have lrow2 := lev_le Lc hLc (i + 1) (by omega)
      have lfnd := allT_le Lc hLc i (by omega)
      refine ⟨Nat.zero_le _, fun lo nlo => ?_⟩
      have nHlo : H lo = none := s2.free nlo
      have nlf : fo ≠ lo := ne_of_none eF nlo
      have nlr : ro ≠ lo := ne_of_none eR nlo
      refine ⟨.ref ro, rfl, ro, rfl, ⟨_, .inl (.inl (Same.upd nlo _ _ eR))⟩, ?_⟩
      refine for_it (walk_list (K := K) (a := ro) (xs := (lev Lc i).map stx)) (fun j σ H4 => ∃ y6 y7, σ = [some (.str L), some (.int m), some (.ref fo), some (.ref ro), some (.int ((0 : Int) + (i : Nat))), some (.ref lo), y6, y7] ∧ Same H H4 ∧
          H4 ro = some (.lst ((lev Lc i).map stx)) ∧ H4 fo = some (.lst ((allT Lc i).map stx)) ∧ H4 lo = some (.lst ((((lev Lc i).take j).flatMap (more1 Lc)).map stx)))
        ⟨y6, y7, rfl, s2.trans (Same.upd nlo), Same.upd nlo _ _ eR, Same.upd nlo _ _ eF, upd_same⟩ (fun j σ H4 _ hP => ?_) (fun j v σ H4 H4' hj hP hy => ?_) (fun σ H4 hP => ?_)
      · obtain ⟨y6, y7, _, _, eR4, _⟩ := hP
        exact .inl (.inl eR4)
      · obtain ⟨y6, y7, rfl, s4, eR4, eF4, eL4⟩ := hP
        obtain ⟨rfl, hv⟩ := hy
        rw [List.getElem?_map] at hv
        cases ht : (lev Lc i)[j]? with
        | none =>
          rw [ht] at hv
          cases hv
        | some t =>
          rw [ht] at hv
          obtain rfl : stx t = v := Option.some.inj hv
          have htk : (lev Lc i).take (j + 1) = (lev Lc i).take j ++ [t] := by
            rw [List.take_add_one, ht] <;> rfl
          have hlt : t.length ≤ 10 := by
            have q2 := (lev_mem (List.mem_of_getElem? ht)).1
            omega
          refine ⟨.ref lo, rfl, .inl ⟨rfl, _, .inl (.inl eL4)⟩, .str L, rfl, L, rfl, fun D hD => ?_⟩
          refine lc_map (walk_str (z := L)) (fun n => stx (t ++ [Lc.getD n 0])) (by rw [← Array.length_toList, hLc2]; omega) hD (fun _ _ => True.intro) (fun n y H5 H5' N hn s5 hy hN => ?_) (fun H5 s5 e5 => ?_)
          · obtain ⟨rfl, c, hc, rfl⟩ := hy
            have hcn : Lc[n]? = some c := by
              rw [← hLc2, Array.getElem?_toList]
              exact hc
            have q2 := hN _ (Same.refl _)
            rw [getD_at hcn] at q2
            refine ⟨rfl, stx t, rfl, .str ⟨#[c]⟩, rfl, _, _, rfl, rfl, sl _ (by rw [tx_len]; show t.length + 1 ≤ 20000; omega), ?_⟩
            show N (.str (tx t ++ one c)) _
            rw [tx_one]
            exact q2
          · have e6 : H5 D = some (.lst ((more1 Lc t).map stx)) := by
              rw [e5, ← Array.length_toList, hLc2, map_getD (fun c => stx (t ++ [c])) 0]
              unfold more1
              rw [List.map_map] <;> rfl
            have eL5 := s5 _ _ eL4
            have lm : (more1 Lc t).length ≤ 3 := by
              unfold more1
              rw [List.length_map]
              exact hLc
            have lz2 : (((lev Lc i).take j).flatMap (more1 Lc)).length ≤ 243 * 3 := by
              have q1 := flatm_len (more1 Lc) 3 ((lev Lc i).take j) fun x _ => by
                unfold more1
                rw [List.length_map]
                exact hLc
              have q2 := List.length_take_le' j (lev Lc i)
              omega
            refine ⟨lo, D, _, _, rfl, rfl, eL5, e6, sl _ (by rw [List.length_map, List.length_map]; omega), _, _, rfl, Same.mut (s4.trans s5) nHlo, ?_, ?_, ?_⟩
            · rw [upd_ne nlr]
              exact s5 _ _ eR4
            · rw [upd_ne nlf]
              exact s5 _ _ eF4
            · rw [upd_same, htk, List.flatMap_append, List.flatMap_cons, List.flatMap_nil, List.append_nil, List.map_append]
      · obtain ⟨y6, y7, rfl, s4, eR4, eF4, eL4⟩ := hP
        rw [List.length_map, List.take_length] at eL4
        refine ⟨.ref lo, rfl, .ref fo, rfl, .ref lo, rfl, fo, lo, _, _, rfl, rfl, eF4, eL4, sl _ ?_, fun no nno => ?_⟩
        · rw [List.length_map, List.length_map]
          have q1 : ((lev Lc i).flatMap (more1 Lc)).length ≤ 243 := lrow2
          omega
        · refine ⟨no, lo, _, _, _, _, rfl, s4.trans (Same.upd nno), s4.free nno, ?_, Same.upd nno _ _ eL4⟩
          rw [upd_same, ← List.map_append] <;> rfl
    · obtain ⟨fo, ro, y4, y5, y6, y7, rfl, s2, nfo, eF, eR⟩ := hP
      exact ⟨.ref fo, rfl, q fo H2 nfo s2 eF⟩
end
end Sf
namespace Sf
open PySem PySem.Spec PyProof.Rows L2
/-! ### rows of texts as data -/
def okS (x : Str) : Prop := ∀ c ∈ x.cps.toList, c < 128
def dS (xs : List Str) : List PyData := xs.map PyData.str
theorem dpAll_strs {K : PySem.W.Frag} {H : Hp} : ∀ xs : List Str, DpAll K H (xs.map V.str) (dS xs)
  | [] => .nil
  | x :: r => .cons (.str x) (dpAll_strs r)
theorem eqv_strs : ∀ xs : List Str, PyData.eqvAll (dS xs) (dS xs) = true
  | [] => rfl
  | x :: r => by
    have ih := eqv_strs r
    show (PyData.eqv (.str x) (.str x) && PyData.eqvAll (dS r) (dS r)) = true
    rw [ih]
    simp [PyData.eqv]
theorem strOk_ok {x : Str} (h : okS x) : PyData.strOk x = true := by
  unfold PyData.strOk
  rw [← Array.all_toList, List.all_eq_true]
  intro c hc
  have q := h c hc
  exact decide_eq_true (by omega)
theorem lay_strs : ∀ xs : List Str, (∀ x ∈ xs, okS x) → PyData.canLayAll0 (dS xs) = true ∧ PyData.depthAll (dS xs) = 0
  | [], _ => ⟨rfl, rfl⟩
  | x :: r, h => by
    obtain ⟨h1, h2⟩ := lay_strs r fun y hy => h y (List.mem_cons_of_mem _ hy)
    refine ⟨?_, ?_⟩
    · show (PyData.canLay0 (.str x) && PyData.canLayAll0 (dS r)) = true
      rw [h1]
      simp only [PyData.canLay0, strOk_ok (h x List.mem_cons_self), Bool.and_true]
    · show max (PyData.depth (.str x)) (PyData.depthAll (dS r)) = 0
      rw [h2]
      simp [PyData.depth]
theorem shp_l {xs : List Str} (h : ∀ x ∈ xs, okS x) : SeqAt.shaped (.list (dS xs)) = true := by
  obtain ⟨h1, h2⟩ := lay_strs xs h
  unfold SeqAt.shaped
  rw [show (PyData.list (dS xs)).canLay0 = PyData.canLayAll0 (dS xs) by simp only [PyData.canLay0], h1, show (PyData.list (dS xs)).depth = PyData.depthAll (dS xs) + 1 by simp only [PyData.depth], h2] <;> rfl
theorem shp_t {xs : List Str} (h : ∀ x ∈ xs, okS x) : SeqAt.shaped (.tuple (dS xs)) = true := by
  obtain ⟨h1, h2⟩ := lay_strs xs h
  unfold SeqAt.shaped
  rw [show (PyData.tuple (dS xs)).canLay0 = PyData.canLayAll0 (dS xs) by simp only [PyData.canLay0], h1, show (PyData.tuple (dS xs)).depth = PyData.depthAll (dS xs) + 1 by simp only [PyData.depth], h2] <;> rfl
/-- != of two rows that are the same -/
theorem ne_same {K : PySem.W.Frag} {H : Hp} {Q : VK} {a b : Addr} {xs : List Str} (ha : SqL K H a (xs.map V.str)) (hb : SqL K H b (xs.map V.str)) (h : ∀ x ∈ xs, okS x) (q : Q (.bl false) H) : rNeD K (.ref a) (.ref b) H Q := by
  refine ⟨.list (dS xs), .list (dS xs), .lst ha (dpAll_strs xs), .lst hb (dpAll_strs xs), shp_l h, shp_l h, ?_⟩
  rw [show PyData.eqv (.list (dS xs)) (.list (dS xs)) = true by simp only [PyData.eqv, eqv_strs]]
  exact q
theorem ne_sameT {K : PySem.W.Frag} {H : Hp} {Q : VK} {a b : Addr} {xs : List Str} (ha : SqT K H a (xs.map V.str)) (hb : SqT K H b (xs.map V.str)) (h : ∀ x ∈ xs, okS x) (q : Q (.bl false) H) : rNeD K (.ref a) (.ref b) H Q := by
  refine ⟨.tuple (dS xs), .tuple (dS xs), .tup ha (dpAll_strs xs), .tup hb (dpAll_strs xs), shp_t h, shp_t h, ?_⟩
  rw [show PyData.eqv (.tuple (dS xs)) (.tuple (dS xs)) = true by simp only [PyData.eqv, eqv_strs]]
  exact q
theorem prs_codes : ∀ {l : List Nat} {y : Str}, y ∈ prs l → ∀ c ∈ y.cps.toList, c ∈ l
  | a :: b :: r, y, h, c, hc => by
    rcases List.mem_cons.mp h with e | h
    · subst e
      have hc' : c ∈ [a, b] := hc
      rcases List.mem_cons.mp hc' with e | e
      · exact e ▸ List.mem_cons_self
      · exact (List.mem_singleton.mp e) ▸ List.mem_cons_of_mem _ List.mem_cons_self
    · exact List.mem_cons_of_mem _ (prs_codes h c hc)
  | [], _, h, _, _ => nomatch h
  | [_], _, h, _, _ => nomatch h
theorem LET_lt : ∀ c ∈ LET, c < 128 := by decide +kernel
theorem pin_ok {t : List Nat} (h : ∀ c ∈ t, c ∈ LET) {y : Str} (hy : y ∈ pin t) : okS y := fun c hc => by
  have q := prs_codes (show y ∈ prs (94 :: (t ++ [36])) from hy) c hc
  rcases List.mem_cons.mp q with e | q
  · rw [e]; decide
  · rcases List.mem_append.mp q with q | q
    · exact LET_lt c (h c q)
    · rw [List.mem_singleton.mp q]; decide
/-- fewer letters, fewer texts -/
theorem allT2 (L : List Nat) (h : L.length ≤ 2) : ∀ n, (allT L n).length ≤ 2 ^ (n + 1)
  | 0 => by show 1 ≤ 2; decide
  | n + 1 => by
    have h1 := allT2 L h n
    have h2 := lev_len L 2 h (n + 1)
    show (allT L n ++ lev L (n + 1)).length ≤ _
    rw [List.length_append, Nat.pow_succ]
    omega
theorem allT3 (L : List Nat) (h : L.length ≤ 3) : ∀ n, (allT L n).length ≤ 2 * 3 ^ n
  | 0 => by show 1 ≤ 2; decide
  | n + 1 => by
    have h1 := allT3 L h n
    have h2 := lev_len L 3 h (n + 1)
    show (allT L n ++ lev L (n + 1)).length ≤ _
    rw [List.length_append]
    rw [Nat.pow_succ] at h2 ⊢
    omega
theorem filt_getD {α : Type} (F : List Nat → α) (p : List Nat → Bool) (l : List (List Nat)) : ((List.range l.length).filter (fun i => p (l.getD i []))).map (fun i => F (l.getD i [])) = (l.filter p).map F := by
  have e := map_getD (fun x : List Nat => x) [] l
  have e2 : l.filter p = ((List.range l.length).map fun i => l.getD i []).filter p := by
    rw [show ((List.range l.length).map fun i => l.getD i []) = l from by
      rw [e]
      exact List.map_id' l]
  rw [e2, List.filter_map, List.map_map] <;> rfl
end Sf
namespace Sf
open PySem PySem.Spec PyProof.Rows L2
abbrev sRight : Stmt := topS 20
abbrev sLaw : Stmt := topS 21
def NRight : List Str := ["_law_pot_here", "_law_turn", "_law_letters", "_law_texts", "_law_pairs_here", "_law_most", "_law_mine", "_law_fewer", "_law_pair", "_law_less", "_law_again", "_law_text_here"]
theorem scRight : FnScope NRight ["_law_pot_here"] (defScope sRight) := ⟨rfl, rfl, rfl, by decide +kernel, rfl, by decide +kernel, by decide +kernel⟩
theorem scLaw : FnScope ["_law_script", "_law_k", "_law_pot_here"] ["_law_script"] (defScope sLaw) := ⟨rfl, rfl, rfl, by decide +kernel, rfl, by decide +kernel, by decide +kernel⟩
section
variable {P : Program} {w : World} {K : PySem.W.Frag} {mg : Str → Option Value} {base : Heap}
def spRight : Sp := fun vs H Q _ => ∃ p : Addr, vs = [.ref p] ∧ Pot H p 0 ∧ ∀ H', Kp p H H' → Q (.bl true) H'
theorem stx_map (ts : List (List Nat)) : ts.map stx = (ts.map tx).map V.str := by
  rw [List.map_map] <;> rfl
theorem tx_tl (t : List Nat) : (tx t).cps.toList = t := rfl
theorem isTx_of {t : List Nat} (h : ∀ c ∈ t, c ∈ LET) : isTx (tx t) = true := by
  unfold isTx
  rw [List.all_eq_true]
  intro c hc
  exact decide_eq_true (h c hc)
theorem okS_of {t : List Nat} (h : ∀ c ∈ t, c ∈ LET) : okS (tx t) := fun c hc => LET_lt c (h c hc)
/-- the letters of a run -/
structure LOk (L : Str) : Prop where
  pos : 0 < L.length
  few : L.length ≤ 3
  lets : ∀ c ∈ L.cps.toList, c ∈ LET
theorem lok1 : LOk (Str.ofString "ab") := ⟨by decide +kernel, by decide +kernel, by decide +kernel⟩
theorem lok2 : LOk (Str.ofString "a ") := ⟨by decide +kernel, by decide +kernel, by decide +kernel⟩
theorem lok3 : LOk (Str.ofString "ab0") := ⟨by decide +kernel, by decide +kernel, by decide +kernel⟩
/-- [t for t in all_texts(letters, most) if allows(pairs, t)] -/
theorem lc_alw {σ : L2.St} {H : Hp} {Q : VK} {L : Str} {mo j : Nat} {pa : Addr} {ps : List Str} (h2 : σ[2]? = some (some (.str L))) (h5 : σ[5]? = some (some (.int (mo : Int)))) (hj : σ[j]? = some (some (.ref pa))) (nj : j ≠ 11)
    (hlen : 11 < σ.length) (hS : SqT K H pa (ps.map V.str)) (hL : LOk L) (hm : mo ≤ 5)
    (q : ∀ (D : Addr) H', H D = none → Same H H' → H' D = some (.lst (((allT L.cps.toList mo).filter (alw (mems ps))).map stx)) → Q (.ref D) H') :
    tLc (iList K (tCall spAllT [] E0 (tCons (tVar 2) (tCons (tVar 5) tNil)))) (gName 11) (tB (tCall (spAllows K) [] E0 (tCons (tVar j) (tCons (tVar 11) tNil)))) (tVar 11) [11] σ H Q := by
  refine ⟨.str L, h2, .int mo, h5, L, mo, rfl, hL.few, hm, fun la H1 nla s1 ela => ⟨la, rfl, ⟨_, .inl (.inl ela)⟩, fun D hD => ?_⟩⟩
  have ln := allT_le L.cps.toList (by rw [← str_len]; exact hL.few) mo hm
  refine lc_fun (walk_list (K := K) (a := la) (xs := (allT L.cps.toList mo).map stx)) (fun i => alw (mems ps) ((allT L.cps.toList mo).getD i [])) (fun i => stx ((allT L.cps.toList mo).getD i [])) (by rw [List.length_map]; omega) hD
    (fun H' s' => .inl (.inl (s' _ _ ela))) (fun i y H2 H3 N M hi s2 hy hN hM => ?_) (fun H2 s2 e2 => q D H2 (s1.free hD) (s1.trans s2) ?_)
  · obtain ⟨rfl, hv⟩ := hy
    rw [List.getElem?_map] at hv
    cases ht : (allT L.cps.toList mo)[i]? with
    | none =>
      rw [ht] at hv
      cases hv
    | some t =>
      rw [ht] at hv
      obtain rfl : stx t = y := Option.some.inj hv
      rw [getD_at ht] at hN hM
      obtain ⟨t1, t2⟩ := allT_mem (List.mem_of_getElem? ht)
      have hw : wipe ((wipe σ [11]).set 11 (some (stx t))) [11] = wipe σ [11] := by
        show ((σ.set 11 none).set 11 (some (stx t))).set 11 none = σ.set 11 none
        rw [List.set_set, List.set_set]
      have g1 : ((wipe σ [11]).set 11 (some (stx t)))[j]? = some (some (.ref pa)) := by
        show ((σ.set 11 none).set 11 (some (stx t)))[j]? = _
        rw [List.set_set, List.getElem?_set_ne (Ne.symm nj)]
        exact hj
      have g2 : ((wipe σ [11]).set 11 (some (stx t)))[11]? = some (some (stx t)) := by
        show ((σ.set 11 none).set 11 (some (stx t)))[11]? = _
        rw [List.set_set, List.getElem?_set_self hlen]
      refine ⟨hw, .ref pa, g1, stx t, g2, pa, ps, tx t, rfl, SqT.same (s1.trans s2) hS, isTx_of fun c hc => hL.lets c (t2 c hc), by rw [tx_len]; omega, fun H4 s4 => ⟨_, rfl, ?_⟩⟩
      refine ite2 (fun h => ?_) (fun h => ?_)
      · exact ⟨_, g2, hN h H4 s4⟩
      · exact hM (by
          cases e : alw (mems ps) t with
          | false => rfl
          | true => exact absurd e h) H4 s4
  · rw [e2, List.length_map, filt_getD stx (alw (mems ps))]
/-- sorted(mine) != sorted(walked(..)) is not so -/
theorem ne_srt {σ : L2.St} {H : Hp} {Q : Bool → Hp → Prop} {L : Str} {mo i j : Nat} {pa mi : Addr} {ps : List Str} (h2 : σ[2]? = some (some (.str L))) (h5 : σ[5]? = some (some (.int (mo : Int)))) (hj : σ[j]? = some (some (.ref pa))) (hi : σ[i]? = some (some (.ref mi)))
    (hS : SqT K H pa (ps.map V.str)) (hL : LOk L) (hm : mo ≤ 5) (eM : H mi = some (.lst (((allT L.cps.toList mo).filter (alw (mems ps))).map stx))) (q : ∀ H', Same H H' → Q false H') :
    tTest (tOp (rNeD K) (tCB (rSortedTL K) (tCons (tVar i) tNil)) (tCB (rSortedTL K) (tCons (tCall (spWalked K) [] E0 (tCons (tVar j) (tCons (tVar 2) (tCons (tVar 5) tNil)))) tNil))) σ H Q := by
  rw [stx_map] at eM
  refine ⟨.ref mi, hi, mi, _, rfl, .inl (.inl eM), fun sm p1 hs1 hp1 n1 => ?_⟩
  have s1 := Same.upd (o := HO.lst (sm.map V.str)) n1
  refine ⟨.ref pa, hj, .str L, h2, .int mo, h5, pa, ps, L, mo, rfl, SqT.same s1 hS, hL.few, hm, fun wl H2 nwl s2 ewl => ?_⟩
  rw [fnd_eq] at ewl
  have ewl2 : H2 wl = some (.lst ((((allT L.cps.toList mo).filter (alw (mems ps))).map tx).map V.str)) := by
    rw [ewl, List.map_map] <;> rfl
  refine ⟨wl, _, rfl, .inl (.inl ewl2), fun sm2 p2 hs2 hp2 n2 => ?_⟩
  have s3 := Same.upd (o := HO.lst (sm2.map V.str)) n2
  have e : sm2 = sm := sortedS_uniq hs2 hs1 (hp2.trans hp1.symm)
  subst e
  refine ne_same (.inl (.inl (s3 _ _ (s2 _ _ upd_same)))) (.inl (.inl upd_same)) (fun x hx => ?_) ⟨false, rfl, q _ (s1.trans (s2.trans s3))⟩
  obtain ⟨t, ht, rfl⟩ := List.mem_map.mp (hp1.mem_iff.mp hx)
  exact okS_of fun c hc => hL.lets c ((allT_mem (List.mem_filter.mp ht).1).2 c hc)
/-- pairs_of_all(texts + more) -/
theorem cat_call {H : Hp} {Q F : VK} {E : XK} {tt tm : Addr} {xs ms : List Str} (hF : ∀ v H', spPairsAll K [v] H' Q E → F v H') (h1 : SqT K H tt (xs.map V.str)) (h2 : SqT K H tm (ms.map V.str)) (hx : xs ≠ []) (hl : xs.length + ms.length ≤ 200) (ht : ∀ x ∈ xs ++ ms, isTx x = true ∧ x.length ≤ 10)
    (q : ∀ (ys : List Str) (p : Addr) H', SrtOf ((xs ++ ms).flatMap fun x => pin x.cps.toList) ys → H p = none → Same H H' → H' p = some (.tup (ys.map V.str)) → Q (.ref p) H') :
    rCatT K (.ref tt) (.ref tm) H F := by
  refine ⟨tt, tm, _, _, rfl, rfl, h1, h2, ?_, ?_, fun e => ?_, fun e c hc => ?_⟩
  · intro z
    exact hx (List.map_eq_nil_iff.mp z)
  · rw [List.length_map, List.length_map]
    exact Nat.le_trans hl (by decide)
  · have e2 : ms = [] := List.map_eq_nil_iff.mp e
    subst e2
    rw [List.append_nil] at ht q
    rw [List.length_nil] at hl
    exact hF _ _ ⟨tt, xs, rfl, h1, by omega, ht, q⟩
  · have s1 := Same.upd (o := HO.tup (xs.map V.str ++ ms.map V.str)) hc
    refine hF _ _ ⟨c, xs ++ ms, rfl, .inl (.inl ?_), by rw [List.length_append]; omega, ht, fun ys p H' hy np s2 hp => q ys p H' hy (s1.free np) (s1.trans s2) hp⟩
    rw [upd_same, List.map_append]
/-- the callees of _law_right -/
structure Cal (P : Program) (w : World) (K : PySem.W.Frag) (mg : Str → Option Value) (base : Heap) (k : Nat) (fA fD fT fPA fLP fAl fAT fW : Addr) (dA dD dT dPA dLP dAl dAT dW : FuncData) : Prop where
  FA : Fun K "_law_any" "_law_any" sAny fA dA
  bA : Binds K dA ["_law_pot_here", "_law_items"] []
  gA : mg "_law_any" = some (.ref fA)
  GA : FnOk P w K mg base CX0 k fA dA ["_law_pot_here", "_law_items"] (spAny K)
  FD : Fun K "_law_draw" "_law_draw" sDraw fD dD
  bD : Binds K dD ["_law_pot_here", "_law_many"] []
  gD : mg "_law_draw" = some (.ref fD)
  GD : FnOk P w K mg base CX0 k fD dD ["_law_pot_here", "_law_many"] spDraw
  FT : Fun K "_law_text" "_law_text" sText fT dT
  bT : Binds K dT ["_law_pot_here", "_law_letters", "_law_most"] []
  gT : mg "_law_text" = some (.ref fT)
  GT : FnOk P w K mg base CX0 k fT dT ["_law_pot_here", "_law_letters", "_law_most"] spText
  FPA : Fun K "pairs_of_all" "pairs_of_all" sPairsAll fPA dPA
  bPA : Binds K dPA ["texts"] []
  gPA : mg "pairs_of_all" = some (.ref fPA)
  GPA : FnOk P w K mg base CX0 k fPA dPA ["texts"] (spPairsAll K)
  FLP : Fun K "_law_pairs" "_law_pairs" sPairs fLP dLP
  bLP : Binds K dLP ["_law_texts"] []
  gLP : mg "_law_pairs" = some (.ref fLP)
  GLP : FnOk P w K mg base CX0 k fLP dLP ["_law_texts"] (spPairs K)
  FAl : Fun K "allows" "allows" sAllows fAl dAl
  bAl : Binds K dAl ["pairs", "text"] []
  gAl : mg "allows" = some (.ref fAl)
  GAl : FnOk P w K mg base CX0 k fAl dAl ["pairs", "text"] (spAllows K)
  FAT : Fun K "_law_all_texts" "_law_all_texts" sAllT fAT dAT
  bAT : Binds K dAT ["_law_letters", "_law_most"] []
  gAT : mg "_law_all_texts" = some (.ref fAT)
  GAT : FnOk P w K mg base CX0 k fAT dAT ["_law_letters", "_law_most"] spAllT
  FW : Fun K "_law_walked" "_law_walked" sWalked fW dW
  bW : Binds K dW ["_law_pairs_here", "_law_letters", "_law_most"] []
  gW : mg "_law_walked" = some (.ref fW)
  GW : FnOk P w K mg base CX0 k fW dW ["_law_pairs_here", "_law_letters", "_law_most"] (spWalked K)
theorem ok_right {f fA fD fT fPA fLP fAl fAT fW : Addr} {fd dA dD dT dPA dLP dAl dAT dW : FuncData} {k : Nat} (F : Fun K "_law_right" "_law_right" sRight f fd) (C : Cal P w K mg base k fA fD fT fPA fLP fAl fAT fW dA dD dT dPA dLP dAl dAT dW)
    (mr : mg "range" = none) (mt : mg "tuple" = none) (ml : mg "len" = none) (ma : mg "all" = none) (ms : mg "sorted" = none) : FnOk P w K mg base CX0 (k + 1) f fd ["_law_pot_here"] spRight := by
  refine F.ok scRight (fun vs H Q E h => ?_) (fun cdv A outer s H vs Q E hr h => ?_)
  · obtain ⟨p, rfl, _⟩ := h
    rfl
  · obtain ⟨p, rfl, hp, q⟩ := h
    have hu := hr.units
    refine ⟨_, pss_cons (ps_for PassesOwn.never rfl (pi_range1 rfl mr (pa_cons pe_int pa_nil)) (pg_name (i := 1) scRight.nd rfl (.inl rfl))
        -- letters
        (pss_cons (ps_set (i := 2) scRight.nd rfl (.inr rfl) (pe_call C.GA hr (by rfl) C.gA C.FA.kp C.bA .nil pass0 (pa_cons (pv 0) (pa_cons (pe_lst (pa_cons pe_str (pa_cons pe_str (pa_cons pe_str pa_nil)))) pa_nil))))
        -- texts
        (pss_cons (ps_set (i := 3) scRight.nd rfl (.inl rfl) (pe_tupleOf (by rfl) mt (pe_lc (own := [("_law_again", 10)]) (g := gName 10) (tt := tYes) rfl scRight.nd
          (pi_range1 rfl mr (pa_cons (pe_op op_add pe_int (pe_call C.GD hr (by rfl) C.gD C.FD.kp C.bD .nil pass0 (pa_cons (pv 0) (pa_cons pe_int pa_nil)))) pa_nil))
          (blkOk_by (N := NRight) (sc := defScope sRight) (by decide +kernel)) (fun _ _ _ _ _ => pg_name (i := 10) scRight.nd rfl (Or.inl rfl)) (fun _ _ _ _ _ => pts_nil)
          (fun _ _ _ _ _ => pe_call C.GT hr (by rfl) C.gT C.FT.kp C.bT .nil pass0 (pa_cons (pv 0) (pa_cons (pv 2) (pa_cons pe_int pa_nil)))))))
        -- pairs, most
        (Evl.pss_cut (ps_asg (pe_tup (pa_cons (pe_call C.GPA hr (by rfl) C.gPA C.FPA.kp C.bPA .nil pass0 (pa_cons (pv 3) pa_nil))
            (pa_cons (pe_ifExp (pt_cmpR op_eq (pe_callB call_len_str (by rfl) ml PySem.boot_len (pa_cons (pv 2) pa_nil)) pe_int (nomark _)) pe_int pe_int) pa_nil)))
          (pg_tup rfl (pgs_cons (pg_name (i := 4) scRight.nd rfl (.inr rfl)) (pgs_cons (pg_name (i := 5) scRight.nd rfl (.inl rfl)) pgs_nil))))
        -- if pairs != .. or not all(..)
        (pss_cons (ps_if (PW.pt (pw_or (pt_cmpR (op_neD hu) (pv 4) (pe_call C.GLP hr (by rfl) C.gLP C.FLP.kp C.bLP .nil pass0 (pa_cons (pv 3) pa_nil)) (nomark _))
            (pw_or1 (pt_not (pt_val (pe_callB (cr_all rfl) (by rfl) ma (by decide +kernel) (pa_cons (pe_lc (own := [("_law_text_here", 11)]) (g := gName 11) (tt := tYes) rfl scRight.nd (pi_tup (pv 3))
              (blkOk_by (N := NRight) (sc := defScope sRight) (by decide +kernel)) (fun _ _ _ _ _ => pg_name (i := 11) scRight.nd rfl (Or.inl rfl)) (fun _ _ _ _ _ => pts_nil)
              (fun _ _ _ _ _ => pe_call C.GAl hr (by rfl) C.gAl C.FAl.kp C.bAl .nil pass0 (pa_cons (pv 4) (pa_cons (pv 11) pa_nil)))) pa_nil)))))))
            (pss_one (ps_ret pe_bl)) pss_nil)
        -- mine
        (pss_cons (ps_set (i := 6) scRight.nd rfl (.inr rfl) (pe_lc (own := [("_law_text_here", 11)]) (g := gName 11) (tt := tB (tCall (spAllows K) [] E0 (tCons (tVar 4) (tCons (tVar 11) tNil)))) rfl scRight.nd
            (pi_list (pe_call C.GAT hr (by rfl) C.gAT C.FAT.kp C.bAT .nil pass0 (pa_cons (pv 2) (pa_cons (pv 5) pa_nil))))
            (blkOk_by (N := NRight) (sc := defScope sRight) (by decide +kernel)) (fun _ _ _ _ _ => pg_name (i := 11) scRight.nd rfl (Or.inl rfl))
            (fun _ _ _ _ _ => pts_one (pt_val (pe_call C.GAl hr (by rfl) C.gAl C.FAl.kp C.bAl .nil pass0 (pa_cons (pv 4) (pa_cons (pv 11) pa_nil))))) (fun _ _ _ _ _ => pv 11)))
        -- if sorted(mine) != .. or pairs_of_all(..) != ..
        (pss_cons (ps_if (PW.pt (pw_or (pt_cmpR (op_neD hu) (pe_callB cr_sortedTL (by rfl) ms (by decide +kernel) (pa_cons (pv 6) pa_nil))
              (pe_callB cr_sortedTL (by rfl) ms (by decide +kernel) (pa_cons (pe_call C.GW hr (by rfl) C.gW C.FW.kp C.bW .nil pass0 (pa_cons (pv 4) (pa_cons (pv 2) (pa_cons (pv 5) pa_nil)))) pa_nil)) (nomark _))
            (pw_or1 (pt_cmpR (op_neD hu) (pe_call C.GPA hr (by rfl) C.gPA C.FPA.kp C.bPA .nil pass0 (pa_cons (pe_op op_catT (pv 3) (pe_tupleOf (by rfl) mt (pv 6))) pa_nil)) (pv 4) (nomark _)))))
            (pss_one (ps_ret pe_bl)) pss_nil)
        -- fewer
        (pss_cons (ps_set (i := 7) scRight.nd rfl (.inr rfl) (pe_lst pa_nil))
        (pss_cons (ps_for PassesOwn.never rfl (pi_tup (pv 4)) (pg_name (i := 8) scRight.nd rfl (.inl rfl))
          (pss_one (ps_if (pt_cmpR op_gt (pe_call C.GD hr (by rfl) C.gD C.FD.kp C.bD .nil pass0 (pa_cons (pv 0) (pa_cons pe_int pa_nil))) pe_int (nomark _))
            (pss_one (ps_expr (pe_bm PySem.F.plainAttrs_list PySem.F.slot_list_append PySem.F.type_list_append mt_append (pv 7) (pa_cons (pv 8) pa_nil)))) pss_nil)))
        (pss_cons (ps_set (i := 7) scRight.nd rfl (.inr rfl) (pe_tupleOf (by rfl) mt (pv 7)))
        -- less
        (pss_cons (ps_setLc (i := 9) (own := [("_law_text_here", 11)]) (g := gName 11) (tt := tB (tCall (spAllows K) [] E0 (tCons (tVar 7) (tCons (tVar 11) tNil)))) rfl scRight.nd rfl rfl (sw_true rfl rfl rfl (by decide +kernel))
            (pi_list (pe_call C.GAT hr (by rfl) C.gAT C.FAT.kp C.bAT .nil pass0 (pa_cons (pv 2) (pa_cons (pv 5) pa_nil))))
            (blkOk_by (N := NRight) (sc := defScope sRight) (by decide +kernel)) (fun _ _ _ _ _ => pg_name (i := 11) scRight.nd rfl (Or.inl rfl))
            (fun _ _ _ _ _ => pts_one (pt_val (pe_call C.GAl hr (by rfl) C.gAl C.FAl.kp C.bAl .nil pass0 (pa_cons (pv 7) (pa_cons (pv 11) pa_nil))))) (fun _ _ _ _ _ => pv 11))
        (pss_one (ps_if (PW.pt (pw_or (pt_cmpR (op_neD hu) (pe_callB cr_sortedTL (by rfl) ms (by decide +kernel) (pa_cons (pv 9) pa_nil))
              (pe_callB cr_sortedTL (by rfl) ms (by decide +kernel) (pa_cons (pe_call C.GW hr (by rfl) C.gW C.FW.kp C.bW .nil pass0 (pa_cons (pv 7) (pa_cons (pv 2) (pa_cons (pv 5) pa_nil)))) pa_nil)) (nomark _))
            (pw_or1 (pt_not (pt_val (pe_callB (cr_all rfl) (by rfl) ma (by decide +kernel) (pa_cons (pe_lc (own := [("_law_text_here", 11)]) (g := gName 11) (tt := tYes) (te := tOp (rIn K false) (tVar 11) (tVar 6)) rfl scRight.nd (pi_list (pv 9))
              (blkOk_by (N := NRight) (sc := defScope sRight) (by decide +kernel)) (fun _ _ _ _ _ => pg_name (i := 11) scRight.nd rfl (Or.inl rfl)) (fun _ _ _ _ _ => pts_nil)
              (fun _ _ _ _ _ => pe_cmpR op_in_seq (pv 11) (pv 6) (by rfl))) pa_nil)))))))
            (pss_one (ps_ret pe_bl)) pss_nil)))))))))))))
      (pss_one (ps_ret pe_bl)), ?_⟩
    have sl : ∀ n : Nat, n ≤ 20000 → n ≤ sizeLine := fun n h => Nat.le_trans h (by decide)
    have sl2 : ∀ n : Nat, n ≤ 20000 → n < sizeLine := fun n h => Nat.lt_of_le_of_lt h (by decide)
    refine ⟨_, rfl, by decide, by decide, ?_⟩
    refine for_it (walk_range (lo := 0) (n := 10)) (fun i σ H2 => ∃ y1 y2 y3 y4 y5 y6 y7 y8 y9 y10 y11, σ = [some (.ref p), y1, y2, y3, y4, y5, y6, y7, y8, y9, y10, y11] ∧ Pot H2 p (100 * (i : Int)) ∧ Kp p H H2)
      ⟨none, none, none, none, none, none, none, none, none, none, none, rfl, hp.mono (by omega), Kp.refl p H⟩ (fun _ _ _ _ _ => True.intro) (fun i x σ H2 H2' hi hP hy => ?_) (fun σ H2 hP => ?_)
    · obtain ⟨y1, y2, y3, y4, y5, y6, y7, y8, y9, y10, y11, rfl, hp2, k2⟩ := hP
      obtain ⟨rfl, rfl⟩ := hy
      have hi2 : (i : Int) < 10 := by omega
      -- letters
      refine ⟨.ref p, rfl, sl 3 (by decide), fun l hl => ⟨p, 100 * (i : Int), .ref l, rfl, hp2.up hl, by omega, .inr ⟨l, _, rfl, fun hK => .inl (.inl (hK l _ (hp2.ne hl) upd_same)), by decide, by decide, fun v H3 hv hp3 k3 => ?_⟩⟩⟩
      obtain ⟨L, rfl, hL⟩ : ∃ L, v = V.str L ∧ LOk L := by
        rcases List.mem_cons.mp hv with e | hv
        · exact ⟨_, e, lok1⟩
        rcases List.mem_cons.mp hv with e | hv
        · exact ⟨_, e, lok2⟩
        · exact ⟨_, List.mem_singleton.mp hv, lok3⟩
      have k3' : Kp p H H3 := k2.trans ((Kp.same (Same.upd hl)).trans k3)
      clear k3 hv hl
      -- texts
      refine ⟨.ref p, rfl, p, _, 3, rfl, hp3, by omega, by decide, by decide, fun r H4 r0 r1 hp4 k4 => ⟨_, _, rfl, rfl, _, rfl, by omega, by omega, fun D hD => ?_⟩⟩
      have k4' : Kp p H H4 := k3'.trans k4
      obtain ⟨rn, rfl⟩ := Int.eq_ofNat_of_zero_le r0
      have er : ((1 : Int) + (rn : Int)).toNat = rn + 1 := by omega
      show ∃ W : Nat → Nat → Hp → Prop, _
      rw [er]
      refine lc_it (walk_range (lo := 0) (n := rn + 1)) (fun j H5 => ∃ ts : List (List Nat), ts.length = j ∧ (∀ t ∈ ts, t.length ≤ 5 ∧ ∀ c ∈ t, c ∈ L.cps.toList) ∧ Pot H5 p (100 * (i : Int) + 2 + 6 * j) ∧ Kp p H H5 ∧ H5 D = some (.lst (ts.map stx)))
        ⟨[], rfl, (fun _ h => nomatch h), (hp4.up hD).mono (by omega), k4'.trans (Kp.same (Same.upd hD)), upd_same⟩ (fun _ _ _ _ => True.intro) (fun j x H5 H5' hj hP hy => ?_) (fun H5 hP => ?_)
      · obtain ⟨ts, ht1, ht2, hp5, k5, e5⟩ := hP
        obtain ⟨rfl, rfl⟩ := hy
        have nD : D ≠ p := hp4.ne hD
        refine ⟨rfl, .ref p, rfl, .str L, rfl, p, _, L, 5, rfl, hp5, by omega, by decide, hL.pos, Nat.le_trans hL.few (by decide), fun t H6 t1 t2 hp6 k6 => ?_⟩
        refine ⟨_, k6 D _ nD e5, ?_, ts ++ [t], by rw [List.length_append, ht1] <;> rfl, fun u hu => ?_, (hp6.wr nD).mono (by omega), ?_, ?_⟩
        · rw [List.length_map]
          exact sl2 _ (by omega)
        · rcases List.mem_append.mp hu with z | z
          · exact ht2 u z
          · obtain rfl := List.mem_singleton.mp z
            exact ⟨t1, t2⟩
        · intro b o nb hb
          have nbD : b ≠ D := fun z => by
            have q1 := k4' b o nb hb
            rw [z, hD] at q1
            cases q1
          rw [upd_ne nbD]
          exact k6 b o nb (k5 b o nb hb)
        · rw [upd_same, List.map_append] <;> rfl
      obtain ⟨ts, ht1, ht2, hp5, k5, e5⟩ := hP
      have nD : D ≠ p := hp4.ne hD
      clear hp4 k4 k4' hD k3' hp3
      rw [stx_map] at e5
      generalize hxs : ts.map tx = xs at e5
      have lxs : xs.length = rn + 1 := by rw [← hxs, List.length_map, ht1]
      have fxs : ∀ x ∈ xs, isTx x = true ∧ x.length ≤ 5 ∧ ∀ c ∈ x.cps.toList, c ∈ LET := fun x hx => by
        rw [← hxs] at hx
        obtain ⟨t, h1, rfl⟩ := List.mem_map.mp hx
        obtain ⟨h2, h3⟩ := ht2 t h1
        have h4 : ∀ c ∈ t, c ∈ LET := fun c hc => hL.lets c (h3 c hc)
        exact ⟨isTx_of h4, by rw [tx_len]; exact h2, h4⟩
      refine .inl ⟨D, _, rfl, .inl (.inl e5), fun tt ntt => ?_⟩
      have hp6 := hp5.up (o := .tup (xs.map V.str)) ntt
      have k6 : Kp p H (upd H5 tt (.tup (xs.map V.str))) := k5.trans (Kp.same (Same.upd ntt))
      have ett : upd H5 tt (.tup (xs.map V.str)) tt = some (.tup (xs.map V.str)) := upd_same
      have nttp : tt ≠ p := hp5.ne ntt
      generalize upd H5 tt (.tup (xs.map V.str)) = H6 at hp6 k6 ett ⊢
      clear e5 ntt k5 hp5
      -- pairs, most
      refine ⟨fun σ H7 => ∃ ys pa mo, σ = [some (.ref p), some (.int ((0 : Int) + (i : Nat))), some (.str L), some (.ref tt), some (.ref pa), some (.int ((mo : Nat) : Int)), y6, y7, y8, y9, y10, y11] ∧ SrtOf (xs.flatMap fun x => pin x.cps.toList) ys ∧ mo ≤ 5 ∧
        (allT L.cps.toList mo).length ≤ 162 ∧ Pot H7 p (100 * (i : Int) + 20) ∧ Kp p H H7 ∧ H7 tt = some (.tup (xs.map V.str)) ∧ H7 pa = some (.tup (ys.map V.str)) ∧ pa ≠ p, ?_, fun σ H7 hM => ?_⟩
      · refine ⟨.ref tt, rfl, tt, xs, rfl, .inl (.inl ett), by omega, fun x hx => ⟨(fxs x hx).1, Nat.le_trans (fxs x hx).2.1 (by decide)⟩, fun ys pa H7 hys npa s7 epa => ?_⟩
        have hp7 : Pot H7 p (100 * (i : Int) + 20) := by
          obtain ⟨a, b, c, e, h⟩ := hp6.mono (show 100 * (i : Int) + 2 + 6 * ((rn + 1 : Nat) : Int) ≤ 100 * (i : Int) + 20 by omega)
          exact ⟨a, b, c, s7 _ _ e, h⟩
        have k7 : Kp p H H7 := k6.trans (Kp.same s7)
        have npp : pa ≠ p := hp6.ne npa
        refine ⟨.str L, rfl, L, rfl, sl _ (Nat.le_trans hL.few (by decide)), rfl, _, rfl, ite2 (fun h => ?_) (fun h => ?_)⟩
        · have e2 : L.length = 2 := by
            have q1 := of_decide_eq_true h
            injection q1 with q2
            omega
          have e3 := allT2 L.cps.toList (by rw [← str_len]; omega) 5
          refine ⟨sl 2 (by decide), fun T nT => ?_⟩
          refine ⟨T, _, rfl, .inl (.inl upd_same), rfl, _, _, rfl, _, _, rfl, rfl, ys, pa, 5, rfl, hys, by decide, by omega, hp7.up nT, k7.trans (Kp.same (Same.upd nT)), Same.upd nT _ _ (s7 _ _ ett), Same.upd nT _ _ epa, npp⟩
        · have e3 := allT3 L.cps.toList (by rw [← str_len]; exact hL.few) 4
          refine ⟨sl 2 (by decide), fun T nT => ?_⟩
          refine ⟨T, _, rfl, .inl (.inl upd_same), rfl, _, _, rfl, _, _, rfl, rfl, ys, pa, 4, rfl, hys, by decide, by omega, hp7.up nT, k7.trans (Kp.same (Same.upd nT)), Same.upd nT _ _ (s7 _ _ ett), Same.upd nT _ _ epa, npp⟩
      obtain ⟨ys, pa, mo, rfl, hys, hmo, hlen, hp7, k7, ett7, epa7, npp⟩ := hM
      clear hp6 k6 ett H6 H5 H4 H3
      have sPot : ∀ {Ha Hb : Hp} {n : Int}, Same Ha Hb → Pot Ha p n → Pot Hb p n := fun s h => by
        obtain ⟨a, b, c, e, h⟩ := h
        exact ⟨a, b, c, s _ _ e, h⟩
      have fys : ∀ y ∈ ys, okS y := fun y hy => by
        obtain ⟨x, h1, h2⟩ := List.mem_flatMap.mp (hys.mem.mp hy)
        exact pin_ok (fxs x h1).2.2 h2
      have alx : ∀ x ∈ xs, alw (mems ys) x.cps.toList = true := fun x hx => by
        unfold alw
        rw [List.all_eq_true]
        exact fun z hz => decide_eq_true (hys.mem.mpr (List.mem_flatMap.mpr ⟨x, hx, hz⟩))
      -- the first if
      refine ⟨.ref pa, rfl, .ref tt, rfl, tt, xs, rfl, .inl (.inl ett7), by omega, fun x hx => Nat.le_trans (fxs x hx).2.1 (by decide), fun ys2 pb H8 hys2 npb s8 epb => ?_⟩
      obtain rfl : ys2 = ys := hys2.uniq hys fun _ => Iff.rfl
      refine ne_sameT (.inl (.inl (s8 _ _ epa7))) (.inl (.inl epb)) fys ⟨false, rfl, iteF ?_⟩
      refine ⟨.ref tt, rfl, tt, rfl, ⟨_, .inl (.inl (s8 _ _ ett7))⟩, fun D hD => ?_⟩
      refine lc_map (walk_tup (K := K) (a := tt) (xs := xs.map V.str)) (fun _ => .bl true) (by rw [List.length_map]; omega) hD (fun H9 s9 => .inl (.inl (s9 _ _ (s8 _ _ ett7)))) (fun j y H9 H9' N hj s9 hy hN => ?_) (fun H9 s9 e9 => ?_)
      · obtain ⟨rfl, hv⟩ := hy
        rw [List.getElem?_map] at hv
        cases hx : xs[j]? with
        | none =>
          rw [hx] at hv
          cases hv
        | some x =>
          rw [hx] at hv
          obtain rfl : V.str x = y := Option.some.inj hv
          have hm := List.mem_of_getElem? hx
          refine ⟨rfl, .ref pa, rfl, .str x, rfl, pa, ys2, x, rfl, .inl (.inl (s9 _ _ (s8 _ _ epa7))), (fxs x hm).1, by have := (fxs x hm).2.1; omega, fun H10 s10 => ?_⟩
          have q1 := alx x hm
          show N (.bl (alw (mems ys2) x.cps.toList)) H10
          rw [q1]
          exact hN H10 s10
      have e9' : H9 D = some (.lst (((List.range xs.length).map fun _ => true).map V.bl)) := by
        rw [e9, List.length_map, List.map_map] <;> rfl
      refine ⟨D, _, rfl, .inl (.inl e9'), _, rfl, ?_⟩
      rw [show (List.map (fun _ => true) (List.range xs.length)).all id = true by
        rw [List.all_map, List.all_eq_true]
        intro _ _
        rfl]
      have s9' : Same H7 H9 := s8.trans s9
      have hp9 := sPot s9' hp7
      have k9 : Kp p H H9 := k7.trans (Kp.same s9')
      have ett9 := s9' _ _ ett7
      have epa9 := s9' _ _ epa7
      refine iteF ?_
      -- mine
      dsimp only [tNext, tSeq, tAsg]
      refine lc_alw (j := 4) (σ := [some (.ref p), some (.int ((0 : Int) + (i : Nat))), some (.str L), some (.ref tt), some (.ref pa), some (.int (mo : Int)), y6, y7, y8, y9, y10, y11]) rfl rfl rfl (by decide) (show 11 < 12 by decide) (.inl (.inl epa9)) hL hmo (fun mi H10 nmi s10 emi => ?_)
      have hp10 := sPot s10 hp9
      have k10 : Kp p H H10 := k9.trans (Kp.same s10)
      have ett10 := s10 _ _ ett9
      have epa10 := s10 _ _ epa9
      have nmip : mi ≠ p := hp9.ne nmi
      have fmi : ∀ t ∈ (allT L.cps.toList mo).filter (alw (mems ys2)), t.length ≤ 5 ∧ (∀ c ∈ t, c ∈ LET) ∧ ∀ z ∈ pin t, z ∈ ys2 := fun t ht => by
        obtain ⟨h1, h2⟩ := List.mem_filter.mp ht
        obtain ⟨h3, h4⟩ := allT_mem h1
        refine ⟨by omega, fun c hc => hL.lets c (h4 c hc), fun z hz => ?_⟩
        unfold alw at h2
        rw [List.all_eq_true] at h2
        exact of_decide_eq_true (h2 z hz)
      have lmi : ((allT L.cps.toList mo).filter (alw (mems ys2))).length ≤ 162 := Nat.le_trans (List.length_filter_le _ _) hlen
      -- the second if
      refine ne_srt (i := 6) (j := 4) (σ := [some (.ref p), some (.int ((0 : Int) + (i : Nat))), some (.str L), some (.ref tt), some (.ref pa), some (.int (mo : Int)), some (.ref mi), y7, y8, y9, y10, y11]) rfl rfl rfl rfl (.inl (.inl epa10)) hL hmo emi (fun H11 s11 => ?_)
      rw [stx_map] at emi
      refine ⟨.ref tt, rfl, .ref mi, rfl, .inl ⟨mi, _, rfl, .inl (.inl (s11 _ _ emi)), fun tm ntm => ?_⟩⟩
      have s12 := Same.upd (o := HO.tup ((((allT L.cps.toList mo).filter (alw (mems ys2))).map tx).map V.str)) ntm
      refine cat_call (xs := xs) (ms := ((allT L.cps.toList mo).filter (alw (mems ys2))).map tx) (fun v H' h => by
        dsimp only [tNil, List.cons_append, List.nil_append]
        exact h) (.inl (.inl (s12 _ _ (s11 _ _ ett10)))) (.inl (.inl upd_same)) (fun z => by
          rw [z] at lxs
          cases lxs) (by rw [List.length_map]; omega) (fun x hx => ?_) (fun ys3 pb3 H13 hy3 npb3 s13 epb3 => ?_)
      · rcases List.mem_append.mp hx with h | h
        · exact ⟨(fxs x h).1, by have := (fxs x h).2.1; omega⟩
        · obtain ⟨t, h1, rfl⟩ := List.mem_map.mp h
          exact ⟨isTx_of (fmi t h1).2.1, by rw [tx_len]; have := (fmi t h1).1; omega⟩
      obtain rfl : ys3 = ys2 := hy3.uniq hys fun z => by
        rw [List.flatMap_append, List.mem_append]
        refine ⟨fun h => h.elim id fun h => ?_, .inl⟩
        obtain ⟨x, h1, h2⟩ := List.mem_flatMap.mp h
        obtain ⟨t, h3, rfl⟩ := List.mem_map.mp h1
        exact hys.mem.mp ((fmi t h3).2.2 z h2)
      have s13' : Same H10 H13 := s11.trans (s12.trans s13)
      refine ⟨.ref pa, rfl, ne_sameT (.inl (.inl epb3)) (.inl (.inl (s13' _ _ epa10))) fys ⟨false, rfl, iteF ?_⟩⟩
      have hp13 := sPot s13' hp10
      have k13 : Kp p H H13 := k10.trans (Kp.same s13')
      have epa13 := s13' _ _ epa10
      have emi13 := s13' _ _ emi
      have lys : ys3.length ≤ 18 := by
        have q1 := flat_len (fun x => pin x.cps.toList) 6 xs fun x hx => by
          show (pin x.cps.toList).length ≤ 6
          rw [pin_len, ← str_len]
          have := (fxs x hx).2.1
          omega
        have q2 := toSet_len (xs.flatMap fun x => pin x.cps.toList)
        have q3 := hys.2.length_eq
        omega
      clear s13' s13 s12 s11 ett10 epa10 hp10 k10 s10 ett9 epa9 hp9 k9
      -- fewer
      refine ⟨sl 0 (by decide), fun fw nfw => ?_⟩
      have nfwp : fw ≠ p := hp13.ne nfw
      have nfwpa : pa ≠ fw := fun z => by
        rw [z, nfw] at epa13
        cases epa13
      have nfwmi : mi ≠ fw := fun z => by
        rw [z, nfw] at emi13
        cases emi13
      refine ⟨.ref pa, rfl, pa, rfl, ⟨_, .inl (.inl (Same.upd nfw _ _ epa13))⟩, ?_⟩
      refine for_it (walk_tup (K := K) (a := pa) (xs := ys3.map V.str)) (fun j σ H14 => ∃ fs y8', σ = [some (.ref p), some (.int ((0 : Int) + (i : Nat))), some (.str L), some (.ref tt), some (.ref pa), some (.int (mo : Int)), some (.ref mi), some (.ref fw), y8', y9, y10, y11] ∧ (∀ z ∈ fs, z ∈ ys3) ∧ fs.length ≤ j ∧ Pot H14 p (100 * (i : Int) + 20 + j) ∧ Kp p H H14 ∧ H14 pa = some (.tup (ys3.map V.str)) ∧ H14 mi = some (.lst ((((allT L.cps.toList mo).filter (alw (mems ys3))).map tx).map V.str)) ∧ H14 fw = some (.lst (fs.map V.str)))
        ⟨[], y8, rfl, (fun _ h => nomatch h), Nat.le_refl 0, (hp13.up nfw).mono (by omega), k13.trans (Kp.same (Same.upd nfw)), Same.upd nfw _ _ epa13, Same.upd nfw _ _ emi13, upd_same⟩ (fun j σ H14 _ hP => ?_) (fun j x σ H14 H14' hj hP hy => ?_) (fun σ H14 hP => ?_)
      · obtain ⟨fs, y8', _, _, _, _, _, e, _⟩ := hP
        exact .inl (.inl e)
      · obtain ⟨fs, y8', rfl, f1, f2, hp14, k14, epa14, emi14, efw14⟩ := hP
        obtain ⟨rfl, hv⟩ := hy
        rw [List.getElem?_map] at hv
        cases hx : ys3[j]? with
        | none =>
          rw [hx] at hv
          cases hv
        | some z =>
          rw [hx] at hv
          obtain rfl : V.str z = x := Option.some.inj hv
          have hm := List.mem_of_getElem? hx
          have hj2 : j < 18 := by
            rw [List.length_map] at hj
            omega
          have kfw : ∀ H15, Kp p H14' H15 → Kp p H (upd H15 fw (.lst ((fs ++ [z]).map V.str))) := fun H15 k15 b o nb hb => by
            have nbf : b ≠ fw := fun z => by
              have q1 := k13 b o nb hb
              rw [z, nfw] at q1
              cases q1
            rw [upd_ne nbf]
            exact k15 b o nb (k14 b o nb hb)
          refine ⟨.ref p, rfl, p, _, 4, rfl, hp14, by omega, by decide, by decide, fun r H15 r0' r1' hp15 k15 => ⟨_, _, rfl, rfl, _, rfl, ite2 (fun h => ?_) (fun h => ?_)⟩⟩
          · refine ⟨.ref fw, rfl, .inl ⟨rfl, _, .inl (.inl (k15 fw _ nfwp efw14))⟩, .str z, rfl, fw, _, .str z, rfl, rfl, k15 fw _ nfwp efw14, ?_, ?_⟩
            · rw [List.length_map]
              exact sl2 _ (by omega)
            · refine ⟨fs ++ [z], _, rfl, fun u hu => ?_, ?_, (hp15.wr nfwp).mono (by omega), ?_, ?_, ?_, ?_⟩
              · rcases List.mem_append.mp hu with h | h
                · exact f1 u h
                · exact List.mem_singleton.mp h ▸ hm
              · rw [List.length_append]
                show fs.length + 1 ≤ j + 1
                omega
              · have e := kfw H15 k15
                rw [List.map_append] at e
                exact e
              · rw [upd_ne nfwpa]
                exact k15 pa _ npp epa14
              · rw [upd_ne nfwmi]
                exact k15 mi _ nmip emi14
              · rw [upd_same, List.map_append] <;> rfl
          · exact ⟨fs, _, rfl, f1, by omega, hp15.mono (by omega), k14.trans k15, k15 pa _ npp epa14, k15 mi _ nmip emi14, k15 fw _ nfwp efw14⟩
      · obtain ⟨fs, y8', rfl, f1, f2, hp14, k14, epa14, emi14, efw14⟩ := hP
        rw [List.length_map] at f2 hp14
        refine ⟨.ref fw, rfl, .inl ⟨fw, _, rfl, .inl (.inl efw14), fun tf ntf => ?_⟩⟩
        have hp15 := hp14.up (o := HO.tup (fs.map V.str)) ntf
        have s15 := Same.upd (o := HO.tup (fs.map V.str)) ntf
        -- less
        dsimp only [tNext, tSeq, tAsg, gName]
        refine lc_alw (j := 7) (σ := [some (.ref p), some (.int ((0 : Int) + (i : Nat))), some (.str L), some (.ref tt), some (.ref pa), some (.int (mo : Int)), some (.ref mi), some (.ref tf), y8', y9, y10, y11]) rfl rfl rfl (by decide) (show 11 < 12 by decide) (.inl (.inl upd_same)) hL hmo (fun le H16 nle s16 ele => ?_)
        refine ne_srt (i := 9) (j := 7) (σ := [some (.ref p), some (.int ((0 : Int) + (i : Nat))), some (.str L), some (.ref tt), some (.ref pa), some (.int (mo : Int)), some (.ref mi), some (.ref tf), y8', some (.ref le), y10, y11]) rfl rfl rfl rfl (.inl (.inl (s16 _ _ upd_same))) hL hmo ele (fun H17 s17 => ?_)
        rw [stx_map] at ele
        generalize hms : ((allT L.cps.toList mo).filter (alw (mems ys3))).map tx = ms' at emi14
        generalize hls : ((allT L.cps.toList mo).filter (alw (mems fs))).map tx = ls at ele
        have sub : ∀ z ∈ ls, z ∈ ms' := fun z hz => by
          rw [← hls] at hz
          rw [← hms]
          obtain ⟨t, h1, rfl⟩ := List.mem_map.mp hz
          obtain ⟨h2, h3⟩ := List.mem_filter.mp h1
          refine List.mem_map.mpr ⟨t, List.mem_filter.mpr ⟨h2, ?_⟩, rfl⟩
          unfold alw at h3 ⊢
          rw [List.all_eq_true] at h3 ⊢
          exact fun u hu => decide_eq_true (f1 u (of_decide_eq_true (h3 u hu)))
        have lls : ls.length ≤ 162 := by
          rw [← hls, List.length_map]
          exact Nat.le_trans (List.length_filter_le _ _) hlen
        have sAll : Same H14 H17 := s15.trans (s16.trans s17)
        refine ⟨.ref le, rfl, le, rfl, ⟨_, .inl (.inl (s17 _ _ ele))⟩, fun D2 hD2 => ?_⟩
        refine lc_map (walk_list (K := K) (a := le) (xs := ls.map V.str)) (fun _ => .bl true) (by rw [List.length_map]; omega) hD2 (fun H18 s18 => .inl (.inl (s18 _ _ (s17 _ _ ele)))) (fun j y H18 H18' N hj s18 hy hN => ?_) (fun H18 s18 e18 => ?_)
        · obtain ⟨rfl, hv⟩ := hy
          rw [List.getElem?_map] at hv
          cases hx : ls[j]? with
          | none =>
            rw [hx] at hv
            cases hv
          | some z =>
            rw [hx] at hv
            obtain rfl : V.str z = y := Option.some.inj hv
            have hm := List.mem_of_getElem? hx
            refine ⟨rfl, .str z, rfl, .ref mi, rfl, mi, _, rfl, .inl (.inl (.inl (s18 _ _ (sAll _ _ emi14)))), rfl, flat_str _, ?_⟩
            rw [inV_str, decide_eq_true (sub z hm)]
            exact hN _ (Same.refl _)
        have e18' : H18 D2 = some (.lst (((List.range ls.length).map fun _ => true).map V.bl)) := by
          rw [e18, List.length_map, List.map_map] <;> rfl
        refine ⟨D2, _, rfl, .inl (.inl e18'), _, rfl, ?_⟩
        rw [show (List.map (fun _ => true) (List.range ls.length)).all id = true by
          rw [List.all_map, List.all_eq_true]
          intro _ _
          rfl]
        refine iteF ?_
        have sEnd : Same H14 H18 := sAll.trans s18
        exact ⟨_, _, _, _, _, _, _, _, _, _, _, rfl, (sPot sEnd hp14).mono (by omega), k14.trans (Kp.same sEnd)⟩
    · exact q H2 (by
        obtain ⟨_, _, _, _, _, _, _, _, _, _, _, _, _, k⟩ := hP
        exact k)
end
end Sf
namespace Sf
open PySem PySem.Spec PyProof.Rows L2
section
variable {P : Program} {w : World} {K : PySem.W.Frag} {mg : Str → Option Value} {base : Heap}
def spLaw (K : PySem.W.Frag) : Sp := fun vs H Q _ => ∃ (a : Addr) (ns : List Int), vs = [.ref a] ∧ SqL K H a (ns.map V.int) ∧ ns.length ≤ 63 ∧ ∀ H', Q (.bl true) H'
theorem turns_le (n : Nat) : ∃ m : Nat, (if (if (n : Int) < 3 then (n : Int) else 3) > 1 then (if (n : Int) < 3 then (n : Int) else 3) else 1) = (m : Int) ∧ m ≤ 3 := by
  by_cases h3 : (n : Int) < 3
  · rw [if_pos h3]
    by_cases h1 : (n : Int) > 1
    · rw [if_pos h1]
      exact ⟨n, rfl, by omega⟩
    · rw [if_neg h1]
      exact ⟨1, rfl, by omega⟩
  · rw [if_neg h3]
    exact ⟨3, rfl, by omega⟩
theorem ok_law {f fP fR : Addr} {fd fdP fdR : FuncData} {k : Nat} (F : Fun K "law" "law" sLaw f fd)
    (FP : Fun K "_law_pot" "_law_pot" sPot fP fdP) (bP : Binds K fdP ["_law_script", "_law_k"] []) (gP : mg "_law_pot" = some (.ref fP)) (GP : FnOk P w K mg base CX0 k fP fdP ["_law_script", "_law_k"] (spPot K))
    (FR : Fun K "_law_right" "_law_right" sRight fR fdR) (bR : Binds K fdR ["_law_pot_here"] []) (gR : mg "_law_right" = some (.ref fR)) (GR : FnOk P w K mg base CX0 k fR fdR ["_law_pot_here"] spRight)
    (mr : mg "range" = none) (mx : mg "max" = none) (mn : mg "min" = none) (ml : mg "len" = none) : FnOk P w K mg base CX0 (k + 1) f fd ["_law_script"] (spLaw K) := by
  refine F.ok scLaw (fun vs H Q E h => ?_) (fun cdv A outer s H vs Q E hr h => ?_)
  · obtain ⟨a, ns, rfl, _⟩ := h
    rfl
  · obtain ⟨a, ns, rfl, hS, hlen, q⟩ := h
    refine ⟨_, pss_cons (ps_for PassesOwn.never rfl (pi_range1 rfl mr (pa_cons (pe_callB (call_max2 rfl) (by rfl) mx (by decide +kernel) (pa_cons pe_int (pa_cons
          (pe_callB (call_min2 rfl) (by rfl) mn (by decide +kernel) (pa_cons pe_int (pa_cons (pe_callB call_len_seq (by rfl) ml PySem.boot_len (pa_cons (pv 0) pa_nil)) pa_nil))) pa_nil))) pa_nil)) (pg_name (i := 1) scLaw.nd rfl (.inl rfl))
        (pss_cons (ps_set (i := 2) scLaw.nd rfl (.inl rfl) (pe_call GP hr (by rfl) gP FP.kp bP .nil pass0 (pa_cons (pv 0) (pa_cons (pv 1) pa_nil))))
        (pss_one (ps_if (pt_not (pt_val (pe_call GR hr (by rfl) gR FR.kp bR .nil pass0 (pa_cons (pv 2) pa_nil)))) (pss_one (ps_ret pe_bl)) pss_nil))))
      (pss_one (ps_ret pe_bl)), ?_⟩
    refine ⟨.ref a, rfl, a, _, rfl, .inl hS, 3, _, rfl, 1, _, rfl, ?_⟩
    rw [List.length_map]
    obtain ⟨m, em, lm⟩ := turns_le ns.length
    rw [em]
    refine ⟨_, rfl, by omega, by omega, ?_⟩
    refine for_it (walk_range (lo := 0) (n := m)) (fun i σ H2 => ∃ y1 y2, σ = [some (.ref a), y1, y2] ∧ SqL K H2 a (ns.map V.int)) ⟨none, none, rfl, hS⟩ (fun _ _ _ _ _ => True.intro) (fun i x σ H2 H2' hi hP hy => ?_) (fun σ H2 hP => ?_)
    · obtain ⟨y1, y2, rfl, hS2⟩ := hP
      obtain ⟨rfl, rfl⟩ := hy
      refine ⟨.ref a, rfl, _, rfl, a, ns, i, by
        show [V.ref a, V.int ((0 : Int) + (i : Nat))] = _
        rw [Int.zero_add], hS2, by omega, fun p H3 np s3 hp3 => ?_⟩
      refine ⟨.ref p, rfl, p, rfl, hp3, fun H4 k4 => ⟨true, rfl, iteF ?_⟩⟩
      have s4 : Same H2' H4 := fun b o hb => k4 b o (fun z => by
        rw [z, np] at hb
        cases hb) (s3 b o hb)
      exact ⟨_, _, rfl, s4.seq hS2⟩
    · exact q H2
end
end Sf
namespace Sf
open PySem PySem.Spec PyProof.Rows L2
theorem all_mk {l : PySem.W.OpenLaw} {w : World} {K : PySem.W.Frag} {h : Heap} {mg : Str → Option Value} {fa f0 f1 f2 f3 f4 f5 f6 f7 f8 f9 f10 f11 f12 f13 : Addr} (X : K.In h) (G : h.Ns mainGlobals mg) (hfa : mg "law" = some (.ref fa))
    {od0 an0 od1 an1 od2 an2 od3 an3 od4 an4 od5 an5 od6 an6 od7 an7 od8 an8 od9 an9 od10 an10 od11 an11 od12 an12 od13 an13 : Option Addr} {sl0 sl1 sl2 sl3 sl4 sl5 sl6 sl7 sl8 sl9 sl10 sl11 sl12 sl13 : Array (Option Value)} {oc0 kV0 dc0 pm0 cd0 ct0 oc1 kV1 dc1 pm1 cd1 ct1 oc2 kV2 dc2 pm2 cd2 ct2 oc3 kV3 dc3 pm3 cd3 ct3 oc4 kV4 dc4 pm4 cd4 ct4 oc5 kV5 dc5 pm5 cd5 ct5 oc6 kV6 dc6 pm6 cd6 ct6 oc7 kV7 dc7 pm7 cd7 ct7 oc8 kV8 dc8 pm8 cd8 ct8 oc9 kV9 dc9 pm9 cd9 ct9 oc10 kV10 dc10 pm10 cd10 ct10 oc11 kV11 dc11 pm11 cd11 ct11 oc12 kV12 dc12 pm12 cd12 ct12 oc13 kV13 dc13 pm13 cd13 ct13 : Value}
    {tk0 tk1 tk2 : Tok}
    (a0 : PySem.W.nsIn K mainGlobals "is_text" = some (some (.ref f0))) (l0 : K.lookup f0 = some ⟨oc0, od0, .func (PySem.W.fnOf "is_text" "is_text" (defArgs sIsText) (defBody sIsText) (defScope sIsText) .none kV0 dc0 pm0 an0 cd0 ct0), sl0⟩) (c0 : PySem.W.codeIn K cd0 "is_text" = true) (k0 : PySem.W.keepIn K (.ref f0) = true)
    (a1 : PySem.W.nsIn K mainGlobals "check_text" = some (some (.ref f1))) (l1 : K.lookup f1 = some ⟨oc1, od1, .func (PySem.W.fnOf "check_text" "check_text" (defArgs sCheck) (defBody sCheck) (defScope sCheck) .none kV1 dc1 pm1 an1 cd1 ct1), sl1⟩) (c1 : PySem.W.codeIn K cd1 "check_text" = true) (k1 : PySem.W.keepIn K (.ref f1) = true)
    (a2 : PySem.W.nsIn K mainGlobals "pairs_in" = some (some (.ref f2))) (l2 : K.lookup f2 = some ⟨oc2, od2, .func (PySem.W.fnOf "pairs_in" "pairs_in" (defArgs sPairsIn) (defBody sPairsIn) (defScope sPairsIn) .none kV2 dc2 pm2 an2 cd2 ct2), sl2⟩) (c2 : PySem.W.codeIn K cd2 "pairs_in" = true) (k2 : PySem.W.keepIn K (.ref f2) = true)
    (a3 : PySem.W.nsIn K mainGlobals "pairs_of_all" = some (some (.ref f3))) (l3 : K.lookup f3 = some ⟨oc3, od3, .func (PySem.W.fnOf "pairs_of_all" "pairs_of_all" (defArgs sPairsAll) (defBody sPairsAll) (defScope sPairsAll) .none kV3 dc3 pm3 an3 cd3 ct3), sl3⟩) (c3 : PySem.W.codeIn K cd3 "pairs_of_all" = true) (k3 : PySem.W.keepIn K (.ref f3) = true)
    (a4 : PySem.W.nsIn K mainGlobals "allows" = some (some (.ref f4))) (l4 : K.lookup f4 = some ⟨oc4, od4, .func (PySem.W.fnOf "allows" "allows" (defArgs sAllows) (defBody sAllows) (defScope sAllows) .none kV4 dc4 pm4 an4 cd4 ct4), sl4⟩) (c4 : PySem.W.codeIn K cd4 "allows" = true) (k4 : PySem.W.keepIn K (.ref f4) = true)
    (a5 : PySem.W.nsIn K mainGlobals "_law_pot" = some (some (.ref f5))) (l5 : K.lookup f5 = some ⟨oc5, od5, .func (PySem.W.fnOf "_law_pot" "_law_pot" (defArgs sPot) (defBody sPot) (defScope sPot) .none kV5 dc5 pm5 an5 cd5 ct5), sl5⟩) (c5 : PySem.W.codeIn K cd5 "_law_pot" = true) (k5 : PySem.W.keepIn K (.ref f5) = true)
    (a6 : PySem.W.nsIn K mainGlobals "_law_draw" = some (some (.ref f6))) (l6 : K.lookup f6 = some ⟨oc6, od6, .func (PySem.W.fnOf "_law_draw" "_law_draw" (defArgs sDraw) (defBody sDraw) (defScope sDraw) .none kV6 dc6 pm6 an6 cd6 ct6), sl6⟩) (c6 : PySem.W.codeIn K cd6 "_law_draw" = true) (k6 : PySem.W.keepIn K (.ref f6) = true)
    (a7 : PySem.W.nsIn K mainGlobals "_law_any" = some (some (.ref f7))) (l7 : K.lookup f7 = some ⟨oc7, od7, .func (PySem.W.fnOf "_law_any" "_law_any" (defArgs sAny) (defBody sAny) (defScope sAny) .none kV7 dc7 pm7 an7 cd7 ct7), sl7⟩) (c7 : PySem.W.codeIn K cd7 "_law_any" = true) (k7 : PySem.W.keepIn K (.ref f7) = true)
    (a8 : PySem.W.nsIn K mainGlobals "_law_text" = some (some (.ref f8))) (l8 : K.lookup f8 = some ⟨oc8, od8, .func (PySem.W.fnOf "_law_text" "_law_text" (defArgs sText) (defBody sText) (defScope sText) .none kV8 dc8 pm8 an8 cd8 ct8), sl8⟩) (c8 : PySem.W.codeIn K cd8 "_law_text" = true) (k8 : PySem.W.keepIn K (.ref f8) = true)
    (a9 : PySem.W.nsIn K mainGlobals "_law_pairs" = some (some (.ref f9))) (l9 : K.lookup f9 = some ⟨oc9, od9, .func (PySem.W.fnOf "_law_pairs" "_law_pairs" (defArgs sPairs) (defBody sPairs) (defScope sPairs) .none kV9 dc9 pm9 an9 cd9 ct9), sl9⟩) (c9 : PySem.W.codeIn K cd9 "_law_pairs" = true) (k9 : PySem.W.keepIn K (.ref f9) = true)
    (a10 : PySem.W.nsIn K mainGlobals "_law_walked" = some (some (.ref f10))) (l10 : K.lookup f10 = some ⟨oc10, od10, .func (PySem.W.fnOf "_law_walked" "_law_walked" (defArgs sWalked) (defBody sWalked) (defScope sWalked) .none kV10 dc10 pm10 an10 cd10 ct10), sl10⟩) (c10 : PySem.W.codeIn K cd10 "_law_walked" = true) (k10 : PySem.W.keepIn K (.ref f10) = true)
    (a11 : PySem.W.nsIn K mainGlobals "_law_all_texts" = some (some (.ref f11))) (l11 : K.lookup f11 = some ⟨oc11, od11, .func (PySem.W.fnOf "_law_all_texts" "_law_all_texts" (defArgs sAllT) (defBody sAllT) (defScope sAllT) .none kV11 dc11 pm11 an11 cd11 ct11), sl11⟩) (c11 : PySem.W.codeIn K cd11 "_law_all_texts" = true) (k11 : PySem.W.keepIn K (.ref f11) = true)
    (a12 : PySem.W.nsIn K mainGlobals "_law_right" = some (some (.ref f12))) (l12 : K.lookup f12 = some ⟨oc12, od12, .func (PySem.W.fnOf "_law_right" "_law_right" (defArgs sRight) (defBody sRight) (defScope sRight) .none kV12 dc12 pm12 an12 cd12 ct12), sl12⟩) (c12 : PySem.W.codeIn K cd12 "_law_right" = true) (k12 : PySem.W.keepIn K (.ref f12) = true)
    (a13 : PySem.W.nsIn K mainGlobals "law" = some (some (.ref f13))) (l13 : K.lookup f13 = some ⟨oc13, od13, .func (PySem.W.fnOf "law" "law" (defArgs sLaw) (defBody sLaw) (defScope sLaw) .none kV13 dc13 pm13 an13 cd13 ct13), sl13⟩) (c13 : PySem.W.codeIn K cd13 "law" = true) (k13 : PySem.W.keepIn K (.ref f13) = true)
    (z0 : PySem.W.nsIn K mainGlobals "isinstance" = some none)
    (z1 : PySem.W.nsIn K mainGlobals "str" = some none)
    (z2 : PySem.W.nsIn K mainGlobals "all" = some none)
    (z3 : PySem.W.nsIn K mainGlobals "zip" = some none)
    (z4 : PySem.W.nsIn K mainGlobals "tuple" = some none)
    (z5 : PySem.W.nsIn K mainGlobals "sorted" = some none)
    (z6 : PySem.W.nsIn K mainGlobals "set" = some none)
    (z7 : PySem.W.nsIn K mainGlobals "int" = some none)
    (z8 : PySem.W.nsIn K mainGlobals "abs" = some none)
    (z9 : PySem.W.nsIn K mainGlobals "len" = some none)
    (z10 : PySem.W.nsIn K mainGlobals "range" = some none)
    (z11 : PySem.W.nsIn K mainGlobals "max" = some none)
    (z12 : PySem.W.nsIn K mainGlobals "min" = some none)
    (v0 : PySem.W.nsIn K mainGlobals "LETTERS" = some (some (.str (Str.ofString " 0123456789_abcdefghijklmnopqrstuvwxyz") tk0)))
    (v1 : PySem.W.nsIn K mainGlobals "BEGIN" = some (some (.str (Str.ofString "^") tk1)))
    (v2 : PySem.W.nsIn K mainGlobals "END" = some (some (.str (Str.ofString "$") tk2)))
    : ∃ fd : FuncData, (∀ (s : Shared) (v : Value), BindsTo s fd ⟨[v], []⟩ [("_law_script", v)]) ∧ ∀ base : Heap, K.In base → base.Ns mainGlobals mg → FnOk l.prog w K mg base CX0 5 fa fd ["_law_script"] (spLaw K) := by
  have e := hfa.symm.trans (PySem.W.mg_of X G a13)
  cases e
  have F0 := fun_mk (st := sIsText) l0 c0 k0
  have b0 := F0.binds (ps := ["value"]) fun _ _ _ _ _ _ us hl => match us, hl with | [_], _ => rfl
  have g0 := PySem.W.mg_of X G a0
  have F1 := fun_mk (st := sCheck) l1 c1 k1
  have b1 := F1.binds (ps := ["value"]) fun _ _ _ _ _ _ us hl => match us, hl with | [_], _ => rfl
  have g1 := PySem.W.mg_of X G a1
  have F2 := fun_mk (st := sPairsIn) l2 c2 k2
  have b2 := F2.binds (ps := ["text"]) fun _ _ _ _ _ _ us hl => match us, hl with | [_], _ => rfl
  have g2 := PySem.W.mg_of X G a2
  have F3 := fun_mk (st := sPairsAll) l3 c3 k3
  have b3 := F3.binds (ps := ["texts"]) fun _ _ _ _ _ _ us hl => match us, hl with | [_], _ => rfl
  have g3 := PySem.W.mg_of X G a3
  have F4 := fun_mk (st := sAllows) l4 c4 k4
  have b4 := F4.binds (ps := ["pairs", "text"]) fun _ _ _ _ _ _ us hl => match us, hl with | [_, _], _ => rfl
  have g4 := PySem.W.mg_of X G a4
  have F5 := fun_mk (st := sPot) l5 c5 k5
  have b5 := F5.binds (ps := ["_law_script", "_law_k"]) fun _ _ _ _ _ _ us hl => match us, hl with | [_, _], _ => rfl
  have g5 := PySem.W.mg_of X G a5
  have F6 := fun_mk (st := sDraw) l6 c6 k6
  have b6 := F6.binds (ps := ["_law_pot_here", "_law_many"]) fun _ _ _ _ _ _ us hl => match us, hl with | [_, _], _ => rfl
  have g6 := PySem.W.mg_of X G a6
  have F7 := fun_mk (st := sAny) l7 c7 k7
  have b7 := F7.binds (ps := ["_law_pot_here", "_law_items"]) fun _ _ _ _ _ _ us hl => match us, hl with | [_, _], _ => rfl
  have g7 := PySem.W.mg_of X G a7
  have F8 := fun_mk (st := sText) l8 c8 k8
  have b8 := F8.binds (ps := ["_law_pot_here", "_law_letters", "_law_most"]) fun _ _ _ _ _ _ us hl => match us, hl with | [_, _, _], _ => rfl
  have g8 := PySem.W.mg_of X G a8
  have F9 := fun_mk (st := sPairs) l9 c9 k9
  have b9 := F9.binds (ps := ["_law_texts"]) fun _ _ _ _ _ _ us hl => match us, hl with | [_], _ => rfl
  have g9 := PySem.W.mg_of X G a9
  have F10 := fun_mk (st := sWalked) l10 c10 k10
  have b10 := F10.binds (ps := ["_law_pairs_here", "_law_letters", "_law_most"]) fun _ _ _ _ _ _ us hl => match us, hl with | [_, _, _], _ => rfl
  have g10 := PySem.W.mg_of X G a10
  have F11 := fun_mk (st := sAllT) l11 c11 k11
  have b11 := F11.binds (ps := ["_law_letters", "_law_most"]) fun _ _ _ _ _ _ us hl => match us, hl with | [_, _], _ => rfl
  have g11 := PySem.W.mg_of X G a11
  have F12 := fun_mk (st := sRight) l12 c12 k12
  have b12 := F12.binds (ps := ["_law_pot_here"]) fun _ _ _ _ _ _ us hl => match us, hl with | [_], _ => rfl
  have g12 := PySem.W.mg_of X G a12
  have F13 := fun_mk (st := sLaw) l13 c13 k13
  have g13 := PySem.W.mg_of X G a13
  have m_isinstance := PySem.W.mg_none_of X G z0
  have m_str := PySem.W.mg_none_of X G z1
  have m_all := PySem.W.mg_none_of X G z2
  have m_zip := PySem.W.mg_none_of X G z3
  have m_tuple := PySem.W.mg_none_of X G z4
  have m_sorted := PySem.W.mg_none_of X G z5
  have m_set := PySem.W.mg_none_of X G z6
  have m_int := PySem.W.mg_none_of X G z7
  have m_abs := PySem.W.mg_none_of X G z8
  have m_len := PySem.W.mg_none_of X G z9
  have m_range := PySem.W.mg_none_of X G z10
  have m_max := PySem.W.mg_none_of X G z11
  have m_min := PySem.W.mg_none_of X G z12
  have c_LETTERS := PySem.W.mg_of X G v0
  have c_BEGIN := PySem.W.mg_of X G v1
  have c_END := PySem.W.mg_of X G v2
  refine ⟨PySem.W.fnOf "law" "law" (defArgs sLaw) (defBody sLaw) (defScope sLaw) .none kV13 dc13 pm13 an13 cd13 ct13, fun s v => .of_eq rfl, fun base _ _ => ?_⟩
  have GI := ok_isText (P := l.prog) (w := w) (base := base) (k := 0) F0 m_isinstance m_str m_all c_LETTERS
  have GC := ok_check (k := 0) F1 F0 b0 g0 GI
  have GP := ok_pairsIn (P := l.prog) (w := w) (base := base) (k := 1) F2 m_zip c_BEGIN c_END
  have GPA := ok_pairsAll (k := 0) F3 F1 b1 g1 GC F2 b2 g2 GP m_tuple m_sorted m_set
  have GAl := ok_allows (k := 0) F4 F1 b1 g1 GC F2 b2 g2 GP m_all
  have GD1 := ok_draw (P := l.prog) (w := w) (base := base) (k := 0) F6 m_int
  have GD2 := ok_draw (P := l.prog) (w := w) (base := base) (k := 1) F6 m_int
  have GD3 := ok_draw (P := l.prog) (w := w) (base := base) (k := 2) F6 m_int
  have GA2 := ok_any (k := 0) F7 F6 b6 g6 GD1 m_len
  have GA3 := ok_any (k := 1) F7 F6 b6 g6 GD2 m_len
  have GT := ok_text (k := 0) F8 F6 b6 g6 GD2 F7 b7 g7 GA2 m_range
  have GLP := ok_pairs (P := l.prog) (w := w) (base := base) (k := 2) F9 m_tuple m_sorted m_set m_range m_len
  have GW := ok_walked (P := l.prog) (w := w) (base := base) (k := 2) F10 m_range
  have GAT := ok_allT (P := l.prog) (w := w) (base := base) (k := 2) F11 m_range
  have GPot := ok_pot (P := l.prog) (w := w) (base := base) (k := 3) F5 m_int m_abs m_len
  have GR := ok_right (k := 3) F12 ⟨F7, b7, g7, GA3, F6, b6, g6, GD3, F8, b8, g8, GT, F3, b3, g3, GPA, F9, b9, g9, GLP, F4, b4, g4, GAl, F11, b11, g11, GAT, F10, b10, g10, GW⟩ m_range m_tuple m_len m_all m_sorted
  exact ok_law (k := 4) F13 F5 b5 g5 GPot F12 b12 g12 GR m_range m_max m_min m_len
end Sf
open PySem PySem.W PyProof.Rows
set_option maxHeartbeats 0 in
theorem PySem.Challenge.cw_siftstore_k03_texts_that_are_allowed_holds : PySem.Challenge.rw_siftstore_k03_texts_that_are_allowed.Holds := by
  w_on; o_law; k_head; (case hw => w_witness2)
  k_fill
  refine L2.walk_of (l := PySem.Challenge.rw_siftstore_k03_texts_that_are_allowed) (n := 63) (k := 5) (x := "_law_script") (CX := fun _ => L2.CX0) (sp := fun w => Sf.spLaw _) rfl (by decide) rfl ⟨rfl, by decide, by decide⟩ (fun w h Y => PySem.W.kIn_of Y) ?F (fun _ _ a ns hl _ hS => ⟨a, ns, rfl, hS, hl, fun _ => rfl⟩) (fun _ _ _ _ _ h => h)
  case F =>
    intro w mg fa h KX G hmg
    refine' Sf.all_mk KX G hmg ?a0 ?l0 ?c0 ?k0 ?a1 ?l1 ?c1 ?k1 ?a2 ?l2 ?c2 ?k2 ?a3 ?l3 ?c3 ?k3 ?a4 ?l4 ?c4 ?k4 ?a5 ?l5 ?c5 ?k5 ?a6 ?l6 ?c6 ?k6 ?a7 ?l7 ?c7 ?k7 ?a8 ?l8 ?c8 ?k8 ?a9 ?l9 ?c9 ?k9 ?a10 ?l10 ?c10 ?k10 ?a11 ?l11 ?c11 ?k11 ?a12 ?l12 ?c12 ?k12 ?a13 ?l13 ?c13 ?k13 ?z0 ?z1 ?z2 ?z3 ?z4 ?z5 ?z6 ?z7 ?z8 ?z9 ?z10 ?z11 ?z12 ?v0 ?v1 ?v2
    (case a0 => k_is); (case l0 => k_is); (case c0 => k_is); (case k0 => k_is); (case a1 => k_is); (case l1 => k_is); (case c1 => k_is); (case k1 => k_is); (case a2 => k_is); (case l2 => k_is); (case c2 => k_is); (case k2 => k_is); (case a3 => k_is); (case l3 => k_is); (case c3 => k_is); (case k3 => k_is); (case a4 => k_is); (case l4 => k_is); (case c4 => k_is); (case k4 => k_is); (case a5 => k_is); (case l5 => k_is); (case c5 => k_is); (case k5 => k_is); (case a6 => k_is); (case l6 => k_is); (case c6 => k_is); (case k6 => k_is); (case a7 => k_is); (case l7 => k_is); (case c7 => k_is); (case k7 => k_is); (case a8 => k_is); (case l8 => k_is); (case c8 => k_is); (case k8 => k_is); (case a9 => k_is); (case l9 => k_is); (case c9 => k_is); (case k9 => k_is); (case a10 => k_is); (case l10 => k_is); (case c10 => k_is); (case k10 => k_is); (case a11 => k_is); (case l11 => k_is); (case c11 => k_is); (case k11 => k_is); (case a12 => k_is); (case l12 => k_is); (case c12 => k_is); (case k12 => k_is); (case a13 => k_is); (case l13 => k_is); (case c13 => k_is); (case k13 => k_is); (case z0 => k_is); (case z1 => k_is); (case z2 => k_is); (case z3 => k_is); (case z4 => k_is); (case z5 => k_is); (case z6 => k_is); (case z7 => k_is); (case z8 => k_is); (case z9 => k_is); (case z10 => k_is); (case z11 => k_is); (case z12 => k_is); (case v0 => k_is); (case v1 => k_is); (case v2 => k_is)
