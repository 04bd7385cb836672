import PyProof.Rows.All
import Wide.All
import OpenK.AllK
import Wide.FinOn
import PySem.Challenge.RW_siftstore_k01_texts_and_pair_sets
import HandS.ForMost
import HandS.Set
import HandS.SetFor
import HandS.SetTxt0
import PyProof.Rows.SortShellAny
import KE.GoesEnum
import HandS.Walk
import HandS.Ends
import HandS.IsInst
import HandS.Dict
import PyProof.ReprLen
import HandS.Wide
import HandS.Steps
import HandS.TupAny
import HandS.Conv
import HandS.Evl
set_option Elab.async false
set_option linter.all false
set_option maxRecDepth 100000
/-! Sets of texts: set(list or tuple of texts), sorted of such a set, at any size below the scan's. -/
namespace Sf
open PySem PySem.Spec PyProof.Rows L2 PySem.Froz
/-- the members behind one more text -/
def insT (l : List Str) (x : Str) : List Str := if x ∈ l then l else x :: l
theorem insT_nodup {l : List Str} {x : Str} (h : l.Nodup) : (insT l x).Nodup := by
  unfold insT
  split
  · exact h
  · rename_i hx
    exact List.nodup_cons.mpr ⟨hx, h⟩
theorem insT_mem {l : List Str} {x y : Str} : y ∈ insT l x ↔ y ∈ l ∨ y = x := by
  unfold insT
  split
  · rename_i hx
    exact ⟨.inl, fun z => z.elim id fun e => e ▸ hx⟩
  · rw [List.mem_cons]
    exact Or.comm
theorem insT_len {l : List Str} {x : Str} : (insT l x).length ≤ l.length + 1 := by
  unfold insT
  split
  · omega
  · exact Nat.le_refl _
def toSet (xs : List Str) : List Str := xs.foldl insT []
theorem fold_mem (y : Str) : ∀ (xs l : List Str), y ∈ xs.foldl insT l ↔ y ∈ l ∨ y ∈ xs
  | [], l => by simp
  | x :: r, l => by
    rw [List.foldl_cons, fold_mem y r, insT_mem, List.mem_cons]
    constructor
    · rintro ((h | h) | h)
      · exact .inl h
      · exact .inr (.inl h)
      · exact .inr (.inr h)
    · rintro (h | h | h)
      · exact .inl (.inl h)
      · exact .inl (.inr h)
      · exact .inr h
theorem toSet_mem {y : Str} {xs : List Str} : y ∈ toSet xs ↔ y ∈ xs := by
  unfold toSet
  rw [fold_mem]
  simp
theorem toSet_snoc (xs : List Str) (x : Str) : toSet (xs ++ [x]) = insT (toSet xs) x := by
  unfold toSet
  rw [List.foldl_append] <;> rfl
section
variable {P : Program} {w : World} {A : Around} {E : Value → Shared → Prop} {s : Shared}
theorem addTx_ris {h : Int} {v : Value} {D : SD} (r : Ris D.2.2.place.toList) : Ris (addTx h v D).2.2.place.toList ∧ (addTx h v D).2.2.led = D.2.2.led := by
  have r1 := layNew_ris D.2.2 D.1 h v r
  have l1 := layNew_led D.2.2 D.1 h v
  unfold addTx tailTx
  generalize layNew D.2.2 D.1 h v = L at r1 l1
  have hp : (if L.2.1.plain = true then { L.2.1 with plain := false } else L.2.1).place = L.2.1.place := by split <;> rfl
  have hl : (if L.2.1.plain = true then { L.2.1 with plain := false } else L.2.1).led = L.2.1.led := by split <;> rfl
  generalize (if L.2.1.plain = true then { L.2.1 with plain := false } else L.2.1) = t2 at hp hl
  split
  · exact ⟨relayAll_ris _ _ _, (relayAll_led _ _ _).trans (hl.trans l1)⟩
  · exact ⟨by show Ris t2.place.toList; rw [hp]; exact r1, hl.trans l1⟩
/-- at a stands a set of just the texts l, each once, which can be walked -/
def TxSet (P : Program) (w : World) (h : Heap) (a : Addr) (l : List Str) : Prop :=
  ∃ D : SD, h.get? a = some (sObj "set" D) ∧ TxOk P w D l ∧ l.Nodup ∧ Ris D.2.2.place.toList ∧ (w.params.followText "set-order" = true ∨ D.2.2.led = true)
theorem TxSet.at {h h' : Heap} {a : Addr} {l : List Str} (R : TxSet P w h a l) (k : ∀ o, h.get? a = some o → h'.get? a = some o) : TxSet P w h' a l := by
  obtain ⟨D, e, r⟩ := R
  exact ⟨D, k _ e, r⟩
theorem TxSet.new {h : Heap} {a : Addr} (e : h.get? a = some { cls := .type "set", dict := none, data := .set #[] 0 (.fresh 0 0 (!w.params.followText "set-order")) }) : TxSet P w h a [] := by
  refine ⟨(#[], 0, .fresh 0 0 (!w.params.followText "set-order")), e, TxOk.nil (by rfl), List.nodup_nil, List.Pairwise.nil, ?_⟩
  show _ ∨ (!w.params.followText "set-order") = true
  cases w.params.followText "set-order"
  · exact .inr rfl
  · exact .inl rfl
/-- a text that is in is not laid again -/
theorem add_held {a : Addr} {D : SD} {l : List Str} {k : Str} {u : Tok} {Q : Bool → Shared → Prop} (ho : s.heap.get? a = some (sObj "set" D)) (F : TxOk P w D l) (hk : k ∈ l) (hb : l.length < scanBound)
    (h : ∀ b, Q b s) : wpAny (model P w) A (setAddHashed a (.str k u) (hashStr w k)) Q E s := by
  obtain ⟨es, ep, t⟩ := D
  have sz : es.size < scanBound := by
    have e : es.size = l.length := F.sz
    omega
  obtain ⟨e, he, hi⟩ := (F.mem k).mp hk
  cases hf : List.findIdx? (fun e => (strKind P w).is k e.2) es.toList with
  | none =>
    have c := List.findIdx?_eq_none_iff.mp hf e he
    rw [hi] at c
    cases c
  | some j =>
    unfold setAddHashed setAddHashedIn
    refine wpAny_holding (wpAny_bind (wpAny_setState_of ho rfl F.fit ?_))
    dsimp only
    rw [byScan_of rfl sz F.el]
    simp only [↓reduceIte]
    unfold setAddByScan
    refine wpAny_bind (wpAny_bind (wpAny_rule (wpAny_bind (wpAny_setScan_of (knd := strKind P w) (k := k) (is_str k u) ho rfl F.fit F.el ?_))))
    rw [hf]
    exact wpAny_pure (wpAny_pure (h _))
/-- the set's add of any text -/
theorem add_any {a : Addr} {l : List Str} {k : Str} {u : Tok} {Q : Bool → Shared → Prop} (R : TxSet P w s.heap a l) (hb : l.length + 1 < scanBound)
    (h : ∀ b h', (∀ c o, c ≠ a → s.heap.get? c = some o → h'.get? c = some o) → TxSet P w h' a (insT l k) → Q b { s with heap := h', toks := s.toks + 1 }) :
    wpAny (model P w) A (setAdd a (.str k u)) Q E s := by
  obtain ⟨D, ho, F, nd, r, led⟩ := R
  unfold setAdd
  refine wpAny_holding (wpAny_bind ((strKind P w).pyHash (is_str k u) ?_))
  by_cases hk : k ∈ l
  · refine add_held (s := { s with toks := s.toks + 1 }) ho F hk (by omega) fun b => h b s.heap (fun _ _ _ e => e) ?_
    unfold insT
    rw [if_pos hk]
    exact ⟨D, ho, F, nd, r, led⟩
  · refine add_x (s := { s with toks := s.toks + 1 }) ho F hk hb (h true _ (fun c o ne e => (Heap.get?_update_other _ _ ne.symm).trans e) ?_)
    obtain ⟨r2, l2⟩ := addTx_ris (h := hashStr w k) (v := Value.str k u) r
    unfold insT
    rw [if_neg hk]
    exact ⟨_, get_upd _ ho rfl, add_ok u F, List.nodup_cons.mpr ⟨hk, nd⟩, r2, led.imp id fun z => l2.trans z⟩
/-- set.update's turns over a walk of texts -/
theorem upd_texts {I : Addr} {fp wr : List Addr} {xs : List Str} {Pv : Nat → Value → Prop} {St : Nat → Heap → Prop} {R : Result → Shared → Prop} (W : Walks P w A.in1 I fp wr xs.length Pv St) (a : Addr) (na : a ∉ fp)
    (hv : ∀ i v, Pv i v → ∃ x t, xs[i]? = some x ∧ v = .str x t) (hx : xs.length + 1 < scanBound) :
    ∀ (m i : Nat) (s : Shared), i + m = xs.length → St i s.heap → TxSet P w s.heap a (toSet (xs.take i)) →
      (∀ h' tk, (∀ b o, b ≠ a → b ∉ wr → s.heap.get? b = some o → h'.get? b = some o) → TxSet P w h' a (toSet xs) → R (.ok (.ret .none)) { s with heap := h', toks := tk }) →
      codeAny (model P w) A (.builtin "set.update.loop" ⟨[.ref a, .ref I], []⟩) R s := by
  have nw : a ∉ wr := fun z => na (W.sub _ z)
  intro m
  induction m with
  | zero =>
    intro i s e st T k
    have ei : i = xs.length := by omega
    subst ei
    rw [List.take_length] at T
    refine codeAny_builtin F.entry_set_update_loop ?_
    rw [Around.under_plainId F.plain_set_update_loop _]
    refine wpAny_bind (W.done s _ _ st fun h' tk kk => ?_)
    exact wpAny_pure (k h' tk (fun b o _ hb e => kk b o hb e) (T.at fun o e => kk a o nw e))
  | succ m ih =>
    intro i s e st T k
    have hi : i < xs.length := by omega
    refine codeAny_builtin F.entry_set_update_loop ?_
    rw [Around.under_plainId F.plain_set_update_loop _]
    refine wpAny_bind (W.item i s _ _ hi st fun v h1 tk1 hp st1 k1 => ?_)
    obtain ⟨x, t, hxi, rfl⟩ := hv i v hp
    have hlen : ∀ l : List Str, (toSet l).length ≤ l.length := fun l => by
      have q : ∀ (l acc : List Str), (l.foldl insT acc).length ≤ acc.length + l.length := by
        intro l
        induction l with
        | nil => intro acc; exact Nat.le_refl _
        | cons y r ih2 =>
          intro acc
          have b1 := ih2 (insT acc y)
          have b2 := insT_len (l := acc) (x := y)
          rw [List.foldl_cons, List.length_cons]
          omega
      have q2 := q l []
      rw [List.length_nil] at q2
      unfold toSet
      omega
    refine wpAny_bind (m := holding [Value.str x t] (setAdd a (.str x t))) (wpAny_holding (add_any (s := { s with heap := h1, toks := tk1 }) (T.at fun o e => k1 a o nw e) (by
      have b1 := hlen (xs.take i)
      rw [List.length_take] at b1
      omega) fun b h2 k2 T2 => ?_))
    refine wpAny_pure ⟨plainId_quiet F.plain_set_update_loop _, ih (i + 1) _ (by omega) (W.frame _ _ _ st1 fun b hb o e => k2 b o (fun z => na (z ▸ hb)) e) ?_ fun h3 tk3 k3 T3 => k h3 tk3 (fun b o nb hb e => k3 b o nb hb (k2 b o nb (k1 b o hb e))) T3⟩
    rw [List.take_add_one, hxi]
    show TxSet P w h2 a (toSet (xs.take i ++ [x]))
    rw [toSet_snoc]
    exact T2
/-- what is walked: a list or a tuple of texts -/
def SeqAt2 (s : Shared) (l : Addr) (xs : List Str) : Prop := ∃ items : Array Value, StrsAre items.toList xs ∧ (s.heap.IsList l items ∨ s.heap.IsTuple l items)
theorem strs_get : ∀ {us : List Value} {xs : List Str} {i : Nat} {v : Value}, StrsAre us xs → us[i]? = some v → ∃ x t, xs[i]? = some x ∧ v = .str x t
  | _, _, _, _, .nil, h => by simp at h
  | _, _, 0, _, .cons n t _, h => by
    rw [List.getElem?_cons_zero] at h
    exact ⟨n, t, rfl, (Option.some.inj h).symm⟩
  | _, _, i + 1, _, .cons n t r, h => by
    rw [List.getElem?_cons_succ] at h
    exact strs_get (i := i) r h
set_option maxHeartbeats 4000000 in
theorem call_setT {l : Addr} {xs : List Str} {Q : Value → Shared → Prop} (hh : A.handled = none) (hl : SeqAt2 s l xs) (hx : xs.length + 1 < scanBound)
    (h : ∀ (h' : Heap) (tk : Nat), (∀ b o, s.heap.get? b = some o → h'.get? b = some o) → TxSet P w h' s.heap.objs.size (toSet xs) → Q (.ref s.heap.objs.size) { s with heap := h', toks := tk }) :
    wpAny (model P w) A (call (.type "set") [.ref l]) Q E s := by
  obtain ⟨c, tl, hmro⟩ := PySem.F.called_set.mro
  have q1 := PySem.F.called_set.made
  have q2 := PySem.F.called_set.sub
  have q3 := PySem.F.called_set.notType
  have q4 := PySem.F.called_set.canCreate
  have q5 := PySem.F.typeCall_set_1 (.ref l)
  refine wpAny_call (codeAny_of_tree (wpAny_pure ⟨Code.quiet_builtin _ (by decide +kernel), codeAny_builtin PySem.F.entry_type_call ?_⟩))
  rw [Around.under_plain (weight_type_call_type "set" [.ref l] []) rfl]
  repeat (any_goals (first | assumption | wp_step))
  generalize hO : ({ cls := .type "set", dict := none, data := .set #[] 0 (.fresh 0 0 (!w.params.followText "set-order")) } : Obj) = O
  have hS : (s.heap.push O).get? s.heap.objs.size = some O := Heap.get?_push_size _ (by rw [← hO]; rfl)
  have hT : Shared.TypeIs { s with heap := s.heap.push O } (.ref s.heap.objs.size) "set" := ⟨_, hS, by rw [← hO]⟩
  refine codeAny_mono (code_set_led1 (.ref l) (E := E) (Q₁ := fun obj s₁ => obj = .ref s.heap.objs.size ∧ s₁ = { s with heap := s.heap.push O }) ⟨rfl, by rw [hO]⟩) fun r s₁ hr => ?_
  cases r with
  | error e => exact hr
  | ok fl =>
    cases fl with
    | ret obj =>
      obtain ⟨rfl, rfl⟩ := hr
      have q6 := PySem.F.called_set.init.lookup
      have q7 := PySem.F.called_set.init.bind (.ref s.heap.objs.size)
      repeat (any_goals (first | assumption | wp_step))
      refine codeAny_mono (codeAny_call_builtin (R := wants (fun r s₂ => r = .none ∧ ∃ h' tk, s₂ = { s with heap := h', toks := tk } ∧ (∀ b o, s.heap.get? b = some o → h'.get? b = some o) ∧ TxSet P w h' s.heap.objs.size (toSet xs)) E)
        PySem.F.called_set.init.plain PySem.F.entry_set_init (check_set_init_1 hT ?_)) fun r₂ s₂ hr₂ => ?_
      · have hneI : ∀ {b : Addr} {o : Obj}, s.heap.get? b = some o → b ≠ (s.heap.push O).objs.size := fun e => by
          rw [Heap.size_push]
          exact Nat.ne_of_lt (Nat.lt_succ_of_lt (Heap.lt_size e))
        have hh3 : A.in1.in1.in1.handled = none := by simp [hh]
        have fin : ∀ (h' : Heap) (tk : Nat), (∀ b o, b ≠ s.heap.objs.size → b ∉ [(s.heap.push O).objs.size] → ((s.heap.push O)).get? b = some o → h'.get? b = some o) → ∀ b o, s.heap.get? b = some o → h'.get? b = some o := fun h' tk k b o e =>
          k b o (Nat.ne_of_lt (Heap.lt_size e)) (fun z => hneI e (List.mem_singleton.mp z)) (Heap.get?_push_of_some _ e)
        obtain ⟨items, hi, hli⟩ := hl
        have hsz : items.size = xs.length := by rw [← StrsAre.length hi, Array.length_toList]
        have hv : ∀ (i : Nat) (v : Value), items[i]? = some v → ∃ x t, xs[i]? = some x ∧ v = .str x t := fun i v e => strs_get hi (by rw [Array.getElem?_toList]; exact e)
        rcases hli with hli | hli
        · obtain ⟨ol, hol, hcl, nl, hdl⟩ := id hli
          obtain ⟨ocls, odict, odata, oslots⟩ := ol
          simp only at hcl hdl
          subst hcl; subst hdl
          have hol' : (s.heap.push O).get? l = some { cls := .type "list", dict := odict, data := .seq items nl, slots := oslots } := Heap.get?_push_of_some _ hol
          have q8 := PySem.F.sub_list_set
          have q9 := PySem.F.sub_list_frozenset
          have q10 : (Value.type "list" == Value.type "dict") = false := by decide
          have hl1 : (s.heap.push O).IsList l items := ⟨_, hol', rfl, nl, rfl⟩
          have nf : s.heap.objs.size ∉ [(s.heap.push O).objs.size, l] := by
            rw [Heap.size_push, List.mem_cons, List.mem_singleton, not_or]
            exact ⟨Nat.ne_of_lt (Nat.lt_succ_self _), Nat.ne_of_gt (Heap.lt_size hol)⟩
          have W := Walks.list (prog := P) (w := w) hh3 (s.heap.push O).objs.size l (hneI hol) items
          rw [hsz] at W
          subst hO
          unfold Builtin.«set.__init__» noKeywords Builtin.Frozenset.updateFrom
          generalize hPI : pyIter = PI
          wp_walk
          subst hPI
          refine wpAny_pyIter_list hl1 ?_
          refine wpAny_bind (wpAny_runValue ?_)
          refine upd_texts W s.heap.objs.size nf hv hx xs.length 0 _ (Nat.zero_add _) ⟨⟨_, Heap.get?_push_size _ rfl, rfl, rfl⟩, hl1.push _⟩ (TxSet.new (Heap.get?_push_of_some _ hS)) fun h' tk k T => ?_
          exact wpAny_pure (wpAny_pure ⟨rfl, h', tk, rfl, fin h' tk fun b o n1 n2 e => k b o n1 n2 (Heap.get?_push_of_some _ e), T⟩)
        · obtain ⟨ol, hol, hcl, nl, hdl⟩ := id hli
          obtain ⟨ocls, odict, odata, oslots⟩ := ol
          simp only at hcl hdl
          subst hcl; subst hdl
          have hol' : (s.heap.push O).get? l = some { cls := .type "tuple", dict := odict, data := .seq items nl, slots := oslots } := Heap.get?_push_of_some _ hol
          have q8 := PySem.F.sub_tuple_set
          have q9 := PySem.F.sub_tuple_frozenset
          have q10 : (Value.type "tuple" == Value.type "dict") = false := by decide
          have hl1 : (s.heap.push O).IsTuple l items := ⟨_, hol', rfl, nl, rfl⟩
          have nf : s.heap.objs.size ∉ [(s.heap.push O).objs.size, l] := by
            rw [Heap.size_push, List.mem_cons, List.mem_singleton, not_or]
            exact ⟨Nat.ne_of_lt (Nat.lt_succ_self _), Nat.ne_of_gt (Heap.lt_size hol)⟩
          have W := Walks.tuple (prog := P) (w := w) hh3 (s.heap.push O).objs.size l (hneI hol) items
          rw [hsz] at W
          subst hO
          unfold Builtin.«set.__init__» noKeywords Builtin.Frozenset.updateFrom
          generalize hPI : pyIter = PI
          wp_walk
          subst hPI
          refine wpAny_pyIter_tuple hl1 ?_
          refine wpAny_bind (wpAny_runValue ?_)
          refine upd_texts W s.heap.objs.size nf hv hx xs.length 0 _ (Nat.zero_add _) ⟨⟨_, Heap.get?_push_size _ rfl, rfl, rfl⟩, hl1.push _⟩ (TxSet.new (Heap.get?_push_of_some _ hS)) fun h' tk k T => ?_
          exact wpAny_pure (wpAny_pure ⟨rfl, h', tk, rfl, fin h' tk fun b o n1 n2 e => k b o n1 n2 (Heap.get?_push_of_some _ e), T⟩)
      · cases r₂ with
        | error e => exact hr₂
        | ok fl₂ =>
          cases fl₂ with
          | ret r =>
            obtain ⟨rfl, h', tk, rfl, k, T⟩ := hr₂
            repeat (any_goals (first | assumption | wp_step))
            exact h _ _ k T
          | _ => exact hr₂.elim
    | _ => exact hr.elim
end
end Sf
namespace Sf
open PySem PySem.Spec PyProof.Rows L2 PySem.Froz
section
variable {P : Program} {w : World} {A : Around} {E : Value → Shared → Prop} {s : Shared}
/-- the texts of the entries -/
theorem rows_strs : ∀ (l : List (Int × Value)), (∀ e ∈ l, ∃ x t, e.2 = Value.str x t) → ∃ xs, StrsAre (l.map (·.2)) xs
  | [], _ => ⟨[], .nil⟩
  | e :: l, h => by
    obtain ⟨x, t, ex⟩ := h e List.mem_cons_self
    obtain ⟨xs, r⟩ := rows_strs l fun u hu => h u (List.mem_cons_of_mem _ hu)
    refine ⟨x :: xs, ?_⟩
    rw [List.map_cons, ex]
    exact .cons x t r
theorem strs_mem : ∀ {us : List Value} {xs : List Str}, StrsAre us xs → ∀ k : Str, k ∈ xs ↔ ∃ v ∈ us, (Value.isStrOf k v) = true
  | _, _, .nil, k => by simp
  | _, _, .cons n t r, k => by
    rw [List.mem_cons, strs_mem r k]
    constructor
    · rintro (h | ⟨v, hv, e⟩)
      · exact ⟨.str n t, List.mem_cons_self, by rw [h]; simp [Value.isStrOf]⟩
      · exact ⟨v, List.mem_cons_of_mem _ hv, e⟩
    · rintro ⟨v, hv, e⟩
      rcases List.mem_cons.mp hv with rfl | hv
      · left
        obtain ⟨t', e'⟩ := Value.isStrOf_shape e
        injection e' with e1 _
        exact e1.symm
      · exact .inr ⟨v, hv, e⟩
theorem strs_perm {us vs : List Value} (p : us.Perm vs) : ∀ {xs : List Str}, StrsAre vs xs → ∃ ys, StrsAre us ys ∧ ys.Perm xs := by
  induction p with
  | nil => intro xs h; exact ⟨xs, h, .refl _⟩
  | cons v p ih =>
    intro xs h
    cases h with
    | cons n t r =>
      obtain ⟨ys, h1, h2⟩ := ih r
      exact ⟨n :: ys, .cons n t h1, h2.cons n⟩
  | swap u v l =>
    intro xs h
    cases h with
    | cons n t r =>
      cases r with
      | cons m t2 r2 => exact ⟨m :: n :: _, .cons m t2 (.cons n t r2), .swap _ _ _⟩
  | trans p q ih1 ih2 =>
    intro xs h
    obtain ⟨ys, h1, h2⟩ := ih2 h
    obtain ⟨zs, h3, h4⟩ := ih1 h1
    exact ⟨zs, h3, h4.trans h2⟩
theorem perm_of_sub : ∀ (l m : List Str), l.Nodup → (∀ x ∈ l, x ∈ m) → m.length ≤ l.length → l.Perm m
  | [], m, _, _, h => by
    have e : m = [] := List.eq_nil_of_length_eq_zero (Nat.le_zero.mp h)
    rw [e]
  | x :: l, m, nd, sub, h => by
    obtain ⟨m1, m2, rfl⟩ := List.append_of_mem (sub x List.mem_cons_self)
    obtain ⟨n1, n2⟩ := List.nodup_cons.mp nd
    have p : l.Perm (m1 ++ m2) := perm_of_sub l (m1 ++ m2) n2 (fun y hy => by
      have q := sub y (List.mem_cons_of_mem _ hy)
      rw [List.mem_append, List.mem_cons] at q
      rw [List.mem_append]
      rcases q with q | q | q
      · exact .inl q
      · exact absurd (q ▸ hy) n1
      · exact .inr q) (by
      rw [List.length_append, List.length_cons, List.length_cons] at h
      rw [List.length_append]
      omega)
    exact (p.cons x).trans List.perm_middle.symm
set_option maxHeartbeats 2000000 in
theorem sorted_txset {a : Addr} {l : List Str} {Q : Value → Shared → Prop} (R : TxSet P w s.heap a l) (hh : A.handled = none) (hb : l.length < scanBound)
    (h : ∀ s' p (out : Array Value) (c : Nat) (ys : List Str), (∀ b o, s.heap.get? b = some o → s'.heap.get? b = some o) → s'.gens = s.gens → s'.os = s.os → s.heap.objs.size ≤ p →
      s'.heap.get? p = some (seqObj "list" out c) → StrsAre out.toList ys → sortedS ys = true → ys.Perm l → Q (.ref p) s') :
    wpAny (model P w) A (call (.builtin "sorted") [.ref a]) Q E s := by
  obtain ⟨⟨es, ep, t⟩, ho, F, nd, r, led⟩ := R
  have hsz : es.size = l.length := F.sz
  have hes : es.size < scanBound := by omega
  refine Calls.call_function_entry kind_sorted plain_sorted entry_sorted (args_sorted1 _) ?_
  unfold Builtin.«sorted»
  refine wpAny_bind (m := checkCount "sorted" 1 1 _) (wpAny_pure (wpAny_bind (collect_set (A := A.in1) hh ⟨_, ho, rfl, rfl⟩ F.fit hes r led fun s1 vs k1 hz g1 o1 pm0 => ?_)))
  have pm : vs.Perm (es.toList.map (·.2)) := pm0
  have hel : ∀ e ∈ es.toList, ∃ x t, e.2 = Value.str x t := fun e he => by
    obtain ⟨⟨k, hk, _⟩, _⟩ := F.el e he
    obtain ⟨t', e'⟩ := Value.isStrOf_shape (x := k) (v := e.2) hk
    exact ⟨k, t', e'⟩
  obtain ⟨xs0, hx0⟩ := rows_strs es.toList hel
  obtain ⟨xs, hxs, pxs⟩ := strs_perm pm hx0
  have len0 : xs0.length = l.length := by rw [← StrsAre.length hx0, List.length_map, Array.length_toList, hsz]
  have pl : xs0.Perm l := by
    have mem : ∀ k, k ∈ xs0 ↔ k ∈ l := fun k => by
      rw [strs_mem hx0 k]
      refine Iff.trans ?_ (F.mem k).symm
      constructor
      · rintro ⟨v, hv, e⟩
        obtain ⟨en, he, rfl⟩ := List.mem_map.mp hv
        exact ⟨en, he, e⟩
      · rintro ⟨en, he, e⟩
        exact ⟨en.2, List.mem_map.mpr ⟨en, he, rfl⟩, e⟩
    exact (perm_of_sub l xs0 nd (fun k hk => (mem k).mpr hk) (Nat.le_of_eq len0)).symm
  have vlen : vs.length ≤ sizeLine := by
    have q := pm.length_eq
    rw [List.length_map, Array.length_toList] at q
    exact Nat.le_trans (Nat.le_of_eq q) (fits_of_scanBound hes)
  refine wpAny_bind (wpAny_newList ?_ vlen)
  have hoL : (s1.heap.push (seqObj "list" vs.toArray 0)).get? s1.heap.objs.size = some (seqObj "list" vs.toArray 0) := Heap.get?_push_size _ rfl
  refine wpAny_bind (wpAny_holding (wpAny_call_entry slot_list_sort ⟨_, hoL, rfl⟩ entry_list_sort (list_sort_treeKAny strKind_oneLt hoL hxs.keysOf (fun v₁ v₂ rest e => keyKind_strs (by rw [← e]; exact hxs)) vlen fun st' a1 a2 => ⟨_, rfl, ?_⟩) (args_list_sort _)))
  obtain ⟨ys, y1, y2, y3⟩ := sorted_out_str hxs a1 a2
  obtain ⟨c, hc⟩ := sortedHeap_at (vs := vs) (out := (arrOf st').map (·.2)) hoL
  refine wpAny_pure ⟨_, rfl, h _ s1.heap.objs.size _ c ys (fun b u e => ?_) g1 o1 hz hc y1 y3 (y2.trans (pxs.trans pl))⟩
  have q := k1 b u e
  have hlt := Heap.lt_size q
  refine Eq.trans (sortedHeap_old (Nat.ne_of_lt hlt) ?_) (Heap.get?_push_of_some _ q)
  rw [size_push']
  exact Nat.lt_succ_of_lt hlt
end
section
variable {X : Cx}
/-- a set of the texts l at a -/
def SetTx (P : Program) (w : World) (a : Addr) (l : List Str) : HO := .ext fun h => TxSet P w h a l
theorem setTx_ok {P : Program} {w : World} {H : Hp} {h : Heap} {a : Addr} {l : List Str} (R : TxSet P w h a l) : ObjOk P w H h a (SetTx P w a l) := by
  have ⟨D, e, _⟩ := R
  exact ⟨R, ⟨_, e⟩, fun h1 h2 p k => TxSet.at p k⟩
/-- set(texts) -/
def rSetTx (K : PySem.W.Frag) (P : Program) (w : World) : List V → Hp → VK → Prop := fun vs H Q => ∃ (a : Addr) (xs : List Str), vs = [.ref a] ∧ (SqL K H a (xs.map V.str) ∨ SqT K H a (xs.map V.str)) ∧ xs.length + 1 < scanBound ∧
  ∀ p, H p = none → Q (.ref p) (upd H p (SetTx P w p (toSet xs)))
theorem cr_setTx (hc : X.calm = true) : CallR X (.type "set") (rSetTx X.K X.prog X.w) := by
  intro pins s σ H vs us Q I r h
  obtain ⟨a, xs, rfl, hs, hx, q⟩ := h
  rw [Vals.ref1 r]
  have hl : SeqAt2 s a xs := by
    rcases hs with hs | hs
    · obtain ⟨its, rv, pl, _⟩ := I.list hs
      exact ⟨its.toArray, rv.strs, .inl pl.isList⟩
    · obtain ⟨its, rv, pl, _⟩ := I.tuple hs
      obtain ⟨o, e1, e2, e3⟩ := pl
      exact ⟨its.toArray, rv.strs, .inr ⟨o, e1, e2, e3⟩⟩
  refine call_setT (I.ok.hd hc) hl hx fun h' tk k T => ?_
  exact ⟨.ref _, upd H s.heap.objs.size (SetTx X.prog X.w s.heap.objs.size (toSet xs)), I.laid (t' := tk) k (Nat.le_refl _) (setTx_ok T), rfl, q _ (I.hok.fresh (Nat.le_refl _))⟩
/-- sorted(set of texts) -/
def rSortedTx (P : Program) (w : World) : List V → Hp → VK → Prop := fun vs H Q => ∃ (a : Addr) (l : List Str), vs = [.ref a] ∧ H a = some (SetTx P w a l) ∧ l.length < scanBound ∧
  ∀ (ys : List Str) p, sortedS ys = true → ys.Perm l → H p = none → Q (.ref p) (upd H p (.lst (ys.map V.str)))
theorem cr_sortedTx (hc : X.calm = true) : CallR X (.builtin "sorted") (rSortedTx X.prog X.w) := by
  intro pins s σ H vs us Q I r h
  obtain ⟨a, l, rfl, ha, hb, q⟩ := h
  rw [Vals.ref1 r]
  refine sorted_txset (I.hok a _ ha).1 (I.ok.hd hc) hb fun s' p out c ys k g o hp hg hi h1 h2 => ?_
  have hn : H p = none := I.hok.fresh hp
  have hlen : (ys.map V.str).length ≤ sizeLine := by
    rw [List.length_map, h2.length_eq]
    exact fits_of_scanBound hb
  have e : s' = { s with heap := s'.heap, gens := s'.gens, drawn := s'.drawn, toks := s'.toks } := by
    cases s'
    cases s
    cases o
    rfl
  rw [e]
  exact ⟨.ref p, upd H p (.lst (ys.map V.str)), I.call (ch := []) (Un.laid k hp hn) (I.hok.laid k hp ⟨hlen, out.toList, c, vals_of_strs hi, hg⟩) (by rw [g]; exact I.bare) (fun _ z => nomatch z), rfl, q ys p h1 h2 hn⟩
/-- sorted(list of texts), any length -/
def rSortedTL (K : PySem.W.Frag) : List V → Hp → VK → Prop := fun vs H Q => ∃ (a : Addr) (xs : List Str), vs = [.ref a] ∧ SqL K H a (xs.map V.str) ∧
  ∀ (ys : List Str) p, sortedS ys = true → ys.Perm xs → H p = none → Q (.ref p) (upd H p (.lst (ys.map V.str)))
theorem cr_sortedTL : CallR X (.builtin "sorted") (rSortedTL X.K) := by
  intro pins s σ H vs us Q I r h
  obtain ⟨a, xs, rfl, hs, q⟩ := h
  obtain ⟨its, rv, hl, hz⟩ := I.list hs
  rw [Vals.ref1 r]
  refine sorted_strsAny hl.isList rv.strs (by rw [← rv.length]; exact hz) fun out ys h1 h2 h3 => ?_
  obtain ⟨ep, he⟩ := sortedAll_at s.heap its out
  have hlen : (ys.map V.str).length ≤ sizeLine := by
    rw [List.length_map, h2.length_eq]
    rw [List.length_map] at hz
    exact hz
  exact ⟨.ref _, upd H (s.heap.objs.size + 1) (.lst (ys.map V.str)), I.laid (t' := s.toks) (fun _ _ => sortedAll_old) (Nat.le_succ _) ⟨hlen, out.toList, ep, vals_of_strs h1, he⟩, rfl, q ys _ h3 h2 (I.hok.fresh (Nat.le_succ _))⟩
end
end Sf
namespace Sf
open PySem PySem.Spec PyProof.Rows L2
/-- two texts walked side by side, the signs in new pairs -/
def Itz2 (x y : Str) : It :=
  ⟨fun i _ => i < x.cps.size ∧ i < y.cps.size,
    fun i H v H' => ∃ T c d, v = .ref T ∧ H T = none ∧ H' = upd H T (.tup [.str ⟨#[c]⟩, .str ⟨#[d]⟩]) ∧ x.cps[i]? = some c ∧ y.cps[i]? = some d,
    fun i _ => i = min x.cps.size y.cps.size⟩
def StZ (x y : Str) (t u : Tok) (z TI TO i1 i2 : Addr) (i : Nat) (h : Heap) : Prop :=
  IsZip h z TI TO .none ∧ IsTupOf2 h TI (.ref i1) (.ref i2) ∧ (∃ a1 a2, IsTupOf2 h TO a1 a2) ∧ h.IsStrIter i1 (strIterType x) x t i ∧ h.IsStrIter i2 (strIterType y) y u i
theorem turn_zip2 {P : Program} {w : World} {K : PySem.W.Frag} {elts : List Expr} {kk : Nat} {tpos : Pos} {z TI TO i1 i2 : Addr} {x y : Str} {t u : Tok} (S : ZipSep2 z TI TO i1 i2 [i1] [i2]) :
    Turn P w K (.Tuple elts kk tpos) (Itz2 x y) [z, TI, TO, i1, i2] z (StZ x y t u z TI TO i1 i2) where
  mem := by simp
  obj := fun i h st c hc => by
    obtain ⟨hz, hTI, ⟨a1, a2, hTO⟩, ⟨o1, e1, _, d1⟩, ⟨o2, e2, _, d2⟩⟩ := st
    have e' : c = z ∨ c = TI ∨ c = TO ∨ c = i1 ∨ c = i2 := by simpa using hc
    rcases e' with q | q | q | q | q
    · rw [q]
      exact ⟨_, hz, fun v r => nomatch r⟩
    · rw [q]
      exact ⟨_, hTI, fun v r => nomatch r⟩
    · rw [q]
      exact ⟨_, hTO, fun v r => nomatch r⟩
    · exact ⟨o1, by rw [q]; exact e1, fun v r => nomatch d1.symm.trans r⟩
    · exact ⟨o2, by rw [q]; exact e2, fun v r => nomatch d2.symm.trans r⟩
  keep := fun i h h' st k => by
    obtain ⟨hz, hTI, ⟨a1, a2, hTO⟩, ⟨o1, e1, r1⟩, ⟨o2, e2, r2⟩⟩ := st
    exact ⟨k z (by simp) _ hz, k TI (by simp) _ hTI, ⟨a1, a2, k TO (by simp) _ hTO⟩, ⟨o1, k i1 (by simp) _ e1, r1⟩, ⟨o2, k i2 (by simp) _ e2, r2⟩⟩
  item := by
    intro X hP hw hK hc i pins s σ H E I hf st hg
    subst hP hw hK
    have W := WalksT.zipD2 (prog := X.prog) (w := X.w) (A := X.A) S (Draws.text (A := X.A.in1) (I.ok.hd hc) i1 x t) (Draws.text (A := X.A.in1) (I.ok.hd hc) i2 y u)
    refine W.item i s _ _ (by have a1 := hg.1; have a2 := hg.2; omega) st fun T vals h1 tk1 hp hT hI hm k1 => ?_
    obtain ⟨v1, v2, ⟨c, t1, hc1, rfl⟩, ⟨d, t2, hd1, rfl⟩, rfl⟩ := hp
    refine ⟨_, rfl, W.go elts kk tpos i T { s with heap := h1, toks := tk1 } _ _ hm fun h2 st2 k2 => ?_⟩
    have hlt : ∀ b ∈ [z, TI, TO, i1, i2], b < s.heap.objs.size := by
      obtain ⟨hz, hTI, ⟨a1, a2, hTO⟩, ⟨o1, e1, _⟩, ⟨o2, e2, _⟩⟩ := st
      intro b hb
      have e' : b = z ∨ b = TI ∨ b = TO ∨ b = i1 ∨ b = i2 := by simpa using hb
      rcases e' with q | q | q | q | q
      · exact q ▸ Heap.lt_size hz
      · exact q ▸ Heap.lt_size hTI
      · exact q ▸ Heap.lt_size hTO
      · exact q ▸ Heap.lt_size e1
      · exact q ▸ Heap.lt_size e2
    have sub : ∀ b, b ∉ [z, TI, TO, i1, i2] → b ∉ [z, TO, i1, i2] := fun b hb => by
      simp only [List.mem_cons, List.not_mem_nil, or_false, not_or] at hb ⊢
      exact ⟨hb.1, hb.2.2⟩
    obtain ⟨oT, eT, cT, nT, dT⟩ := hI
    have hT2 : h2.get? T = some oT := k2 T oT (W.apart i T h1 hm) eT
    have new : ObjOk X.prog X.w (upd H T (.tup [.str ⟨#[c]⟩, .str ⟨#[d]⟩])) h2 T (.tup [.str ⟨#[c]⟩, .str ⟨#[d]⟩]) :=
      ⟨by show 2 ≤ sizeLine; decide, [.str ⟨#[c]⟩ t1, .str ⟨#[d]⟩ t2], .cons ⟨t1, rfl⟩ (.cons ⟨t2, rfl⟩ .nil), ⟨oT, hT2, cT, nT, dT⟩⟩
    refine ⟨.ref T, _, I.turnedNew (t' := tk1) (ch := [z, TI, TO, i1, i2]) (fun b o hb e => k2 b o (sub b hb) (k1 b o (sub b hb) e)) hf hT new, rfl, ⟨T, c, d, rfl, I.hok.fresh hT, rfl, hc1, hd1⟩, st2, fun b hb => ?_⟩
    rw [upd_ne (Nat.ne_of_lt (Nat.lt_of_lt_of_le (hlt b hb) hT))]
    exact (hf b hb).1
  done := by
    intro X hP hw hK hc i pins s σ H E I hf st hg
    subst hP hw hK
    have e : i = min x.cps.size y.cps.size := hg
    rw [e] at st
    have W := WalksT.zipD2 (prog := X.prog) (w := X.w) (A := X.A) S (Draws.text (A := X.A.in1) (I.ok.hd hc) i1 x t) (Draws.text (A := X.A.in1) (I.ok.hd hc) i2 y u)
    refine W.done s _ _ st fun h' tk k => ⟨rfl, I.turnedL (t' := tk) (ch := [z, TI, TO, i1, i2]) (fun b o hb q => k b o (fun m => hb ?_) q) hf⟩
    simp only [List.mem_cons, List.not_mem_nil, or_false] at m ⊢
    rcases m with m | m | m | m
    · exact .inl m
    · exact .inr (.inr (.inl m))
    · exact .inr (.inr (.inr (.inl m)))
    · exact .inr (.inr (.inr (.inr m)))
  self := fun A i s Q E st h => wpAny_pyIter_zip st.1 h
/-- for a, b in zip(text, text) -/
def iZip2 (ta : TA) : TI := fun σ H R => ta σ H fun vs H1 => ∃ x y, vs = [.str x, .str y] ∧ R (Itz2 x y) H1
theorem pi_zip2 {X : Cx} {e e2 : Expr} {ta : TA} {p pos tpos : Pos} {elts : List Expr} {kk : Nat} (hg : Gl X "zip") (hm : X.mg "zip" = none) (ha : PA X [e, e2] ta)
    (hs : starEach [e, e2] X.env = (false, eval e X.env) :: starEach [e2] X.env := by rfl) (hp : (backTo pos (starEach [e2] X.env)).any (·.1) = false := by rfl) :
    PI X (.Tuple elts kk tpos) (.Call (.Name "zip" p) [e, e2] [] pos) (iZip2 ta) := by
  refine ⟨fun pins s σ H R I h => Call_ (ld_blt I hg hm PyProof.Rows.boot_zip (PyProof.Rows.callWith_type1 (thn (ha.run pos pins s σ H _ I h) fun us s1 ⟨vs, H1, I1, r1, q1⟩ => ?_) hs hp))⟩
  obtain ⟨x, y, rfl, q⟩ := q1
  cases r1 with
  | cons r rr =>
    cases rr with
    | cons r' rr =>
      cases rr
      obtain ⟨t, rfl⟩ := r
      obtain ⟨u, rfl⟩ := r'
      refine zip_begins2 (begins_text x t) (begins_text y u) trivial trivial fun h' hz hTI hTO g1 g2 hsz k => wpAny_pyIter_zip hz ?_
      refine ⟨s1.heap.objs.size + 4, [s1.heap.objs.size + 4, s1.heap.objs.size + 2, s1.heap.objs.size + 3, s1.heap.objs.size, s1.heap.objs.size + 1], _, _, H1, rfl, I1.kept (t' := s1.toks) k,
        turn_zip2 (x := x) (y := y) (t := t) (u := u) (zip_sep2 (fp1 := []) (fp2 := []) (fun _ h => nomatch h) (fun _ h => nomatch h)), ⟨hz, hTI, ⟨_, _, hTO⟩, ⟨_, g1, rfl, rfl⟩, ⟨_, g2, rfl, rfl⟩⟩, fun c hc => ?_, q⟩
      have le : s1.heap.objs.size ≤ c := by
        have e' : c = s1.heap.objs.size + 4 ∨ c = s1.heap.objs.size + 2 ∨ c = s1.heap.objs.size + 3 ∨ c = s1.heap.objs.size ∨ c = s1.heap.objs.size + 1 := by simpa using hc
        have l0 : ∀ j, s1.heap.objs.size ≤ s1.heap.objs.size + j := fun j => Nat.le_add_right _ j
        rcases e' with z | z | z | z | z
        · rw [z]; exact l0 4
        · rw [z]; exact l0 2
        · rw [z]; exact l0 3
        · rw [z]; exact l0 0
        · rw [z]; exact l0 1
      exact I1.fpOk le (I1.hok.fresh le)
theorem walk_zip2 {x y : Str} {n : Nat} (hn : n = min x.cps.size y.cps.size) : Walk (Itz2 x y) n (fun _ => True)
    (fun i H v H' => ∃ T c d, v = .ref T ∧ H T = none ∧ H' = upd H T (.tup [.str ⟨#[c]⟩, .str ⟨#[d]⟩]) ∧ x.cps[i]? = some c ∧ y.cps[i]? = some d) :=
  ⟨fun i _ hi _ => ⟨by omega, by omega⟩, fun _ _ => hn, fun _ _ _ _ _ _ y => y⟩
end Sf
namespace Sf
open PySem PySem.Spec PyProof.Rows L2
theorem ltc_tot : ∀ a b : List Nat, ltCps a b = false → ltCps b a = false → a = b
  | [], [], _, _ => rfl
  | [], _ :: _, h, _ => by simp [ltCps] at h
  | _ :: _, [], _, h => by simp [ltCps] at h
  | x :: a, y :: b, h1, h2 => by
    simp only [ltCps, Bool.or_eq_false_iff, Bool.and_eq_false_iff, decide_eq_false_iff_not, beq_eq_false_iff_ne] at h1 h2
    have e : x = y := by omega
    subst e
    have h3 : ltCps a b = false := h1.2.resolve_left (fun z => z rfl)
    have h4 : ltCps b a = false := h2.2.resolve_left (fun z => z rfl)
    rw [ltc_tot a b h3 h4]
theorem ltc_trans : ∀ a b c : List Nat, ltCps b a = false → ltCps c b = false → ltCps c a = false
  | [], _, [], _, _ => rfl
  | [], [], _ :: _, _, h => by simp [ltCps]
  | [], _ :: _, _ :: _, h, _ => by simp [ltCps]
  | _ :: _, [], _, h, _ => by simp [ltCps] at h
  | _ :: _, _ :: _, [], _, h => by simp [ltCps] at h
  | x :: a, y :: b, z :: c, h1, h2 => by
    simp only [ltCps, Bool.or_eq_false_iff, Bool.and_eq_false_iff, decide_eq_false_iff_not, beq_eq_false_iff_ne] at h1 h2 ⊢
    refine ⟨by omega, ?_⟩
    by_cases e : z = x
    · right
      have e1 : y = x := by omega
      exact ltc_trans a b c (h1.2.resolve_left (fun q => q e1)) (h2.2.resolve_left (fun q => q (e.trans e1.symm)))
    · exact .inl e
def leS (a b : Str) : Prop := ltCps b.cps.toList a.cps.toList = false
theorem risingS_pw : ∀ (p : Str) (l : List Str), risingS p l = true → (∀ x ∈ l, leS p x) ∧ l.Pairwise leS
  | p, [], _ => ⟨(fun _ h => nomatch h), .nil⟩
  | p, x :: r, h => by
    simp only [risingS, Bool.and_eq_true, Bool.not_eq_true'] at h
    obtain ⟨h1, h2⟩ := risingS_pw x r h.2
    refine ⟨fun y hy => ?_, .cons h1 h2⟩
    rcases List.mem_cons.mp hy with rfl | hy
    · exact h.1
    · exact ltc_trans _ _ _ h.1 (h1 y hy)
theorem sortedS_pw : ∀ {l : List Str}, sortedS l = true → l.Pairwise leS
  | [], _ => .nil
  | x :: r, h => .cons (risingS_pw x r h).1 (risingS_pw x r h).2
theorem leS_anti {a b : Str} (h1 : leS a b) (h2 : leS b a) : a = b := Str.ext' (Array.toList_inj.mp (ltc_tot _ _ h2 h1))
theorem pw_uniq {l m : List Str} (h1 : l.Pairwise leS) (h2 : m.Pairwise leS) (p : l.Perm m) : l = m := p.eq_of_pairwise (fun _ _ _ _ => leS_anti) h1 h2
theorem sortedS_uniq {l m : List Str} (h1 : sortedS l = true) (h2 : sortedS m = true) (p : l.Perm m) : l = m := pw_uniq (sortedS_pw h1) (sortedS_pw h2) p
theorem insT_fold_nodup : ∀ (xs l : List Str), l.Nodup → (xs.foldl insT l).Nodup
  | [], l, h => h
  | x :: r, l, h => insT_fold_nodup r _ (insT_nodup h)
theorem toSet_nodup (xs : List Str) : (toSet xs).Nodup := insT_fold_nodup xs [] List.nodup_nil
theorem toSet_perm {xs ys : List Str} (h : ∀ k, k ∈ xs ↔ k ∈ ys) : (toSet xs).Perm (toSet ys) := by
  refine (List.perm_ext_iff_of_nodup (toSet_nodup xs) (toSet_nodup ys)).mpr fun k => ?_
  rw [toSet_mem, toSet_mem, h]
/-- ys is what sorted(set(xs)) gives -/
def SrtOf (xs ys : List Str) : Prop := sortedS ys = true ∧ ys.Perm (toSet xs)
theorem SrtOf.uniq {xs xs' ys ys' : List Str} (a : SrtOf xs ys) (b : SrtOf xs' ys') (h : ∀ k, k ∈ xs ↔ k ∈ xs') : ys = ys' :=
  sortedS_uniq a.1 b.1 (a.2.trans ((toSet_perm h).trans b.2.symm))
theorem SrtOf.mem {xs ys : List Str} (a : SrtOf xs ys) {k : Str} : k ∈ ys ↔ k ∈ xs := by rw [a.2.mem_iff, toSet_mem]
/-! ### pairs -/
def two (a b : Nat) : Str := ⟨#[a, b]⟩
def one (a : Nat) : Str := ⟨#[a]⟩
def tx (l : List Nat) : Str := ⟨l.toArray⟩
def prs : List Nat → List Str
  | a :: b :: r => two a b :: prs (b :: r)
  | _ => []
theorem prs_snoc : ∀ (z : List Nat) (a b : Nat), prs (z ++ [a, b]) = prs (z ++ [a]) ++ [two a b]
  | [], a, b => rfl
  | [x], a, b => rfl
  | x :: y :: z, a, b => by
    exact congrArg (two x y :: ·) (prs_snoc (y :: z) a b)
def pin (t : List Nat) : List Str := prs (94 :: (t ++ [36]))
theorem prs_len : ∀ l : List Nat, (prs l).length = l.length - 1
  | [] => rfl
  | [_] => rfl
  | a :: b :: r => by
    show (prs (b :: r)).length + 1 = _
    rw [prs_len (b :: r)]
    simp
theorem prs_get : ∀ (l : List Nat) (i a b : Nat), l[i]? = some a → l[i + 1]? = some b → (prs l)[i]? = some (two a b)
  | [], i, a, b, h, _ => by simp at h
  | [_], 0, a, b, _, h => by simp at h
  | [_], i + 1, a, b, h, _ => by simp at h
  | x :: y :: r, 0, a, b, h1, h2 => by
    simp at h1 h2
    subst h1; subst h2
    rfl
  | x :: y :: r, i + 1, a, b, h1, h2 => prs_get (y :: r) i a b h1 h2
/-! ### texts over some letters -/
def lst (t : List Nat) : Nat := (94 :: t).getLast (List.cons_ne_nil _ _)
theorem lst_nil : lst [] = 94 := rfl
theorem lst_snoc (t : List Nat) (c : Nat) : lst (t ++ [c]) = c := by
  unfold lst
  show ((94 :: t) ++ [c]).getLast _ = c
  exact List.getLast_concat
theorem prs_more (t : List Nat) (c : Nat) : prs (94 :: (t ++ [c])) = prs (94 :: t) ++ [two (lst t) c] := by
  have e : 94 :: t = (94 :: t).dropLast ++ [lst t] := (List.dropLast_concat_getLast (List.cons_ne_nil 94 t)).symm
  have q := prs_snoc (94 :: t).dropLast (lst t) c
  rw [← e] at q
  rw [← q]
  refine congrArg prs ?_
  rw [show (94 :: t).dropLast ++ [lst t, c] = ((94 :: t).dropLast ++ [lst t]) ++ [c] by rw [List.append_assoc] <;> rfl, ← e] <;> rfl
theorem pin_eq (t : List Nat) : pin t = prs (94 :: t) ++ [two (lst t) 36] := prs_more t 36
def chn (m : Str → Bool) (t : List Nat) : Bool := (prs (94 :: t)).all m
theorem chn_snoc (m : Str → Bool) (t : List Nat) (c : Nat) : chn m (t ++ [c]) = (chn m t && m (two (lst t) c)) := by
  unfold chn
  rw [prs_more, List.all_append]
  simp
def alw (m : Str → Bool) (t : List Nat) : Bool := (pin t).all m
theorem alw_eq (m : Str → Bool) (t : List Nat) : alw m t = (chn m t && m (two (lst t) 36)) := by
  unfold alw chn
  rw [pin_eq, List.all_append]
  simp
def more1 (L : List Nat) (t : List Nat) : List (List Nat) := L.map fun c => t ++ [c]
def lev (L : List Nat) : Nat → List (List Nat)
  | 0 => [[]]
  | n + 1 => (lev L n).flatMap (more1 L)
def allT (L : List Nat) : Nat → List (List Nat)
  | 0 => [[]]
  | n + 1 => allT L n ++ lev L (n + 1)
def rws (m : Str → Bool) (L : List Nat) (n : Nat) : List (List Nat) := (lev L n).filter (chn m)
def mor (m : Str → Bool) (L : List Nat) (t : List Nat) : List (List Nat) := (L.filter fun c => m (two (lst t) c)).map fun c => t ++ [c]
theorem mor_eq (m : Str → Bool) (L : List Nat) (t : List Nat) : (more1 L t).filter (chn m) = if chn m t = true then mor m L t else [] := by
  unfold more1 mor
  induction L with
  | nil => simp
  | cons c L ih =>
    rw [List.map_cons, List.filter_cons, ih, chn_snoc, List.filter_cons]
    cases h1 : chn m t <;> cases h2 : m (two (lst t) c) <;> simp
theorem rws_succ (m : Str → Bool) (L : List Nat) (n : Nat) : rws m L (n + 1) = (rws m L n).flatMap (mor m L) := by
  unfold rws
  show ((lev L n).flatMap (more1 L)).filter (chn m) = _
  induction lev L n with
  | nil => rfl
  | cons t r ih =>
    rw [List.flatMap_cons, List.filter_append, ih, mor_eq, List.filter_cons]
    split
    · rw [List.flatMap_cons]
    · rfl
def endOk (m : Str → Bool) (t : List Nat) : Bool := m (two (lst t) 36)
/-- what the walk has found behind n turns -/
def fnd (m : Str → Bool) (L : List Nat) : Nat → List (List Nat)
  | 0 => []
  | n + 1 => fnd m L n ++ (rws m L n).filter (endOk m)
theorem fnd_eq (m : Str → Bool) (L : List Nat) : ∀ n, fnd m L (n + 1) = (allT L n).filter (alw m)
  | 0 => by
    show [] ++ ([[]].filter (chn m)).filter (endOk m) = [[]].filter (alw m)
    rw [List.nil_append, List.filter_filter]
    refine List.filter_congr fun t _ => ?_
    rw [alw_eq, Bool.and_comm] <;> rfl
  | n + 1 => by
    show fnd m L (n + 1) ++ ((lev L (n + 1)).filter (chn m)).filter (endOk m) = (allT L n ++ lev L (n + 1)).filter (alw m)
    rw [fnd_eq m L n, List.filter_append, List.filter_filter]
    refine congrArg _ (List.filter_congr fun t _ => ?_)
    rw [alw_eq, Bool.and_comm] <;> rfl
theorem lev_len (L : List Nat) (k : Nat) (h : L.length ≤ k) : ∀ n, (lev L n).length ≤ k ^ n
  | 0 => Nat.le_refl _
  | n + 1 => by
    have b : ∀ l : List (List Nat), (l.flatMap (more1 L)).length = l.length * L.length := by
      intro l
      induction l with
      | nil => simp
      | cons t r ih =>
        rw [List.flatMap_cons, List.length_append, ih]
        unfold more1
        rw [List.length_map, List.length_cons, Nat.add_mul]
        omega
    show ((lev L n).flatMap (more1 L)).length ≤ _
    rw [b, Nat.pow_succ]
    exact Nat.mul_le_mul (lev_len L k h n) h
theorem lev_mem {L : List Nat} : ∀ {n : Nat} {t : List Nat}, t ∈ lev L n → t.length = n ∧ ∀ c ∈ t, c ∈ L
  | 0, t, h => by
    have e : t = [] := List.mem_singleton.mp h
    subst e
    exact ⟨rfl, fun _ h => nomatch h⟩
  | n + 1, t, h => by
    obtain ⟨u, hu, ht⟩ := List.mem_flatMap.mp h
    obtain ⟨c, hc, rfl⟩ := List.mem_map.mp ht
    obtain ⟨h1, h2⟩ := lev_mem hu
    refine ⟨by rw [List.length_append, h1] <;> rfl, fun d hd => ?_⟩
    rcases List.mem_append.mp hd with q | q
    · exact h2 d q
    · exact List.mem_singleton.mp q ▸ hc
theorem allT_mem {L : List Nat} : ∀ {n : Nat} {t : List Nat}, t ∈ allT L n → t.length ≤ n ∧ ∀ c ∈ t, c ∈ L
  | 0, t, h => by
    have q := lev_mem (L := L) (n := 0) h
    exact ⟨Nat.le_of_eq q.1, q.2⟩
  | n + 1, t, h => by
    rcases List.mem_append.mp h with q | q
    · have r := allT_mem q
      exact ⟨Nat.le_succ_of_le r.1, r.2⟩
    · have r := lev_mem q
      exact ⟨Nat.le_of_eq r.1, r.2⟩
end Sf
/-! Defs that must know that no repr is under way around them: the same promises as a def's, with this known of the surroundings. -/
namespace Sf
open PySem PySem.Spec PyProof.Rows L2
/-- a def's promise where no repr is under way -/
structure FnG (P : Program) (w : World) (K : PySem.W.Frag) (mg : Str → Option Value) (base : Heap) (k : Nat) (f : Addr) (fd : FuncData) (ps : List Str) (sp : Sp) : Prop where
  cnt : ∀ xs Hh W Ex, sp xs Hh W Ex → xs.length = ps.length
  go : ∀ (A : Around) (out : List Env) (st : Shared) (Hh : Hp) (ar : Args) (ys : List Value) (xs : List V) (W : VK) (Ex : XK), Room k A → A.guards = some [] → Env0 P w K mg base A out st Hh → BindsTo st fd ar (ps.zip ys) → Vals xs ys → sp xs Hh W Ex →
    codeAny (model P w) A (.call (.ref f) ar) (CR CX0 out P w Hh st W Ex) st
section
variable {P : Program} {w : World} {K : PySem.W.Frag} {mg : Str → Option Value} {base : Heap}
theorem okG {x qual : Str} {st : Stmt} {f : Addr} {fd : FuncData} {N ps : List Str} {k : Nat} {sp : Sp} (F : Fun K x qual st f fd) (S : FnScope N ps (defScope st)) (cnt : ∀ xs Hh W Ex, sp xs Hh W Ex → xs.length = ps.length)
    (body : ∀ (cdv : Value) (A : Around) (out : List Env) (sh : Shared) (Hh : Hp) (xs : List V) (W : VK) (Ex : XK), Room k (A.deeper (envOfC qual (defScope st) sh.heap.objs.size f cdv)) → A.guards = some [] → sp xs Hh W Ex →
      ∃ t, PSs (cxOf CX0 P w K mg base N qual (defScope st) f cdv A out sh Hh Ex).nox (defBody st) t ∧ t { nx := fun _ H' => W .non H', rt := W } (start N xs) Hh) : FnG P w K mg base (k + 1) f fd ps sp := by
  obtain ⟨oc, od, kV, doc, pm, an, cdv, ct, osl, rfl, look, code⟩ := F.ex
  refine ⟨cnt, fun A out sh Hh ar ys xs W Ex room gd e0 bind rel prom => ?_⟩
  have count := cnt _ _ _ _ prom
  have here : K.In sh.heap := e0.mod.kin.keeps fun p ob e => (e0.bs p ob e).1
  have calm : sh.heap.NoLimit := e0.mod.nolimit.keeps fun p ob e => (e0.bs p ob e).1
  have kinds : ∀ z ∈ ps.zip ys, (defScope st).names.lookup z.1 = some .local ∨ ((defScope st).names.lookup z.1 = some .cell ∧ ((cellsFrom (sh.heap.objs.size + 1) (defScope st).names []).lookup z.1).isSome = true) := fun ⟨nm, vl⟩ hz =>
    (S.par nm (List.of_mem_zip hz).1).elim .inl fun c => .inr ⟨c, PySem.W.cellsFrom_some _ _ _ (.inl c)⟩
  refine codeAny_call_function room.depth (here _ _ look) rfl S.co S.gen rfl (PySem.W.codeRec_of here code) (bind _ _ _ _ (wpAny_newFunctionEnv_cells S.kind kinds fun env ee sh1 ent => ?_))
  subst ee
  refine ⟨calm.keeps ent.toInCall.keep, codeAny_func ?_⟩
  obtain ⟨t, walk, start1⟩ := body cdv A out sh Hh xs W Ex (room.deeper _) gd prom
  have I := inv_start (CX := CX0) (E := Ex) S room.hd e0 count rel ent
  refine wpAny_mono (walk.nox.run [] sh1 (start N xs) Hh _ I start1) (fun how sh2 done => ?_) fun ex sh2 done => done
  match how, done with
  | .ret u, ⟨v, σ2, H2, J, rv, qv⟩ => exact ⟨v, H2, J.os, J.bare, J.base, J.hok, rv, qv⟩
  | .next, ⟨σ2, H2, J, qv⟩ => exact ⟨V.non, H2, J.os, J.bare, J.base, J.hok, rfl, qv⟩
  | .brk, ⟨_, _, _, no⟩ => exact no.elim
  | .cont, ⟨_, _, _, no⟩ => exact no.elim
/-- such a def called from another one -/
theorem pe_callG {X : Cx} {k : Nat} {f : Addr} {fd : FuncData} {ps : List Str} {sp : Sp} {x : Str} {p pos : Pos} {e : Expr} {es : List Expr} {t : TA} (F : FnG X.prog X.w X.K X.mg X.base k f fd ps sp) (room : Room k X.A) (gd : X.A.guards = some []) (hg : Gl X x) (hm : X.mg x = some (.ref f))
    (kp : PySem.W.keepIn X.K (.ref f) = true) (hb : Binds X.K fd ps []) (ha : PA X (e :: es) t) (hx : Passes CX0 X E0) (hdb : (x == ("__debug__" : Str)) = false := by decide)
    (he : starEach (e :: es) X.env = (false, eval e X.env) :: starEach es X.env := by rfl) (hpl : (backTo pos (starEach es X.env)).any (·.1) = false := by rfl) : PE X (.Call (.Name x p) (e :: es) [] pos) (tCall sp [] E0 t) :=
  ⟨fun pins sh σ Hh W I prom => wpAny_Call_Name_kw (ld_glob I hg hm
    (PySem.W.callWith_K (h₀ := X.base) I.ok.mod.kin kp (thn (ha.run pos pins sh σ Hh _ I prom) fun ys s1 ⟨xs, H1, I1, rel, q⟩ => ⟨I1.kIn, by
      have q : sp (xs ++ []) H1 W E0 := q
      rw [List.append_nil] at q
      have len1 : (ys ++ ([] : List Value)).length = ps.length := by
        rw [List.append_nil, ← rel.length]
        exact F.cnt _ _ _ _ q
      have bd := hb s1 ys I1.kIn len1
      rw [List.append_nil] at bd
      refine wpAny_call (codeAny_mono (F.go X.A X.stack s1 H1 ⟨ys, []⟩ ys xs W E0 room gd I1.env0 bd rel q) fun r s2 ends => ?_)
      match r, ends with
      | .error ex, z => exact hx pins σ H1 s1 ex s2 I1 z
      | .ok (.ret u), z => exact I1.after z
      | .ok .next, z => exact z.elim
      | .ok .brk, z => exact z.elim
      | .ok .cont, z => exact z.elim⟩) he hpl) hdb)⟩
/-- the law's own call, where its def is such a one -/
theorem law_callG {mb : Str → Option Value} {k : Nat} {fa a : Addr} {fd : FuncData} {x : Str} {sp : Sp} {sh : Shared} {us : List Value} {ns : List Int} (KX : K.In sh.heap) (hm : sh.heap.Ns mainGlobals mg) (hb : sh.heap.Ns builtinsNs mb) (hbb : ∀ y : Str, y ≠ "__name__" → mb y = bootBuiltins y)
    (lim : sh.heap.NoLimit) (gens : sh.gens = #[]) (at_ : sh.heap.get? a = some { cls := .type "list", data := .seq us.toArray }) (hints : IntsAre us ns) (fits : ns.length ≤ sizeLine) (room : Room k callerA)
    (F : ∀ b : Heap, K.In b → b.Ns mainGlobals mg → FnG P w K mg b k fa fd [x] sp) (bind : ∀ (s : Shared) (u : Value), BindsTo s fd ⟨[u], []⟩ [(x, u)]) (prom : ∀ Hh : Hp, SqL K Hh a (ns.map V.int) → sp [.ref a] Hh (fun v _ => v = .bl true) E0) :
    codeAny (model P w) callerA (.call (.ref fa) ⟨[.ref a], []⟩) (fun r s' => r = .ok (.ret (.bool true)) ∧ OldK sh.heap s'.heap ∧ s'.os = sh.os ∧ AllBare s'.gens) sh := by
  have rel := vals_ints hints
  have lens : us.length ≤ sizeLine := by
    rw [hints.length]
    exact fits
  -- what is tracked: the script's list alone, unless the module has it
  obtain ⟨Hh, only, hS⟩ : ∃ Hh : Hp, (∀ b u, Hh b = some u → b = a ∧ K.lookup a = none ∧ u = .frz { cls := .type "list", data := .seq us.toArray } (.lst (ns.map V.int))) ∧ SqL K Hh a (ns.map V.int) := by
    cases hk : K.lookup a with
    | some ob =>
      obtain rfl : ob = _ := Option.some.inj ((KX a ob hk).symm.trans at_)
      exact ⟨fun _ => none, (fun _ _ z => nomatch z), .inr ⟨_, us.toArray, _, hk, rfl, rfl, rfl, by rw [List.size_toArray]; exact lens, by simpa using rel⟩⟩
    | none =>
      refine ⟨fun b => if b = a then some (.frz { cls := .type "list", data := .seq us.toArray } (.lst (ns.map V.int))) else none, fun b u z => ?_, .inl (.inr ⟨_, if_pos rfl⟩)⟩
      dsimp only at z
      by_cases e : b = a
      · rw [if_pos e] at z
        exact ⟨e, rfl, (Option.some.inj z).symm⟩
      · rw [if_neg e] at z
        cases z
  have notK : ∀ b o, K.lookup b = some o → Hh b = none := fun b o e => by
    cases q : Hh b with
    | none => rfl
    | some u =>
      obtain ⟨e1, e2, _⟩ := only b u q
      rw [e1, e2] at e
      cases e
  have notD : ∀ (b : Addr) (o : Obj) (es : Array DictEntry) (ep : Nat), sh.heap.get? b = some o → o.data = .dict es ep → Hh b = none := fun b o es ep e d => by
    cases q : Hh b with
    | none => rfl
    | some u =>
      obtain ⟨e1, _, _⟩ := only b u q
      rw [e1, at_] at e
      cases e
      cases d
  have space : ∀ {b : Addr} {m : Str → Option Value}, sh.heap.Ns b m → (hidT sh.heap Hh).Ns b m := fun {b m} ⟨o, es, ep, e, d, r⟩ => ⟨o, es, ep, hidT_get e (notD b o es ep e d), d, r⟩
  have inB : K.In (hidT sh.heap Hh) := fun b o e => hidT_get (KX b o e) (notK b o e)
  have md : Mod K mg (hidT sh.heap Hh) := ⟨inB, space hm, ⟨mb, space hb, hbb⟩, lim.elim fun mc z => ⟨mc, space z.1, z.2⟩⟩
  have held : HOk P w Hh sh.heap := fun b u z => by
    obtain ⟨e1, _, e3⟩ := only b u z
    subst e1
    subst e3
    exact ⟨at_, by rw [List.length_map]; exact fits, us, _, rel, at_⟩
  have e0 : Env0 P w K mg (hidT sh.heap Hh) callerA [] sh Hh := ⟨rfl, md, fun b o e => of_hidT e, Nat.le_of_eq (hidT_size _ _), trivial, (fun b z => nomatch z), held, .of_eq gens⟩
  refine codeAny_mono ((F _ inB (space hm)).go callerA [] sh Hh ⟨[.ref a], []⟩ [.ref a] [.ref a] _ _ room rfl e0 (bind sh (.ref a)) (.cons rfl .nil) (prom Hh hS)) fun r s2 done => ?_
  match r, done with
  | .error ex, z => exact absurd z (by
      intro z
      exact z)
  | .ok .next, z => exact z.elim
  | .ok .brk, z => exact z.elim
  | .ok .cont, z => exact z.elim
  | .ok (.ret u), ⟨v, H2, os, bare, un, held2, rv, qv⟩ =>
    obtain rfl : v = .bl true := qv
    obtain rfl : u = Value.bool true := rv
    refine ⟨rfl, OldK.of_keep fun b o e => ?_, os, bare⟩
    cases q : Hh b with
    | none => exact un.keep b o e q (fun z => nomatch z) (fun z => nomatch z)
    | some t =>
      obtain ⟨e1, _, e3⟩ := only b t q
      rw [e3] at q
      obtain ⟨g1, _⟩ := held b _ q
      obtain ⟨g2, _⟩ := held2 b _ (un.frzs b _ _ q)
      rw [e] at g1
      cases g1
      exact g2
/-- the end of a claim whose law is such a def -/
theorem walk_G {l : PySem.W.OpenLaw} {n k : Nat} {q : Program} {loose : List Str} {XP : (Str → Option Value) → Heap → Prop} {YP : World → Heap → Prop} {d : DefRec} {KK : Params → PySem.W.Frag} {sp : World → Sp} {x : Str} (most : l.most = some n) (few : n ≤ sizeLine) (nodef : d.params.defaults = []) (room : Room k callerA)
    (hY : ∀ (w : World) (h : Heap), YP w h → (KK w.params).In h)
    (F : ∀ (w : World) (mg : Str → Option Value) (fa : Addr) (h : Heap), (KK w.params).In h → h.Ns mainGlobals mg → mg d.name = some (.ref fa) →
      ∃ fd : FuncData, (∀ (s : Shared) (u : Value), BindsTo s fd ⟨[u], []⟩ [(x, u)]) ∧ ∀ b : Heap, (KK w.params).In b → b.Ns mainGlobals mg → FnG l.prog w (KK w.params) mg b k fa fd [x] (sp w))
    (prom : ∀ (w : World) (Hh : Hp) (a : Addr) (ns : List Int), ns.length ≤ n → SqL (KK w.params) Hh a (ns.map V.int) → sp w [.ref a] Hh (fun v _ => v = .bl true) E0) :
    PySem.W.WalkO q loose XP YP l.row.toRowW d [] (fun f vs => PySem.call f vs) :=
  Att.attach_call most nodef fun w s0 s1 mg mb fa o pm cd doc a vs ns G Y _ _ _ hmg hobj hints hlen hg => by
    have KX := hY w _ Y
    obtain ⟨fd, bind, hF⟩ := F w mg fa _ KX G.T.g hmg
    exact law_callG KX G.T.g G.T.b G.T.builtins G.T.nolimit hg hobj hints (Nat.le_trans hlen few) room hF bind fun Hh hS => prom w Hh a ns hlen hS
end
end Sf
/-! Values of any kind, as trees of data on the tracked heap: None, bools, ints, texts, lists, tuples, dicts with one text as key; their repr, their isinstance. -/
namespace Sf
open PySem PySem.Spec PyProof.Rows L2
mutual
/-- v is the data d; no object of it stands at p; with g none of its lists at the modules' own place -/
inductive Od (g : Bool) (p : Addr) (H : Hp) : V → PyData → Prop
  | non : Od g p H .non .none
  | bl (b : Bool) : Od g p H (.bl b) (.bool b)
  | int (i : Int) : Od g p H (.int i) (.int i)
  | str (x : Str) : Od g p H (.str x) (.str x)
  | lst {a : Addr} {xs : List V} {ds : List PyData} : a ≠ p → (g = true → a ≠ sysModules) → H a = some (.lst xs) → OdAll g p H xs ds → Od g p H (.ref a) (.list ds)
  | tup {a : Addr} {xs : List V} {ds : List PyData} : a ≠ p → H a = some (.tup xs) → OdAll g p H xs ds → Od g p H (.ref a) (.tuple ds)
  | dic0 {a : Addr} : g = true → a ≠ p → H a = some (.dK []) → Od g p H (.ref a) (.dict [])
  | dic1 {a : Addr} {x : Str} {v : V} {d : PyData} : g = true → a ≠ p → H a = some (.dK [(.inr x, v)]) → Od g p H v d → Od g p H (.ref a) (.dict [(.str x, d)])
inductive OdAll (g : Bool) (p : Addr) (H : Hp) : List V → List PyData → Prop
  | nil : OdAll g p H [] []
  | cons {v : V} {vs : List V} {d : PyData} {ds : List PyData} : Od g p H v d → OdAll g p H vs ds → OdAll g p H (v :: vs) (d :: ds)
end
section
variable {g : Bool} {p : Addr} {H H' : Hp}
mutual
theorem Od.mono (k : ∀ b o, b ≠ p → H b = some o → H' b = some o) : ∀ {d : PyData} {v : V}, Od g p H v d → Od g p H' v d
  | .none, _, h => by
    cases h
    exact .non
  | .bool b, _, h => by
    cases h
    exact .bl b
  | .int i, _, h => by
    cases h
    exact .int i
  | .str x, _, h => by
    cases h
    exact .str x
  | .list ds, _, h => by
    cases h with
    | lst n1 n2 e t => exact .lst n1 n2 (k _ _ n1 e) (OdAll.mono k t)
  | .tuple ds, _, h => by
    cases h with
    | tup n1 e t => exact .tup n1 (k _ _ n1 e) (OdAll.mono k t)
  | .dict [], _, h => by
    cases h with
    | dic0 g1 n1 e => exact .dic0 g1 n1 (k _ _ n1 e)
  | .dict [(.str x, d)], _, h => by
    cases h with
    | dic1 g1 n1 e t => exact .dic1 g1 n1 (k _ _ n1 e) (Od.mono k t)
  | .dict ((.none, _) :: _), _, h => by cases h
  | .dict ((.bool _, _) :: _), _, h => by cases h
  | .dict ((.int _, _) :: _), _, h => by cases h
  | .dict ((.list _, _) :: _), _, h => by cases h
  | .dict ((.tuple _, _) :: _), _, h => by cases h
  | .dict ((.dict _, _) :: _), _, h => by cases h
  | .dict ((.str _, _) :: _ :: _), _, h => by cases h
theorem OdAll.mono (k : ∀ b o, b ≠ p → H b = some o → H' b = some o) : ∀ {ds : List PyData} {vs : List V}, OdAll g p H vs ds → OdAll g p H' vs ds
  | [], _, h => by
    cases h
    exact .nil
  | d :: ds, _, h => by
    cases h with
    | cons h1 h2 => exact .cons (Od.mono k h1) (OdAll.mono k h2)
end
theorem OdAll.len : ∀ {ds : List PyData} {vs : List V}, OdAll g p H vs ds → vs.length = ds.length
  | [], _, h => by
    cases h
    rfl
  | d :: ds, _, h => by
    cases h with
    | cons h1 h2 =>
      rw [List.length_cons, List.length_cons, h2.len]
theorem OdAll.get : ∀ {ds : List PyData} {vs : List V} {i : Nat} {v : V}, OdAll g p H vs ds → vs[i]? = some v → ∃ d, ds[i]? = some d ∧ Od g p H v d
  | [], _, _, _, h, e => by
    cases h
    cases e
  | d :: ds, _, 0, _, h, e => by
    cases h with
    | cons h1 h2 =>
      obtain rfl := Option.some.inj e
      exact ⟨d, rfl, h1⟩
  | d :: ds, _, i + 1, _, h, e => by
    cases h with
    | cons h1 h2 => exact h2.get (i := i) e
theorem OdAll.strs : ∀ (xs : List Str), OdAll g p H (xs.map V.str) (xs.map PyData.str)
  | [] => .nil
  | x :: xs => .cons (.str x) (OdAll.strs xs)
theorem OdAll.app : ∀ {ds es : List PyData} {vs us : List V}, OdAll g p H vs ds → OdAll g p H us es → OdAll g p H (vs ++ us) (ds ++ es)
  | [], es, _, us, h, k => by
    cases h
    exact k
  | d :: ds, es, _, us, h, k => by
    cases h with
    | cons h1 h2 => exact .cons h1 (h2.app k)
/-- texts alone, as a list of texts -/
theorem OdAll.isStrs : ∀ {ds : List PyData} {vs : List V}, OdAll g p H vs ds → (∀ d ∈ ds, ∃ x, d = .str x) → ∃ ts : List Str, vs = ts.map V.str ∧ ds = ts.map PyData.str
  | [], _, h, _ => by
    cases h
    exact ⟨[], rfl, rfl⟩
  | d :: ds, _, h, a => by
    cases h with
    | cons h1 h2 =>
      obtain ⟨x, rfl⟩ := a d List.mem_cons_self
      cases h1
      obtain ⟨ts, e1, e2⟩ := h2.isStrs fun z hz => a z (List.mem_cons_of_mem _ hz)
      exact ⟨x :: ts, by rw [e1] <;> rfl, by rw [e2] <;> rfl⟩
mutual
theorem Od.weak : ∀ {d : PyData} {v : V}, Od false p H v d → d.hasDict = false
  | .none, _, _ => rfl
  | .bool b, _, _ => rfl
  | .int i, _, _ => rfl
  | .str x, _, _ => rfl
  | .list ds, _, h => by
    cases h with
    | lst _ _ _ t =>
      simp only [PyData.hasDict]
      exact OdAll.weak t
  | .tuple ds, _, h => by
    cases h with
    | tup _ _ t =>
      simp only [PyData.hasDict]
      exact OdAll.weak t
  | .dict _, _, h => by
    cases h with
    | dic0 g1 => cases g1
    | dic1 g1 => cases g1
theorem OdAll.weak : ∀ {ds : List PyData} {vs : List V}, OdAll false p H vs ds → PyData.hasDictAll ds = false
  | [], _, _ => rfl
  | d :: ds, _, h => by
    cases h with
    | cons h1 h2 =>
      simp only [PyData.hasDictAll]
      rw [Od.weak h1, OdAll.weak h2] <;> rfl
end
end
section
variable {X : Cx} {pins : List (Addr × Obj)} {σ : L2.St} {g : Bool} {p : Addr} {H : Hp} {s : Shared}
theorem one_pair {knd : KeyKind X.prog X.w Key} {es : List DictEntry} {kv : Key × Value} (h : Pairs knd es [kv]) : ∃ e, es = [e] ∧ knd.is kv.1 e.key = true ∧ e.val = kv.2 := by
  cases h with
  | cons h1 h2 h3 =>
    cases h3
    exact ⟨_, rfl, h1, h2⟩
theorem no_pair {knd : KeyKind X.prog X.w Key} {es : List DictEntry} (h : Pairs knd es []) : es = [] := by
  cases h
  rfl
mutual
theorem Od.reads (I : Inv X pins σ H s) : ∀ (d : PyData) (v : V) (u : Value), Od g p H v d → RelV v u → ∃ as, Reads s.heap u d as ∧ (g = true → sysModules ∉ as)
  | .none, _, _, h, r => by
    cases h
    cases r
    exact ⟨_, .none, fun _ => List.not_mem_nil⟩
  | .bool b, _, _, h, r => by
    cases h
    cases r
    exact ⟨_, .bool b, fun _ => List.not_mem_nil⟩
  | .int i, _, _, h, r => by
    cases h
    obtain ⟨t, rfl⟩ := r
    exact ⟨_, .int i t, fun _ => List.not_mem_nil⟩
  | .str x, _, _, h, r => by
    cases h
    obtain ⟨t, rfl⟩ := r
    exact ⟨_, .str x t, fun _ => List.not_mem_nil⟩
  | .list ds, _, _, h, r => by
    cases h with
    | lst n1 n2 e t =>
      cases r
      obtain ⟨_, its, n, rv, h1⟩ := (show ObjOk X.prog X.w H s.heap _ (.lst _) from I.hok _ _ e)
      obtain ⟨as, hr, hn⟩ := OdAll.reads I ds _ its t rv
      refine ⟨_, .list h1 rfl rfl hr, fun q z => ?_⟩
      rcases List.mem_cons.mp z with z | z
      · exact n2 q z.symm
      · exact hn q z
  | .tuple ds, _, _, h, r => by
    cases h with
    | tup n1 e t =>
      cases r
      obtain ⟨_, its, rv, o, h1, h2, n, h3⟩ := (show ObjOk X.prog X.w H s.heap _ (.tup _) from I.hok _ _ e)
      obtain ⟨as, hr, hn⟩ := OdAll.reads I ds _ its t rv
      exact ⟨_, .tuple h1 h2 h3 hr, hn⟩
  | .dict [], _, _, h, r => by
    cases h with
    | dic0 g1 n1 e =>
      cases r
      obtain ⟨_, n2, vs, kv, o, es, ep, h1, h2, h3, _, h4, _⟩ := (show ObjOk X.prog X.w H s.heap _ (.dK _) from I.hok _ _ e)
      cases kv
      have e0 := no_pair h4
      refine ⟨_, .dict (as := []) (bs := []) h1 h2.1 h3 (by rw [e0]; exact .nil) (by rw [e0]; exact .nil), fun _ z => ?_⟩
      rcases List.mem_cons.mp z with z | z
      · exact (beq_eq_false_iff_ne.mp n2) z.symm
      · exact List.not_mem_nil z
  | .dict [(.str x, d)], _, _, h, r => by
    cases h with
    | dic1 g1 n1 e t =>
      cases r
      obtain ⟨_, n2, vs, kv, o, es, ep, h1, h2, h3, _, h4, _⟩ := (show ObjOk X.prog X.w H s.heap _ (.dK _) from I.hok _ _ e)
      cases kv with
      | @cons _ kw _ _ q1 q2 =>
        cases q2
        obtain ⟨k1, w1⟩ := kw
        obtain ⟨q3, q4⟩ := q1
        obtain ⟨e1, ee, e2, e3⟩ := one_pair h4
        obtain rfl : Sum.inr x = k1 := q3
        obtain ⟨as, hr, hn⟩ := Od.reads I d _ w1 t q4
        obtain ⟨y, tk, ey, ek⟩ : ∃ y tk, (Sum.inr x : Key) = Sum.inr y ∧ e1.key = Value.str y tk := by
          rcases keyIs_shape (k := Sum.inr x) (v := e1.key) e2 with ⟨i, tk, z, _⟩ | ⟨y, tk, z, z2⟩
          · cases z
          · exact ⟨y, tk, z, z2⟩
        cases ey
        refine ⟨_, .dict (as := []) (bs := as ++ []) h1 h2.1 h3 ?_ ?_, fun q z => ?_⟩
        · rw [ee]
          show ReadsAll s.heap [e1.key] [PyData.str x] []
          rw [ek]
          exact .cons (as := []) (.str x tk) .nil
        · rw [ee]
          show ReadsAll s.heap [e1.val] [d] (as ++ [])
          rw [e3]
          exact .cons hr .nil
        · rcases List.mem_cons.mp z with z | z
          · exact (beq_eq_false_iff_ne.mp n2) z.symm
          · have z : sysModules ∈ as ++ [] := z
            rw [List.append_nil] at z
            exact hn q z
  | .dict ((.none, _) :: _), _, _, h, _ => by cases h
  | .dict ((.bool _, _) :: _), _, _, h, _ => by cases h
  | .dict ((.int _, _) :: _), _, _, h, _ => by cases h
  | .dict ((.list _, _) :: _), _, _, h, _ => by cases h
  | .dict ((.tuple _, _) :: _), _, _, h, _ => by cases h
  | .dict ((.dict _, _) :: _), _, _, h, _ => by cases h
  | .dict ((.str _, _) :: _ :: _), _, _, h, _ => by cases h
theorem OdAll.reads (I : Inv X pins σ H s) : ∀ (ds : List PyData) (vs : List V) (us : List Value), OdAll g p H vs ds → Vals vs us → ∃ as, ReadsAll s.heap us ds as ∧ (g = true → sysModules ∉ as)
  | [], _, _, h, r => by
    cases h
    cases r
    exact ⟨_, .nil, fun _ => List.not_mem_nil⟩
  | d :: ds, _, _, h, r => by
    cases h with
    | cons h1 h2 =>
      cases r with
      | cons r1 r2 =>
        obtain ⟨as, q1, n1⟩ := Od.reads I d _ _ h1 r1
        obtain ⟨bs, q2, n2⟩ := OdAll.reads I ds _ _ h2 r2
        refine ⟨_, .cons q1 q2, fun q z => ?_⟩
        rcases List.mem_append.mp z with z | z
        · exact n1 q z
        · exact n2 q z
end
/-- data that is small enough to be shown -/
structure Sm (n m : Nat) (d : PyData) : Prop where
  sh : d.showable = true
  lv : d.leavesShort 40 = true
  wt : d.weight ≤ n
  dp : d.depth ≤ m
theorem Sm.fits {n m : Nat} {d : PyData} (h : Sm n m d) (hn : n ≤ 100000) : d.shown.length ≤ sizeLine := by
  have h1 := PyData.shown_le 40 (by decide) d h.lv
  have h2 : (40 + 2) * d.weight ≤ 42 * 100000 := Nat.mul_le_mul (by decide) (Nat.le_trans h.wt hn)
  exact Nat.le_trans (show _ ≤ 4200040 by omega) (by decide)
/-- repr of any such value -/
def rRepr : List V → Hp → VK → Prop := fun vs H Q => ∃ (v : V) (g : Bool) (p : Addr) (d : PyData) (n m : Nat), vs = [v] ∧ Od g p H v d ∧ Sm n m d ∧ n ≤ 100000 ∧ m ≤ 60 ∧ Q (.str d.shown) H
theorem cr_repr (hg : X.A.guards = some []) (hu : X.A.units + 64 < cLine) : CallR X (.builtin "repr") rRepr := by
  intro pins s σ H vs us Q I r h
  obtain ⟨v, g, p, d, n, m, rfl, ho, sm, hn, hm, q⟩ := h
  obtain ⟨u, rfl, r1⟩ := vals1 r
  obtain ⟨as, rd, nm⟩ := Od.reads I d v u ho r1
  have fit := sm.fits hn
  have dep : d.depth ≤ 60 := Nat.le_trans sm.dp hm
  have big : d.hasDict = true → sysModules ∉ as := fun z => by
    cases g with
    | true => exact nm rfl
    | false =>
      rw [ho.weak] at z
      cases z
  cases rd with
  | none => exact PySem.P.repr_of_none ⟨.str _, H, I.tok _, ⟨_, rfl⟩, q⟩
  | bool b => exact PySem.P.repr_of_bool ⟨.str _, H, I.tok _, ⟨_, rfl⟩, q⟩
  | int i t => exact PySem.P.repr_of_int (by simpa [PyData.showable] using sm.sh) ⟨.str _, H, I.tok _, ⟨_, rfl⟩, q⟩
  | str x t => exact PySem.P.repr_of_str ⟨.str _, H, I.tok _, ⟨_, rfl⟩, q⟩ fit
  | list h1 h2 h3 h4 => exact repr_of_reads' (.list h1 h2 h3 h4) sm.sh big hg (by omega) (fun _ _ e => e) (fun h' u tk k => ⟨.str _, H, I.kept k, ⟨_, rfl⟩, q⟩) fit
  | tuple h1 h2 h3 h4 => exact repr_of_reads' (.tuple h1 h2 h3 h4) sm.sh big hg (by omega) (fun _ _ e => e) (fun h' u tk k => ⟨.str _, H, I.kept k, ⟨_, rfl⟩, q⟩) fit
  | dict h1 h2 h3 h4 h5 => exact repr_of_reads' (.dict h1 h2 h3 h4 h5) sm.sh big hg (by omega) (fun _ _ e => e) (fun h' u tk k => ⟨.str _, H, I.kept k, ⟨_, rfl⟩, q⟩) fit
/-- a list that is written out, with where it does not stand -/
def tLstN (t : TA) : TE := fun σ H Q => t σ H fun xs H1 => xs.length ≤ sizeLine ∧ ∀ l, H1 l = none → l ≠ sysModules → Q (.ref l) (upd H1 l (.lst xs))
theorem pe_lstN {es : List Expr} {t : TA} {pos : Pos} (h : PA X es t) : PE X (.List es pos) (tLstN t) :=
  ⟨fun pins s σ H Q I hq => wpAny_List_spliced (thn (h.run pos pins s σ H _ I hq) fun us s1 ⟨xs, H1, I1, r, z, q⟩ => ⟨by
    rw [← r.length]
    exact z, .ref s1.heap.objs.size, upd H1 s1.heap.objs.size (.lst xs), I1.laid (t' := s1.toks) (fun b u e => Heap.get?_push_of_some _ e) (Nat.le_refl _) ⟨z, us, 0, r, Heap.get?_push_size _ rfl⟩, rfl,
      q _ (I1.hok.fresh (Nat.le_refl _)) (Ne.symm (Nat.ne_of_lt I1.big))⟩)⟩
/-! ### isinstance -/
def tyN : PyData → String
  | .none => "NoneType"
  | .bool _ => "bool"
  | .int _ => "int"
  | .str _ => "str"
  | .list _ => "list"
  | .tuple _ => "tuple"
  | .dict _ => "dict"
theorem Od.ty {K : PySem.W.Frag} : ∀ {d : PyData} {v : V}, Od g p H v d → TyX K H v (.type (tyN d))
  | _, _, .non => .base .non
  | _, _, .bl b => .base (.bl b)
  | _, _, .int i => .base (.int i)
  | _, _, .str x => .base (.str x)
  | _, _, .lst _ _ e _ => .base (.lst e)
  | _, _, .tup _ e _ => .base (.tup e)
  | _, _, .dic0 _ _ e => .base (.dK e)
  | _, _, .dic1 _ _ e _ => .base (.dK e)
def isS : PyData → Bool
  | .str _ => true
  | _ => false
def isT : PyData → Bool
  | .tuple _ => true
  | _ => false
theorem kit_str (d : PyData) : kitB (tyN d) "str" = some (isS d) := by
  cases d <;> (simp only [tyN, isS, isT]; decide +kernel)
theorem kit_tup (d : PyData) : kitB (tyN d) "tuple" = some (isT d) := by
  cases d <;> (simp only [tyN, isS, isT]; decide +kernel)
/-- isinstance(v, str) -/
theorem isi_str {K : PySem.W.Frag} {d : PyData} {v : V} {Q : VK} (h : Od g p H v d) (q : Q (.bl (isS d)) H) : rIsi K [v, .ty "str"] H Q := ⟨v, .ty "str", _, _, _, rfl, .ty "str", h.ty, kit_ty (kit_str d), q⟩
/-- isinstance(v, tuple) -/
theorem isi_tup {K : PySem.W.Frag} {d : PyData} {v : V} {Q : VK} (h : Od g p H v d) (q : Q (.bl (isT d)) H) : rIsi K [v, .ty "tuple"] H Q := ⟨v, .ty "tuple", _, _, _, rfl, .ty "tuple", h.ty, kit_ty (kit_tup d), q⟩
end
end Sf
namespace Sf
open PySem PySem.Spec PyProof.Rows L2
/-! ### the text -/
def topS (i : Nat) : Stmt := PySem.Challenge.pw_siftstore_k01_texts_and_pair_sets.main.body.getD i (.Pass ⟨0, 0, 0, 0⟩)
abbrev sPot : Stmt := topS 8
abbrev sDraw : Stmt := topS 9
theorem scPot : FnScope ["_law_script", "_law_k", "_law_cell", "_law_own"] ["_law_script", "_law_k"] (defScope sPot) := ⟨rfl, rfl, rfl, by decide +kernel, rfl, by decide +kernel, by decide +kernel⟩
theorem scDraw : FnScope ["_law_pot_here", "_law_many", "_law_digit", "_law_prime", "_law_made"] ["_law_pot_here", "_law_many"] (defScope sDraw) := ⟨rfl, rfl, rfl, by decide +kernel, rfl, by decide +kernel, by decide +kernel⟩
/-! ### the pot -/
/-- a pot out of which at most n mixed numbers were drawn -/
def Pot (H : Hp) (p : Addr) (n : Int) : Prop := ∃ a b c : Int, H p = some (.lst [.int a, .int b, .int c]) ∧ 0 ≤ a ∧ 0 ≤ b ∧ b < 2305843009213693951 ∧ 0 ≤ c ∧ c ≤ n
theorem Pot.mono {H : Hp} {p : Addr} {n m : Int} (h : Pot H p n) (l : n ≤ m) : Pot H p m := by
  obtain ⟨a, b, c, e, h1, h2, h3, h4, h5⟩ := h
  exact ⟨a, b, c, e, h1, h2, h3, h4, by omega⟩
/-- all but the pot stands as it stood -/
def Kp (p : Addr) (H H' : Hp) : Prop := ∀ b o, b ≠ p → H b = some o → H' b = some o
theorem Kp.refl (p : Addr) (H : Hp) : Kp p H H := fun _ _ _ h => h
theorem Kp.trans {p : Addr} {H H1 H2 : Hp} (a : Kp p H H1) (b : Kp p H1 H2) : Kp p H H2 := fun c o n h => b c o n (a c o n h)
theorem Kp.same {p : Addr} {H H1 : Hp} (a : Same H H1) : Kp p H H1 := fun c o _ h => a c o h
theorem Kp.pot {p : Addr} {H : Hp} {o : HO} : Kp p H (upd H p o) := fun c u n h => by
  rw [upd_ne n]
  exact h
theorem sq_le {c : Int} (h0 : 0 ≤ c) (h1 : c ≤ 1000000) : 0 ≤ 99991 * c * c ∧ 99991 * c * c ≤ 99991000000000000 := by
  have h2 : 0 ≤ c * c := Int.mul_nonneg h0 h0
  have h3 : c * c ≤ 1000000 * 1000000 := Int.mul_le_mul h1 h1 h0 (by decide)
  rw [Int.mul_assoc]
  omega
def spDraw : Sp := fun vs H Q _ => ∃ (p : Addr) (n m : Int), vs = [.ref p, .int m] ∧ Pot H p n ∧ n < 1000000 ∧ 0 < m ∧ m < 1073741824 ∧
  ∀ (r : Int) (H' : Hp), 0 ≤ r → r < m → Pot H' p (n + 1) → Kp p H H' → Q (.int r) H'
section
variable {P : Program} {w : World} {K : PySem.W.Frag} {mg : Str → Option Value} {base : Heap}
theorem ok_draw {f : Addr} {fd : FuncData} {k : Nat} (F : Fun K "_law_draw" "_law_draw" sDraw f fd) (mi : mg "int" = none) : FnOk P w K mg base CX0 (k + 1) f fd ["_law_pot_here", "_law_many"] spDraw := by
  refine F.ok scDraw (fun vs H Q E h => ?_) (fun cdv A outer s H vs Q E hr h => ?_)
  · obtain ⟨p, n, m, rfl, _⟩ := h
    rfl
  · obtain ⟨p, n, m, rfl, ⟨a, b, c, hp, ha, hb0, hb1, hc0, hc1⟩, hn, hm0, hm1, q⟩ := h
    refine ⟨_, pss_cons (ps_if (pt_cmpR op_gt (pe_ix ix_list (pv 0) pe_int (fun _ _ => rfl)) pe_int (nomark _))
        (pss_cons (ps_set (i := 2) scDraw.nd rfl (.inl rfl) (pe_op op_mod (pe_callTy call_int1 (by rfl) mi PySem.Pv.boot_int (pa_cons (pe_ix ix_list (pv 0) pe_int (fun _ _ => rfl)) pa_nil)) (pv 1)))
        (pss_cons (ps_asg (pe_op op_fdiv (pe_ix ix_list (pv 0) pe_int (fun _ _ => rfl)) (pv 1)) (pg_sub (pv 0) pe_int set_list (fun _ => rfl)))
        (pss_one (ps_ret (pv 2)))))
        pss_nil)
      (pss_cons (ps_asg (pe_op op_add (pe_ix ix_list (pv 0) pe_int (fun _ _ => rfl)) pe_int) (pg_sub (pv 0) pe_int set_list (fun _ => rfl)))
      (pss_cons (ps_set (i := 3) scDraw.nd rfl (.inl rfl) (pe_ix ix_list (pe_lst (pa_cons pe_int (pa_cons pe_int (pa_cons pe_int (pa_cons pe_int (pa_cons pe_int pa_nil))))))
          (pe_op op_mod (pe_callTy call_int1 (by rfl) mi PySem.Pv.boot_int (pa_cons (pe_ix ix_list (pv 0) pe_int (fun _ _ => rfl)) pa_nil)) pe_int) (fun _ _ => rfl)))
      (pss_cons (ps_set (i := 4) scDraw.nd rfl (.inl rfl) (pe_op op_mod (pe_callTy call_int1 (by rfl) mi PySem.Pv.boot_int (pa_cons
          (pe_op op_pow (pe_op op_add (pe_op op_add (pe_ix ix_list (pv 0) pe_int (fun _ _ => rfl)) (pe_op op_mul (pe_op op_mul pe_int (pe_ix ix_list (pv 0) pe_int (fun _ _ => rfl))) (pe_ix ix_list (pv 0) pe_int (fun _ _ => rfl)))) pe_int) pe_int) pa_nil)) (pv 3)))
      (pss_cons (ps_set (i := 4) scDraw.nd rfl (.inl rfl) (pe_op op_mod (pe_callTy call_int1 (by rfl) mi PySem.Pv.boot_int (pa_cons
          (pe_op op_mul (pv 4) (pe_op op_add (pe_op op_mod (pe_callTy call_int1 (by rfl) mi PySem.Pv.boot_int (pa_cons (pv 4) pa_nil)) pe_int) (pe_op op_mul pe_int (pe_ix ix_list (pv 0) pe_int (fun _ _ => rfl))))) pa_nil)) pe_int))
      (pss_one (ps_ret (pe_op op_mod (pe_callTy call_int1 (by rfl) mi PySem.Pv.boot_int (pa_cons (pe_op op_fdiv (pv 4) pe_int) pa_nil)) (pv 1)))))))), ?_⟩
    have hS : ∀ {H1 : Hp} {xs : List V}, H1 p = some (.lst xs) → SqL K H1 p xs := fun h => .inl (.inl h)
    -- pot[0] > 0
    refine ⟨.ref p, rfl, p, _, 0, _, rfl, rfl, hS hp, rfl, _, _, rfl, rfl, _, rfl, ?_⟩
    refine ite2 (fun h => ?_) (fun h => ?_)
    · have h0 : 0 < a := of_decide_eq_true h
      -- digit
      refine ⟨.ref p, rfl, p, _, 0, _, rfl, rfl, hS hp, rfl, .inl ⟨_, rfl, .int m, rfl, _, _, rfl, rfl, hm0, ?_⟩⟩
      -- pot[0] = pot[0] // many
      refine ⟨.ref p, rfl, p, _, 0, _, rfl, rfl, hS hp, rfl, .int m, rfl, _, _, rfl, rfl, ⟨hm0, hm1⟩, ?_⟩
      refine ⟨.ref p, rfl, p, _, 0, 0, rfl, rfl, hp, rfl, ?_⟩
      refine ⟨_, rfl, q _ _ (Int.emod_nonneg _ (by omega)) (Int.emod_lt_of_pos _ hm0) ⟨a / m, b, c, upd_same, Int.ediv_nonneg ha (by omega), hb0, hb1, hc0, by omega⟩ Kp.pot⟩
    · have h0 : ¬ 0 < a := fun z => h (decide_eq_true z)
      -- pot[2] = pot[2] + 1
      refine ⟨.ref p, rfl, p, _, 2, _, rfl, rfl, hS hp, rfl, _, _, rfl, rfl, .ref p, rfl, p, _, 2, 2, rfl, rfl, hp, rfl, ?_⟩
      have e1 : upd H p (.lst [.int a, .int b, .int (c + 1)]) p = some (.lst [.int a, .int b, .int (c + 1)]) := upd_same
      -- prime
      refine ⟨by show 5 ≤ sizeLine; decide, fun l hl => ?_⟩
      have nlp : p ≠ l := ne_of_none e1 hl
      have e2 : upd (upd H p (.lst [.int a, .int b, .int (c + 1)])) l (.lst [.int 2147483647, .int 2147483629, .int 2147483587, .int 2147483579, .int 2147483563]) p = some (.lst [.int a, .int b, .int (c + 1)]) := by
        rw [upd_ne nlp]
        exact e1
      have kp : Kp p H (upd (upd H p (.lst [.int a, .int b, .int (c + 1)])) l (.lst [.int 2147483647, .int 2147483629, .int 2147483587, .int 2147483579, .int 2147483563])) := by
        intro b' o nb hb
        have nl : H l = none := by
          rw [upd_ne nlp.symm] at hl
          exact hl
        rw [upd_ne (ne_of_none hb nl), upd_ne nb]
        exact hb
      obtain ⟨pr, hpr, p0⟩ : ∃ pr : Int, atI [V.int 2147483647, V.int 2147483629, V.int 2147483587, V.int 2147483579, V.int 2147483563] ((c + 1) % 5) = some (.int pr) ∧ 0 < pr ∧ pr ≤ 2147483647 := by
        have h1 : 0 ≤ (c + 1) % 5 := Int.emod_nonneg _ (by decide)
        have h2 : (c + 1) % 5 < 5 := Int.emod_lt_of_pos _ (by decide)
        generalize (c + 1) % 5 = r at h1 h2
        have : r = 0 ∨ r = 1 ∨ r = 2 ∨ r = 3 ∨ r = 4 := by omega
        rcases this with rfl | rfl | rfl | rfl | rfl
        · exact ⟨2147483647, rfl, by decide⟩
        · exact ⟨2147483629, rfl, by decide⟩
        · exact ⟨2147483587, rfl, by decide⟩
        · exact ⟨2147483579, rfl, by decide⟩
        · exact ⟨2147483563, rfl, by decide⟩
      refine ⟨.ref p, rfl, p, _, 2, _, rfl, rfl, hS e2, rfl, .inl ⟨_, rfl, _, _, rfl, rfl, by show (0 : Int) < 5; decide, l, _, _, _, rfl, rfl, .inl (.inl upd_same), hpr, ?_⟩⟩
      -- made
      refine ⟨.ref p, rfl, p, _, 1, _, rfl, rfl, hS e2, rfl, .ref p, rfl, p, _, 2, _, rfl, rfl, hS e2, rfl, _, _, rfl, rfl, .inl ⟨by decide, by decide⟩, .ref p, rfl, p, _, 2, _, rfl, rfl, hS e2, rfl, _, _, rfl, rfl, .inl ⟨?_, ?_⟩, _, _, rfl, rfl, _, _, rfl, rfl, ?_⟩
      · omega
      · omega
      refine ⟨_, _, rfl, rfl, ⟨by decide, by decide, ?_⟩, .inl ⟨_, rfl, _, rfl, _, _, rfl, rfl, p0.1, ?_⟩⟩
      · have hq := sq_le (c := c + 1) (by omega) (by omega)
        show (b + 99991 * (c + 1) * (c + 1) + 61).natAbs < 2 ^ 64
        omega
      generalize (b + 99991 * (c + 1) * (c + 1) + 61) ^ Int.toNat 3 = X
      have hM0 : 0 ≤ X % pr := Int.emod_nonneg _ (by omega)
      have hM1 : X % pr < pr := Int.emod_lt_of_pos _ p0.1
      refine ⟨.int (X % pr), rfl, .int (X % pr), rfl, .inl ⟨_, rfl, _, _, rfl, rfl, by show (0 : Int) < 10007; decide, .ref p, rfl, p, _, 2, _, rfl, rfl, hS e2, rfl, _, _, rfl, rfl, .inl ⟨by decide, by decide⟩, _, _, rfl, rfl, _, _, rfl, rfl, .inl ⟨by omega, by omega⟩, .inl ⟨_, rfl, _, _, rfl, rfl, by show (0 : Int) < 2305843009213693907; decide, ?_⟩⟩⟩
      generalize X % pr * (X % pr % 10007 + 83 * (c + 1)) = Y
      refine ⟨.int (Y % 2305843009213693907), rfl, _, _, rfl, rfl, ⟨by decide, by decide⟩, .inl ⟨_, rfl, .int m, rfl, _, _, rfl, rfl, hm0, ?_⟩⟩
      exact q _ _ (Int.emod_nonneg _ (by omega)) (Int.emod_lt_of_pos _ hm0) ⟨a, b, c + 1, e2, ha, hb0, hb1, by omega, by omega⟩ kp
end
end Sf
namespace Sf
open PySem PySem.Spec PyProof.Rows L2
/-- the letters' codes -/
def LET : List Nat := (Str.ofString " 0123456789_abcdefghijklmnopqrstuvwxyz").cps.toList
def isTx (x : Str) : Bool := x.cps.toList.all fun c => decide (c ∈ LET)
theorem Same.upd {H : Hp} {p : Addr} {o : HO} (h : H p = none) : Same H (upd H p o) := fun b u e => by
  rw [upd_ne (ne_of_none e h)]
  exact e
/-- an object that was not there may change -/
theorem Same.mut {H H' : Hp} {p : Addr} {o : HO} (a : Same H H') (h : H p = none) : Same H (L2.upd H' p o) := fun b u e => by
  rw [upd_ne (ne_of_none e h)]
  exact a b u e
theorem str_len (x : Str) : x.length = x.cps.toList.length := TL.len_tl x
theorem map_getD {α β : Type} (F : β → α) (d : β) (l : List β) : (List.range l.length).map (fun i => F (l.getD i d)) = l.map F := by
  apply List.ext_getElem
  · simp
  · intro i a b
    have hi : i < l.length := by
      rw [List.length_map] at b
      exact b
    rw [List.getElem_map, List.getElem_map, List.getElem_range, List.getD_eq_getElem?_getD, List.getElem?_eq_getElem hi] <;> rfl
theorem getD_at {β : Type} {d x : β} {l : List β} {i : Nat} (h : l[i]? = some x) : l.getD i d = x := by
  rw [List.getD_eq_getElem?_getD, h] <;> rfl
/-- a comprehension whose elements are told by the turn -/
theorem lc_fun {J : It} {n : Nat} {G : Hp → Prop} {Y : Nat → Hp → V → Hp → Prop} (w : Walk J n G Y) {g : TG} {tt : TT} {te : TE} {vs : List Nat} {σ : L2.St} {H1 : Hp} {D : Addr} {Qd : Hp → Prop} (p : Nat → Bool) (f : Nat → V)
    (hn : n ≤ 1000000) (hD : H1 D = none) (hG : ∀ H, Same H1 H → G H)
    (he : ∀ i x H H' (N : V → Hp → Prop) (M : Hp → Prop), i < n → Same H1 H → Y i H x H' → (p i = true → ∀ H4, Same H H4 → N (f i) H4) → (p i = false → ∀ H4, Same H H4 → M H4) →
      g x (wipe σ vs) H' fun σ2 H2 => wipe σ2 vs = wipe σ vs ∧ tt σ2 H2 fun b H3 => if b = true then te σ2 H3 N else M H3)
    (hd : ∀ H, Same H1 H → H D = some (.lst (((List.range n).filter p).map f)) → Qd H) :
    ∃ W : Nat → Nat → Hp → Prop, (∃ m, W 0 m (upd H1 D (.lst []))) ∧ ∀ i m H, W i m H →
      (J.stop i H ∧ Qd H) ∨ (J.go i H ∧ ∃ Nx : Hp → Prop, (∀ H', Nx H' → ∃ m', m' < m ∧ W (i + 1) m' H') ∧ ∀ x H', J.yld i H x H' → g x (wipe σ vs) H' fun σ2 H2 => wipe σ2 vs = wipe σ vs ∧ tt σ2 H2 fun b H3 =>
        if b = true then te σ2 H3 fun y H4 => ∃ acc, H4 D = some (.lst acc) ∧ acc.length < sizeLine ∧ Nx (upd H4 D (.lst (acc ++ [y]))) else Nx H3) := by
  refine lc_it w (fun i H => i ≤ n ∧ Same H1 H ∧ H D = some (.lst (((List.range i).filter p).map f))) ⟨Nat.zero_le _, Same.upd hD, upd_same⟩ (fun i H _ h => hG H h.2.1) (fun i x H H' hi h y => ?_) (fun H h => hd H h.2.1 h.2.2)
  obtain ⟨_, h1, h2⟩ := h
  refine he i x H H' _ _ hi h1 y (fun hp H4 s4 => ⟨_, s4 D _ h2, ?_, hi, Same.mut (h1.trans s4) hD, ?_⟩) (fun hp H4 s4 => ⟨hi, h1.trans s4, ?_⟩)
  · rw [List.length_map]
    have q := List.length_filter_le p (List.range i)
    rw [List.length_range] at q
    exact Nat.lt_of_le_of_lt (Nat.le_trans q (Nat.le_of_lt hi)) (Nat.lt_of_le_of_lt hn (by decide))
  · rw [upd_same, List.range_succ, List.filter_append, List.map_append, List.filter_cons, if_pos hp] <;> rfl
  · rw [s4 D _ h2, List.range_succ, List.filter_append, List.map_append, List.filter_cons, if_neg (by rw [hp]; decide)]
    rw [List.filter_nil, List.map_nil, List.append_nil]
/-- without a test -/
theorem lc_map {J : It} {n : Nat} {G : Hp → Prop} {Y : Nat → Hp → V → Hp → Prop} (w : Walk J n G Y) {g : TG} {te : TE} {vs : List Nat} {σ : L2.St} {H1 : Hp} {D : Addr} {Qd : Hp → Prop} (f : Nat → V)
    (hn : n ≤ 1000000) (hD : H1 D = none) (hG : ∀ H, Same H1 H → G H)
    (he : ∀ i x H H' (N : V → Hp → Prop), i < n → Same H1 H → Y i H x H' → (∀ H4, Same H H4 → N (f i) H4) → g x (wipe σ vs) H' fun σ2 H2 => wipe σ2 vs = wipe σ vs ∧ te σ2 H2 N)
    (hd : ∀ H, Same H1 H → H D = some (.lst ((List.range n).map f)) → Qd H) :
    ∃ W : Nat → Nat → Hp → Prop, (∃ m, W 0 m (upd H1 D (.lst []))) ∧ ∀ i m H, W i m H →
      (J.stop i H ∧ Qd H) ∨ (J.go i H ∧ ∃ Nx : Hp → Prop, (∀ H', Nx H' → ∃ m', m' < m ∧ W (i + 1) m' H') ∧ ∀ x H', J.yld i H x H' → g x (wipe σ vs) H' fun σ2 H2 => wipe σ2 vs = wipe σ vs ∧ tYes σ2 H2 fun b H3 =>
        if b = true then te σ2 H3 fun y H4 => ∃ acc, H4 D = some (.lst acc) ∧ acc.length < sizeLine ∧ Nx (upd H4 D (.lst (acc ++ [y]))) else Nx H3) := by
  refine lc_fun w (fun _ => true) f hn hD hG (fun i x H H' N M hi h1 y hN _ => he i x H H' N hi h1 y (hN rfl)) (fun H h1 h2 => hd H h1 ?_)
  rw [h2, List.filter_eq_self.mpr (fun _ _ => rfl)]
theorem map_snoc {α : Type} (f : Nat → α) (n : Nat) : (List.range (n + 1)).map f = (List.range n).map f ++ [f n] := by
  rw [List.range_succ, List.map_append] <;> rfl
theorem tl_ap (x y : Str) : (x ++ y).cps.toList = x.cps.toList ++ y.cps.toList := TL.tl_append x y
theorem len_ap (x y : Str) : (x ++ y).length = x.length + y.length := by
  rw [TL.len_tl, TL.len_tl, TL.len_tl, TL.tl_append, List.length_append]
theorem bg : (Str.ofString "^").cps.toList = [94] := by decide +kernel
theorem en : (Str.ofString "$").cps.toList = [36] := by decide +kernel
theorem toSet_len (l : List Str) : (toSet l).length ≤ l.length := by
  have q : ∀ (l acc : List Str), (l.foldl insT acc).length ≤ acc.length + l.length := by
    intro l
    induction l with
    | nil => intro acc; exact Nat.le_refl _
    | cons y r ih =>
      intro acc
      have b1 := ih (insT acc y)
      have b2 := insT_len (l := acc) (x := y)
      rw [List.foldl_cons, List.length_cons]
      omega
  have q2 := q l []
  rw [List.length_nil] at q2
  unfold toSet
  omega
theorem inV_str (x : Str) : ∀ ps : List Str, inV (.str x) (ps.map V.str) = decide (x ∈ ps)
  | [] => by simp [inV]
  | y :: r => by
    have ih := inV_str x r
    unfold inV at ih ⊢
    rw [List.map_cons, List.any_cons, ih]
    have e : eqV (.str y) (.str x) = decide (x = y) := by
      by_cases h : x = y
      · subst h
        simp [eqV]
      · rw [decide_eq_false h]
        simp [eqV]
        exact fun z => h z.symm
    rw [e, Bool.eq_iff_iff]
    simp [List.mem_cons]
theorem flat_str : ∀ ps : List Str, (ps.map V.str).all flatV = true
  | [] => rfl
  | y :: r => by
    rw [List.map_cons, List.all_cons, flat_str r] <;> rfl
end Sf
namespace Sf
open PySem PySem.Spec PyProof.Rows L2
abbrev sAny : Stmt := topS 10
abbrev sText : Stmt := topS 12
theorem scAny : FnScope ["_law_pot_here", "_law_items"] ["_law_pot_here", "_law_items"] (defScope sAny) := ⟨rfl, rfl, rfl, by decide +kernel, rfl, by decide +kernel, by decide +kernel⟩
theorem scText : FnScope ["_law_pot_here", "_law_letters", "_law_most", "_law_turn"] ["_law_pot_here", "_law_letters", "_law_most"] (defScope sText) := ⟨rfl, rfl, rfl, by decide +kernel, rfl, by decide +kernel, by decide +kernel⟩
/-! ### powers of greater numbers -/
def CPw (i j : Int) : Prop := 0 ≤ j ∧ (Builtin.Int.intBits i : Int) * j ≤ 2 ^ 27
section
variable {X : Cx}
theorem op_powW : OpR X (binaryOp .Pow) (rI CPw fun i j => .int (i ^ j.toNat)) := opI fun _ _ _ _ _ _ _ hc q => pow_int hc.1 hc.2 q
end
section
variable {P : Program} {w : World} {K : PySem.W.Frag} {mg : Str → Option Value} {base : Heap}
/-! ### _law_pot -/
def spPot (K : PySem.W.Frag) : Sp := fun vs H Q _ => ∃ (a : Addr) (ns : List Int) (k : Nat), vs = [.ref a, .int (k : Int)] ∧ SqL K H a (ns.map V.int) ∧ k ≤ 2 ∧ ∀ (p : Addr) H', H p = none → Same H H' → Pot H' p 0 → Q (.ref p) H'
theorem ok_pot {f : Addr} {fd : FuncData} {k : Nat} (F : Fun K "_law_pot" "_law_pot" sPot f fd) (mi : mg "int" = none) (ma : mg "abs" = none) (ml : mg "len" = none) : FnOk P w K mg base CX0 (k + 1) f fd ["_law_script", "_law_k"] (spPot K) := by
  refine F.ok scPot (fun vs H Q E h => ?_) (fun cdv A outer s H vs Q E hr h => ?_)
  · obtain ⟨a, ns, k, rfl, _⟩ := h
    rfl
  · obtain ⟨a, ns, k, rfl, hS, hk, q⟩ := h
    refine ⟨_, Evl.pss_cut (ps_set (i := 2) scPot.nd rfl (.inl rfl) (pe_ifExp (pt_cmpR op_lt (pv 1) (pe_callB call_len_seq (by rfl) ml PySem.boot_len (pa_cons (pv 0) pa_nil)) (nomark _))
        (pe_ix ix_list (pv 0) (pv 1) (fun _ _ => rfl)) (pe_op op_add (pe_op op_mul pe_int (pv 1)) pe_int)))
      (pss_cons (ps_set (i := 3) scPot.nd rfl (.inl rfl) (pe_op op_mul (pe_op op_mod (pe_callTy call_int1 (by rfl) mi PySem.Pv.boot_int (pa_cons (pe_callB call_abs (by rfl) ma (by decide +kernel) (pa_cons (pv 2) pa_nil)) pa_nil))
          (pe_op op_powW (pe_op op_pow pe_int pe_int) pe_int))
        (pe_callTy call_int1 (by rfl) mi PySem.Pv.boot_int (pa_cons (pe_cmpR op_ge (pe_callB call_abs (by rfl) ma (by decide +kernel) (pa_cons (pv 2) pa_nil)) (pe_op op_pow pe_int pe_int) (nomark _)) pa_nil))))
      (pss_one (ps_ret (pe_lst (pa_cons (pv 3) (pa_cons (pe_op op_mod (pe_callTy call_int1 (by rfl) mi PySem.Pv.boot_int (pa_cons
          (pe_op op_add (pe_op op_add (pe_op op_mul (pe_op op_mod (pe_callTy call_int1 (by rfl) mi PySem.Pv.boot_int (pa_cons (pv 2) pa_nil)) pe_int) pe_int) (pe_op op_mul (pe_op op_mul pe_int (pv 1)) (pv 1))) pe_int) pa_nil)) pe_int)
        (pa_cons pe_int pa_nil))))))), ?_⟩
    refine ⟨fun σ H' => ∃ c : Int, σ = [some (.ref a), some (.int k), some (.int c), none] ∧ H' = H, ?_, fun σ H' hM => ?_⟩
    · refine ⟨.int k, rfl, .ref a, rfl, a, _, rfl, .inl hS, _, _, rfl, rfl, _, rfl, ?_⟩
      refine ite2 (fun h => ?_) (fun h => ?_)
      · have h1 : (k : Int) < ((ns.map V.int).length : Int) := of_decide_eq_true h
        rw [List.length_map] at h1
        have hk2 : k < ns.length := by omega
        exact ⟨.ref a, rfl, .int k, rfl, a, _, k, .int ns[k], rfl, rfl, hS, atI_nat (by rw [List.getElem?_map, List.getElem?_eq_getElem hk2] <;> rfl), ns[k], rfl, rfl⟩
      · exact ⟨.int k, rfl, _, _, rfl, rfl, .inl ⟨by decide, by decide⟩, _, _, rfl, rfl, _, rfl, rfl⟩
    · obtain ⟨c, rfl, rfl⟩ := hM
      have p0 : (0 : Int) < (10 ^ Int.toNat 60) ^ Int.toNat 5 := by decide +kernel
      have m0 : ∀ z : Int, 0 ≤ z % (10 ^ Int.toNat 60) ^ Int.toNat 5 := fun z => Int.emod_nonneg _ (by omega)
      have b0 : ∀ b : Bool, (0 : Int) ≤ (if b = true then 1 else 0) ∧ (if b = true then (1 : Int) else 0) < 2 ^ 64 := fun b => by cases b <;> decide
      have c0 : 0 ≤ c % 2305843009213693951 ∧ c % 2305843009213693951 < 2305843009213693951 := ⟨Int.emod_nonneg _ (by decide), Int.emod_lt_of_pos _ (by decide)⟩
      refine ⟨.int c, rfl, c, rfl, .inl ⟨_, rfl, _, _, rfl, rfl, ⟨by decide, by decide, by decide⟩, _, _, rfl, rfl, ⟨by decide, by decide +kernel⟩, _, _, rfl, rfl, p0,
        .int c, rfl, c, rfl, _, _, rfl, rfl, ⟨by decide, by decide, by decide⟩, _, _, rfl, rfl, .inr ⟨_, rfl, _, _, rfl, rfl, .inr ⟨Int.lt_of_lt_of_le (by decide) (b0 _).1, (b0 _).2⟩, ?_⟩⟩⟩
      refine ⟨_, rfl, .int c, rfl, .inl ⟨_, rfl, _, _, rfl, rfl, by show (0 : Int) < 2305843009213693951; decide, _, _, rfl, rfl, .inr ⟨by decide, by decide⟩,
        .int k, rfl, _, _, rfl, rfl, .inl ⟨by decide, by decide⟩, .int k, rfl, _, _, rfl, rfl, .inl ⟨by omega, by omega⟩, _, _, rfl, rfl, _, _, rfl, rfl,
        .inl ⟨_, rfl, _, _, rfl, rfl, by show (0 : Int) < 2305843009213693921; decide, by show 3 ≤ sizeLine; decide, fun p np => q p _ np (Same.upd np) ?_⟩⟩⟩
      refine ⟨_, _, 0, upd_same, Int.mul_nonneg (m0 _) (b0 _).1, Int.emod_nonneg _ (by decide), Int.lt_trans (Int.emod_lt_of_pos _ (by decide)) (by decide), Int.le_refl _, Int.le_refl _⟩
/-! ### _law_any -/
def spAny (K : PySem.W.Frag) : Sp := fun vs H Q _ => ∃ (p : Addr) (n : Int) (x : V), vs = [.ref p, x] ∧ Pot H p n ∧ n < 1000000 ∧
  ((∃ z : Str, x = .str z ∧ 0 < z.length ∧ z.length ≤ 1000 ∧ ∀ (c : Nat) H', c ∈ z.cps.toList → Pot H' p (n + 1) → Kp p H H' → Q (.str ⟨#[c]⟩) H') ∨
   (∃ (a : Addr) (xs : List V), x = .ref a ∧ (∀ {H'}, Kp p H H' → SqL K H' a xs) ∧ 0 < xs.length ∧ xs.length ≤ 1000 ∧ ∀ (v : V) H', v ∈ xs → Pot H' p (n + 1) → Kp p H H' → Q v H'))
theorem atI_of {α : Type} {xs : List α} {r : Int} (h0 : 0 ≤ r) (h1 : r < (xs.length : Int)) : ∃ x, atI xs r = some x ∧ x ∈ xs := by
  obtain ⟨n, rfl⟩ := Int.eq_ofNat_of_zero_le h0
  have hn : n < xs.length := by omega
  exact ⟨xs[n], atI_nat (List.getElem?_eq_getElem hn), List.getElem_mem hn⟩
theorem ok_any {f fD : Addr} {fd fdD : FuncData} {k : Nat} (F : Fun K "_law_any" "_law_any" sAny f fd) (FD : Fun K "_law_draw" "_law_draw" sDraw fD fdD) (bD : Binds K fdD ["_law_pot_here", "_law_many"] []) (gD : mg "_law_draw" = some (.ref fD))
    (GD : FnOk P w K mg base CX0 (k + 1) fD fdD ["_law_pot_here", "_law_many"] spDraw) (ml : mg "len" = none) : FnOk P w K mg base CX0 (k + 2) f fd ["_law_pot_here", "_law_items"] (spAny K) := by
  refine F.ok scAny (fun vs H Q E h => ?_) (fun cdv A outer s H vs Q E hr h => ?_)
  · obtain ⟨p, n, x, rfl, _⟩ := h
    rfl
  · obtain ⟨p, n, x, rfl, hp, hn, h⟩ := h
    refine ⟨_, pss_one (ps_ret (pe_ix ix_seq (pv 1) (pe_call GD hr (by rfl) gD FD.kp bD .nil pass0 (pa_cons (pv 0) (pa_cons (pe_callB (CallR.or call_len_seq call_len_str) (by rfl) ml PySem.boot_len (pa_cons (pv 1) pa_nil)) pa_nil))) (fun _ _ => rfl))), ?_⟩
    rcases h with ⟨z, rfl, z0, z1, q⟩ | ⟨a, xs, rfl, hS, x0, x1, q⟩
    · have zl : z.length ≤ sizeLine := Nat.le_trans z1 (by decide)
      refine ⟨.str z, rfl, .ref p, rfl, .str z, rfl, .inr ⟨z, rfl, zl, p, n, _, rfl, hp, hn, by omega, by omega, fun r H' h0 h1 hp' hk => ?_⟩⟩
      rw [str_len] at h1
      obtain ⟨c, e, hc⟩ := atI_of h0 h1
      exact .inr (.inr ⟨z, r, c, rfl, rfl, zl, e, q c H' hc hp' hk⟩)
    · refine ⟨.ref a, rfl, .ref p, rfl, .ref a, rfl, .inl ⟨a, xs, rfl, .inl (hS (Kp.refl p H)), p, n, _, rfl, hp, hn, by omega, by omega, fun r H' h0 h1 hp' hk => ?_⟩⟩
      obtain ⟨v, e, hv⟩ := atI_of h0 h1
      exact .inl ⟨a, xs, r, v, rfl, rfl, hS hk, e, q v H' hv hp' hk⟩
/-! ### _law_text -/
theorem em : (Str.ofString "").cps.toList = [] := by decide +kernel
theorem joinL_ones : ∀ cs : List Nat, TL.joinL [] (cs.map fun c => [c]) = cs
  | [] => rfl
  | [c] => rfl
  | c :: d :: r => by
    show [c] ++ ([] ++ TL.joinL [] ((d :: r).map fun c => [c])) = _
    rw [joinL_ones (d :: r)] <;> rfl
theorem join_ones (cs : List Nat) : Txt.join (Str.ofString "") (cs.map fun c => (⟨#[c]⟩ : Str)) = tx cs := by
  rw [TL.join_eq]
  refine TL.ext_tl ?_
  rw [TL.tl_join, TL.tl, em, List.map_map]
  exact joinL_ones cs
theorem sum_ones (cs : List Nat) : ((cs.map fun c => (⟨#[c]⟩ : Str)).map (·.length)).sum = cs.length := by
  induction cs with
  | nil => rfl
  | cons c r ih =>
    rw [List.map_cons, List.map_cons, List.sum_cons, ih, List.length_cons]
    show 1 + r.length = r.length + 1
    omega
theorem Pot.up {H : Hp} {p D : Addr} {o : HO} {n : Int} (h : Pot H p n) (hD : H D = none) : Pot (upd H D o) p n := by
  obtain ⟨a, b, c, e, r⟩ := h
  refine ⟨a, b, c, ?_, r⟩
  rw [upd_ne (ne_of_none e hD)]
  exact e
theorem Pot.ne {H : Hp} {p D : Addr} {n : Int} (h : Pot H p n) (hD : H D = none) : D ≠ p := by
  obtain ⟨a, b, c, e, r⟩ := h
  exact (ne_of_none e hD).symm
theorem Pot.wr {H : Hp} {p D : Addr} {o : HO} {n : Int} (h : Pot H p n) (hD : D ≠ p) : Pot (upd H D o) p n := by
  obtain ⟨a, b, c, e, r⟩ := h
  refine ⟨a, b, c, ?_, r⟩
  rw [upd_ne hD.symm]
  exact e
def spText : Sp := fun vs H Q _ => ∃ (p : Addr) (n : Int) (L : Str) (m : Nat), vs = [.ref p, .str L, .int (m : Int)] ∧ Pot H p n ∧ n + m + 2 ≤ 1000000 ∧ m ≤ 100 ∧ 0 < L.length ∧ L.length ≤ 1000 ∧
  ∀ (t : List Nat) H', t.length ≤ m → (∀ c ∈ t, c ∈ L.cps.toList) → Pot H' p (n + m + 1) → Kp p H H' → Q (.str (tx t)) H'
theorem ok_text {f fD fA : Addr} {fd fdD fdA : FuncData} {k : Nat} (F : Fun K "_law_text" "_law_text" sText f fd) (FD : Fun K "_law_draw" "_law_draw" sDraw fD fdD) (bD : Binds K fdD ["_law_pot_here", "_law_many"] []) (gD : mg "_law_draw" = some (.ref fD))
    (GD : FnOk P w K mg base CX0 (k + 2) fD fdD ["_law_pot_here", "_law_many"] spDraw) (FA : Fun K "_law_any" "_law_any" sAny fA fdA) (bA : Binds K fdA ["_law_pot_here", "_law_items"] []) (gA : mg "_law_any" = some (.ref fA))
    (GA : FnOk P w K mg base CX0 (k + 2) fA fdA ["_law_pot_here", "_law_items"] (spAny K)) (mr : mg "range" = none) : FnOk P w K mg base CX0 (k + 3) f fd ["_law_pot_here", "_law_letters", "_law_most"] spText := by
  refine F.ok scText (fun vs H Q E h => ?_) (fun cdv A outer s H vs Q E hr h => ?_)
  · obtain ⟨p, n, L, m, rfl, _⟩ := h
    rfl
  · obtain ⟨p, n, L, m, rfl, hp, hn, hm, l0, l1, q⟩ := h
    refine ⟨_, pss_one (ps_ret (pe_join pe_str (pe_lc (own := [("_law_turn", 3)]) (g := gName 3) (tt := tYes) rfl scText.nd
        (pi_range1 rfl mr (pa_cons (pe_call GD hr (by rfl) gD FD.kp bD .nil pass0 (pa_cons (pv 0) (pa_cons (pe_op op_add (pv 2) pe_int) pa_nil))) pa_nil))
        (blkOk_by (N := ["_law_pot_here", "_law_letters", "_law_most", "_law_turn"]) (sc := defScope sText) (by decide +kernel))
        (fun _ _ _ _ _ => pg_name (i := 3) scText.nd rfl (Or.inl rfl)) (fun _ _ _ _ _ => pts_nil)
        (fun _ _ _ _ _ => pe_call GA hr (by rfl) gA FA.kp bA .nil pass0 (pa_cons (pv 0) (pa_cons (pv 1) pa_nil)))))), ?_⟩
    refine ⟨⟨_, rfl⟩, ?_⟩
    refine ⟨.ref p, rfl, .int m, rfl, _, _, rfl, rfl, p, n, _, rfl, hp, by omega, by omega, by omega, fun r H1 r0 r1 hp1 k1 => ⟨r, rfl, by omega, by omega, fun D hD => ?_⟩⟩
    obtain ⟨j, rfl⟩ := Int.eq_ofNat_of_zero_le r0
    rw [Int.toNat_natCast]
    have hj : j ≤ m := by omega
    refine lc_it (walk_range (lo := 0) (n := j)) (fun i H2 => ∃ cs : List Nat, cs.length = i ∧ (∀ c ∈ cs, c ∈ L.cps.toList) ∧ Pot H2 p (n + 1 + i) ∧ Kp p H H2 ∧ H2 D = some (.lst (cs.map fun c => V.str ⟨#[c]⟩)))
      ⟨[], rfl, (fun _ h => nomatch h), ?_, ?_, upd_same⟩ (fun _ _ _ _ => True.intro) (fun i x H2 H3 hi hP hy => ?_) (fun H2 hP => ?_)
    · exact (hp1.up hD).mono (by omega)
    · exact k1.trans (Kp.same (Same.upd hD))
    · obtain ⟨cs, hc1, hc2, hp2, k2, e2⟩ := hP
      obtain ⟨rfl, rfl⟩ := hy
      have nD : D ≠ p := hp1.ne hD
      refine ⟨rfl, .ref p, rfl, .str L, rfl, p, _, .str L, rfl, hp2, by omega, .inl ⟨L, rfl, l0, l1, fun c H5 hc hp5 k5 => ?_⟩⟩
      refine ⟨_, k5 D _ nD e2, ?_, cs ++ [c], by rw [List.length_append, hc1] <;> rfl, fun d hd => ?_, (hp5.wr nD).mono (by omega), ?_, ?_⟩
      · rw [List.length_map, hc1]
        exact Nat.lt_of_lt_of_le (show i < 200 by omega) (by decide)
      · rcases List.mem_append.mp hd with z | z
        · exact hc2 d z
        · exact List.mem_singleton.mp z ▸ hc
      · intro b o nb hb
        have nbD : b ≠ D := fun z => by
          have q1 := k1 b o nb hb
          rw [z, hD] at q1
          cases q1
        rw [upd_ne nbD]
        exact k5 b o nb (k2 b o nb hb)
      · rw [upd_same, List.map_append] <;> rfl
    · obtain ⟨cs, hc1, hc2, hp2, k2, e2⟩ := hP
      have e3 : H2 D = some (.lst ((cs.map fun c => (⟨#[c]⟩ : Str)).map V.str)) := by
        rw [e2, List.map_map] <;> rfl
      refine ⟨_, D, _, rfl, rfl, .inl (.inl (.inl e3)), ?_, ?_⟩
      · rw [sum_ones, List.length_map, str_len, em]
        show cs.length + cs.length * 0 ≤ _
        omega
      · rw [join_ones]
        exact q cs H2 (by omega) hc2 (hp2.mono (by omega)) k2
end
end Sf
namespace Sf
open PySem PySem.Spec PyProof.Rows L2
abbrev sIsText : Stmt := topS 4
abbrev sIsPair : Stmt := topS 5
abbrev sIsSet : Stmt := topS 6
abbrev sLets : Stmt := topS 11
abbrev sLIsText : Stmt := topS 14
abbrev sLIsPair : Stmt := topS 15
abbrev sLIsSet : Stmt := topS 16
theorem scIsText : FnScope ["value", "sign"] ["value"] (defScope sIsText) := ⟨rfl, rfl, rfl, by decide +kernel, rfl, by decide +kernel, by decide +kernel⟩
theorem scIsPair : FnScope ["value"] ["value"] (defScope sIsPair) := ⟨rfl, rfl, rfl, by decide +kernel, rfl, by decide +kernel, by decide +kernel⟩
theorem scIsSet : FnScope ["value", "pair"] ["value"] (defScope sIsSet) := ⟨rfl, rfl, rfl, by decide +kernel, rfl, by decide +kernel, by decide +kernel⟩
theorem scLets : FnScope [] [] (defScope sLets) := ⟨rfl, rfl, rfl, by decide +kernel, rfl, by decide +kernel, by decide +kernel⟩
theorem scLIsText : FnScope ["_law_thing_here", "_law_sign"] ["_law_thing_here"] (defScope sLIsText) := ⟨rfl, rfl, rfl, by decide +kernel, rfl, by decide +kernel, by decide +kernel⟩
theorem scLIsPair : FnScope ["_law_thing_here"] ["_law_thing_here"] (defScope sLIsPair) := ⟨rfl, rfl, rfl, by decide +kernel, rfl, by decide +kernel, by decide +kernel⟩
theorem scLIsSet : FnScope ["_law_thing_here", "_law_one", "_law_at"] ["_law_thing_here"] (defScope sLIsSet) := ⟨rfl, rfl, rfl, by decide +kernel, rfl, by decide +kernel, by decide +kernel⟩
/-! ### what is told -/
def LS : Str := Str.ofString " 0123456789_abcdefghijklmnopqrstuvwxyz"
def dTx : PyData → Bool
  | .str x => isTx x
  | _ => false
def prOk : List Nat → Bool
  | [a, b] => (decide (a = 94) || decide (a ∈ LET)) && (decide (b = 36) || decide (b ∈ LET))
  | _ => false
def dPr : PyData → Bool
  | .str x => prOk x.cps.toList
  | _ => false
section
variable {P : Program} {w : World} {K : PySem.W.Frag} {mg : Str → Option Value} {base : Heap}
def spDat (f : PyData → Bool) : Sp := fun vs H Q _ => ∃ (v : V) (g : Bool) (p : Addr) (d : PyData), vs = [v] ∧ Od g p H v d ∧ d.weight ≤ 2000 ∧ ∀ H', Same H H' → Q (.bl (f d)) H'
theorem ok_isText {f : Addr} {fd : FuncData} {k : Nat} (F : Fun K "is_text" "is_text" sIsText f fd) (mi : mg "isinstance" = none) (ms : mg "str" = none) (ma : mg "all" = none) {tk : Tok}
    (gL : mg "LETTERS" = some (.str (Str.ofString " 0123456789_abcdefghijklmnopqrstuvwxyz") tk)) : FnOk P w K mg base CX0 (k + 1) f fd ["value"] (spDat dTx) := by
  refine F.ok scIsText (fun vs H Q E h => ?_) (fun cdv A outer s H vs Q E hr h => ?_)
  · obtain ⟨v, g, p, d, rfl, _⟩ := h
    rfl
  · obtain ⟨v, g, p, d, rfl, ho, hw, q⟩ := h
    refine ⟨_, pss_one (ps_ret (pe_and (pe_callB call_isi (by rfl) mi PyProof.Rows.boot_isinstance (pa_cons (pv 0) (pa_cons (pe_bltn (by rfl) ms PySem.Pv.boot_str (v := .ty "str") rfl) pa_nil)))
      (pe_one (pe_callB (cr_all rfl) (by rfl) ma (by decide +kernel) (pa_cons (pe_lc (own := [("sign", 1)]) (g := gName 1) (tt := tYes) rfl scIsText.nd (pi_str (pv 0)) (blkOk_by (N := ["value", "sign"]) (sc := defScope sIsText) (by decide +kernel))
        (fun _ _ _ _ _ => pg_name (i := 1) scIsText.nd rfl (Or.inl rfl)) (fun _ _ _ _ _ => pts_nil) (fun _ _ _ _ _ => pe_cmpR op_in_sign (pv 1) (pe_glob (v := .str _) rfl gL ⟨_, rfl⟩) (by rfl))) pa_nil))))), ?_⟩
    refine ⟨v, rfl, v, .ty "str", _, _, isS d, rfl, .ty "str", ho.ty, kit_ty (kit_str d), isS d, rfl, ?_⟩
    cases ho with
    | str x =>
      refine iteT ?_
      have hx : x.length ≤ 2000 := hw
      refine ⟨.str x, rfl, x, rfl, fun D hD => lc_map (walk_str (z := x)) (fun i => .bl (decide ((x.cps.toList.getD i 0) ∈ LET))) (Nat.le_trans hx (by decide)) hD (fun _ _ => True.intro) (fun i y H1 H2 N hi h1 hy hN => ?_) (fun H1 h1 h2 => ?_)⟩
      · obtain ⟨rfl, c, hc, rfl⟩ := hy
        refine ⟨rfl, _, rfl, c, _, rfl, rfl, ?_⟩
        have q2 := hN H2 (Same.refl _)
        have e : x.cps.toList.getD i 0 = c := getD_at (by rw [Array.getElem?_toList]; exact hc)
        rw [e] at q2
        exact q2
      · have e := map_getD (fun c => V.bl (decide (c ∈ LET))) 0 x.cps.toList
        rw [Array.length_toList] at e
        have h3 : H1 D = some (.lst ((x.cps.toList.map fun c => decide (c ∈ LET)).map V.bl)) := by
          rw [h2, e, List.map_map] <;> rfl
        refine ⟨D, _, rfl, .inl (.inl h3), ?_⟩
        rw [List.all_map]
        exact q H1 h1
    | _ => exact iteF (q H (Same.refl H))
/-! ### the law's letters -/
def spLets : Sp := fun vs H Q _ => vs = [] ∧ Q (.str LS) H
theorem ok_lets {f : Addr} {fd : FuncData} {k : Nat} (F : Fun K "_law_all_letters" "_law_all_letters" sLets f fd) : FnOk P w K mg base CX0 (k + 1) f fd [] spLets := by
  refine F.ok scLets (fun vs H Q E h => ?_) (fun cdv A outer s H vs Q E hr h => ?_)
  · obtain ⟨rfl, _⟩ := h
    rfl
  · obtain ⟨rfl, q⟩ := h
    exact ⟨_, pss_one (ps_ret pe_str), q⟩
theorem ok_lisText {f fL : Addr} {fd fdL : FuncData} {k : Nat} (F : Fun K "_law_is_text" "_law_is_text" sLIsText f fd) (FL : Fun K "_law_all_letters" "_law_all_letters" sLets fL fdL) (bL : Binds K fdL [] []) (gL : mg "_law_all_letters" = some (.ref fL))
    (GL : FnOk P w K mg base CX0 (k + 1) fL fdL [] spLets) (mi : mg "isinstance" = none) (ms : mg "str" = none) (ma : mg "all" = none) : FnOk P w K mg base CX0 (k + 2) f fd ["_law_thing_here"] (spDat dTx) := by
  refine F.ok scLIsText (fun vs H Q E h => ?_) (fun cdv A outer s H vs Q E hr h => ?_)
  · obtain ⟨v, g, p, d, rfl, _⟩ := h
    rfl
  · obtain ⟨v, g, p, d, rfl, ho, hw, q⟩ := h
    refine ⟨_, pss_one (ps_ret (pe_and (pe_callB call_isi (by rfl) mi PyProof.Rows.boot_isinstance (pa_cons (pv 0) (pa_cons (pe_bltn (by rfl) ms PySem.Pv.boot_str (v := .ty "str") rfl) pa_nil)))
      (pe_one (pe_callB (cr_all rfl) (by rfl) ma (by decide +kernel) (pa_cons (pe_lc (own := [("_law_sign", 1)]) (g := gName 1) (tt := tYes) rfl scLIsText.nd (pi_str (pv 0)) (blkOk_by (N := ["_law_thing_here", "_law_sign"]) (sc := defScope sLIsText) (by decide +kernel))
        (fun _ _ _ _ _ => pg_name (i := 1) scLIsText.nd rfl (Or.inl rfl)) (fun _ _ _ _ _ => pts_nil) (fun _ _ _ _ _ => pe_cmpR op_in_sign (pv 1) (pe_call0 GL hr (by rfl) gL FL.kp bL .nil pass0) (by rfl))) pa_nil))))), ?_⟩
    refine ⟨v, rfl, v, .ty "str", _, _, isS d, rfl, .ty "str", ho.ty, kit_ty (kit_str d), isS d, rfl, ?_⟩
    cases ho with
    | str x =>
      refine iteT ?_
      have hx : x.length ≤ 2000 := hw
      refine ⟨.str x, rfl, x, rfl, fun D hD => lc_map (walk_str (z := x)) (fun i => .bl (decide ((x.cps.toList.getD i 0) ∈ LET))) (Nat.le_trans hx (by decide)) hD (fun _ _ => True.intro) (fun i y H1 H2 N hi h1 hy hN => ?_) (fun H1 h1 h2 => ?_)⟩
      · obtain ⟨rfl, c, hc, rfl⟩ := hy
        refine ⟨rfl, _, rfl, rfl, c, _, rfl, rfl, ?_⟩
        have q2 := hN H2 (Same.refl _)
        have e : x.cps.toList.getD i 0 = c := getD_at (by rw [Array.getElem?_toList]; exact hc)
        rw [e] at q2
        exact q2
      · have e := map_getD (fun c => V.bl (decide (c ∈ LET))) 0 x.cps.toList
        rw [Array.length_toList] at e
        have h3 : H1 D = some (.lst ((x.cps.toList.map fun c => decide (c ∈ LET)).map V.bl)) := by
          rw [h2, e, List.map_map] <;> rfl
        refine ⟨D, _, rfl, .inl (.inl h3), ?_⟩
        rw [List.all_map]
        exact q H1 h1
    | _ => exact iteF (q H (Same.refl H))
/-! ### pairs -/
theorem two_of {x : Str} (h : x.length = 2) : ∃ a b, x.cps.toList = [a, b] := by
  rw [str_len] at h
  match e : x.cps.toList, h with
  | [a, b], _ => exact ⟨a, b, rfl⟩
theorem prOk_no {x : Str} (h : x.length ≠ 2) : prOk x.cps.toList = false := by
  rw [str_len] at h
  unfold prOk
  split
  · rename_i a b e
    rw [e] at h
    exact absurd rfl h
  · rfl
theorem one_is {a b : Nat} {y : Str} (e : y.cps.toList = [b]) : decide (V.str ⟨#[a]⟩ = V.str y) = decide (a = b) := by
  have e2 : y = ⟨#[b]⟩ := Str.ext' (Array.toList_inj.mp e)
  subst e2
  by_cases h : a = b
  · subst h
    simp
  · rw [decide_eq_false h, decide_eq_false]
    intro z
    injection z with z
    injection z with z
    have z2 : [a] = [b] := congrArg Array.toList z
    exact h (List.cons.inj z2).1
theorem LSc : LS.cps.toList = LET := rfl
theorem bl1 : (Str.ofString "^").length = 1 := by decide +kernel
theorem bl2 : (Str.ofString "$").length = 1 := by decide +kernel
theorem bll : LS.length = 38 := by decide +kernel
theorem ok_isPair {f : Addr} {fd : FuncData} {k : Nat} (F : Fun K "is_pair" "is_pair" sIsPair f fd) (mi : mg "isinstance" = none) (ms : mg "str" = none) (ml : mg "len" = none) {tk t1 t2 : Tok}
    (gL : mg "LETTERS" = some (.str (Str.ofString " 0123456789_abcdefghijklmnopqrstuvwxyz") tk)) (gB : mg "BEGIN" = some (.str (Str.ofString "^") t1)) (gE : mg "END" = some (.str (Str.ofString "$") t2)) : FnOk P w K mg base CX0 (k + 1) f fd ["value"] (spDat dPr) := by
  refine F.ok scIsPair (fun vs H Q E h => ?_) (fun cdv A outer s H vs Q E hr h => ?_)
  · obtain ⟨v, g, p, d, rfl, _⟩ := h
    rfl
  · obtain ⟨v, g, p, d, rfl, ho, hw, q⟩ := h
    refine ⟨_, pss_cons (ps_if (PW.pt (pw_or (pt_not (pt_val (pe_callB call_isi (by rfl) mi PyProof.Rows.boot_isinstance (pa_cons (pv 0) (pa_cons (pe_bltn (by rfl) ms PySem.Pv.boot_str (v := .ty "str") rfl) pa_nil)))))
        (pw_or1 (pt_cmpR op_ne (pe_callB call_len_str (by rfl) ml PySem.boot_len (pa_cons (pv 0) pa_nil)) (pe_callB call_len_str (by rfl) ml PySem.boot_len (pa_cons (pe_op op_add_str (pe_glob (v := .str _) rfl gB ⟨_, rfl⟩) (pe_glob (v := .str _) rfl gE ⟨_, rfl⟩)) pa_nil)) (nomark _)))))
        (pss_one (ps_ret pe_bl)) pss_nil)
      (pss_one (ps_ret (pe_and (pe_or (pe_cmpR op_eq (pe_ix ix_str (pv 0) pe_int (fun _ _ => rfl)) (pe_glob (v := .str _) rfl gB ⟨_, rfl⟩) (by rfl)) (pe_one (pe_cmpR op_in_sign (pe_ix ix_str (pv 0) pe_int (fun _ _ => rfl)) (pe_glob (v := .str _) rfl gL ⟨_, rfl⟩) (by rfl))))
        (pe_one (pe_or (pe_cmpR op_eq (pe_ix ix_str (pv 0) pe_int (fun _ _ => rfl)) (pe_glob (v := .str _) rfl gE ⟨_, rfl⟩) (by rfl)) (pe_one (pe_cmpR op_in_sign (pe_ix ix_str (pv 0) pe_int (fun _ _ => rfl)) (pe_glob (v := .str _) rfl gL ⟨_, rfl⟩) (by rfl)))))))), ?_⟩
    refine ⟨v, rfl, v, .ty "str", _, _, isS d, rfl, .ty "str", ho.ty, kit_ty (kit_str d), isS d, rfl, ?_⟩
    cases ho with
    | str x =>
      refine iteF ?_
      have hx : x.length ≤ 2000 := hw
      have hx2 : x.length ≤ sizeLine := Nat.le_trans hx (by decide)
      refine ⟨.str x, rfl, x, rfl, hx2, _, _, rfl, rfl, by rw [bl1, bl2]; decide, _, rfl, by rw [len_ap, bl1, bl2]; decide, rfl, _, rfl, ite2 (fun h => ?_) (fun h => ?_)⟩
      · have n2 : x.length ≠ 2 := fun z => by
          rw [z, len_ap, bl1, bl2] at h
          simp at h
        have q1 := q H (Same.refl H)
        show Q (.bl false) H
        rw [← prOk_no n2]
        exact q1
      · have e2 : x.length = 2 := by
          rw [len_ap, bl1, bl2] at h
          simp at h
          omega
        obtain ⟨a, b, e⟩ := two_of e2
        have q1 : Q (.bl (prOk x.cps.toList)) H := q H (Same.refl H)
        rw [e] at q1
        have i0 : atI x.cps.toList 0 = some a := by rw [e] <;> rfl
        have i1 : atI x.cps.toList 1 = some b := by rw [e] <;> rfl
        refine ⟨.str x, rfl, x, 0, a, rfl, rfl, hx2, i0, rfl, _, rfl, ite2 (fun h => ?_) (fun h => ?_)⟩
        · rw [one_is bg] at h
          have q1 : Q (.bl ((decide (a = 94) || decide (a ∈ LET)) && (decide (b = 36) || decide (b ∈ LET)))) H := q1
          rw [h, Bool.true_or, Bool.true_and] at q1
          refine ⟨true, rfl, iteT ⟨.str x, rfl, x, 1, b, rfl, rfl, hx2, i1, rfl, _, rfl, ite2 (fun h => ?_) (fun h => ⟨.str x, rfl, x, 1, b, rfl, rfl, hx2, i1, b, _, rfl, rfl, ?_⟩)⟩⟩
          · rw [one_is en] at h
            rw [h] at q1
            exact q1
          · rw [one_is en] at h
            rw [show decide (b = 36) = false by simpa using h] at q1
            exact q1
        · rw [one_is bg] at h
          refine ⟨.str x, rfl, x, 0, a, rfl, rfl, hx2, i0, a, _, rfl, rfl, _, rfl, ite2 (fun h2 => ?_) (fun h2 => ?_)⟩
          · have q1 : Q (.bl ((decide (a = 94) || decide (a ∈ LET)) && (decide (b = 36) || decide (b ∈ LET)))) H := q1
            rw [show decide (a ∈ LET) = true from h2, Bool.or_true, Bool.true_and] at q1
            refine ⟨.str x, rfl, x, 1, b, rfl, rfl, hx2, i1, rfl, _, rfl, ite2 (fun h => ?_) (fun h => ⟨.str x, rfl, x, 1, b, rfl, rfl, hx2, i1, b, _, rfl, rfl, ?_⟩)⟩
            · rw [one_is en] at h
              rw [h] at q1
              exact q1
            · rw [one_is en] at h
              rw [show decide (b = 36) = false by simpa using h] at q1
              exact q1
          · have q1 : Q (.bl ((decide (a = 94) || decide (a ∈ LET)) && (decide (b = 36) || decide (b ∈ LET)))) H := q1
            rw [show decide (a = 94) = false by simpa using h, show decide (a ∈ LET) = false from Bool.eq_false_iff.mpr h2, Bool.or_false, Bool.false_and] at q1
            exact q1
    | _ => exact iteT (q H (Same.refl H))
end
end Sf
namespace Sf
open PySem PySem.Spec PyProof.Rows L2
/-! ### rows of texts as data -/
def okS (x : Str) : Prop := ∀ c ∈ x.cps.toList, c < 128
def dS (xs : List Str) : List PyData := xs.map PyData.str
theorem dpAll_strs {K : PySem.W.Frag} {H : Hp} : ∀ xs : List Str, DpAll K H (xs.map V.str) (dS xs)
  | [] => .nil
  | x :: r => .cons (.str x) (dpAll_strs r)
theorem eqv_strs : ∀ xs : List Str, PyData.eqvAll (dS xs) (dS xs) = true
  | [] => rfl
  | x :: r => by
    have ih := eqv_strs r
    show (PyData.eqv (.str x) (.str x) && PyData.eqvAll (dS r) (dS r)) = true
    rw [ih]
    simp [PyData.eqv]
theorem strOk_ok {x : Str} (h : okS x) : PyData.strOk x = true := by
  unfold PyData.strOk
  rw [← Array.all_toList, List.all_eq_true]
  intro c hc
  have q := h c hc
  exact decide_eq_true (by omega)
theorem lay_strs : ∀ xs : List Str, (∀ x ∈ xs, okS x) → PyData.canLayAll0 (dS xs) = true ∧ PyData.depthAll (dS xs) = 0
  | [], _ => ⟨rfl, rfl⟩
  | x :: r, h => by
    obtain ⟨h1, h2⟩ := lay_strs r fun y hy => h y (List.mem_cons_of_mem _ hy)
    refine ⟨?_, ?_⟩
    · show (PyData.canLay0 (.str x) && PyData.canLayAll0 (dS r)) = true
      rw [h1]
      simp only [PyData.canLay0, strOk_ok (h x List.mem_cons_self), Bool.and_true]
    · show max (PyData.depth (.str x)) (PyData.depthAll (dS r)) = 0
      rw [h2]
      simp [PyData.depth]
theorem shp_l {xs : List Str} (h : ∀ x ∈ xs, okS x) : SeqAt.shaped (.list (dS xs)) = true := by
  obtain ⟨h1, h2⟩ := lay_strs xs h
  unfold SeqAt.shaped
  rw [show (PyData.list (dS xs)).canLay0 = PyData.canLayAll0 (dS xs) by simp only [PyData.canLay0], h1, show (PyData.list (dS xs)).depth = PyData.depthAll (dS xs) + 1 by simp only [PyData.depth], h2] <;> rfl
theorem shp_t {xs : List Str} (h : ∀ x ∈ xs, okS x) : SeqAt.shaped (.tuple (dS xs)) = true := by
  obtain ⟨h1, h2⟩ := lay_strs xs h
  unfold SeqAt.shaped
  rw [show (PyData.tuple (dS xs)).canLay0 = PyData.canLayAll0 (dS xs) by simp only [PyData.canLay0], h1, show (PyData.tuple (dS xs)).depth = PyData.depthAll (dS xs) + 1 by simp only [PyData.depth], h2] <;> rfl

theorem eqv_dec : ∀ xs ys : List Str, PyData.eqvAll (dS xs) (dS ys) = decide (xs = ys)
  | [], [] => rfl
  | [], y :: r => by simp [dS, PyData.eqvAll]
  | x :: r, [] => by simp [dS, PyData.eqvAll]
  | x :: r, y :: t => by
    have ih := eqv_dec r t
    show (PyData.eqv (.str x) (.str y) && PyData.eqvAll (dS r) (dS t)) = _
    rw [ih, Bool.eq_iff_iff]
    simp [PyData.eqv, List.cons.injEq]
/-! ### strictly ascending -/
def asc (ts : List Str) : Bool := (List.range (ts.length - 1)).all fun i => decide ((ts.getD i Str.empty).cps.toList < (ts.getD (i + 1) Str.empty).cps.toList)
theorem ltC : ∀ a b : List Nat, ltCps a b = decide (a < b)
  | [], [] => by simp [ltCps]
  | [], _ :: _ => by simp [ltCps]
  | _ :: _, [] => by simp [ltCps]
  | x :: a, y :: b => by
    have ih := ltC a b
    simp only [ltCps, ih]
    rw [Bool.eq_iff_iff]
    simp [List.cons_lt_cons_iff]
theorem asc_cons (x y : Str) (r : List Str) : asc (x :: y :: r) = (ltCps x.cps.toList y.cps.toList && asc (y :: r)) := by
  unfold asc
  rw [show (x :: y :: r).length - 1 = ((y :: r).length - 1) + 1 by simp, List.range_succ_eq_map, List.all_cons, List.all_map, ltC] <;> rfl
theorem asc_pw : ∀ {ts : List Str}, asc ts = true → ts.Pairwise leS ∧ ts.Nodup
  | [], _ => ⟨.nil, .nil⟩
  | [x], _ => ⟨by simp, by simp⟩
  | x :: y :: r, h => by
    rw [asc_cons, Bool.and_eq_true] at h
    obtain ⟨h1, h2⟩ := asc_pw h.2
    have hxy : x.cps.toList < y.cps.toList := by
      have q := h.1
      rw [ltC] at q
      exact of_decide_eq_true q
    have all : ∀ z ∈ y :: r, x.cps.toList < z.cps.toList := fun z hz => by
      rcases List.mem_cons.mp hz with rfl | hz
      · exact hxy
      · have q := (List.pairwise_cons.mp h1).1 z hz
        unfold leS at q
        cases e : ltCps y.cps.toList z.cps.toList with
        | true =>
          rw [ltC] at e
          exact List.lt_trans hxy (of_decide_eq_true e)
        | false =>
          rw [← ltc_tot _ _ e q]
          exact hxy
    refine ⟨.cons (fun z hz => ?_) h1, List.nodup_cons.mpr ⟨fun hz => ?_, h2⟩⟩
    · unfold leS
      rw [ltC]
      exact decide_eq_false (List.lt_asymm (all z hz))
    · exact List.lt_irrefl _ (all x hz)
theorem pw_asc : ∀ {ts : List Str}, ts.Pairwise leS → ts.Nodup → asc ts = true
  | [], _, _ => rfl
  | [x], _, _ => rfl
  | x :: y :: r, h1, h2 => by
    rw [asc_cons, Bool.and_eq_true]
    refine ⟨?_, pw_asc (List.pairwise_cons.mp h1).2 (List.nodup_cons.mp h2).2⟩
    cases e : ltCps x.cps.toList y.cps.toList with
    | true => rfl
    | false =>
      have q := (List.pairwise_cons.mp h1).1 y List.mem_cons_self
      have e2 : x = y := leS_anti q e
      exact absurd (e2 ▸ List.mem_cons_self) (List.nodup_cons.mp h2).1
theorem asc_iff {ts ys : List Str} (h : SrtOf ts ys) : decide (ts = ys) = asc ts := by
  cases e : asc ts with
  | true =>
    obtain ⟨h1, h2⟩ := asc_pw e
    refine decide_eq_true (pw_uniq h1 (sortedS_pw h.1) ?_)
    refine List.Perm.trans ?_ h.2.symm
    exact (List.perm_ext_iff_of_nodup h2 (toSet_nodup ts)).mpr fun k => toSet_mem.symm
  | false =>
    refine decide_eq_false fun z => ?_
    have h1 := sortedS_pw h.1
    have h2 : ys.Nodup := (h.2.nodup_iff).mpr (toSet_nodup ts)
    rw [← z] at h1 h2
    rw [pw_asc h1 h2] at e
    cases e
/-! ### pair sets -/
def txs : List PyData → List Str
  | .str x :: r => x :: txs r
  | _ :: r => txs r
  | [] => []
theorem txs_strs : ∀ ts : List Str, txs (ts.map PyData.str) = ts
  | [] => rfl
  | x :: r => by
    show x :: txs (r.map PyData.str) = _
    rw [txs_strs r]
def dSet : PyData → Bool
  | .tuple ds => ds.all dPr && asc (txs ds)
  | _ => false
theorem dPr_str {d : PyData} (h : dPr d = true) : ∃ x, d = .str x := by
  cases d with
  | str x => exact ⟨x, rfl⟩
  | _ => cases h
theorem prOk_ok {x : Str} (h : prOk x.cps.toList = true) : okS x := by
  intro c hc
  have lt : ∀ z ∈ LET, z < 128 := by decide +kernel
  match e : x.cps.toList, h with
  | [a, b], h =>
    rw [e] at hc
    simp only [prOk, Bool.and_eq_true, Bool.or_eq_true, decide_eq_true_eq] at h
    rcases List.mem_cons.mp hc with rfl | hc
    · rcases h.1 with z | z
      · omega
      · exact lt _ z
    · obtain rfl := List.mem_singleton.mp hc
      rcases h.2 with z | z
      · omega
      · exact lt _ z
theorem wt_mem : ∀ {ds : List PyData} {d : PyData}, d ∈ ds → d.weight + 1 ≤ PyData.weightAll ds
  | e :: r, d, h => by
    simp only [PyData.weightAll]
    rcases List.mem_cons.mp h with rfl | h
    · omega
    · have := wt_mem h
      omega
theorem wt_len : ∀ ds : List PyData, ds.length ≤ PyData.weightAll ds
  | [] => Nat.zero_le _
  | e :: r => by
    have := wt_len r
    simp only [PyData.weightAll, List.length_cons]
    omega
section
variable {P : Program} {w : World} {K : PySem.W.Frag} {mg : Str → Option Value} {base : Heap}
theorem in_one {a b : Nat} {y : Str} (e : y.cps.toList = [b]) : decide (a ∈ (y ++ LS).cps.toList) = (decide (a = b) || decide (a ∈ LET)) := by
  rw [tl_ap, e, LSc, Bool.eq_iff_iff]
  simp
theorem ok_lisPair {f fL : Addr} {fd fdL : FuncData} {k : Nat} (F : Fun K "_law_is_pair" "_law_is_pair" sLIsPair f fd) (FL : Fun K "_law_all_letters" "_law_all_letters" sLets fL fdL) (bL : Binds K fdL [] []) (gL : mg "_law_all_letters" = some (.ref fL))
    (GL : FnOk P w K mg base CX0 (k + 1) fL fdL [] spLets) (mi : mg "isinstance" = none) (ms : mg "str" = none) (ml : mg "len" = none) : FnOk P w K mg base CX0 (k + 2) f fd ["_law_thing_here"] (spDat dPr) := by
  refine F.ok scLIsPair (fun vs H Q E h => ?_) (fun cdv A outer s H vs Q E hr h => ?_)
  · obtain ⟨v, g, p, d, rfl, _⟩ := h
    rfl
  · obtain ⟨v, g, p, d, rfl, ho, hw, q⟩ := h
    refine ⟨_, pss_cons (ps_if (PW.pt (pw_or (pt_not (pt_val (pe_callB call_isi (by rfl) mi PyProof.Rows.boot_isinstance (pa_cons (pv 0) (pa_cons (pe_bltn (by rfl) ms PySem.Pv.boot_str (v := .ty "str") rfl) pa_nil)))))
        (pw_or1 (pt_cmpR op_ne (pe_callB call_len_str (by rfl) ml PySem.boot_len (pa_cons (pv 0) pa_nil)) pe_int (nomark _)))))
        (pss_one (ps_ret pe_bl)) pss_nil)
      (pss_one (ps_ret (pe_and (pe_cmpR op_in_sign (pe_ix ix_str (pv 0) pe_int (fun _ _ => rfl)) (pe_op op_add_str pe_str (pe_call0 GL hr (by rfl) gL FL.kp bL .nil pass0)) (by rfl))
        (pe_one (pe_cmpR op_in_sign (pe_ix ix_str (pv 0) pe_int (fun _ _ => rfl)) (pe_op op_add_str pe_str (pe_call0 GL hr (by rfl) gL FL.kp bL .nil pass0)) (by rfl)))))), ?_⟩
    refine ⟨v, rfl, v, .ty "str", _, _, isS d, rfl, .ty "str", ho.ty, kit_ty (kit_str d), isS d, rfl, ?_⟩
    cases ho with
    | str x =>
      refine iteF ?_
      have hx : x.length ≤ 2000 := hw
      have hx2 : x.length ≤ sizeLine := Nat.le_trans hx (by decide)
      refine ⟨.str x, rfl, x, rfl, hx2, rfl, _, rfl, ite2 (fun h => ?_) (fun h => ?_)⟩
      · have n2 : x.length ≠ 2 := fun z => by
          rw [z] at h
          simp at h
        have q1 := q H (Same.refl H)
        show Q (.bl false) H
        rw [← prOk_no n2]
        exact q1
      · have e2 : x.length = 2 := by
          simp at h
          omega
        obtain ⟨a, b, e⟩ := two_of e2
        have q1 : Q (.bl (prOk x.cps.toList)) H := q H (Same.refl H)
        rw [e] at q1
        have q1 : Q (.bl ((decide (a = 94) || decide (a ∈ LET)) && (decide (b = 36) || decide (b ∈ LET)))) H := q1
        have i0 : atI x.cps.toList 0 = some a := by rw [e] <;> rfl
        have i1 : atI x.cps.toList 1 = some b := by rw [e] <;> rfl
        refine ⟨.str x, rfl, x, 0, a, rfl, rfl, hx2, i0, rfl, _, _, rfl, rfl, by rw [bl1, bll]; decide, a, _, rfl, rfl, _, rfl, ite2 (fun h1 => ?_) (fun h1 => ?_)⟩
        · rw [in_one bg] at h1
          rw [h1, Bool.true_and] at q1
          refine ⟨.str x, rfl, x, 1, b, rfl, rfl, hx2, i1, rfl, _, _, rfl, rfl, by rw [bl2, bll]; decide, b, _, rfl, rfl, ?_⟩
          show Q (.bl (decide (b ∈ (Str.ofString "$" ++ LS).cps.toList))) H
          rw [in_one en]
          exact q1
        · rw [in_one bg] at h1
          rw [Bool.eq_false_iff.mpr h1, Bool.false_and] at q1
          exact q1
    | _ => exact iteT (q H (Same.refl H))
theorem ok_isSet {f fP : Addr} {fd fdP : FuncData} {k : Nat} (F : Fun K "is_pair_set" "is_pair_set" sIsSet f fd) (FP : Fun K "is_pair" "is_pair" sIsPair fP fdP) (bP : Binds K fdP ["value"] []) (gP : mg "is_pair" = some (.ref fP))
    (GP : FnOk P w K mg base CX0 (k + 1) fP fdP ["value"] (spDat dPr)) (mi : mg "isinstance" = none) (mt : mg "tuple" = none) (ma : mg "all" = none) (ms : mg "sorted" = none) (mS : mg "set" = none) : FnOk P w K mg base CX0 (k + 2) f fd ["value"] (spDat dSet) := by
  refine F.ok scIsSet (fun vs H Q E h => ?_) (fun cdv A outer s H vs Q E hr h => ?_)
  · obtain ⟨v, g, p, d, rfl, _⟩ := h
    rfl
  · obtain ⟨v, g, p, d, rfl, ho, hw, q⟩ := h
    have hu := hr.units
    refine ⟨_, pss_cons (ps_if (PW.pt (pw_or (pt_not (pt_val (pe_callB call_isi (by rfl) mi PyProof.Rows.boot_isinstance (pa_cons (pv 0) (pa_cons (pe_bltn (by rfl) mt PySem.Pv.boot_tuple (v := .ty "tuple") rfl) pa_nil)))))
        (pw_or1 (pt_not (pt_val (pe_callB (cr_all rfl) (by rfl) ma (by decide +kernel) (pa_cons (pe_lc (own := [("pair", 1)]) (g := gName 1) (tt := tYes) rfl scIsSet.nd (pi_tup (pv 0))
          (blkOk_by (N := ["value", "pair"]) (sc := defScope sIsSet) (by decide +kernel)) (fun _ _ _ _ _ => pg_name (i := 1) scIsSet.nd rfl (Or.inl rfl)) (fun _ _ _ _ _ => pts_nil)
          (fun _ _ _ _ _ => pe_call GP hr (by rfl) gP FP.kp bP .nil pass0 (pa_cons (pv 1) pa_nil))) pa_nil)))))))
        (pss_one (ps_ret pe_bl)) pss_nil)
      (pss_one (ps_ret (pe_cmpR (op_eqD hu) (pv 0) (pe_tupleOf (by rfl) mt (pe_callB (cr_sortedTx rfl) (by rfl) ms (by decide +kernel) (pa_cons (pe_callTy (cr_setTx rfl) (by rfl) mS PySem.Pv.boot_set (pa_cons (pv 0) pa_nil)) pa_nil))) (by rfl)))), ?_⟩
    refine ⟨v, rfl, v, .ty "tuple", _, _, isT d, rfl, .ty "tuple", ho.ty, kit_ty (kit_tup d), isT d, rfl, ?_⟩
    cases ho with
    | @tup a xs ds na ea oa =>
      refine iteF ?_
      have hwa : PyData.weightAll ds ≤ 2000 := hw
      have lds := wt_len ds
      have lxs : xs.length = ds.length := oa.len
      refine ⟨.ref a, rfl, a, rfl, ⟨_, .inl (.inl ea)⟩, fun D hD => ?_⟩
      refine lc_map (walk_tup (K := K) (a := a) (xs := xs)) (fun i => .bl (dPr (ds.getD i .none))) (by omega) hD (fun H1 s1 => .inl (.inl (s1 _ _ ea))) (fun i y H1 H1' N hi s1 hy hN => ?_) (fun H1 s1 e1 => ?_)
      · obtain ⟨rfl, hv⟩ := hy
        obtain ⟨d, hd, od⟩ := oa.get hv
        have wd := wt_mem (List.mem_of_getElem? hd)
        refine ⟨rfl, y, rfl, y, g, p, d, rfl, od.mono fun b o _ z => s1 b o z, by omega, fun H4 s4 => ?_⟩
        have q2 := hN H4 s4
        rw [getD_at hd] at q2
        exact q2
      · have e1' : H1 D = some (.lst ((ds.map dPr).map V.bl)) := by
          rw [e1, lxs, map_getD (fun d => V.bl (dPr d)) .none, List.map_map] <;> rfl
        refine ⟨D, _, rfl, .inl (.inl e1'), _, rfl, ?_⟩
        rw [List.all_map, show ds.all (id ∘ dPr) = ds.all dPr from rfl]
        have q1 : Q (.bl (ds.all dPr && asc (txs ds))) H1 := q H1 s1
        cases hp : ds.all dPr with
        | false =>
          rw [hp, Bool.false_and] at q1
          exact iteT q1
        | true =>
          have hpa : ∀ d ∈ ds, dPr d = true := List.all_eq_true.mp hp
          obtain ⟨ts, rfl, rfl⟩ := oa.isStrs fun d hd => dPr_str (hpa d hd)
          have tok : ∀ x ∈ ts, okS x := fun x hx => prOk_ok (hpa (.str x) (List.mem_map.mpr ⟨x, hx, rfl⟩))
          rw [List.length_map] at lds
          refine iteF ?_
          have ea1 := s1 _ _ ea
          have slen : (toSet ts).length < scanBound := Nat.lt_of_le_of_lt (Nat.le_trans (toSet_len ts) (Nat.le_trans lds hwa)) (by decide)
          refine ⟨.ref a, rfl, .ref a, rfl, a, ts, rfl, .inr (.inl (.inl ea1)), Nat.lt_of_le_of_lt (Nat.succ_le_succ (Nat.le_trans lds hwa)) (by decide), fun S nS => ?_⟩
          refine ⟨S, _, rfl, upd_same, slen, fun ys p2 h1 h2 np => .inl ⟨p2, _, rfl, .inl (.inl upd_same), fun r nr => ?_⟩⟩
          have sE := (Same.upd (o := SetTx P w S (toSet ts)) nS).trans ((Same.upd (o := HO.lst (ys.map V.str)) np).trans (Same.upd (o := HO.tup (ys.map V.str)) nr))
          have yok : ∀ x ∈ ys, okS x := fun x hx => tok x (toSet_mem.mp (h2.mem_iff.mp hx))
          refine ⟨.tuple (dS ts), .tuple (dS ys), .tup (.inl (.inl (sE _ _ ea1))) (dpAll_strs ts), .tup (.inl (.inl upd_same)) (dpAll_strs ys), shp_t tok, shp_t yok, ?_⟩
          rw [show PyData.eqv (.tuple (dS ts)) (.tuple (dS ys)) = decide (ts = ys) by simp only [PyData.eqv, eqv_dec], asc_iff ⟨h1, h2⟩]
          have q2 := q _ (s1.trans sE)
          have q3 : Q (.bl ((ts.map PyData.str).all dPr && asc (txs (ts.map PyData.str)))) _ := q2
          rw [hp, Bool.true_and, txs_strs] at q3
          exact q3
    | _ => exact iteT (q H (Same.refl H))
end
end Sf
namespace Sf
open PySem PySem.Spec PyProof.Rows L2
section
variable {P : Program} {w : World} {K : PySem.W.Frag} {mg : Str → Option Value} {base : Heap}
theorem ok_lisSet {f fP : Addr} {fd fdP : FuncData} {k : Nat} (F : Fun K "_law_is_set" "_law_is_set" sLIsSet f fd) (FP : Fun K "_law_is_pair" "_law_is_pair" sLIsPair fP fdP) (bP : Binds K fdP ["_law_thing_here"] []) (gP : mg "_law_is_pair" = some (.ref fP))
    (GP : FnOk P w K mg base CX0 (k + 2) fP fdP ["_law_thing_here"] (spDat dPr)) (mi : mg "isinstance" = none) (mt : mg "tuple" = none) (ma : mg "all" = none) (mr : mg "range" = none) (ml : mg "len" = none) : FnOk P w K mg base CX0 (k + 3) f fd ["_law_thing_here"] (spDat dSet) := by
  refine F.ok scLIsSet (fun vs H Q E h => ?_) (fun cdv A outer s H vs Q E hr h => ?_)
  · obtain ⟨v, g, p, d, rfl, _⟩ := h
    rfl
  · obtain ⟨v, g, p, d, rfl, ho, hw, q⟩ := h
    refine ⟨_, pss_cons (ps_if (PW.pt (pw_or (pt_not (pt_val (pe_callB call_isi (by rfl) mi PyProof.Rows.boot_isinstance (pa_cons (pv 0) (pa_cons (pe_bltn (by rfl) mt PySem.Pv.boot_tuple (v := .ty "tuple") rfl) pa_nil)))))
        (pw_or1 (pt_not (pt_val (pe_callB (cr_all rfl) (by rfl) ma (by decide +kernel) (pa_cons (pe_lc (own := [("_law_one", 1)]) (g := gName 1) (tt := tYes) rfl scLIsSet.nd (pi_tup (pv 0))
          (blkOk_by (N := ["_law_thing_here", "_law_one", "_law_at"]) (sc := defScope sLIsSet) (by decide +kernel)) (fun _ _ _ _ _ => pg_name (i := 1) scLIsSet.nd rfl (Or.inl rfl)) (fun _ _ _ _ _ => pts_nil)
          (fun _ _ _ _ _ => pe_call GP hr (by rfl) gP FP.kp bP .nil pass0 (pa_cons (pv 1) pa_nil))) pa_nil)))))))
        (pss_one (ps_ret pe_bl)) pss_nil)
      (pss_one (ps_ret (pe_callB (cr_all rfl) (by rfl) ma (by decide +kernel) (pa_cons (pe_lc (own := [("_law_at", 2)]) (g := gName 2) (tt := tYes)
          (te := tOp (fun x y H Q => ∃ i j, x = .str i ∧ y = .str j ∧ Q (.bl (decide (i.cps.toList < j.cps.toList))) H) (tOp (rIxT K) (tVar 0) (tVar 2)) (tOp (rIxT K) (tVar 0) (tOp (rI0 fun i j => .int (i + j)) (tVar 2) (tC (.int 1))))) rfl scLIsSet.nd
          (pi_range1 rfl mr (pa_cons (pe_op op_sub (pe_callB call_len_seq (by rfl) ml PySem.boot_len (pa_cons (pv 0) pa_nil)) pe_int) pa_nil))
          (blkOk_by (N := ["_law_thing_here", "_law_one", "_law_at"]) (sc := defScope sLIsSet) (by decide +kernel)) (fun _ _ _ _ _ => pg_name (i := 2) scLIsSet.nd rfl (Or.inl rfl)) (fun _ _ _ _ _ => pts_nil)
          (fun _ _ _ _ _ => pe_cmpR op_lt_str (pe_ix ix_tup (pv 0) (pv 2) (fun _ _ => rfl)) (pe_ix ix_tup (pv 0) (pe_op op_add (pv 2) pe_int) (fun _ _ => rfl)) (by rfl))) pa_nil)))), ?_⟩
    refine ⟨v, rfl, v, .ty "tuple", _, _, isT d, rfl, .ty "tuple", ho.ty, kit_ty (kit_tup d), isT d, rfl, ?_⟩
    cases ho with
    | @tup a xs ds na ea oa =>
      refine iteF ?_
      have hwa : PyData.weightAll ds ≤ 2000 := hw
      have lds := wt_len ds
      have lxs : xs.length = ds.length := oa.len
      refine ⟨.ref a, rfl, a, rfl, ⟨_, .inl (.inl ea)⟩, fun D hD => ?_⟩
      refine lc_map (walk_tup (K := K) (a := a) (xs := xs)) (fun i => .bl (dPr (ds.getD i .none))) (by omega) hD (fun H1 s1 => .inl (.inl (s1 _ _ ea))) (fun i y H1 H1' N hi s1 hy hN => ?_) (fun H1 s1 e1 => ?_)
      · obtain ⟨rfl, hv⟩ := hy
        obtain ⟨d, hd, od⟩ := oa.get hv
        have wd := wt_mem (List.mem_of_getElem? hd)
        refine ⟨rfl, y, rfl, y, g, p, d, rfl, od.mono fun b o _ z => s1 b o z, by omega, fun H4 s4 => ?_⟩
        have q2 := hN H4 s4
        rw [getD_at hd] at q2
        exact q2
      · have e1' : H1 D = some (.lst ((ds.map dPr).map V.bl)) := by
          rw [e1, lxs, map_getD (fun d => V.bl (dPr d)) .none, List.map_map] <;> rfl
        refine ⟨D, _, rfl, .inl (.inl e1'), _, rfl, ?_⟩
        rw [List.all_map, show ds.all (id ∘ dPr) = ds.all dPr from rfl]
        have q1 : Q (.bl (ds.all dPr && asc (txs ds))) H1 := q H1 s1
        cases hp : ds.all dPr with
        | false =>
          rw [hp, Bool.false_and] at q1
          exact iteT q1
        | true =>
          have hpa : ∀ d ∈ ds, dPr d = true := List.all_eq_true.mp hp
          obtain ⟨ts, rfl, rfl⟩ := oa.isStrs fun d hd => dPr_str (hpa d hd)
          rw [List.length_map] at lds
          refine iteF ?_
          have ea1 := s1 _ _ ea
          refine ⟨.ref a, rfl, a, _, rfl, .inr (.inl (.inl ea1)), _, _, rfl, rfl, _, rfl, by rw [List.length_map]; omega, by rw [List.length_map]; omega, fun D2 hD2 => ?_⟩
          have er : (((ts.map V.str).length : Int) - 1).toNat = ts.length - 1 := by
            rw [List.length_map]
            omega
          show ∃ W : Nat → Nat → Hp → Prop, _
          rw [er]
          refine lc_map (walk_range (lo := 0) (n := ts.length - 1)) (fun i => .bl (decide ((ts.getD i Str.empty).cps.toList < (ts.getD (i + 1) Str.empty).cps.toList))) (by omega) hD2 (fun _ _ => True.intro) (fun i y H2 H2' N hi s2 hy hN => ?_) (fun H2 s2 e2 => ?_)
          · obtain ⟨rfl, rfl⟩ := hy
            have h0 : i < ts.length := by omega
            have h1 : i + 1 < ts.length := by omega
            have ea2 := s2 _ _ ea1
            have g0 : (ts.map V.str)[i]? = some (.str ts[i]) := by
              rw [List.getElem?_map, List.getElem?_eq_getElem h0] <;> rfl
            have g1 : (ts.map V.str)[i + 1]? = some (.str ts[i + 1]) := by
              rw [List.getElem?_map, List.getElem?_eq_getElem h1] <;> rfl
            refine ⟨rfl, .ref a, rfl, .int ((0 : Int) + (i : Nat)), rfl, a, _, _, _, rfl, rfl, .inl (.inl ea2), atI_nat (j := i) (by rw [g0]) |> (by rw [Int.zero_add]; exact ·), .ref a, rfl, .int ((0 : Int) + (i : Nat)), rfl, _, _, rfl, rfl, a, _, _, _, rfl, rfl, .inl (.inl ea2), (by
              rw [Int.zero_add]
              exact atI_nat (j := i + 1) g1), _, _, rfl, rfl, ?_⟩
            have q2 := hN _ (Same.refl _)
            rw [getD_at (List.getElem?_eq_getElem h0), getD_at (List.getElem?_eq_getElem h1)] at q2
            exact q2
          · have e2' : H2 D2 = some (.lst (((List.range (ts.length - 1)).map fun i => decide ((ts.getD i Str.empty).cps.toList < (ts.getD (i + 1) Str.empty).cps.toList)).map V.bl)) := by
              rw [e2, List.map_map] <;> rfl
            refine ⟨D2, _, rfl, .inl (.inl e2'), ?_⟩
            rw [List.all_map]
            have q2 := q _ (s1.trans s2)
            have q3 : Q (.bl ((ts.map PyData.str).all dPr && asc (txs (ts.map PyData.str)))) _ := q2
            rw [hp, Bool.true_and, txs_strs] at q3
            exact q3
    | _ => exact iteT (q H (Same.refl H))
end
end Sf
namespace Sf
open PySem PySem.Spec PyProof.Rows L2
abbrev sOdd : Stmt := topS 13
theorem scOdd : FnScope ["_law_pot_here", "_law_some", "_law_found", "_law_turn"] ["_law_pot_here"] (defScope sOdd) := ⟨rfl, rfl, rfl, by decide +kernel, rfl, by decide +kernel, by decide +kernel⟩
def smB (d : PyData) : Bool := d.showable && d.leavesShort 40 && decide (d.weight ≤ 105) && decide (d.depth ≤ 3)
theorem sm_of {d : PyData} (h : smB d = true) : Sm 105 3 d := by
  simp only [smB, Bool.and_eq_true, decide_eq_true_eq] at h
  exact ⟨h.1.1.1, h.1.1.2, h.1.2, h.2⟩
theorem allc {P : V → Prop} {x : V} {l : List V} (h : P x) (t : ∀ v ∈ l, P v) : ∀ v ∈ x :: l, P v := fun v hv => by
  rcases List.mem_cons.mp hv with rfl | hv
  · exact h
  · exact t v hv
theorem alln {P : V → Prop} : ∀ v ∈ ([] : List V), P v := fun _ h => nomatch h
/-- one more coat around a value -/
theorem Sm.tup1 {n m : Nat} {d : PyData} (h : Sm n m d) : Sm (n + 3) (m + 1) (.tuple [d]) := by
  obtain ⟨h1, h2, h3, h4⟩ := h
  refine ⟨by simp [PyData.showable, PyData.showableAll, h1], by simp [PyData.leavesShort, PyData.leavesShortAll, h2], ?_, ?_⟩
  · simp only [PyData.weight, PyData.weightAll]
    omega
  · simp only [PyData.depth, PyData.depthAll]
    omega
theorem Sm.lst1 {n m : Nat} {d : PyData} (h : Sm n m d) : Sm (n + 3) (m + 1) (.list [d]) := by
  obtain ⟨h1, h2, h3, h4⟩ := h
  refine ⟨by simp [PyData.showable, PyData.showableAll, h1], by simp [PyData.leavesShort, PyData.leavesShortAll, h2], ?_, ?_⟩
  · simp only [PyData.weight, PyData.weightAll]
    omega
  · simp only [PyData.depth, PyData.depthAll]
    omega
theorem sm_a : (PyData.str (Str.ofString "a")).leavesShort 40 = true := by decide +kernel
theorem Sm.dic {n m : Nat} {d : PyData} (h : Sm n m d) : Sm (n + 3) (m + 1) (.dict [(.str (Str.ofString "a"), d)]) := by
  obtain ⟨h1, h2, h3, h4⟩ := h
  refine ⟨by simp [PyData.showable, PyData.showableKv, h1], by rw [PyData.leavesShort, PyData.leavesShortKv, sm_a, h2] <;> rfl, ?_, ?_⟩
  · simp only [PyData.weight, PyData.weightKv]
    show (Str.ofString "a").cps.size + d.weight + 2 + 0 ≤ n + 3
    rw [show (Str.ofString "a").cps.size = 1 by decide +kernel]
    omega
  · simp only [PyData.depth, PyData.depthKv]
    omega
theorem sm_1 : (PyData.int 1).leavesShort 40 = true := by decide +kernel
theorem sm_1s : (PyData.int 1).showable = true := by decide +kernel
theorem sm_1w : (PyData.int 1).weight = 1 := by decide +kernel
theorem Sm.two1 {n m : Nat} {d : PyData} (h : Sm n m d) : Sm (n + 3) (m + 1) (.tuple [d, .int 1]) := by
  obtain ⟨h1, h2, h3, h4⟩ := h
  refine ⟨by rw [PyData.showable, PyData.showableAll, PyData.showableAll, sm_1s, h1] <;> rfl, by rw [PyData.leavesShort, PyData.leavesShortAll, PyData.leavesShortAll, sm_1, h2] <;> rfl, ?_, ?_⟩
  · show d.weight + 1 + ((PyData.int 1).weight + 1 + 0) ≤ n + 3
    rw [sm_1w]
    omega
  · simp only [PyData.depth, PyData.depthAll]
    omega
theorem Sm.two2 {n m : Nat} {d : PyData} (h : Sm n m d) : Sm (n + 3) (m + 1) (.tuple [.int 1, d]) := by
  obtain ⟨h1, h2, h3, h4⟩ := h
  refine ⟨by rw [PyData.showable, PyData.showableAll, PyData.showableAll, sm_1s, h1] <;> rfl, by rw [PyData.leavesShort, PyData.leavesShortAll, PyData.leavesShortAll, sm_1, h2] <;> rfl, ?_, ?_⟩
  · show (PyData.int 1).weight + 1 + (d.weight + 1 + 0) ≤ n + 3
    rw [sm_1w]
    omega
  · simp only [PyData.depth, PyData.depthAll]
    omega
theorem Sm.mono {n m n' m' : Nat} {d : PyData} (h : Sm n m d) (a : n ≤ n') (b : m ≤ m') : Sm n' m' d := ⟨h.sh, h.lv, Nat.le_trans h.wt a, Nat.le_trans h.dp b⟩
theorem sPotS {Ha Hb : Hp} {p : Addr} {n : Int} (s : Same Ha Hb) (h : Pot Ha p n) : Pot Hb p n := by
  obtain ⟨a, b, c, e, h⟩ := h
  exact ⟨a, b, c, s _ _ e, h⟩
/-- the twenty-nine values -/
theorem all29 {p : Addr} {Hf : Hp} {T0 L0 D0 T1 L1 T2 T3 T4 T5 T6 T7 D1 : Addr} (nt0 : T0 ≠ p) (nl0 : L0 ≠ p) (m0 : L0 ≠ sysModules) (nd0 : D0 ≠ p) (nt1 : T1 ≠ p) (nl1 : L1 ≠ p) (m1 : L1 ≠ sysModules) (nt2 : T2 ≠ p) (nt3 : T3 ≠ p) (nt4 : T4 ≠ p) (nt5 : T5 ≠ p) (nt6 : T6 ≠ p) (nt7 : T7 ≠ p) (nd1 : D1 ≠ p)
    (e1 : Hf T0 = some (.tup [])) (e2 : Hf L0 = some (.lst [])) (e3 : Hf D0 = some (.dK [])) (e4 : Hf T1 = some (.tup [.str (Str.ofString "ab")])) (e5 : Hf L1 = some (.lst [.str (Str.ofString "ab")])) (e6 : Hf T2 = some (.tup [.int 0])) (e7 : Hf T3 = some (.tup [.str (Str.ofString "^$")])) (e8 : Hf T4 = some (.tup [.str (Str.ofString "$^")]))
    (e9 : Hf T5 = some (.tup [.str (Str.ofString "ab"), .str (Str.ofString "ab")])) (e10 : Hf T6 = some (.tup [.str (Str.ofString "b "), .str (Str.ofString "ab")])) (e11 : Hf T7 = some (.tup [.str (Str.ofString "^"), .str (Str.ofString "$")])) (e12 : Hf D1 = some (.dK [(.inr (Str.ofString "ab"), .int 1)])) :
    ∀ v ∈ ([.non, .bl true, .bl false, .int 0, .int 1, .int (-1), .int (10 ^ Int.toNat 30), .str (Str.ofString ""), .str (Str.ofString "a"), .str (Str.ofString "^a"), .str (Str.ofString "a$"), .str (Str.ofString "^$"), .str (Str.ofString "$a"), .str (Str.ofString "a^"), .str (Str.ofString "ab"), .str (Str.ofString "A"), .str (Str.ofString "a\n"), .ref T0, .ref L0, .ref D0] ++ [.ref T1, .ref L1, .ref T2, .ref T3, .ref T4, .ref T5, .ref T6, .ref T7, .ref D1] : List V),
      ∃ d, Od true p Hf v d ∧ Sm 105 3 d :=
  allc (P := fun v => ∃ d, Od true p Hf v d ∧ Sm 105 3 d) ⟨_, .non, sm_of (by decide +kernel)⟩ (allc (P := fun v => ∃ d, Od true p Hf v d ∧ Sm 105 3 d) ⟨_, .bl true, sm_of (by decide +kernel)⟩ (allc (P := fun v => ∃ d, Od true p Hf v d ∧ Sm 105 3 d) ⟨_, .bl false, sm_of (by decide +kernel)⟩ (allc (P := fun v => ∃ d, Od true p Hf v d ∧ Sm 105 3 d) ⟨_, .int 0, sm_of (by decide +kernel)⟩ (allc (P := fun v => ∃ d, Od true p Hf v d ∧ Sm 105 3 d) ⟨_, .int 1, sm_of (by decide +kernel)⟩ (allc (P := fun v => ∃ d, Od true p Hf v d ∧ Sm 105 3 d) ⟨_, .int _, sm_of (by decide +kernel)⟩ (allc (P := fun v => ∃ d, Od true p Hf v d ∧ Sm 105 3 d) ⟨_, .int _, sm_of (by decide +kernel)⟩ (allc (P := fun v => ∃ d, Od true p Hf v d ∧ Sm 105 3 d) ⟨_, .str _, sm_of (by decide +kernel)⟩ (allc (P := fun v => ∃ d, Od true p Hf v d ∧ Sm 105 3 d) ⟨_, .str _, sm_of (by decide +kernel)⟩ (allc (P := fun v => ∃ d, Od true p Hf v d ∧ Sm 105 3 d) ⟨_, .str _, sm_of (by decide +kernel)⟩ (allc (P := fun v => ∃ d, Od true p Hf v d ∧ Sm 105 3 d) ⟨_, .str _, sm_of (by decide +kernel)⟩ (allc (P := fun v => ∃ d, Od true p Hf v d ∧ Sm 105 3 d) ⟨_, .str _, sm_of (by decide +kernel)⟩ (allc (P := fun v => ∃ d, Od true p Hf v d ∧ Sm 105 3 d) ⟨_, .str _, sm_of (by decide +kernel)⟩ (allc (P := fun v => ∃ d, Od true p Hf v d ∧ Sm 105 3 d) ⟨_, .str _, sm_of (by decide +kernel)⟩ (allc (P := fun v => ∃ d, Od true p Hf v d ∧ Sm 105 3 d) ⟨_, .str _, sm_of (by decide +kernel)⟩ (allc (P := fun v => ∃ d, Od true p Hf v d ∧ Sm 105 3 d) ⟨_, .str _, sm_of (by decide +kernel)⟩ (allc (P := fun v => ∃ d, Od true p Hf v d ∧ Sm 105 3 d) ⟨_, .str _, sm_of (by decide +kernel)⟩ (allc (P := fun v => ∃ d, Od true p Hf v d ∧ Sm 105 3 d) ⟨_, .tup nt0 e1 .nil, sm_of (by decide +kernel)⟩ (allc (P := fun v => ∃ d, Od true p Hf v d ∧ Sm 105 3 d) ⟨_, .lst nl0 (fun _ => m0) e2 .nil, sm_of (by decide +kernel)⟩ (allc (P := fun v => ∃ d, Od true p Hf v d ∧ Sm 105 3 d) ⟨_, .dic0 rfl nd0 e3, sm_of (by decide +kernel)⟩ (allc (P := fun v => ∃ d, Od true p Hf v d ∧ Sm 105 3 d) ⟨_, .tup nt1 e4 (.cons (.str _) .nil), sm_of (by decide +kernel)⟩ (allc (P := fun v => ∃ d, Od true p Hf v d ∧ Sm 105 3 d) ⟨_, .lst nl1 (fun _ => m1) e5 (.cons (.str _) .nil), sm_of (by decide +kernel)⟩ (allc (P := fun v => ∃ d, Od true p Hf v d ∧ Sm 105 3 d) ⟨_, .tup nt2 e6 (.cons (.int _) .nil), sm_of (by decide +kernel)⟩ (allc (P := fun v => ∃ d, Od true p Hf v d ∧ Sm 105 3 d) ⟨_, .tup nt3 e7 (.cons (.str _) .nil), sm_of (by decide +kernel)⟩ (allc (P := fun v => ∃ d, Od true p Hf v d ∧ Sm 105 3 d) ⟨_, .tup nt4 e8 (.cons (.str _) .nil), sm_of (by decide +kernel)⟩ (allc (P := fun v => ∃ d, Od true p Hf v d ∧ Sm 105 3 d) ⟨_, .tup nt5 e9 (.cons (.str _) (.cons (.str _) .nil)), sm_of (by decide +kernel)⟩ (allc (P := fun v => ∃ d, Od true p Hf v d ∧ Sm 105 3 d) ⟨_, .tup nt6 e10 (.cons (.str _) (.cons (.str _) .nil)), sm_of (by decide +kernel)⟩ (allc (P := fun v => ∃ d, Od true p Hf v d ∧ Sm 105 3 d) ⟨_, .tup nt7 e11 (.cons (.str _) (.cons (.str _) .nil)), sm_of (by decide +kernel)⟩ (allc (P := fun v => ∃ d, Od true p Hf v d ∧ Sm 105 3 d) ⟨_, .dic1 rfl nd1 e12 (.int _), sm_of (by decide +kernel)⟩ (alln)))))))))))))))))))))))))))))
section
variable {P : Program} {w : World} {K : PySem.W.Frag} {mg : Str → Option Value} {base : Heap}
def spOdd : Sp := fun vs H Q _ => ∃ (p : Addr) (n : Int), vs = [.ref p] ∧ Pot H p n ∧ n ≤ 900000 ∧ ∀ (v : V) (d : PyData) H', Od true p H' v d → Sm 140 15 d → Pot H' p (n + 20) → Kp p H H' → Q v H'
theorem ok_odd {f fA : Addr} {fd fdA : FuncData} {k : Nat} (F : Fun K "_law_odd" "_law_odd" sOdd f fd) (FA : Fun K "_law_any" "_law_any" sAny fA fdA) (bA : Binds K fdA ["_law_pot_here", "_law_items"] []) (gA : mg "_law_any" = some (.ref fA))
    (GA : FnOk P w K mg base CX0 k fA fdA ["_law_pot_here", "_law_items"] (spAny K)) (mr : mg "range" = none) : FnOk P w K mg base CX0 (k + 1) f fd ["_law_pot_here"] spOdd := by
  refine F.ok scOdd (fun vs H Q E h => ?_) (fun cdv A outer s H vs Q E hr h => ?_)
  · obtain ⟨p, n, rfl, _⟩ := h
    rfl
  · obtain ⟨p, n, rfl, hp, hn, q⟩ := h
    refine ⟨_, pss_cons (ps_set (i := 1) scOdd.nd rfl (.inl rfl) (pe_lst (pa_cons pe_non (pa_cons pe_bl (pa_cons pe_bl (pa_cons pe_int (pa_cons pe_int (pa_cons (pe_un un_neg pe_int) (pa_cons (pe_op op_pow pe_int pe_int)
          (pa_cons pe_str (pa_cons pe_str (pa_cons pe_str (pa_cons pe_str (pa_cons pe_str (pa_cons pe_str (pa_cons pe_str (pa_cons pe_str (pa_cons pe_str (pa_cons pe_str (pa_cons (pe_tup pa_nil) (pa_cons (pe_lstN pa_nil) (pa_cons pe_dnewK pa_nil))))))))))))))))))))))
      (pss_cons (ps_set (i := 1) scOdd.nd rfl (.inl rfl) (pe_op op_cat (pv 1) (pe_lst (pa_cons (pe_tup (pa_cons pe_str pa_nil)) (pa_cons (pe_lstN (pa_cons pe_str pa_nil)) (pa_cons (pe_tup (pa_cons pe_int pa_nil)) (pa_cons (pe_tup (pa_cons pe_str pa_nil)) (pa_cons (pe_tup (pa_cons pe_str pa_nil))
          (pa_cons (pe_tup (pa_cons pe_str (pa_cons pe_str pa_nil))) (pa_cons (pe_tup (pa_cons pe_str (pa_cons pe_str pa_nil))) (pa_cons (pe_tup (pa_cons pe_str (pa_cons pe_str pa_nil))) (pa_cons (pe_disp (pps_cons pe_str pe_int pps_nil) rfl rfl (by simp) (by decide)) pa_nil))))))))))))
      (pss_cons (ps_set (i := 2) scOdd.nd rfl (.inl rfl) (pe_call GA hr (by rfl) gA FA.kp bA .nil pass0 (pa_cons (pv 0) (pa_cons (pv 1) pa_nil))))
      (pss_cons (ps_for PassesOwn.never rfl (pi_range1 rfl mr (pa_cons (pe_call GA hr (by rfl) gA FA.kp bA .nil pass0 (pa_cons (pv 0) (pa_cons (pe_lst (pa_cons pe_int (pa_cons pe_int (pa_cons pe_int (pa_cons pe_int (pa_cons pe_int (pa_cons pe_int pa_nil))))))) pa_nil))) pa_nil)) (pg_name (i := 3) scOdd.nd rfl (.inl rfl))
          (pss_one (ps_set (i := 2) scOdd.nd rfl (.inl rfl) (pe_call GA hr (by rfl) gA FA.kp bA .nil pass0 (pa_cons (pv 0) (pa_cons (pe_lst (pa_cons (pe_tup (pa_cons (pv 2) pa_nil)) (pa_cons (pe_lstN (pa_cons (pv 2) pa_nil)) (pa_cons (pe_disp (pps_cons pe_str (pv 2) pps_nil) rfl rfl (by simp) (by decide))
            (pa_cons (pe_tup (pa_cons (pv 2) (pa_cons pe_int pa_nil))) (pa_cons (pe_tup (pa_cons pe_int (pa_cons (pv 2) pa_nil))) pa_nil)))))) pa_nil))))))
      (pss_one (ps_ret (pv 2)))))), ?_⟩
    have sl : ∀ n : Nat, n ≤ 20000 → n ≤ sizeLine := fun n h => Nat.le_trans h (by decide)
    refine ⟨_, rfl, _, _, rfl, rfl, ⟨by decide, by decide, by decide⟩, sl 0 (by decide), fun T0 t0 => ⟨sl 0 (by decide), fun L0 l0 m0 D0 d0 => ⟨sl 20 (by decide), fun S0 s0 => ?_⟩⟩⟩
    refine ⟨.ref S0, rfl, sl 1 (by decide), fun T1 t1 => ⟨sl 1 (by decide), fun L1 l1 m1 => ⟨sl 1 (by decide), fun T2 t2 => ⟨sl 1 (by decide), fun T3 t3 => ⟨sl 1 (by decide), fun T4 t4 => ⟨sl 2 (by decide), fun T5 t5 => ⟨sl 2 (by decide), fun T6 t6 => ⟨sl 2 (by decide), fun T7 t7 => ?_⟩⟩⟩⟩⟩⟩⟩⟩
    refine fun D1 d1 => ⟨upd_same, [(.inr (Str.ofString "ab"), .int 1)], rfl, (show 1 ≤ 15 by decide), sl 9 (by decide), fun S1 s1 => ?_⟩
    have nt0 : T0 ≠ p := hp.ne t0
    have nl0 : L0 ≠ p := (hp.up t0).ne l0
    have nd0 : D0 ≠ p := ((hp.up t0).up l0).ne d0
    have ns0 : S0 ≠ p := (((hp.up t0).up l0).up d0).ne s0
    have nt1 : T1 ≠ p := ((((hp.up t0).up l0).up d0).up s0).ne t1
    have nl1 : L1 ≠ p := (((((hp.up t0).up l0).up d0).up s0).up t1).ne l1
    have nt2 : T2 ≠ p := ((((((hp.up t0).up l0).up d0).up s0).up t1).up l1).ne t2
    have nt3 : T3 ≠ p := (((((((hp.up t0).up l0).up d0).up s0).up t1).up l1).up t2).ne t3
    have nt4 : T4 ≠ p := ((((((((hp.up t0).up l0).up d0).up s0).up t1).up l1).up t2).up t3).ne t4
    have nt5 : T5 ≠ p := (((((((((hp.up t0).up l0).up d0).up s0).up t1).up l1).up t2).up t3).up t4).ne t5
    have nt6 : T6 ≠ p := ((((((((((hp.up t0).up l0).up d0).up s0).up t1).up l1).up t2).up t3).up t4).up t5).ne t6
    have nt7 : T7 ≠ p := (((((((((((hp.up t0).up l0).up d0).up s0).up t1).up l1).up t2).up t3).up t4).up t5).up t6).ne t7
    have nd1 : D1 ≠ p := ((((((((((((hp.up t0).up l0).up d0).up s0).up t1).up l1).up t2).up t3).up t4).up t5).up t6).up t7).ne d1
    have g_s1 := Same.upd (o := HO.lst [V.ref T1, V.ref L1, V.ref T2, V.ref T3, V.ref T4, V.ref T5, V.ref T6, V.ref T7, V.ref D1]) s1
    have g_d1 := (Same.mut (Same.upd d1) d1).trans g_s1
    have g_t7 := (Same.upd t7).trans g_d1
    have g_t6 := (Same.upd t6).trans g_t7
    have g_t5 := (Same.upd t5).trans g_t6
    have g_t4 := (Same.upd t4).trans g_t5
    have g_t3 := (Same.upd t3).trans g_t4
    have g_t2 := (Same.upd t2).trans g_t3
    have g_l1 := (Same.upd l1).trans g_t2
    have g_t1 := (Same.upd t1).trans g_l1
    have g_s0 := (Same.upd s0).trans g_t1
    have g_d0 := (Same.upd d0).trans g_s0
    have g_l0 := (Same.upd l0).trans g_d0
    have g_t0 := (Same.upd t0).trans g_l0
    refine ⟨S0, S1, _, _, rfl, rfl, g_t1 _ _ upd_same, upd_same, sl 29 (by decide), fun S2 s2 => ?_⟩
    have f := fun {Ha : Hp} (g : Same Ha _) => g.trans (Same.upd (o := HO.lst ([.non, .bl true, .bl false, .int 0, .int 1, .int (-1), .int (10 ^ Int.toNat 30), .str (Str.ofString ""), .str (Str.ofString "a"), .str (Str.ofString "^a"), .str (Str.ofString "a$"), .str (Str.ofString "^$"), .str (Str.ofString "$a"), .str (Str.ofString "a^"), .str (Str.ofString "ab"), .str (Str.ofString "A"), .str (Str.ofString "a\n"), .ref T0, .ref L0, .ref D0] ++ [.ref T1, .ref L1, .ref T2, .ref T3, .ref T4, .ref T5, .ref T6, .ref T7, .ref D1])) s2)
    have hpf := sPotS (f g_t0) hp
    have ns2 : S2 ≠ p := (sPotS g_t0 hp).ne s2
    have kf := Kp.same (p := p) (f g_t0)
    refine ⟨.ref p, rfl, .ref S2, rfl, p, n, .ref S2, rfl, hpf, by omega, .inr ⟨S2, _, rfl, fun hK => .inl (.inl (hK S2 _ ns2 upd_same)), (show 0 < 29 by decide), (show 29 ≤ 1000 by decide), fun v H9 hv hp9 k9 => ?_⟩⟩
    obtain ⟨d, od0, sm0⟩ : ∃ d, Od true p _ v d ∧ Sm 105 3 d := all29 nt0 nl0 m0 nd0 nt1 nl1 m1 nt2 nt3 nt4 nt5 nt6 nt7 nd1 (f g_l0 _ _ upd_same) (f g_d0 _ _ upd_same) (f g_s0 _ _ upd_same) (f g_l1 _ _ upd_same) (f g_t2 _ _ upd_same) (f g_t3 _ _ upd_same) (f g_t4 _ _ upd_same) (f g_t5 _ _ upd_same) (f g_t6 _ _ upd_same) (f g_t7 _ _ upd_same) (f g_d1 _ _ upd_same) (f g_s1 _ _ upd_same) v hv
    have od9 := od0.mono k9
    have k9' : Kp p H H9 := kf.trans k9
    clear od0 hv kf hpf ns2 k9 g_s1 g_d1 g_t0 g_l0 g_d0 g_s0 g_t1 g_l1 g_t2 g_t3 g_t4 g_t5 g_t6 g_t7 f s2 s1 d1 t7 t6 t5 t4 t3 t2 l1 t1 s0 d0 l0 t0
    clear nt0 nl0 nd0 ns0 nt1 nl1 nt2 nt3 nt4 nt5 nt6 nt7 nd1 m0 m1
    -- how often
    refine ⟨.ref p, rfl, sl 6 (by decide), fun l nl => ⟨p, n + 1, .ref l, rfl, hp9.up nl, by omega, .inr ⟨l, _, rfl, fun hK => .inl (.inl (hK l _ (hp9.ne nl) upd_same)), (show 0 < 6 by decide), (show 6 ≤ 1000 by decide), fun v2 H10 hv2 hp10 k10 => ?_⟩⟩⟩
    obtain ⟨m, rfl, hm⟩ : ∃ m : Nat, v2 = .int (m : Int) ∧ m ≤ 9 := by
      simp only [List.mem_cons, List.not_mem_nil, or_false] at hv2
      rcases hv2 with h | h | h | h | h | h
      · exact ⟨0, h, by decide⟩
      · exact ⟨0, h, by decide⟩
      · exact ⟨0, h, by decide⟩
      · exact ⟨1, h, by decide⟩
      · exact ⟨2, h, by decide⟩
      · exact ⟨9, h, by decide⟩
    have k10' : Kp p H9 H10 := (Kp.same (Same.upd nl)).trans k10
    refine ⟨_, rfl, by omega, by omega, ?_⟩
    refine for_it (walk_range (lo := 0) (n := m)) (fun i σ H2 => ∃ v d y3, σ = [some (.ref p), some (.ref S2), some v, y3] ∧ Od true p H2 v d ∧ Sm (105 + 3 * i) (3 + i) d ∧ Pot H2 p (n + 2 + i) ∧ Kp p H H2)
      ⟨v, d, none, rfl, od9.mono k10', sm0, hp10.mono (by omega), k9'.trans k10'⟩ (fun _ _ _ _ _ => True.intro) (fun i x σ H2 H2' hi hP hy => ?_) (fun σ H2 hP => ?_)
    · obtain ⟨v, d, y3, rfl, od, sm, hp2, k2⟩ := hP
      obtain ⟨rfl, rfl⟩ := hy
      refine ⟨.ref p, rfl, v, rfl, sl 1 (by decide), fun A1 a1 => ⟨v, rfl, sl 1 (by decide), fun A2 a2 mA2 A3 a3 => ⟨v, rfl, upd_same, [(.inr (Str.ofString "a"), v)], rfl, (show 1 ≤ 15 by decide), v, rfl, sl 2 (by decide), fun A4 a4 => ⟨v, rfl, sl 2 (by decide), fun A5 a5 => ⟨sl 5 (by decide), fun A6 a6 => ?_⟩⟩⟩⟩⟩
      have c6 := Same.upd (o := HO.lst [V.ref A1, V.ref A2, V.ref A3, V.ref A4, V.ref A5]) a6
      have c5 := (Same.upd a5).trans c6
      have c4 := (Same.upd a4).trans c5
      have c3 := (Same.mut (Same.upd a3) a3).trans c4
      have c2 := (Same.upd a2).trans c3
      have c1 := (Same.upd a1).trans c2
      have n1 : A1 ≠ p := hp2.ne a1
      have n2 : A2 ≠ p := (hp2.up a1).ne a2
      have n3 : A3 ≠ p := ((hp2.up a1).up a2).ne a3
      have n4 : A4 ≠ p := ((((hp2.up a1).up a2).up a3).wr n3).ne a4
      have n5 : A5 ≠ p := (((((hp2.up a1).up a2).up a3).wr n3).up a4).ne a5
      have n6 : A6 ≠ p := ((((((hp2.up a1).up a2).up a3).wr n3).up a4).up a5).ne a6
      have odE := od.mono fun b o _ z => c1 b o z
      refine ⟨p, n + 2 + i, .ref A6, rfl, sPotS c1 hp2, by omega, .inr ⟨A6, _, rfl, fun hK => .inl (.inl (hK A6 _ n6 upd_same)), (show 0 < 5 by decide), (show 5 ≤ 1000 by decide), fun v' H' hv' hp' k' => ?_⟩⟩
      obtain ⟨d', od', sm'⟩ : ∃ d', Od true p _ v' d' ∧ Sm (105 + 3 * (i + 1)) (3 + (i + 1)) d' := allc (P := fun v' => ∃ d', Od true p _ v' d' ∧ Sm (105 + 3 * (i + 1)) (3 + (i + 1)) d') ⟨_, .tup n1 (c2 _ _ upd_same) (.cons odE .nil), sm.tup1⟩ (allc ⟨_, .lst n2 (fun _ => mA2) (c3 _ _ upd_same) (.cons odE .nil), sm.lst1⟩
        (allc ⟨_, .dic1 rfl n3 (c4 _ _ upd_same) odE, sm.dic⟩ (allc ⟨_, .tup n4 (c5 _ _ upd_same) (.cons odE (.cons (.int 1) .nil)), sm.two1⟩ (allc ⟨_, .tup n5 (c6 _ _ upd_same) (.cons (.int 1) (.cons odE .nil)), sm.two2⟩ alln)))) v' hv'
      exact ⟨v', d', _, rfl, od'.mono k', sm', hp'.mono (by omega), k2.trans ((Kp.same c1).trans k')⟩
    · obtain ⟨v, d, y3, rfl, od, sm, hp2, k2⟩ := hP
      exact ⟨v, rfl, q v d H2 od (sm.mono (by omega) (by omega)) (hp2.mono (by omega)) k2⟩
end
end Sf
namespace Sf
open PySem PySem.Spec PyProof.Rows L2
abbrev sThing : Stmt := topS 17
def NThing : List Str := ["_law_pot_here", "_law_way", "_law_signs", "_law_text_here", "_law_at", "_law_some", "_law_wrong", "_law_turn"]
theorem scThing : FnScope NThing ["_law_pot_here"] (defScope sThing) := ⟨rfl, rfl, rfl, by decide +kernel, rfl, by decide +kernel, by decide +kernel⟩
section
variable {P : Program} {w : World} {K : PySem.W.Frag} {mg : Str → Option Value} {base : Heap}
def spThing : Sp := fun vs H Q _ => ∃ (p : Addr) (n : Int), vs = [.ref p] ∧ Pot H p n ∧ n ≤ 800000 ∧ ∀ (v : V) (g : Bool) (d : PyData) H', Od g p H' v d → Sm 400 20 d → Pot H' p (n + 60) → Kp p H H' → Q v H'
/-- a short plain text -/
def okT (t : Str) : Prop := t.length ≤ 3 ∧ ∀ c ∈ t.cps.toList, c < 128
theorem lv_str {t : Str} (h : ∀ c ∈ t.cps.toList, c < 128) : (PyData.str t).leavesShort 40 = true := by
  show (t.cps.toList.all fun c => decide (c < 16 ^ 8)) = true
  rw [List.all_eq_true]
  intro c hc
  have := h c hc
  exact decide_eq_true (Nat.lt_of_lt_of_le this (by decide))
theorem sm_str {t : Str} {n : Nat} (h : ∀ c ∈ t.cps.toList, c < 128) (hl : t.length ≤ n) : Sm n 0 (.str t) := ⟨rfl, lv_str h, hl, Nat.le_refl 0⟩
theorem all_sm : ∀ {ds : List PyData}, (∀ d ∈ ds, Sm 20 3 d) → PyData.showableAll ds = true ∧ PyData.leavesShortAll 40 ds = true ∧ PyData.weightAll ds ≤ 21 * ds.length ∧ PyData.depthAll ds ≤ 3
  | [], _ => ⟨rfl, rfl, Nat.le_refl 0, Nat.zero_le _⟩
  | d :: ds, h => by
    obtain ⟨h1, h2, h3, h4⟩ := h d List.mem_cons_self
    obtain ⟨i1, i2, i3, i4⟩ := all_sm fun e he => h e (List.mem_cons_of_mem _ he)
    refine ⟨by simp only [PyData.showableAll, h1, i1, Bool.and_self], by simp only [PyData.leavesShortAll, h2, i2, Bool.and_self], ?_, ?_⟩
    · simp only [PyData.weightAll, List.length_cons]
      omega
    · simp only [PyData.depthAll]
      omega
theorem sm_tup {ds : List PyData} (h : ∀ d ∈ ds, Sm 20 3 d) (hl : ds.length ≤ 11) : Sm 400 20 (.tuple ds) := by
  obtain ⟨i1, i2, i3, i4⟩ := all_sm h
  refine ⟨by simpa only [PyData.showable] using i1, by simpa only [PyData.leavesShort] using i2, ?_, ?_⟩
  · simp only [PyData.weight]
    omega
  · simp only [PyData.depth]
    omega
theorem sm_lst {ds : List PyData} (h : ∀ d ∈ ds, Sm 20 3 d) (hl : ds.length ≤ 11) : Sm 400 20 (.list ds) := by
  obtain ⟨i1, i2, i3, i4⟩ := all_sm h
  refine ⟨by simpa only [PyData.showable] using i1, by simpa only [PyData.leavesShort] using i2, ?_, ?_⟩
  · simp only [PyData.weight]
    omega
  · simp only [PyData.depth]
    omega
theorem cut_mem {z : Str} {lo hi : Option Int} {c : Nat} (h : c ∈ (cutS z lo hi).cps.toList) : c ∈ z.cps.toList := by
  unfold cutS at h
  exact List.mem_of_mem_drop (List.mem_of_mem_take h)
theorem cut_len (z : Str) (lo hi : Option Int) : (cutS z lo hi).length ≤ z.length := by
  rw [str_len, str_len]
  unfold cutS
  show ((z.cps.toList.drop _).take _).length ≤ _
  rw [List.length_take, List.length_drop]
  omega
theorem cutV_strs (ts : List Str) (lo hi : Option Int) : ∃ us : List Str, cutV (ts.map V.str) lo hi = us.map V.str ∧ (∀ t ∈ us, t ∈ ts) ∧ us.length ≤ ts.length := by
  refine ⟨(ts.drop (HT.sIx (ts.map V.str).length 0 lo)).take (HT.sIx (ts.map V.str).length (ts.map V.str).length hi - HT.sIx (ts.map V.str).length 0 lo), ?_, fun t h => List.mem_of_mem_drop (List.mem_of_mem_take h), ?_⟩
  · unfold cutV
    rw [List.map_take, List.map_drop]
  · rw [List.length_take, List.length_drop]
    omega
def smB2 (d : PyData) : Bool := d.showable && d.leavesShort 40 && decide (d.weight ≤ 20) && decide (d.depth ≤ 3)
theorem sm_of2 {d : PyData} (h : smB2 d = true) : Sm 20 3 d := by
  simp only [smB2, Bool.and_eq_true, decide_eq_true_eq] at h
  exact ⟨h.1.1.1, h.1.1.2, h.1.2, h.2⟩
theorem txl (t : List Nat) : (tx t).length = t.length := str_len _
theorem LSm : ∀ c ∈ LS.cps.toList, c < 128 := by decide +kernel
theorem ok_thing {f fA fD fL fT fO : Addr} {fd dA dD dL dT dO : FuncData} {k : Nat} (F : Fun K "_law_thing" "_law_thing" sThing f fd) (FA : Fun K "_law_any" "_law_any" sAny fA dA) (bA : Binds K dA ["_law_pot_here", "_law_items"] []) (gA : mg "_law_any" = some (.ref fA))
    (GA : FnOk P w K mg base CX0 k fA dA ["_law_pot_here", "_law_items"] (spAny K)) (FD : Fun K "_law_draw" "_law_draw" sDraw fD dD) (bD : Binds K dD ["_law_pot_here", "_law_many"] []) (gD : mg "_law_draw" = some (.ref fD)) (GD : FnOk P w K mg base CX0 k fD dD ["_law_pot_here", "_law_many"] spDraw)
    (FL : Fun K "_law_all_letters" "_law_all_letters" sLets fL dL) (bL : Binds K dL [] []) (gL : mg "_law_all_letters" = some (.ref fL)) (GL : FnOk P w K mg base CX0 k fL dL [] spLets)
    (FT : Fun K "_law_text" "_law_text" sText fT dT) (bT : Binds K dT ["_law_pot_here", "_law_letters", "_law_most"] []) (gT : mg "_law_text" = some (.ref fT)) (GT : FnOk P w K mg base CX0 k fT dT ["_law_pot_here", "_law_letters", "_law_most"] spText)
    (FO : Fun K "_law_odd" "_law_odd" sOdd fO dO) (bO : Binds K dO ["_law_pot_here"] []) (gO : mg "_law_odd" = some (.ref fO)) (GO : FnOk P w K mg base CX0 k fO dO ["_law_pot_here"] spOdd)
    (mr : mg "range" = none) (ml : mg "len" = none) (mt : mg "tuple" = none) (ms : mg "sorted" = none) (mS : mg "set" = none) : FnOk P w K mg base CX0 (k + 1) f fd ["_law_pot_here"] spThing := by
  refine F.ok scThing (fun vs H Q E h => ?_) (fun cdv A outer s H vs Q E hr h => ?_)
  · obtain ⟨p, n, rfl, _⟩ := h
    rfl
  · obtain ⟨p, n, rfl, hp, hn, q⟩ := h
    refine ⟨_, pss_cons (ps_par (i := 1) (j := 2) rfl scThing.nd rfl rfl (by decide) rfl rfl (pa_cons (pe_call GD hr (by rfl) gD FD.kp bD .nil pass0 (pa_cons (pv 0) (pa_cons pe_int pa_nil))) (pa_cons (pe_call0 GL hr (by rfl) gL FL.kp bL .nil pass0) pa_nil)) (by rfl))
      (pss_cons (ps_if (pt_cmpR op_eq (pv 1) pe_int (nomark _))
        (pss_cons (ps_set (i := 3) scThing.nd rfl (.inl rfl) (pe_call GT hr (by rfl) gT FT.kp bT .nil pass0 (pa_cons (pv 0) (pa_cons (pv 2) (pa_cons pe_int pa_nil)))))
        (pss_cons (ps_set (i := 4) scThing.nd rfl (.inl rfl) (pe_call GD hr (by rfl) gD FD.kp bD .nil pass0 (pa_cons (pv 0) (pa_cons (pe_op op_add (pe_callB call_len_str (by rfl) ml PySem.boot_len (pa_cons (pv 3) pa_nil)) pe_int) pa_nil))))
        (pss_one (ps_ret (pe_op op_add_str (pe_op op_add_str (pe_slice sl_str (pv 3) po_none (po_some (pv 4)))
          (pe_call GA hr (by rfl) gA FA.kp bA .nil pass0 (pa_cons (pv 0) (pa_cons (pe_lst (pa_cons pe_str (pa_cons pe_str (pa_cons pe_str (pa_cons pe_str (pa_cons pe_str (pa_cons pe_str (pa_cons pe_str (pa_cons pe_str (pa_cons pe_str (pa_cons pe_str pa_nil))))))))))) pa_nil))))
          (pe_slice sl_str (pv 3) (po_some (pv 4)) po_none)))))) pss_nil)
      (pss_cons (ps_if (pt_cmpR op_eq (pv 1) pe_int (nomark _)) (pss_one (ps_ret (pe_call GO hr (by rfl) gO FO.kp bO .nil pass0 (pa_cons (pv 0) pa_nil)))) pss_nil)
      (pss_cons (ps_setLc (i := 5) (own := [("_law_turn", 7)]) (g := gName 7) (tt := tYes) rfl scThing.nd rfl rfl (sw_true rfl rfl rfl (by decide +kernel))
          (pi_range1 rfl mr (pa_cons (pe_call GD hr (by rfl) gD FD.kp bD .nil pass0 (pa_cons (pv 0) (pa_cons pe_int pa_nil))) pa_nil))
          (blkOk_by (N := NThing) (sc := defScope sThing) (by decide +kernel)) (fun _ _ _ _ _ => pg_name (i := 7) scThing.nd rfl (Or.inl rfl)) (fun _ _ _ _ _ => pts_nil)
          (fun _ _ _ _ _ => pe_op op_add_str (pe_call GA hr (by rfl) gA FA.kp bA .nil pass0 (pa_cons (pv 0) (pa_cons pe_str pa_nil))) (pe_call GA hr (by rfl) gA FA.kp bA .nil pass0 (pa_cons (pv 0) (pa_cons pe_str pa_nil)))))
      (Evl.pss_cut (ps_if (pt_cmpR op_gt (pe_call GD hr (by rfl) gD FD.kp bD .nil pass0 (pa_cons (pv 0) (pa_cons pe_int pa_nil))) pe_int (nomark _))
          (pss_one (ps_set (i := 5) scThing.nd rfl (.inl rfl) (pe_callB (cr_sortedTx rfl) (by rfl) ms (by decide +kernel) (pa_cons (pe_callTy (cr_setTx rfl) (by rfl) mS PySem.Pv.boot_set (pa_cons (pv 5) pa_nil)) pa_nil)))) pss_nil)
      (Evl.pss_cut (ps_if (pt_cmpR op_eq (pe_call GD hr (by rfl) gD FD.kp bD .nil pass0 (pa_cons (pv 0) (pa_cons pe_int pa_nil))) pe_int (nomark _))
          (pss_cons (ps_set (i := 6) scThing.nd rfl (.inl rfl) (pe_lst (pa_cons pe_str (pa_cons pe_str (pa_cons pe_str (pa_cons pe_str (pa_cons pe_str (pa_cons pe_str (pa_cons pe_int (pa_cons pe_non (pa_cons (pe_tup (pa_cons pe_str (pa_cons pe_str pa_nil))) (pa_cons pe_str (pa_cons pe_str (pa_cons (pe_lst (pa_cons pe_str pa_nil)) pa_nil))))))))))))))
          (pss_cons (ps_set (i := 4) scThing.nd rfl (.inl rfl) (pe_call GD hr (by rfl) gD FD.kp bD .nil pass0 (pa_cons (pv 0) (pa_cons (pe_op op_add (pe_callB call_len_seq (by rfl) ml PySem.boot_len (pa_cons (pv 5) pa_nil)) pe_int) pa_nil))))
          (pss_one (ps_set (i := 5) scThing.nd rfl (.inl rfl) (pe_op op_cat (pe_op op_cat (pe_slice sl_list (pv 5) po_none (po_some (pv 4))) (pe_lst (pa_cons (pe_call GA hr (by rfl) gA FA.kp bA .nil pass0 (pa_cons (pv 0) (pa_cons (pv 6) pa_nil))) pa_nil)))
            (pe_slice sl_list (pv 5) (po_some (pv 4)) po_none)))))) pss_nil)
      (pss_one (ps_ret (pe_call GA hr (by rfl) gA FA.kp bA .nil pass0 (pa_cons (pv 0) (pa_cons (pe_lst (pa_cons (pe_tupleOf (by rfl) mt (pv 5)) (pa_cons (pe_tupleOf (by rfl) mt (pv 5)) (pa_cons (pe_tupleOf (by rfl) mt (pv 5)) (pa_cons (pv 5) pa_nil))))) pa_nil)))))))))), ?_⟩
    have sl : ∀ n : Nat, n ≤ 20000 → n ≤ sizeLine := fun n h => Nat.le_trans h (by decide)
    have sl2 : ∀ n : Nat, n ≤ 20000 → n < sizeLine := fun n h => Nat.lt_of_le_of_lt h (by decide)
    -- way, signs
    refine ⟨.ref p, rfl, p, n, 4, rfl, hp, by omega, by decide, by decide, fun r H1 r0 r1 hp1 k1 => ⟨rfl, _, _, rfl, ?_⟩⟩
    refine ⟨.int r, rfl, rfl, _, rfl, ite2 (fun h => ?_) (fun h => ?_)⟩
    · -- a text with one sign more
      refine ⟨.ref p, rfl, .str LS, rfl, p, n + 1, LS, 9, rfl, hp1, by omega, by decide, by rw [bll]; decide, by rw [bll]; decide, fun t H2 t1 t2 hp2 k2 => ?_⟩
      have tl := txl t
      have b1 : (tx t).length ≤ sizeLine := sl _ (by omega)
      refine ⟨.ref p, rfl, .str (tx t), rfl, tx t, rfl, b1, _, _, rfl, rfl, p, _, _, rfl, hp2, by omega, by omega, by omega, fun r2 H3 q0 q1 hp3 k3 => ?_⟩
      refine ⟨.str (tx t), rfl, .int r2, rfl, r2, rfl, tx t, rfl, b1, .ref p, rfl, sl 10 (by decide), fun l nl => ⟨p, _, .ref l, rfl, hp3.up nl, by omega, .inr ⟨l, _, rfl, fun hK => .inl (.inl (hK l _ (hp3.ne nl) upd_same)), (show 0 < 10 by decide), (show 10 ≤ 1000 by decide), fun v H4 hv hp4 k4 => ?_⟩⟩⟩
      obtain ⟨y, rfl, y1, y2⟩ : ∃ y : Str, v = .str y ∧ y.length ≤ 1 ∧ ∀ c ∈ y.cps.toList, c < 128 := by
        have one : ∀ z : Str, z.length ≤ 1 ∧ (∀ c ∈ z.cps.toList, c < 128) → ∃ y : Str, V.str z = .str y ∧ y.length ≤ 1 ∧ ∀ c ∈ y.cps.toList, c < 128 := fun z hz => ⟨z, rfl, hz⟩
        exact allc (P := fun v => ∃ y : Str, v = .str y ∧ y.length ≤ 1 ∧ ∀ c ∈ y.cps.toList, c < 128) (one _ (by decide +kernel)) (allc (one _ (by decide +kernel)) (allc (one _ (by decide +kernel)) (allc (one _ (by decide +kernel)) (allc (one _ (by decide +kernel)) (allc (one _ (by decide +kernel)) (allc (one _ (by decide +kernel))
          (allc (one _ (by decide +kernel)) (allc (one _ (by decide +kernel)) (allc (one _ (by decide +kernel)) alln))))))))) v hv
      have c1 := cut_len (tx t) none (some r2)
      have c2 := cut_len (tx t) (some r2) none
      have l1 := len_ap (cutS (tx t) none (some r2)) y
      have l2 := len_ap (cutS (tx t) none (some r2) ++ y) (cutS (tx t) (some r2) none)
      refine ⟨_, _, rfl, rfl, sl _ (by omega), .str (tx t), rfl, .int r2, rfl, r2, rfl, tx t, rfl, b1, _, _, rfl, rfl, sl _ (by omega), ?_⟩
      refine q _ false _ H4 (.str _) ((sm_str (n := 40) (fun c hc => ?_) (by omega)).mono (by decide) (by decide)) (hp4.mono (by omega)) (k1.trans (k2.trans (k3.trans ((Kp.same (Same.upd nl)).trans k4))))
      have tm : ∀ c ∈ (tx t).cps.toList, c < 128 := fun c hc => LSm c (t2 c hc)
      rw [tl_ap, tl_ap] at hc
      rcases List.mem_append.mp hc with hc | hc
      · rcases List.mem_append.mp hc with hc | hc
        · exact tm c (cut_mem hc)
        · exact y2 c hc
      · exact tm c (cut_mem hc)
    refine ⟨.int r, rfl, rfl, _, rfl, ite2 (fun h1 => ?_) (fun h1 => ?_)⟩
    · exact ⟨.ref p, rfl, p, n + 1, rfl, hp1, by omega, fun v d H2 od sm hp2 k2 => q v true d H2 od (sm.mono (by decide) (by decide)) (hp2.mono (by omega)) (k1.trans k2)⟩
    clear h h1
    -- some
    refine ⟨.ref p, rfl, p, n + 1, 6, rfl, hp1, by omega, by decide, by decide, fun m H2 m0 m1 hp2 k2 => ⟨m, rfl, by omega, by omega, fun D hD => ?_⟩⟩
    obtain ⟨j, rfl⟩ := Int.eq_ofNat_of_zero_le m0
    have k2' : Kp p H H2 := k1.trans k2
    rw [Int.toNat_natCast]
    refine lc_it (walk_range (lo := 0) (n := j)) (fun i H3 => ∃ ts : List Str, ts.length = i ∧ (∀ t ∈ ts, okT t) ∧ Pot H3 p (n + 2 + 2 * i) ∧ Kp p H H3 ∧ H3 D = some (.lst (ts.map V.str)))
      ⟨[], rfl, (fun _ h => nomatch h), (hp2.up hD).mono (by omega), k2'.trans (Kp.same (Same.upd hD)), upd_same⟩ (fun _ _ _ _ => True.intro) (fun i x H3 H3' hi hP hy => ?_) (fun H3 hP => ?_)
    · obtain ⟨ts, ht1, ht2, hp3, k3, e3⟩ := hP
      obtain ⟨rfl, rfl⟩ := hy
      have nD : D ≠ p := hp2.ne hD
      refine ⟨rfl, .ref p, rfl, p, _, _, rfl, hp3, by omega, .inl ⟨_, rfl, by decide +kernel, by decide +kernel, fun c H4 hc hp4 k4 => ⟨.ref p, rfl, p, _, _, rfl, hp4, by omega, .inl ⟨_, rfl, by decide +kernel, by decide +kernel, fun d H5 hd hp5 k5 => ⟨_, _, rfl, rfl, sl 2 (by decide), ?_⟩⟩⟩⟩⟩
      refine ⟨_, k5 D _ nD (k4 D _ nD e3), ?_, ts ++ [⟨#[c]⟩ ++ ⟨#[d]⟩], by rw [List.length_append, ht1] <;> rfl, fun t ht => ?_, (hp5.wr nD).mono (by omega), ?_, ?_⟩
      · rw [List.length_map]
        exact sl2 _ (by omega)
      · rcases List.mem_append.mp ht with z | z
        · exact ht2 t z
        · obtain rfl := List.mem_singleton.mp z
          refine ⟨show 2 ≤ 3 by decide, fun e he => ?_⟩
          have he' : e ∈ [c, d] := he
          have z1 : ∀ c ∈ (Str.ofString "^ ab09_z").cps.toList, c < 128 := by decide +kernel
          have z2 : ∀ c ∈ (Str.ofString "$ ab09_z").cps.toList, c < 128 := by decide +kernel
          rcases List.mem_cons.mp he' with rfl | he'
          · exact z1 _ hc
          · obtain rfl := List.mem_singleton.mp he'
            exact z2 _ hd
      · intro b o nb hb
        have nbD : b ≠ D := fun z => by
          have q1 := k2' b o nb hb
          rw [z, hD] at q1
          cases q1
        rw [upd_ne nbD]
        exact k5 b o nb (k4 b o nb (k3 b o nb hb))
      · rw [upd_same, List.map_append] <;> rfl
    obtain ⟨ts, ht1, ht2, hp3, k3, e3⟩ := hP
    have nD : D ≠ p := hp2.ne hD
    have lts : ts.length ≤ 5 := by omega
    have hp3 := hp3.mono (show n + 2 + 2 * (j : Int) ≤ n + 12 by omega)
    clear hp2 k2 k2' hD hp1 k1
    -- sorted, at times
    refine ⟨fun σ H4 => ∃ (ts : List Str) (S : Addr), σ = [some (.ref p), some (.int r), some (.str LS), none, none, some (.ref S), none, none] ∧ (∀ t ∈ ts, okT t) ∧ ts.length ≤ 5 ∧ H4 S = some (.lst (ts.map V.str)) ∧ S ≠ p ∧ Pot H4 p (n + 13) ∧ Kp p H H4, ?_, fun σ H4 hM => ?_⟩
    · refine ⟨.ref p, rfl, p, _, 3, rfl, hp3, by omega, by decide, by decide, fun r2 H4 q0 q1 hp4 k4 => ⟨_, _, rfl, rfl, _, rfl, ite2 (fun h => ?_) (fun h => ?_)⟩⟩
      · have e4 := k4 D _ nD e3
        have tb := toSet_len ts
        refine ⟨.ref D, rfl, D, ts, rfl, .inl (.inl (.inl e4)), Nat.lt_of_le_of_lt (show ts.length + 1 ≤ 6 by omega) (by decide), fun S nS => ?_⟩
        refine ⟨S, _, rfl, upd_same, Nat.lt_of_le_of_lt (show (toSet ts).length ≤ 5 by omega) (by decide), fun ys S2 h1 h2 n2 => ?_⟩
        refine ⟨ys, S2, rfl, fun t ht => ht2 t (toSet_mem.mp (h2.mem_iff.mp ht)), by have := h2.length_eq; omega, upd_same, (hp4.up nS).ne n2, (((hp4.up nS).up n2).mono (by omega)), k3.trans (k4.trans ((Kp.same (Same.upd nS)).trans (Kp.same (Same.upd n2))))⟩
      · exact ⟨ts, D, rfl, ht2, lts, k4 D _ nD e3, nD, hp4.mono (by omega), k3.trans k4⟩
    obtain ⟨ts, S, rfl, ht2, lts, eS, nS, hp4, k4⟩ := hM
    clear e3 hp3 k3 nD
    -- with a wrong one, at times
    refine ⟨fun σ H5 => ∃ (vs : List V) (ds : List PyData) (S : Addr) (y4 y6 : Option V), σ = [some (.ref p), some (.int r), some (.str LS), none, y4, some (.ref S), y6, none] ∧ OdAll false p H5 vs ds ∧ (∀ d ∈ ds, Sm 20 3 d) ∧ vs.length ≤ 11 ∧ H5 S = some (.lst vs) ∧ S ≠ p ∧ Pot H5 p (n + 20) ∧ Kp p H H5, ?_, fun σ H5 hM => ?_⟩
    · have smt : ∀ us : List Str, (∀ t ∈ us, t ∈ ts) → ∀ d ∈ us.map PyData.str, Sm 20 3 d := fun us hu d hd => by
        obtain ⟨t, h1, rfl⟩ := List.mem_map.mp hd
        obtain ⟨h2, h3⟩ := ht2 t (hu t h1)
        exact (sm_str (n := 20) h3 (by omega)).mono (Nat.le_refl _) (by decide)
      refine ⟨.ref p, rfl, p, _, 3, rfl, hp4, by omega, by decide, by decide, fun r3 H5 q0 q1 hp5 k5 => ⟨rfl, _, rfl, ite2 (fun h => ?_) (fun h => ?_)⟩⟩
      · have eS5 := k5 S _ nS eS
        refine ⟨sl 2 (by decide), fun T nT => ⟨sl 1 (by decide), fun L nL => ⟨sl 12 (by decide), fun W nW => ?_⟩⟩⟩
        have s3 := Same.upd (o := HO.lst [.str (Str.ofString ""), .str (Str.ofString "a"), .str (Str.ofString "abc"), .str (Str.ofString "$a"), .str (Str.ofString "a^"), .str (Str.ofString "aA"), .int 0, .non, .ref T, .str (Str.ofString "ab"), .str (Str.ofString "^$"), .ref L]) nW
        have s2 := (Same.upd (o := HO.lst [.str (Str.ofString "ab")]) nL).trans s3
        have s1 := (Same.upd (o := HO.tup [.str (Str.ofString "a"), .str (Str.ofString "b")]) nT).trans s2
        have nTp : T ≠ p := hp5.ne nT
        have nLp : L ≠ p := (hp5.up nT).ne nL
        have nWp : W ≠ p := ((hp5.up nT).up nL).ne nW
        have eT := s2 _ _ upd_same
        have eL := s3 _ _ upd_same
        have hp6 := sPotS s1 hp5
        have eS6 := s1 _ _ eS5
        have k6 : Kp p H _ := (k4.trans k5).trans (Kp.same s1)
        refine ⟨.ref p, rfl, .ref S, rfl, S, _, rfl, .inl (.inl (.inl eS6)), _, _, rfl, rfl, p, _, _, rfl, hp6, by omega, by rw [List.length_map]; omega, by rw [List.length_map]; omega, fun r4 H7 u0 u1 hp7 k7 => ?_⟩
        have eS7 := k7 S _ nS eS6
        obtain ⟨us1, ec1, hu1, lu1⟩ := cutV_strs ts none (some r4)
        obtain ⟨us2, ec2, hu2, lu2⟩ := cutV_strs ts (some r4) none
        refine ⟨.ref S, rfl, .int r4, rfl, r4, rfl, S, _, rfl, .inl (.inl eS7), fun A nA => ?_⟩
        have nAp : A ≠ p := hp7.ne nA
        have hp8 := hp7.up (o := HO.lst (cutV (ts.map V.str) none (some r4))) nA
        have s8 := Same.upd (o := HO.lst (cutV (ts.map V.str) none (some r4))) nA
        have eW8 := s8 _ _ (k7 W _ nWp upd_same)
        refine ⟨.ref p, rfl, .ref W, rfl, p, _, .ref W, rfl, hp8, by omega, .inr ⟨W, _, rfl, fun hK => .inl (.inl (hK W _ nWp eW8)), (show 0 < 12 by decide), (show 12 ≤ 1000 by decide), fun v H9 hv hp9 k9 => ⟨sl 1 (by decide), fun B nB => ?_⟩⟩⟩
        have eA9 := k9 A _ nAp upd_same
        have sB := Same.upd (o := HO.lst [v]) nB
        rw [ec1] at eA9
        refine ⟨A, B, _, _, rfl, rfl, sB _ _ eA9, upd_same, sl _ (by rw [List.length_map, List.length_singleton]; omega), fun C nC => ?_⟩
        have sC := Same.upd (o := HO.lst (us1.map V.str ++ [v])) nC
        have eS9 := sC _ _ (sB _ _ (k9 S _ nS (s8 _ _ eS7)))
        refine ⟨.ref S, rfl, .int r4, rfl, r4, rfl, S, _, rfl, .inl (.inl eS9), fun D2 nD2 => ?_⟩
        rw [ec2]
        have sD := Same.upd (o := HO.lst (us2.map V.str)) nD2
        refine ⟨C, D2, _, _, rfl, rfl, sD _ _ upd_same, upd_same, sl _ (by rw [List.length_append, List.length_map, List.length_map, List.length_singleton]; omega), fun E2 nE2 => ?_⟩
        have sE := Same.upd (o := HO.lst ((us1.map V.str ++ [v]) ++ us2.map V.str)) nE2
        have sZ := sB.trans (sC.trans (sD.trans sE))
        obtain ⟨d, od, sm⟩ : ∃ d, Od false p _ v d ∧ Sm 20 3 d := allc (P := fun v => ∃ d, Od false p _ v d ∧ Sm 20 3 d) ⟨_, .str _, sm_of2 (by decide +kernel)⟩ (allc ⟨_, .str _, sm_of2 (by decide +kernel)⟩ (allc ⟨_, .str _, sm_of2 (by decide +kernel)⟩ (allc ⟨_, .str _, sm_of2 (by decide +kernel)⟩ (allc ⟨_, .str _, sm_of2 (by decide +kernel)⟩ (allc ⟨_, .str _, sm_of2 (by decide +kernel)⟩
          (allc ⟨_, .int 0, sm_of2 (by decide +kernel)⟩ (allc ⟨_, .non, sm_of2 (by decide +kernel)⟩ (allc ⟨_, .tup nTp eT (.cons (.str _) (.cons (.str _) .nil)), sm_of2 (by decide +kernel)⟩ (allc ⟨_, .str _, sm_of2 (by decide +kernel)⟩ (allc ⟨_, .str _, sm_of2 (by decide +kernel)⟩ (allc ⟨_, .lst nLp (fun z => nomatch z) eL (.cons (.str _) .nil), sm_of2 (by decide +kernel)⟩ alln))))))))))) v hv
        have kk : Kp p _ _ := k7.trans ((Kp.same s8).trans (k9.trans (Kp.same sZ)))
        refine ⟨(us1.map V.str ++ [v]) ++ us2.map V.str, (us1.map PyData.str ++ [d]) ++ us2.map PyData.str, E2, _, _, rfl, ((OdAll.strs us1).app (.cons (od.mono kk) .nil)).app (OdAll.strs us2), fun e he => ?_, ?_, upd_same, ?_, ?_, k6.trans kk⟩
        · rcases List.mem_append.mp he with he | he
          · rcases List.mem_append.mp he with he | he
            · exact smt us1 hu1 e he
            · exact List.mem_singleton.mp he ▸ sm
          · exact smt us2 hu2 e he
        · rw [List.length_append, List.length_append, List.length_map, List.length_map, List.length_singleton]
          omega
        · exact (sPotS (sB.trans (sC.trans sD)) hp9).ne nE2
        · exact (sPotS sZ hp9).mono (by omega)
      · exact ⟨ts.map V.str, ts.map PyData.str, S, _, _, rfl, OdAll.strs ts, smt ts (fun _ z => z), by rw [List.length_map]; omega, k5 S _ nS eS, nS, hp5.mono (by omega), k4.trans k5⟩
    obtain ⟨vs, ds, S, y4, y6, rfl, oa, sma, lvs, eS, nS, hp5, k5⟩ := hM
    have lds : ds.length ≤ 11 := by
      rw [← oa.len]
      exact lvs
    -- what comes
    refine ⟨.ref p, rfl, .ref S, rfl, .inl ⟨S, _, rfl, .inl (.inl eS), fun T1 n1 => ?_⟩⟩
    have s1 := Same.upd (o := HO.tup vs) n1
    refine ⟨.ref S, rfl, .inl ⟨S, _, rfl, .inl (.inl (s1 _ _ eS)), fun T2 n2 => ?_⟩⟩
    have s2 := Same.upd (o := HO.tup vs) n2
    refine ⟨.ref S, rfl, .inl ⟨S, _, rfl, .inl (.inl (s2 _ _ (s1 _ _ eS))), fun T3 n3 => ?_⟩⟩
    have s3 := Same.upd (o := HO.tup vs) n3
    refine ⟨.ref S, rfl, sl 4 (by decide), fun L nL => ?_⟩
    have s4 := Same.upd (o := HO.lst [.ref T1, .ref T2, .ref T3, .ref S]) nL
    have hp6 := sPotS (s1.trans (s2.trans s3)) hp5
    refine ⟨p, _, .ref L, rfl, sPotS s4 hp6, by omega, .inr ⟨L, _, rfl, fun hK => .inl (.inl (hK L _ (hp6.ne nL) upd_same)), (show 0 < 4 by decide), (show 4 ≤ 1000 by decide), fun v H' hv hp' k' => ?_⟩⟩
    have sA := s1.trans (s2.trans (s3.trans s4))
    have oaE := oa.mono fun b o _ z => sA b o z
    obtain ⟨d, od, sm⟩ : ∃ d, Od false p _ v d ∧ Sm 400 20 d := allc (P := fun v => ∃ d, Od false p _ v d ∧ Sm 400 20 d) ⟨_, .tup (hp5.ne n1) ((s2.trans (s3.trans s4)) _ _ upd_same) oaE, sm_tup sma lds⟩ (allc ⟨_, .tup ((sPotS s1 hp5).ne n2) ((s3.trans s4) _ _ upd_same) oaE, sm_tup sma lds⟩
      (allc ⟨_, .tup ((sPotS (s1.trans s2) hp5).ne n3) (s4 _ _ upd_same) oaE, sm_tup sma lds⟩ (allc ⟨_, .lst nS (fun z => nomatch z) (sA _ _ eS) oaE, sm_lst sma lds⟩ alln))) v hv
    exact q v false d H' (od.mono k') sm (hp'.mono (by omega)) (k5.trans ((Kp.same sA).trans k'))
end
end Sf
namespace Sf
open PySem PySem.Spec PyProof.Rows L2
/-! ### calls by keywords alone -/
def tKwO (n : Nat) (sp : Sp) (pm : List V → List V) (tk : TA) : TE := fun σ H Q => tk σ H fun zs H1 => zs.length = n ∧ sp (pm zs) H1 Q E0
theorem pe_kwO {X : Cx} {k : Nat} {f : Addr} {fd : FuncData} {ps ks : List Str} {sp : Sp} {x : Str} {p pos : Pos} {kws : List Keyword} {tk : TA} {pm : List V → List V} {pw : List Value → List Value} (F : FnOk X.prog X.w X.K X.mg X.base CX0 k f fd ps sp) (room : Room k X.A) (hg : Gl X x) (hm : X.mg x = some (.ref f))
    (kp : PySem.W.keepIn X.K (.ref f) = true) (hb : ∀ (s : Shared) (ws : List Value), ws.length = ks.length → BindsTo s fd ⟨[], ks.zip ws⟩ (ps.zip (pw ws))) (hp : ∀ {zs : List V} {ws : List Value}, Vals zs ws → zs.length = ks.length → Vals (pm zs) (pw ws)) (hx : Passes CX0 X E0) (hkw : PK X kws tk)
    (hall : (backToKw pos (keywordEach kws X.env)).all (·.1.isSome) = true := by rfl) (hks : (backToKw pos (keywordEach kws X.env)).filterMap (·.1) = ks := by rfl) (hdb : (x == ("__debug__" : Str)) = false := by decide)
    (hpl : ((backTo pos (starEach [] X.env)).any (·.1) || (backToKw pos (keywordEach kws X.env)).any (·.1.isNone)) = false := by rfl) : PE X (.Call (.Name x p) [] kws pos) (tKwO ks.length sp pm tk) :=
  ⟨fun pins sh σ Hh W I prom => wpAny_Call_Name_kw (ld_glob I hg hm
    (PySem.W.callWith_KW0 (h₀ := X.base) I.ok.mod.kin kp hall (thn (hkw.run pos pins sh σ Hh _ I prom) fun ws s2 ⟨zs, H2, I2, rz, lz, q2⟩ => ⟨I2.kIn, by
      rw [hks]
      refine wpAny_call (codeAny_mono (F.run X.A X.stack s2 H2 ⟨[], ks.zip ws⟩ (pw ws) (pm zs) W E0 room I2.env0 (hb s2 ws (by rw [← rz.length]; exact lz)) (hp rz lz) q2) fun r s3 ends => ?_)
      match r, ends with
      | .error ex, z => exact hx pins σ H2 s2 ex s3 I2 z
      | .ok (.ret u), z => exact I2.after z
      | .ok .next, z => exact z.elim
      | .ok .brk, z => exact z.elim
      | .ok .cont, z => exact z.elim⟩) hpl) hdb)⟩
theorem kw_binds {K : PySem.W.Frag} {x qual : Str} {st : Stmt} {f : Addr} {fd : FuncData} {ps ks : List Str} {pw : List Value → List Value} (F : Fun K x qual st f fd)
    (h : ∀ (kV doc pm : Value) (an : Option Addr) (cdv ct : Value) (ws : List Value), ws.length = ks.length → bindArgs (PySem.W.fnOf x qual (defArgs st) (defBody st) (defScope st) .none kV doc pm an cdv ct) ⟨[], ks.zip ws⟩ = pure (ps.zip (pw ws))) :
    ∀ (s : Shared) (ws : List Value), ws.length = ks.length → BindsTo s fd ⟨[], ks.zip ws⟩ (ps.zip (pw ws)) := by
  obtain ⟨oc, od, kV, doc, pm, an, cdv, ct, osl, rfl, _⟩ := F.ex
  exact fun s ws hl => .of_eq (h kV doc pm an cdv ct ws hl)
abbrev sRight : Stmt := topS 18
abbrev sLaw : Stmt := topS 19
def NRight : List Str := ["_law_pot_here", "_law_turn", "_law_thing_here", "_law_kept", "_law_due", "_law_told"]
theorem scRight : FnScope NRight ["_law_pot_here"] (defScope sRight) := ⟨rfl, rfl, rfl, by decide +kernel, rfl, by decide +kernel, by decide +kernel⟩
theorem scLaw : FnScope ["_law_script", "_law_k", "_law_pot_here"] ["_law_script"] (defScope sLaw) := ⟨rfl, rfl, rfl, by decide +kernel, rfl, by decide +kernel, by decide +kernel⟩
section
variable {P : Program} {w : World} {K : PySem.W.Frag} {mg : Str → Option Value} {base : Heap}
def spRight : Sp := fun vs H Q _ => ∃ p : Addr, vs = [.ref p] ∧ Pot H p 0 ∧ ∀ H', Kp p H H' → Q (.bl true) H'
def four (a b : Bool) : PyData := .list [.bool a, .bool a, .bool b, .bool b]
theorem sm_four (a b : Bool) : Sm 10 2 (four a b) := by
  cases a <;> cases b <;> exact ⟨rfl, rfl, by decide +kernel, by decide +kernel⟩
theorem str_ne {A B : Prop} {x : Str} (h : B) : if (!decide (V.str x = V.str x)) = true then A else B := by
  rw [decide_eq_true rfl]
  exact iteF h
theorem ok_right {f fT fI fS fLI fLS : Addr} {fd dT dI dS dLI dLS : FuncData} {k : Nat} (F : Fun K "_law_right" "_law_right" sRight f fd) (FT : Fun K "_law_thing" "_law_thing" sThing fT dT) (bT : Binds K dT ["_law_pot_here"] []) (gT : mg "_law_thing" = some (.ref fT)) (GT : FnOk P w K mg base CX0 k fT dT ["_law_pot_here"] spThing)
    (FI : Fun K "is_text" "is_text" sIsText fI dI) (bI : Binds K dI ["value"] []) (gI : mg "is_text" = some (.ref fI)) (GI : FnOk P w K mg base CX0 k fI dI ["value"] (spDat dTx))
    (FS : Fun K "is_pair_set" "is_pair_set" sIsSet fS dS) (bS : Binds K dS ["value"] []) (gS : mg "is_pair_set" = some (.ref fS)) (GS : FnOk P w K mg base CX0 k fS dS ["value"] (spDat dSet))
    (FLI : Fun K "_law_is_text" "_law_is_text" sLIsText fLI dLI) (bLI : Binds K dLI ["_law_thing_here"] []) (gLI : mg "_law_is_text" = some (.ref fLI)) (GLI : FnOk P w K mg base CX0 k fLI dLI ["_law_thing_here"] (spDat dTx))
    (FLS : Fun K "_law_is_set" "_law_is_set" sLIsSet fLS dLS) (bLS : Binds K dLS ["_law_thing_here"] []) (gLS : mg "_law_is_set" = some (.ref fLS)) (GLS : FnOk P w K mg base CX0 k fLS dLS ["_law_thing_here"] (spDat dSet))
    (mr : mg "range" = none) (mp : mg "repr" = none) : FnG P w K mg base (k + 1) f fd ["_law_pot_here"] spRight := by
  have kI := kw_binds (ps := ["value"]) (ks := ["value"]) (pw := fun ws => ws) FI fun _ _ _ _ _ _ ws hl => match ws, hl with | [_], _ => rfl
  have kS := kw_binds (ps := ["value"]) (ks := ["value"]) (pw := fun ws => ws) FS fun _ _ _ _ _ _ ws hl => match ws, hl with | [_], _ => rfl
  refine okG F scRight (fun vs H Q E h => ?_) (fun cdv A outer s H vs Q E hr hgd h => ?_)
  · obtain ⟨p, rfl, _⟩ := h
    rfl
  · obtain ⟨p, rfl, hp, q⟩ := h
    have hu := hr.units
    refine ⟨_, pss_cons (ps_for PassesOwn.never rfl (pi_range1 rfl mr (pa_cons pe_int pa_nil)) (pg_name (i := 1) scRight.nd rfl (.inl rfl))
        (pss_cons (ps_set (i := 2) scRight.nd rfl (.inl rfl) (pe_call GT hr (by rfl) gT FT.kp bT .nil pass0 (pa_cons (pv 0) pa_nil)))
        (pss_cons (ps_set (i := 3) scRight.nd rfl (.inl rfl) (pe_callB (cr_repr hgd hu) (by rfl) mp (by decide +kernel) (pa_cons (pv 2) pa_nil)))
        (pss_cons (ps_set (i := 4) scRight.nd rfl (.inl rfl) (pe_lst (pa_cons (pe_call GLI hr (by rfl) gLI FLI.kp bLI .nil pass0 (pa_cons (pv 2) pa_nil)) (pa_cons (pe_call GLI hr (by rfl) gLI FLI.kp bLI .nil pass0 (pa_cons (pv 2) pa_nil))
          (pa_cons (pe_call GLS hr (by rfl) gLS FLS.kp bLS .nil pass0 (pa_cons (pv 2) pa_nil)) (pa_cons (pe_call GLS hr (by rfl) gLS FLS.kp bLS .nil pass0 (pa_cons (pv 2) pa_nil)) pa_nil))))))
        (pss_cons (ps_set (i := 5) scRight.nd rfl (.inl rfl) (pe_lst (pa_cons (pe_call GI hr (by rfl) gI FI.kp bI .nil pass0 (pa_cons (pv 2) pa_nil)) (pa_cons (pe_kwO (ks := ["value"]) (pm := fun zs => zs) GI hr (by rfl) gI FI.kp kI (fun r _ => r) pass0 (pk_cons (pv 2) pk_nil))
          (pa_cons (pe_call GS hr (by rfl) gS FS.kp bS .nil pass0 (pa_cons (pv 2) pa_nil)) (pa_cons (pe_kwO (ks := ["value"]) (pm := fun zs => zs) GS hr (by rfl) gS FS.kp kS (fun r _ => r) pass0 (pk_cons (pv 2) pk_nil)) pa_nil))))))
        (pss_one (ps_if (PW.pt (pw_or (pt_cmpR op_ne (pe_callB (cr_repr hgd hu) (by rfl) mp (by decide +kernel) (pa_cons (pv 5) pa_nil)) (pe_callB (cr_repr hgd hu) (by rfl) mp (by decide +kernel) (pa_cons (pv 4) pa_nil)) (nomark _))
            (pw_or1 (pt_cmpR op_ne (pe_callB (cr_repr hgd hu) (by rfl) mp (by decide +kernel) (pa_cons (pv 2) pa_nil)) (pv 3) (nomark _)))))
            (pss_one (ps_ret pe_bl)) pss_nil)))))))
      (pss_one (ps_ret pe_bl)), ?_⟩
    have sl : ∀ n : Nat, n ≤ 20000 → n ≤ sizeLine := fun n h => Nat.le_trans h (by decide)
    refine ⟨_, rfl, by decide, by decide, ?_⟩
    refine for_it (walk_range (lo := 0) (n := 60)) (fun i σ H2 => ∃ y1 y2 y3 y4 y5, σ = [some (.ref p), y1, y2, y3, y4, y5] ∧ Pot H2 p (60 * (i : Int)) ∧ Kp p H H2)
      ⟨none, none, none, none, none, rfl, hp.mono (by omega), Kp.refl p H⟩ (fun _ _ _ _ _ => True.intro) (fun i x σ H2 H2' hi hP hy => ?_) (fun σ H2 hP => ?_)
    · obtain ⟨y1, y2, y3, y4, y5, rfl, hp2, k2⟩ := hP
      obtain ⟨rfl, rfl⟩ := hy
      refine ⟨.ref p, rfl, p, _, rfl, hp2, by omega, fun v g d H3 od sm hp3 k3 => ?_⟩
      have hw : d.weight ≤ 2000 := Nat.le_trans sm.wt (by decide)
      have mo : ∀ {Ha Hb : Hp}, Same Ha Hb → Od g p Ha v d → Od g p Hb v d := fun s o => o.mono fun b u _ z => s b u z
      refine ⟨v, rfl, v, g, p, d, 400, 20, rfl, od, sm, by decide, by decide, ?_⟩
      refine ⟨v, rfl, v, g, p, d, rfl, od, hw, fun H4 s4 => ⟨v, rfl, v, g, p, d, rfl, mo s4 od, hw, fun H5 s5 => ⟨v, rfl, v, g, p, d, rfl, mo (s4.trans s5) od, hw, fun H6 s6 => ⟨v, rfl, v, g, p, d, rfl, mo (s4.trans (s5.trans s6)) od, hw, fun H7 s7 => ⟨sl 4 (by decide), fun D nD => ?_⟩⟩⟩⟩⟩
      have sA : Same H3 H7 := s4.trans (s5.trans (s6.trans s7))
      have nDp : D ≠ p := (sPotS sA hp3).ne nD
      have sD := Same.upd (o := HO.lst [.bl (dTx d), .bl (dTx d), .bl (dSet d), .bl (dSet d)]) nD
      have sB := sA.trans sD
      refine ⟨v, rfl, v, g, p, d, rfl, mo sB od, hw, fun H8 s8 => ⟨v, rfl, rfl, v, g, p, d, rfl, mo (sB.trans s8) od, hw, fun H9 s9 => ⟨v, rfl, v, g, p, d, rfl, mo (sB.trans (s8.trans s9)) od, hw, fun H10 s10 => ⟨v, rfl, rfl, v, g, p, d, rfl, mo (sB.trans (s8.trans (s9.trans s10))) od, hw, fun H11 s11 => ⟨sl 4 (by decide), fun T nT => ?_⟩⟩⟩⟩⟩
      have sC : Same _ H11 := s8.trans (s9.trans (s10.trans s11))
      have nTp : T ≠ p := (sPotS (sB.trans sC) hp3).ne nT
      have sT := Same.upd (o := HO.lst [.bl (dTx d), .bl (dTx d), .bl (dSet d), .bl (dSet d)]) nT
      have sE := sB.trans (sC.trans sT)
      refine ⟨.ref T, rfl, .ref T, false, p, four (dTx d) (dSet d), 10, 2, rfl, .lst nTp (fun z => nomatch z) upd_same (.cons (.bl _) (.cons (.bl _) (.cons (.bl _) (.cons (.bl _) .nil)))), sm_four _ _, by decide, by decide,
        .ref D, rfl, .ref D, false, p, four (dTx d) (dSet d), 10, 2, rfl, .lst nDp (fun z => nomatch z) ((sC.trans sT) _ _ upd_same) (.cons (.bl _) (.cons (.bl _) (.cons (.bl _) (.cons (.bl _) .nil)))), sm_four _ _, by decide, by decide, rfl, _, rfl, str_ne ?_⟩
      refine ⟨v, rfl, v, g, p, d, 400, 20, rfl, mo sE od, sm, by decide, by decide, .str d.shown, rfl, rfl, _, rfl, str_ne ?_⟩
      exact ⟨_, _, _, _, _, rfl, (sPotS sE hp3).mono (by omega), k2.trans (k3.trans (Kp.same sE))⟩
    · exact q H2 (by
        obtain ⟨_, _, _, _, _, _, _, k⟩ := hP
        exact k)
end
end Sf
namespace Sf
open PySem PySem.Spec PyProof.Rows L2
section
variable {P : Program} {w : World} {K : PySem.W.Frag} {mg : Str → Option Value} {base : Heap}
def spLaw (K : PySem.W.Frag) : Sp := fun vs H Q _ => ∃ (a : Addr) (ns : List Int), vs = [.ref a] ∧ SqL K H a (ns.map V.int) ∧ ns.length ≤ 63 ∧ ∀ H', Q (.bl true) H'
theorem turns_le (n : Nat) : ∃ m : Nat, (if (if (n : Int) < 3 then (n : Int) else 3) > 1 then (if (n : Int) < 3 then (n : Int) else 3) else 1) = (m : Int) ∧ m ≤ 3 := by
  by_cases h3 : (n : Int) < 3
  · rw [if_pos h3]
    by_cases h1 : (n : Int) > 1
    · rw [if_pos h1]
      exact ⟨n, rfl, by omega⟩
    · rw [if_neg h1]
      exact ⟨1, rfl, by omega⟩
  · rw [if_neg h3]
    exact ⟨3, rfl, by omega⟩
theorem ok_law {f fP fR : Addr} {fd fdP fdR : FuncData} {k : Nat} (F : Fun K "law" "law" sLaw f fd)
    (FP : Fun K "_law_pot" "_law_pot" sPot fP fdP) (bP : Binds K fdP ["_law_script", "_law_k"] []) (gP : mg "_law_pot" = some (.ref fP)) (GP : FnOk P w K mg base CX0 k fP fdP ["_law_script", "_law_k"] (spPot K))
    (FR : Fun K "_law_right" "_law_right" sRight fR fdR) (bR : Binds K fdR ["_law_pot_here"] []) (gR : mg "_law_right" = some (.ref fR)) (GR : FnG P w K mg base k fR fdR ["_law_pot_here"] spRight)
    (mr : mg "range" = none) (mx : mg "max" = none) (mn : mg "min" = none) (ml : mg "len" = none) : FnG P w K mg base (k + 1) f fd ["_law_script"] (spLaw K) := by
  refine okG F scLaw (fun vs H Q E h => ?_) (fun cdv A outer s H vs Q E hr hgd h => ?_)
  · obtain ⟨a, ns, rfl, _⟩ := h
    rfl
  · obtain ⟨a, ns, rfl, hS, hlen, q⟩ := h
    refine ⟨_, pss_cons (ps_for PassesOwn.never rfl (pi_range1 rfl mr (pa_cons (pe_callB (call_max2 rfl) (by rfl) mx (by decide +kernel) (pa_cons pe_int (pa_cons
          (pe_callB (call_min2 rfl) (by rfl) mn (by decide +kernel) (pa_cons pe_int (pa_cons (pe_callB call_len_seq (by rfl) ml PySem.boot_len (pa_cons (pv 0) pa_nil)) pa_nil))) pa_nil))) pa_nil)) (pg_name (i := 1) scLaw.nd rfl (.inl rfl))
        (pss_cons (ps_set (i := 2) scLaw.nd rfl (.inl rfl) (pe_call GP hr (by rfl) gP FP.kp bP .nil pass0 (pa_cons (pv 0) (pa_cons (pv 1) pa_nil))))
        (pss_one (ps_if (pt_not (pt_val (pe_callG GR hr hgd (by rfl) gR FR.kp bR (pa_cons (pv 2) pa_nil) pass0))) (pss_one (ps_ret pe_bl)) pss_nil))))
      (pss_one (ps_ret pe_bl)), ?_⟩
    refine ⟨.ref a, rfl, a, _, rfl, .inl hS, 3, _, rfl, 1, _, rfl, ?_⟩
    rw [List.length_map]
    obtain ⟨m, em, lm⟩ := turns_le ns.length
    rw [em]
    refine ⟨_, rfl, by omega, by omega, ?_⟩
    refine for_it (walk_range (lo := 0) (n := m)) (fun i σ H2 => ∃ y1 y2, σ = [some (.ref a), y1, y2] ∧ SqL K H2 a (ns.map V.int)) ⟨none, none, rfl, hS⟩ (fun _ _ _ _ _ => True.intro) (fun i x σ H2 H2' hi hP hy => ?_) (fun σ H2 hP => ?_)
    · obtain ⟨y1, y2, rfl, hS2⟩ := hP
      obtain ⟨rfl, rfl⟩ := hy
      refine ⟨.ref a, rfl, _, rfl, a, ns, i, by
        show [V.ref a, V.int ((0 : Int) + (i : Nat))] = _
        rw [Int.zero_add], hS2, by omega, fun p H3 np s3 hp3 => ?_⟩
      refine ⟨.ref p, rfl, p, rfl, hp3, fun H4 k4 => ⟨true, rfl, iteF ?_⟩⟩
      have s4 : Same H2' H4 := fun b o hb => k4 b o (fun z => by
        rw [z, np] at hb
        cases hb) (s3 b o hb)
      exact ⟨_, _, rfl, s4.seq hS2⟩
    · exact q H2
end
end Sf
namespace Sf
open PySem PySem.Spec PyProof.Rows L2
theorem all_mk {l : PySem.W.OpenLaw} {w : World} {K : PySem.W.Frag} {h : Heap} {mg : Str → Option Value} {fa f0 f1 f2 f3 f4 f5 f6 f7 f8 f9 f10 f11 f12 f13 f14 : Addr} (X : K.In h) (G : h.Ns mainGlobals mg) (hfa : mg "law" = some (.ref fa))
    {od0 an0 od1 an1 od2 an2 od3 an3 od4 an4 od5 an5 od6 an6 od7 an7 od8 an8 od9 an9 od10 an10 od11 an11 od12 an12 od13 an13 od14 an14 : Option Addr} {sl0 sl1 sl2 sl3 sl4 sl5 sl6 sl7 sl8 sl9 sl10 sl11 sl12 sl13 sl14 : Array (Option Value)} {oc0 kV0 dc0 pm0 cd0 ct0 oc1 kV1 dc1 pm1 cd1 ct1 oc2 kV2 dc2 pm2 cd2 ct2 oc3 kV3 dc3 pm3 cd3 ct3 oc4 kV4 dc4 pm4 cd4 ct4 oc5 kV5 dc5 pm5 cd5 ct5 oc6 kV6 dc6 pm6 cd6 ct6 oc7 kV7 dc7 pm7 cd7 ct7 oc8 kV8 dc8 pm8 cd8 ct8 oc9 kV9 dc9 pm9 cd9 ct9 oc10 kV10 dc10 pm10 cd10 ct10 oc11 kV11 dc11 pm11 cd11 ct11 oc12 kV12 dc12 pm12 cd12 ct12 oc13 kV13 dc13 pm13 cd13 ct13 oc14 kV14 dc14 pm14 cd14 ct14 : Value}
    {tk0 tk1 tk2 : Tok}
    (a0 : PySem.W.nsIn K mainGlobals "is_text" = some (some (.ref f0))) (l0 : K.lookup f0 = some ⟨oc0, od0, .func (PySem.W.fnOf "is_text" "is_text" (defArgs sIsText) (defBody sIsText) (defScope sIsText) .none kV0 dc0 pm0 an0 cd0 ct0), sl0⟩) (c0 : PySem.W.codeIn K cd0 "is_text" = true) (k0 : PySem.W.keepIn K (.ref f0) = true)
    (a1 : PySem.W.nsIn K mainGlobals "is_pair" = some (some (.ref f1))) (l1 : K.lookup f1 = some ⟨oc1, od1, .func (PySem.W.fnOf "is_pair" "is_pair" (defArgs sIsPair) (defBody sIsPair) (defScope sIsPair) .none kV1 dc1 pm1 an1 cd1 ct1), sl1⟩) (c1 : PySem.W.codeIn K cd1 "is_pair" = true) (k1 : PySem.W.keepIn K (.ref f1) = true)
    (a2 : PySem.W.nsIn K mainGlobals "is_pair_set" = some (some (.ref f2))) (l2 : K.lookup f2 = some ⟨oc2, od2, .func (PySem.W.fnOf "is_pair_set" "is_pair_set" (defArgs sIsSet) (defBody sIsSet) (defScope sIsSet) .none kV2 dc2 pm2 an2 cd2 ct2), sl2⟩) (c2 : PySem.W.codeIn K cd2 "is_pair_set" = true) (k2 : PySem.W.keepIn K (.ref f2) = true)
    (a3 : PySem.W.nsIn K mainGlobals "_law_pot" = some (some (.ref f3))) (l3 : K.lookup f3 = some ⟨oc3, od3, .func (PySem.W.fnOf "_law_pot" "_law_pot" (defArgs sPot) (defBody sPot) (defScope sPot) .none kV3 dc3 pm3 an3 cd3 ct3), sl3⟩) (c3 : PySem.W.codeIn K cd3 "_law_pot" = true) (k3 : PySem.W.keepIn K (.ref f3) = true)
    (a4 : PySem.W.nsIn K mainGlobals "_law_draw" = some (some (.ref f4))) (l4 : K.lookup f4 = some ⟨oc4, od4, .func (PySem.W.fnOf "_law_draw" "_law_draw" (defArgs sDraw) (defBody sDraw) (defScope sDraw) .none kV4 dc4 pm4 an4 cd4 ct4), sl4⟩) (c4 : PySem.W.codeIn K cd4 "_law_draw" = true) (k4 : PySem.W.keepIn K (.ref f4) = true)
    (a5 : PySem.W.nsIn K mainGlobals "_law_any" = some (some (.ref f5))) (l5 : K.lookup f5 = some ⟨oc5, od5, .func (PySem.W.fnOf "_law_any" "_law_any" (defArgs sAny) (defBody sAny) (defScope sAny) .none kV5 dc5 pm5 an5 cd5 ct5), sl5⟩) (c5 : PySem.W.codeIn K cd5 "_law_any" = true) (k5 : PySem.W.keepIn K (.ref f5) = true)
    (a6 : PySem.W.nsIn K mainGlobals "_law_all_letters" = some (some (.ref f6))) (l6 : K.lookup f6 = some ⟨oc6, od6, .func (PySem.W.fnOf "_law_all_letters" "_law_all_letters" (defArgs sLets) (defBody sLets) (defScope sLets) .none kV6 dc6 pm6 an6 cd6 ct6), sl6⟩) (c6 : PySem.W.codeIn K cd6 "_law_all_letters" = true) (k6 : PySem.W.keepIn K (.ref f6) = true)
    (a7 : PySem.W.nsIn K mainGlobals "_law_text" = some (some (.ref f7))) (l7 : K.lookup f7 = some ⟨oc7, od7, .func (PySem.W.fnOf "_law_text" "_law_text" (defArgs sText) (defBody sText) (defScope sText) .none kV7 dc7 pm7 an7 cd7 ct7), sl7⟩) (c7 : PySem.W.codeIn K cd7 "_law_text" = true) (k7 : PySem.W.keepIn K (.ref f7) = true)
    (a8 : PySem.W.nsIn K mainGlobals "_law_odd" = some (some (.ref f8))) (l8 : K.lookup f8 = some ⟨oc8, od8, .func (PySem.W.fnOf "_law_odd" "_law_odd" (defArgs sOdd) (defBody sOdd) (defScope sOdd) .none kV8 dc8 pm8 an8 cd8 ct8), sl8⟩) (c8 : PySem.W.codeIn K cd8 "_law_odd" = true) (k8 : PySem.W.keepIn K (.ref f8) = true)
    (a9 : PySem.W.nsIn K mainGlobals "_law_is_text" = some (some (.ref f9))) (l9 : K.lookup f9 = some ⟨oc9, od9, .func (PySem.W.fnOf "_law_is_text" "_law_is_text" (defArgs sLIsText) (defBody sLIsText) (defScope sLIsText) .none kV9 dc9 pm9 an9 cd9 ct9), sl9⟩) (c9 : PySem.W.codeIn K cd9 "_law_is_text" = true) (k9 : PySem.W.keepIn K (.ref f9) = true)
    (a10 : PySem.W.nsIn K mainGlobals "_law_is_pair" = some (some (.ref f10))) (l10 : K.lookup f10 = some ⟨oc10, od10, .func (PySem.W.fnOf "_law_is_pair" "_law_is_pair" (defArgs sLIsPair) (defBody sLIsPair) (defScope sLIsPair) .none kV10 dc10 pm10 an10 cd10 ct10), sl10⟩) (c10 : PySem.W.codeIn K cd10 "_law_is_pair" = true) (k10 : PySem.W.keepIn K (.ref f10) = true)
    (a11 : PySem.W.nsIn K mainGlobals "_law_is_set" = some (some (.ref f11))) (l11 : K.lookup f11 = some ⟨oc11, od11, .func (PySem.W.fnOf "_law_is_set" "_law_is_set" (defArgs sLIsSet) (defBody sLIsSet) (defScope sLIsSet) .none kV11 dc11 pm11 an11 cd11 ct11), sl11⟩) (c11 : PySem.W.codeIn K cd11 "_law_is_set" = true) (k11 : PySem.W.keepIn K (.ref f11) = true)
    (a12 : PySem.W.nsIn K mainGlobals "_law_thing" = some (some (.ref f12))) (l12 : K.lookup f12 = some ⟨oc12, od12, .func (PySem.W.fnOf "_law_thing" "_law_thing" (defArgs sThing) (defBody sThing) (defScope sThing) .none kV12 dc12 pm12 an12 cd12 ct12), sl12⟩) (c12 : PySem.W.codeIn K cd12 "_law_thing" = true) (k12 : PySem.W.keepIn K (.ref f12) = true)
    (a13 : PySem.W.nsIn K mainGlobals "_law_right" = some (some (.ref f13))) (l13 : K.lookup f13 = some ⟨oc13, od13, .func (PySem.W.fnOf "_law_right" "_law_right" (defArgs sRight) (defBody sRight) (defScope sRight) .none kV13 dc13 pm13 an13 cd13 ct13), sl13⟩) (c13 : PySem.W.codeIn K cd13 "_law_right" = true) (k13 : PySem.W.keepIn K (.ref f13) = true)
    (a14 : PySem.W.nsIn K mainGlobals "law" = some (some (.ref f14))) (l14 : K.lookup f14 = some ⟨oc14, od14, .func (PySem.W.fnOf "law" "law" (defArgs sLaw) (defBody sLaw) (defScope sLaw) .none kV14 dc14 pm14 an14 cd14 ct14), sl14⟩) (c14 : PySem.W.codeIn K cd14 "law" = true) (k14 : PySem.W.keepIn K (.ref f14) = true)
    (z0 : PySem.W.nsIn K mainGlobals "isinstance" = some none)
    (z1 : PySem.W.nsIn K mainGlobals "str" = some none)
    (z2 : PySem.W.nsIn K mainGlobals "all" = some none)
    (z3 : PySem.W.nsIn K mainGlobals "tuple" = some none)
    (z4 : PySem.W.nsIn K mainGlobals "sorted" = some none)
    (z5 : PySem.W.nsIn K mainGlobals "set" = some none)
    (z6 : PySem.W.nsIn K mainGlobals "int" = some none)
    (z7 : PySem.W.nsIn K mainGlobals "abs" = some none)
    (z8 : PySem.W.nsIn K mainGlobals "len" = some none)
    (z9 : PySem.W.nsIn K mainGlobals "range" = some none)
    (z10 : PySem.W.nsIn K mainGlobals "max" = some none)
    (z11 : PySem.W.nsIn K mainGlobals "min" = some none)
    (z12 : PySem.W.nsIn K mainGlobals "repr" = some none)
    (v0 : PySem.W.nsIn K mainGlobals "LETTERS" = some (some (.str (Str.ofString " 0123456789_abcdefghijklmnopqrstuvwxyz") tk0)))
    (v1 : PySem.W.nsIn K mainGlobals "BEGIN" = some (some (.str (Str.ofString "^") tk1)))
    (v2 : PySem.W.nsIn K mainGlobals "END" = some (some (.str (Str.ofString "$") tk2)))
    : ∃ fd : FuncData, (∀ (s : Shared) (v : Value), BindsTo s fd ⟨[v], []⟩ [("_law_script", v)]) ∧ ∀ base : Heap, K.In base → base.Ns mainGlobals mg → FnG l.prog w K mg base 6 fa fd ["_law_script"] (spLaw K) := by
  have e := hfa.symm.trans (PySem.W.mg_of X G a14)
  cases e
  have F0 := fun_mk (st := sIsText) l0 c0 k0
  have b0 := F0.binds (ps := ["value"]) fun _ _ _ _ _ _ us hl => match us, hl with | [_], _ => rfl
  have g0 := PySem.W.mg_of X G a0
  have F1 := fun_mk (st := sIsPair) l1 c1 k1
  have b1 := F1.binds (ps := ["value"]) fun _ _ _ _ _ _ us hl => match us, hl with | [_], _ => rfl
  have g1 := PySem.W.mg_of X G a1
  have F2 := fun_mk (st := sIsSet) l2 c2 k2
  have b2 := F2.binds (ps := ["value"]) fun _ _ _ _ _ _ us hl => match us, hl with | [_], _ => rfl
  have g2 := PySem.W.mg_of X G a2
  have F3 := fun_mk (st := sPot) l3 c3 k3
  have b3 := F3.binds (ps := ["_law_script", "_law_k"]) fun _ _ _ _ _ _ us hl => match us, hl with | [_, _], _ => rfl
  have g3 := PySem.W.mg_of X G a3
  have F4 := fun_mk (st := sDraw) l4 c4 k4
  have b4 := F4.binds (ps := ["_law_pot_here", "_law_many"]) fun _ _ _ _ _ _ us hl => match us, hl with | [_, _], _ => rfl
  have g4 := PySem.W.mg_of X G a4
  have F5 := fun_mk (st := sAny) l5 c5 k5
  have b5 := F5.binds (ps := ["_law_pot_here", "_law_items"]) fun _ _ _ _ _ _ us hl => match us, hl with | [_, _], _ => rfl
  have g5 := PySem.W.mg_of X G a5
  have F6 := fun_mk (st := sLets) l6 c6 k6
  have b6 := F6.binds (ps := []) fun _ _ _ _ _ _ us hl => match us, hl with | [], _ => rfl
  have g6 := PySem.W.mg_of X G a6
  have F7 := fun_mk (st := sText) l7 c7 k7
  have b7 := F7.binds (ps := ["_law_pot_here", "_law_letters", "_law_most"]) fun _ _ _ _ _ _ us hl => match us, hl with | [_, _, _], _ => rfl
  have g7 := PySem.W.mg_of X G a7
  have F8 := fun_mk (st := sOdd) l8 c8 k8
  have b8 := F8.binds (ps := ["_law_pot_here"]) fun _ _ _ _ _ _ us hl => match us, hl with | [_], _ => rfl
  have g8 := PySem.W.mg_of X G a8
  have F9 := fun_mk (st := sLIsText) l9 c9 k9
  have b9 := F9.binds (ps := ["_law_thing_here"]) fun _ _ _ _ _ _ us hl => match us, hl with | [_], _ => rfl
  have g9 := PySem.W.mg_of X G a9
  have F10 := fun_mk (st := sLIsPair) l10 c10 k10
  have b10 := F10.binds (ps := ["_law_thing_here"]) fun _ _ _ _ _ _ us hl => match us, hl with | [_], _ => rfl
  have g10 := PySem.W.mg_of X G a10
  have F11 := fun_mk (st := sLIsSet) l11 c11 k11
  have b11 := F11.binds (ps := ["_law_thing_here"]) fun _ _ _ _ _ _ us hl => match us, hl with | [_], _ => rfl
  have g11 := PySem.W.mg_of X G a11
  have F12 := fun_mk (st := sThing) l12 c12 k12
  have b12 := F12.binds (ps := ["_law_pot_here"]) fun _ _ _ _ _ _ us hl => match us, hl with | [_], _ => rfl
  have g12 := PySem.W.mg_of X G a12
  have F13 := fun_mk (st := sRight) l13 c13 k13
  have b13 := F13.binds (ps := ["_law_pot_here"]) fun _ _ _ _ _ _ us hl => match us, hl with | [_], _ => rfl
  have g13 := PySem.W.mg_of X G a13
  have F14 := fun_mk (st := sLaw) l14 c14 k14
  have g14 := PySem.W.mg_of X G a14
  have m_isinstance := PySem.W.mg_none_of X G z0
  have m_str := PySem.W.mg_none_of X G z1
  have m_all := PySem.W.mg_none_of X G z2
  have m_tuple := PySem.W.mg_none_of X G z3
  have m_sorted := PySem.W.mg_none_of X G z4
  have m_set := PySem.W.mg_none_of X G z5
  have m_int := PySem.W.mg_none_of X G z6
  have m_abs := PySem.W.mg_none_of X G z7
  have m_len := PySem.W.mg_none_of X G z8
  have m_range := PySem.W.mg_none_of X G z9
  have m_max := PySem.W.mg_none_of X G z10
  have m_min := PySem.W.mg_none_of X G z11
  have m_repr := PySem.W.mg_none_of X G z12
  have c_LETTERS := PySem.W.mg_of X G v0
  have c_BEGIN := PySem.W.mg_of X G v1
  have c_END := PySem.W.mg_of X G v2
  refine ⟨PySem.W.fnOf "law" "law" (defArgs sLaw) (defBody sLaw) (defScope sLaw) .none kV14 dc14 pm14 an14 cd14 ct14, fun s v => .of_eq rfl, fun base _ _ => ?_⟩
  have GI := ok_isText (P := l.prog) (w := w) (base := base) (k := 3) F0 m_isinstance m_str m_all c_LETTERS
  have GP := ok_isPair (P := l.prog) (w := w) (base := base) (k := 2) F1 m_isinstance m_str m_len c_LETTERS c_BEGIN c_END
  have GS := ok_isSet (k := 2) F2 F1 b1 g1 GP m_isinstance m_tuple m_all m_sorted m_set
  have GD1 := ok_draw (P := l.prog) (w := w) (base := base) (k := 0) F4 m_int
  have GD2 := ok_draw (P := l.prog) (w := w) (base := base) (k := 1) F4 m_int
  have GD3 := ok_draw (P := l.prog) (w := w) (base := base) (k := 2) F4 m_int
  have GA2 := ok_any (k := 0) F5 F4 b4 g4 GD1 m_len
  have GA3 := ok_any (k := 1) F5 F4 b4 g4 GD2 m_len
  have GT := ok_text (k := 0) F7 F4 b4 g4 GD2 F5 b5 g5 GA2 m_range
  have GL1 := ok_lets (P := l.prog) (w := w) (K := K) (mg := mg) (base := base) (k := 0) F6
  have GL2 := ok_lets (P := l.prog) (w := w) (K := K) (mg := mg) (base := base) (k := 1) F6
  have GL3 := ok_lets (P := l.prog) (w := w) (K := K) (mg := mg) (base := base) (k := 2) F6
  have GO := ok_odd (k := 2) F8 F5 b5 g5 GA2 m_range
  have GLI := ok_lisText (k := 2) F9 F6 b6 g6 GL3 m_isinstance m_str m_all
  have GLP := ok_lisPair (k := 1) F10 F6 b6 g6 GL2 m_isinstance m_str m_len
  have GLS := ok_lisSet (k := 1) F11 F10 b10 g10 GLP m_isinstance m_tuple m_all m_range m_len
  have GTh := ok_thing (k := 3) F12 F5 b5 g5 GA3 F4 b4 g4 GD3 F6 b6 g6 GL3 F7 b7 g7 GT F8 b8 g8 GO m_range m_len m_tuple m_sorted m_set
  have GPot := ok_pot (P := l.prog) (w := w) (base := base) (k := 4) F3 m_int m_abs m_len
  have GR := ok_right (k := 4) F13 F12 b12 g12 GTh F0 b0 g0 GI F2 b2 g2 GS F9 b9 g9 GLI F11 b11 g11 GLS m_range m_repr
  exact ok_law (k := 5) F14 F3 b3 g3 GPot F13 b13 g13 GR m_range m_max m_min m_len
end Sf
open PySem PySem.W PyProof.Rows
set_option maxHeartbeats 0 in
theorem PySem.Challenge.cw_siftstore_k01_texts_and_pair_sets_holds : PySem.Challenge.rw_siftstore_k01_texts_and_pair_sets.Holds := by
  w_on; o_law; k_head; (case hw => w_witness2)
  k_fill
  refine Sf.walk_G (l := PySem.Challenge.rw_siftstore_k01_texts_and_pair_sets) (n := 63) (k := 6) (x := "_law_script") (sp := fun w => Sf.spLaw _) rfl (by decide) rfl ⟨rfl, by decide, by decide⟩ (fun w h Y => PySem.W.kIn_of Y) ?F (fun _ _ a ns hl hS => ⟨a, ns, rfl, hS, hl, fun _ => rfl⟩)
  case F =>
    intro w mg fa h KX G hmg
    refine' Sf.all_mk KX G hmg ?a0 ?l0 ?c0 ?k0 ?a1 ?l1 ?c1 ?k1 ?a2 ?l2 ?c2 ?k2 ?a3 ?l3 ?c3 ?k3 ?a4 ?l4 ?c4 ?k4 ?a5 ?l5 ?c5 ?k5 ?a6 ?l6 ?c6 ?k6 ?a7 ?l7 ?c7 ?k7 ?a8 ?l8 ?c8 ?k8 ?a9 ?l9 ?c9 ?k9 ?a10 ?l10 ?c10 ?k10 ?a11 ?l11 ?c11 ?k11 ?a12 ?l12 ?c12 ?k12 ?a13 ?l13 ?c13 ?k13 ?a14 ?l14 ?c14 ?k14 ?z0 ?z1 ?z2 ?z3 ?z4 ?z5 ?z6 ?z7 ?z8 ?z9 ?z10 ?z11 ?z12 ?v0 ?v1 ?v2
    (case a0 => k_is); (case l0 => k_is); (case c0 => k_is); (case k0 => k_is); (case a1 => k_is); (case l1 => k_is); (case c1 => k_is); (case k1 => k_is); (case a2 => k_is); (case l2 => k_is); (case c2 => k_is); (case k2 => k_is); (case a3 => k_is); (case l3 => k_is); (case c3 => k_is); (case k3 => k_is); (case a4 => k_is); (case l4 => k_is); (case c4 => k_is); (case k4 => k_is); (case a5 => k_is); (case l5 => k_is); (case c5 => k_is); (case k5 => k_is); (case a6 => k_is); (case l6 => k_is); (case c6 => k_is); (case k6 => k_is); (case a7 => k_is); (case l7 => k_is); (case c7 => k_is); (case k7 => k_is); (case a8 => k_is); (case l8 => k_is); (case c8 => k_is); (case k8 => k_is); (case a9 => k_is); (case l9 => k_is); (case c9 => k_is); (case k9 => k_is); (case a10 => k_is); (case l10 => k_is); (case c10 => k_is); (case k10 => k_is); (case a11 => k_is); (case l11 => k_is); (case c11 => k_is); (case k11 => k_is); (case a12 => k_is); (case l12 => k_is); (case c12 => k_is); (case k12 => k_is); (case a13 => k_is); (case l13 => k_is); (case c13 => k_is); (case k13 => k_is); (case a14 => k_is); (case l14 => k_is); (case c14 => k_is); (case k14 => k_is); (case z0 => k_is); (case z1 => k_is); (case z2 => k_is); (case z3 => k_is); (case z4 => k_is); (case z5 => k_is); (case z6 => k_is); (case z7 => k_is); (case z8 => k_is); (case z9 => k_is); (case z10 => k_is); (case z11 => k_is); (case z12 => k_is); (case v0 => k_is); (case v1 => k_is); (case v2 => k_is)
