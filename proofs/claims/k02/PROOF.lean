import PyProof.Rows.All
import Wide.All
import OpenK.AllK
import Wide.FinOn
import PySem.Challenge.RW_siftstore_k02_pairs_of_texts
import HandS.ForMost
import HandS.Set
import HandS.SetFor
import HandS.SetTxt0
import PyProof.Rows.SortShellAny
import KE.GoesEnum
import HandS.Walk
import HandS.Ends
import HandS.IsInst
import HandS.Dict
import PyProof.ReprLen
import HandS.ExcInit
import KE.KExcSuper
import HandS.TryOnly
import HandS.ExcField
import HandS.ExcIs
import KE.KExcIs
import HandS.Lambda
import HandS.EndOwn
import HandS.NestedK
import HandS.Wide
import HandS.Steps
import HandS.TupAny
import HandS.Conv
import HandS.Evl
import HandS.WordsExc
set_option Elab.async false
set_option linter.all false
set_option maxRecDepth 100000
/-! Sets of texts: set(list or tuple of texts), sorted of such a set, at any size below the scan's. -/
namespace Sf
open PySem PySem.Spec PyProof.Rows L2 PySem.Froz
/-- the members behind one more text -/
def insT (l : List Str) (x : Str) : List Str := if x ∈ l then l else x :: l
theorem insT_nodup {l : List Str} {x : Str} (h : l.Nodup) : (insT l x).Nodup := by
  unfold insT
  split
  · exact h
  · rename_i hx
    exact List.nodup_cons.mpr ⟨hx, h⟩
theorem insT_mem {l : List Str} {x y : Str} : y ∈ insT l x ↔ y ∈ l ∨ y = x := by
  unfold insT
  split
  · rename_i hx
    exact ⟨.inl, fun z => z.elim id fun e => e ▸ hx⟩
  · rw [List.mem_cons]
    exact Or.comm
theorem insT_len {l : List Str} {x : Str} : (insT l x).length ≤ l.length + 1 := by
  unfold insT
  split
  · omega
  · exact Nat.le_refl _
def toSet (xs : List Str) : List Str := xs.foldl insT []
theorem fold_mem (y : Str) : ∀ (xs l : List Str), y ∈ xs.foldl insT l ↔ y ∈ l ∨ y ∈ xs
  | [], l => by simp
  | x :: r, l => by
    rw [List.foldl_cons, fold_mem y r, insT_mem, List.mem_cons]
    constructor
    · rintro ((h | h) | h)
      · exact .inl h
      · exact .inr (.inl h)
      · exact .inr (.inr h)
    · rintro (h | h | h)
      · exact .inl (.inl h)
      · exact .inl (.inr h)
      · exact .inr h
theorem toSet_mem {y : Str} {xs : List Str} : y ∈ toSet xs ↔ y ∈ xs := by
  unfold toSet
  rw [fold_mem]
  simp
theorem toSet_snoc (xs : List Str) (x : Str) : toSet (xs ++ [x]) = insT (toSet xs) x := by
  unfold toSet
  rw [List.foldl_append] <;> rfl
section
variable {P : Program} {w : World} {A : Around} {E : Value → Shared → Prop} {s : Shared}
theorem addTx_ris {h : Int} {v : Value} {D : SD} (r : Ris D.2.2.place.toList) : Ris (addTx h v D).2.2.place.toList ∧ (addTx h v D).2.2.led = D.2.2.led := by
  have r1 := layNew_ris D.2.2 D.1 h v r
  have l1 := layNew_led D.2.2 D.1 h v
  unfold addTx tailTx
  generalize layNew D.2.2 D.1 h v = L at r1 l1
  have hp : (if L.2.1.plain = true then { L.2.1 with plain := false } else L.2.1).place = L.2.1.place := by split <;> rfl
  have hl : (if L.2.1.plain = true then { L.2.1 with plain := false } else L.2.1).led = L.2.1.led := by split <;> rfl
  generalize (if L.2.1.plain = true then { L.2.1 with plain := false } else L.2.1) = t2 at hp hl
  split
  · exact ⟨relayAll_ris _ _ _, (relayAll_led _ _ _).trans (hl.trans l1)⟩
  · exact ⟨by show Ris t2.place.toList; rw [hp]; exact r1, hl.trans l1⟩
/-- at a stands a set of just the texts l, each once, which can be walked -/
def TxSet (P : Program) (w : World) (h : Heap) (a : Addr) (l : List Str) : Prop :=
  ∃ D : SD, h.get? a = some (sObj "set" D) ∧ TxOk P w D l ∧ l.Nodup ∧ Ris D.2.2.place.toList ∧ (w.params.followText "set-order" = true ∨ D.2.2.led = true)
theorem TxSet.at {h h' : Heap} {a : Addr} {l : List Str} (R : TxSet P w h a l) (k : ∀ o, h.get? a = some o → h'.get? a = some o) : TxSet P w h' a l := by
  obtain ⟨D, e, r⟩ := R
  exact ⟨D, k _ e, r⟩
theorem TxSet.new {h : Heap} {a : Addr} (e : h.get? a = some { cls := .type "set", dict := none, data := .set #[] 0 (.fresh 0 0 (!w.params.followText "set-order")) }) : TxSet P w h a [] := by
  refine ⟨(#[], 0, .fresh 0 0 (!w.params.followText "set-order")), e, TxOk.nil (by rfl), List.nodup_nil, List.Pairwise.nil, ?_⟩
  show _ ∨ (!w.params.followText "set-order") = true
  cases w.params.followText "set-order"
  · exact .inr rfl
  · exact .inl rfl
/-- a text that is in is not laid again -/
theorem add_held {a : Addr} {D : SD} {l : List Str} {k : Str} {u : Tok} {Q : Bool → Shared → Prop} (ho : s.heap.get? a = some (sObj "set" D)) (F : TxOk P w D l) (hk : k ∈ l) (hb : l.length < scanBound)
    (h : ∀ b, Q b s) : wpAny (model P w) A (setAddHashed a (.str k u) (hashStr w k)) Q E s := by
  obtain ⟨es, ep, t⟩ := D
  have sz : es.size < scanBound := by
    have e : es.size = l.length := F.sz
    omega
  obtain ⟨e, he, hi⟩ := (F.mem k).mp hk
  cases hf : List.findIdx? (fun e => (strKind P w).is k e.2) es.toList with
  | none =>
    have c := List.findIdx?_eq_none_iff.mp hf e he
    rw [hi] at c
    cases c
  | some j =>
    unfold setAddHashed setAddHashedIn
    refine wpAny_holding (wpAny_bind (wpAny_setState_of ho rfl F.fit ?_))
    dsimp only
    rw [byScan_of rfl sz F.el]
    simp only [↓reduceIte]
    unfold setAddByScan
    refine wpAny_bind (wpAny_bind (wpAny_rule (wpAny_bind (wpAny_setScan_of (knd := strKind P w) (k := k) (is_str k u) ho rfl F.fit F.el ?_))))
    rw [hf]
    exact wpAny_pure (wpAny_pure (h _))
/-- the set's add of any text -/
theorem add_any {a : Addr} {l : List Str} {k : Str} {u : Tok} {Q : Bool → Shared → Prop} (R : TxSet P w s.heap a l) (hb : l.length + 1 < scanBound)
    (h : ∀ b h', (∀ c o, c ≠ a → s.heap.get? c = some o → h'.get? c = some o) → TxSet P w h' a (insT l k) → Q b { s with heap := h', toks := s.toks + 1 }) :
    wpAny (model P w) A (setAdd a (.str k u)) Q E s := by
  obtain ⟨D, ho, F, nd, r, led⟩ := R
  unfold setAdd
  refine wpAny_holding (wpAny_bind ((strKind P w).pyHash (is_str k u) ?_))
  by_cases hk : k ∈ l
  · refine add_held (s := { s with toks := s.toks + 1 }) ho F hk (by omega) fun b => h b s.heap (fun _ _ _ e => e) ?_
    unfold insT
    rw [if_pos hk]
    exact ⟨D, ho, F, nd, r, led⟩
  · refine add_x (s := { s with toks := s.toks + 1 }) ho F hk hb (h true _ (fun c o ne e => (Heap.get?_update_other _ _ ne.symm).trans e) ?_)
    obtain ⟨r2, l2⟩ := addTx_ris (h := hashStr w k) (v := Value.str k u) r
    unfold insT
    rw [if_neg hk]
    exact ⟨_, get_upd _ ho rfl, add_ok u F, List.nodup_cons.mpr ⟨hk, nd⟩, r2, led.imp id fun z => l2.trans z⟩
/-- set.update's turns over a walk of texts -/
theorem upd_texts {I : Addr} {fp wr : List Addr} {xs : List Str} {Pv : Nat → Value → Prop} {St : Nat → Heap → Prop} {R : Result → Shared → Prop} (W : Walks P w A.in1 I fp wr xs.length Pv St) (a : Addr) (na : a ∉ fp)
    (hv : ∀ i v, Pv i v → ∃ x t, xs[i]? = some x ∧ v = .str x t) (hx : xs.length + 1 < scanBound) :
    ∀ (m i : Nat) (s : Shared), i + m = xs.length → St i s.heap → TxSet P w s.heap a (toSet (xs.take i)) →
      (∀ h' tk, (∀ b o, b ≠ a → b ∉ wr → s.heap.get? b = some o → h'.get? b = some o) → TxSet P w h' a (toSet xs) → R (.ok (.ret .none)) { s with heap := h', toks := tk }) →
      codeAny (model P w) A (.builtin "set.update.loop" ⟨[.ref a, .ref I], []⟩) R s := by
  have nw : a ∉ wr := fun z => na (W.sub _ z)
  intro m
  induction m with
  | zero =>
    intro i s e st T k
    have ei : i = xs.length := by omega
    subst ei
    rw [List.take_length] at T
    refine codeAny_builtin F.entry_set_update_loop ?_
    rw [Around.under_plainId F.plain_set_update_loop _]
    refine wpAny_bind (W.done s _ _ st fun h' tk kk => ?_)
    exact wpAny_pure (k h' tk (fun b o _ hb e => kk b o hb e) (T.at fun o e => kk a o nw e))
  | succ m ih =>
    intro i s e st T k
    have hi : i < xs.length := by omega
    refine codeAny_builtin F.entry_set_update_loop ?_
    rw [Around.under_plainId F.plain_set_update_loop _]
    refine wpAny_bind (W.item i s _ _ hi st fun v h1 tk1 hp st1 k1 => ?_)
    obtain ⟨x, t, hxi, rfl⟩ := hv i v hp
    have hlen : ∀ l : List Str, (toSet l).length ≤ l.length := fun l => by
      have q : ∀ (l acc : List Str), (l.foldl insT acc).length ≤ acc.length + l.length := by
        intro l
        induction l with
        | nil => intro acc; exact Nat.le_refl _
        | cons y r ih2 =>
          intro acc
          have b1 := ih2 (insT acc y)
          have b2 := insT_len (l := acc) (x := y)
          rw [List.foldl_cons, List.length_cons]
          omega
      have q2 := q l []
      rw [List.length_nil] at q2
      unfold toSet
      omega
    refine wpAny_bind (m := holding [Value.str x t] (setAdd a (.str x t))) (wpAny_holding (add_any (s := { s with heap := h1, toks := tk1 }) (T.at fun o e => k1 a o nw e) (by
      have b1 := hlen (xs.take i)
      rw [List.length_take] at b1
      omega) fun b h2 k2 T2 => ?_))
    refine wpAny_pure ⟨plainId_quiet F.plain_set_update_loop _, ih (i + 1) _ (by omega) (W.frame _ _ _ st1 fun b hb o e => k2 b o (fun z => na (z ▸ hb)) e) ?_ fun h3 tk3 k3 T3 => k h3 tk3 (fun b o nb hb e => k3 b o nb hb (k2 b o nb (k1 b o hb e))) T3⟩
    rw [List.take_add_one, hxi]
    show TxSet P w h2 a (toSet (xs.take i ++ [x]))
    rw [toSet_snoc]
    exact T2
/-- what is walked: a list or a tuple of texts -/
def SeqAt2 (s : Shared) (l : Addr) (xs : List Str) : Prop := ∃ items : Array Value, StrsAre items.toList xs ∧ (s.heap.IsList l items ∨ s.heap.IsTuple l items)
theorem strs_get : ∀ {us : List Value} {xs : List Str} {i : Nat} {v : Value}, StrsAre us xs → us[i]? = some v → ∃ x t, xs[i]? = some x ∧ v = .str x t
  | _, _, _, _, .nil, h => by simp at h
  | _, _, 0, _, .cons n t _, h => by
    rw [List.getElem?_cons_zero] at h
    exact ⟨n, t, rfl, (Option.some.inj h).symm⟩
  | _, _, i + 1, _, .cons n t r, h => by
    rw [List.getElem?_cons_succ] at h
    exact strs_get (i := i) r h
set_option maxHeartbeats 4000000 in
theorem call_setT {l : Addr} {xs : List Str} {Q : Value → Shared → Prop} (hh : A.handled = none) (hl : SeqAt2 s l xs) (hx : xs.length + 1 < scanBound)
    (h : ∀ (h' : Heap) (tk : Nat), (∀ b o, s.heap.get? b = some o → h'.get? b = some o) → TxSet P w h' s.heap.objs.size (toSet xs) → Q (.ref s.heap.objs.size) { s with heap := h', toks := tk }) :
    wpAny (model P w) A (call (.type "set") [.ref l]) Q E s := by
  obtain ⟨c, tl, hmro⟩ := PySem.F.called_set.mro
  have q1 := PySem.F.called_set.made
  have q2 := PySem.F.called_set.sub
  have q3 := PySem.F.called_set.notType
  have q4 := PySem.F.called_set.canCreate
  have q5 := PySem.F.typeCall_set_1 (.ref l)
  refine wpAny_call (codeAny_of_tree (wpAny_pure ⟨Code.quiet_builtin _ (by decide +kernel), codeAny_builtin PySem.F.entry_type_call ?_⟩))
  rw [Around.under_plain (weight_type_call_type "set" [.ref l] []) rfl]
  repeat (any_goals (first | assumption | wp_step))
  generalize hO : ({ cls := .type "set", dict := none, data := .set #[] 0 (.fresh 0 0 (!w.params.followText "set-order")) } : Obj) = O
  have hS : (s.heap.push O).get? s.heap.objs.size = some O := Heap.get?_push_size _ (by rw [← hO]; rfl)
  have hT : Shared.TypeIs { s with heap := s.heap.push O } (.ref s.heap.objs.size) "set" := ⟨_, hS, by rw [← hO]⟩
  refine codeAny_mono (code_set_led1 (.ref l) (E := E) (Q₁ := fun obj s₁ => obj = .ref s.heap.objs.size ∧ s₁ = { s with heap := s.heap.push O }) ⟨rfl, by rw [hO]⟩) fun r s₁ hr => ?_
  cases r with
  | error e => exact hr
  | ok fl =>
    cases fl with
    | ret obj =>
      obtain ⟨rfl, rfl⟩ := hr
      have q6 := PySem.F.called_set.init.lookup
      have q7 := PySem.F.called_set.init.bind (.ref s.heap.objs.size)
      repeat (any_goals (first | assumption | wp_step))
      refine codeAny_mono (codeAny_call_builtin (R := wants (fun r s₂ => r = .none ∧ ∃ h' tk, s₂ = { s with heap := h', toks := tk } ∧ (∀ b o, s.heap.get? b = some o → h'.get? b = some o) ∧ TxSet P w h' s.heap.objs.size (toSet xs)) E)
        PySem.F.called_set.init.plain PySem.F.entry_set_init (check_set_init_1 hT ?_)) fun r₂ s₂ hr₂ => ?_
      · have hneI : ∀ {b : Addr} {o : Obj}, s.heap.get? b = some o → b ≠ (s.heap.push O).objs.size := fun e => by
          rw [Heap.size_push]
          exact Nat.ne_of_lt (Nat.lt_succ_of_lt (Heap.lt_size e))
        have hh3 : A.in1.in1.in1.handled = none := by simp [hh]
        have fin : ∀ (h' : Heap) (tk : Nat), (∀ b o, b ≠ s.heap.objs.size → b ∉ [(s.heap.push O).objs.size] → ((s.heap.push O)).get? b = some o → h'.get? b = some o) → ∀ b o, s.heap.get? b = some o → h'.get? b = some o := fun h' tk k b o e =>
          k b o (Nat.ne_of_lt (Heap.lt_size e)) (fun z => hneI e (List.mem_singleton.mp z)) (Heap.get?_push_of_some _ e)
        obtain ⟨items, hi, hli⟩ := hl
        have hsz : items.size = xs.length := by rw [← StrsAre.length hi, Array.length_toList]
        have hv : ∀ (i : Nat) (v : Value), items[i]? = some v → ∃ x t, xs[i]? = some x ∧ v = .str x t := fun i v e => strs_get hi (by rw [Array.getElem?_toList]; exact e)
        rcases hli with hli | hli
        · obtain ⟨ol, hol, hcl, nl, hdl⟩ := id hli
          obtain ⟨ocls, odict, odata, oslots⟩ := ol
          simp only at hcl hdl
          subst hcl; subst hdl
          have hol' : (s.heap.push O).get? l = some { cls := .type "list", dict := odict, data := .seq items nl, slots := oslots } := Heap.get?_push_of_some _ hol
          have q8 := PySem.F.sub_list_set
          have q9 := PySem.F.sub_list_frozenset
          have q10 : (Value.type "list" == Value.type "dict") = false := by decide
          have hl1 : (s.heap.push O).IsList l items := ⟨_, hol', rfl, nl, rfl⟩
          have nf : s.heap.objs.size ∉ [(s.heap.push O).objs.size, l] := by
            rw [Heap.size_push, List.mem_cons, List.mem_singleton, not_or]
            exact ⟨Nat.ne_of_lt (Nat.lt_succ_self _), Nat.ne_of_gt (Heap.lt_size hol)⟩
          have W := Walks.list (prog := P) (w := w) hh3 (s.heap.push O).objs.size l (hneI hol) items
          rw [hsz] at W
          subst hO
          unfold Builtin.«set.__init__» noKeywords Builtin.Frozenset.updateFrom
          generalize hPI : pyIter = PI
          wp_walk
          subst hPI
          refine wpAny_pyIter_list hl1 ?_
          refine wpAny_bind (wpAny_runValue ?_)
          refine upd_texts W s.heap.objs.size nf hv hx xs.length 0 _ (Nat.zero_add _) ⟨⟨_, Heap.get?_push_size _ rfl, rfl, rfl⟩, hl1.push _⟩ (TxSet.new (Heap.get?_push_of_some _ hS)) fun h' tk k T => ?_
          exact wpAny_pure (wpAny_pure ⟨rfl, h', tk, rfl, fin h' tk fun b o n1 n2 e => k b o n1 n2 (Heap.get?_push_of_some _ e), T⟩)
        · obtain ⟨ol, hol, hcl, nl, hdl⟩ := id hli
          obtain ⟨ocls, odict, odata, oslots⟩ := ol
          simp only at hcl hdl
          subst hcl; subst hdl
          have hol' : (s.heap.push O).get? l = some { cls := .type "tuple", dict := odict, data := .seq items nl, slots := oslots } := Heap.get?_push_of_some _ hol
          have q8 := PySem.F.sub_tuple_set
          have q9 := PySem.F.sub_tuple_frozenset
          have q10 : (Value.type "tuple" == Value.type "dict") = false := by decide
          have hl1 : (s.heap.push O).IsTuple l items := ⟨_, hol', rfl, nl, rfl⟩
          have nf : s.heap.objs.size ∉ [(s.heap.push O).objs.size, l] := by
            rw [Heap.size_push, List.mem_cons, List.mem_singleton, not_or]
            exact ⟨Nat.ne_of_lt (Nat.lt_succ_self _), Nat.ne_of_gt (Heap.lt_size hol)⟩
          have W := Walks.tuple (prog := P) (w := w) hh3 (s.heap.push O).objs.size l (hneI hol) items
          rw [hsz] at W
          subst hO
          unfold Builtin.«set.__init__» noKeywords Builtin.Frozenset.updateFrom
          generalize hPI : pyIter = PI
          wp_walk
          subst hPI
          refine wpAny_pyIter_tuple hl1 ?_
          refine wpAny_bind (wpAny_runValue ?_)
          refine upd_texts W s.heap.objs.size nf hv hx xs.length 0 _ (Nat.zero_add _) ⟨⟨_, Heap.get?_push_size _ rfl, rfl, rfl⟩, hl1.push _⟩ (TxSet.new (Heap.get?_push_of_some _ hS)) fun h' tk k T => ?_
          exact wpAny_pure (wpAny_pure ⟨rfl, h', tk, rfl, fin h' tk fun b o n1 n2 e => k b o n1 n2 (Heap.get?_push_of_some _ e), T⟩)
      · cases r₂ with
        | error e => exact hr₂
        | ok fl₂ =>
          cases fl₂ with
          | ret r =>
            obtain ⟨rfl, h', tk, rfl, k, T⟩ := hr₂
            repeat (any_goals (first | assumption | wp_step))
            exact h _ _ k T
          | _ => exact hr₂.elim
    | _ => exact hr.elim
end
end Sf
namespace Sf
open PySem PySem.Spec PyProof.Rows L2 PySem.Froz
section
variable {P : Program} {w : World} {A : Around} {E : Value → Shared → Prop} {s : Shared}
/-- the texts of the entries -/
theorem rows_strs : ∀ (l : List (Int × Value)), (∀ e ∈ l, ∃ x t, e.2 = Value.str x t) → ∃ xs, StrsAre (l.map (·.2)) xs
  | [], _ => ⟨[], .nil⟩
  | e :: l, h => by
    obtain ⟨x, t, ex⟩ := h e List.mem_cons_self
    obtain ⟨xs, r⟩ := rows_strs l fun u hu => h u (List.mem_cons_of_mem _ hu)
    refine ⟨x :: xs, ?_⟩
    rw [List.map_cons, ex]
    exact .cons x t r
theorem strs_mem : ∀ {us : List Value} {xs : List Str}, StrsAre us xs → ∀ k : Str, k ∈ xs ↔ ∃ v ∈ us, (Value.isStrOf k v) = true
  | _, _, .nil, k => by simp
  | _, _, .cons n t r, k => by
    rw [List.mem_cons, strs_mem r k]
    constructor
    · rintro (h | ⟨v, hv, e⟩)
      · exact ⟨.str n t, List.mem_cons_self, by rw [h]; simp [Value.isStrOf]⟩
      · exact ⟨v, List.mem_cons_of_mem _ hv, e⟩
    · rintro ⟨v, hv, e⟩
      rcases List.mem_cons.mp hv with rfl | hv
      · left
        obtain ⟨t', e'⟩ := Value.isStrOf_shape e
        injection e' with e1 _
        exact e1.symm
      · exact .inr ⟨v, hv, e⟩
theorem strs_perm {us vs : List Value} (p : us.Perm vs) : ∀ {xs : List Str}, StrsAre vs xs → ∃ ys, StrsAre us ys ∧ ys.Perm xs := by
  induction p with
  | nil => intro xs h; exact ⟨xs, h, .refl _⟩
  | cons v p ih =>
    intro xs h
    cases h with
    | cons n t r =>
      obtain ⟨ys, h1, h2⟩ := ih r
      exact ⟨n :: ys, .cons n t h1, h2.cons n⟩
  | swap u v l =>
    intro xs h
    cases h with
    | cons n t r =>
      cases r with
      | cons m t2 r2 => exact ⟨m :: n :: _, .cons m t2 (.cons n t r2), .swap _ _ _⟩
  | trans p q ih1 ih2 =>
    intro xs h
    obtain ⟨ys, h1, h2⟩ := ih2 h
    obtain ⟨zs, h3, h4⟩ := ih1 h1
    exact ⟨zs, h3, h4.trans h2⟩
theorem perm_of_sub : ∀ (l m : List Str), l.Nodup → (∀ x ∈ l, x ∈ m) → m.length ≤ l.length → l.Perm m
  | [], m, _, _, h => by
    have e : m = [] := List.eq_nil_of_length_eq_zero (Nat.le_zero.mp h)
    rw [e]
  | x :: l, m, nd, sub, h => by
    obtain ⟨m1, m2, rfl⟩ := List.append_of_mem (sub x List.mem_cons_self)
    obtain ⟨n1, n2⟩ := List.nodup_cons.mp nd
    have p : l.Perm (m1 ++ m2) := perm_of_sub l (m1 ++ m2) n2 (fun y hy => by
      have q := sub y (List.mem_cons_of_mem _ hy)
      rw [List.mem_append, List.mem_cons] at q
      rw [List.mem_append]
      rcases q with q | q | q
      · exact .inl q
      · exact absurd (q ▸ hy) n1
      · exact .inr q) (by
      rw [List.length_append, List.length_cons, List.length_cons] at h
      rw [List.length_append]
      omega)
    exact (p.cons x).trans List.perm_middle.symm
set_option maxHeartbeats 2000000 in
theorem sorted_txset {a : Addr} {l : List Str} {Q : Value → Shared → Prop} (R : TxSet P w s.heap a l) (hh : A.handled = none) (hb : l.length < scanBound)
    (h : ∀ s' p (out : Array Value) (c : Nat) (ys : List Str), (∀ b o, s.heap.get? b = some o → s'.heap.get? b = some o) → s'.gens = s.gens → s'.os = s.os → s.heap.objs.size ≤ p →
      s'.heap.get? p = some (seqObj "list" out c) → StrsAre out.toList ys → sortedS ys = true → ys.Perm l → Q (.ref p) s') :
    wpAny (model P w) A (call (.builtin "sorted") [.ref a]) Q E s := by
  obtain ⟨⟨es, ep, t⟩, ho, F, nd, r, led⟩ := R
  have hsz : es.size = l.length := F.sz
  have hes : es.size < scanBound := by omega
  refine Calls.call_function_entry kind_sorted plain_sorted entry_sorted (args_sorted1 _) ?_
  unfold Builtin.«sorted»
  refine wpAny_bind (m := checkCount "sorted" 1 1 _) (wpAny_pure (wpAny_bind (collect_set (A := A.in1) hh ⟨_, ho, rfl, rfl⟩ F.fit hes r led fun s1 vs k1 hz g1 o1 pm0 => ?_)))
  have pm : vs.Perm (es.toList.map (·.2)) := pm0
  have hel : ∀ e ∈ es.toList, ∃ x t, e.2 = Value.str x t := fun e he => by
    obtain ⟨⟨k, hk, _⟩, _⟩ := F.el e he
    obtain ⟨t', e'⟩ := Value.isStrOf_shape (x := k) (v := e.2) hk
    exact ⟨k, t', e'⟩
  obtain ⟨xs0, hx0⟩ := rows_strs es.toList hel
  obtain ⟨xs, hxs, pxs⟩ := strs_perm pm hx0
  have len0 : xs0.length = l.length := by rw [← StrsAre.length hx0, List.length_map, Array.length_toList, hsz]
  have pl : xs0.Perm l := by
    have mem : ∀ k, k ∈ xs0 ↔ k ∈ l := fun k => by
      rw [strs_mem hx0 k]
      refine Iff.trans ?_ (F.mem k).symm
      constructor
      · rintro ⟨v, hv, e⟩
        obtain ⟨en, he, rfl⟩ := List.mem_map.mp hv
        exact ⟨en, he, e⟩
      · rintro ⟨en, he, e⟩
        exact ⟨en.2, List.mem_map.mpr ⟨en, he, rfl⟩, e⟩
    exact (perm_of_sub l xs0 nd (fun k hk => (mem k).mpr hk) (Nat.le_of_eq len0)).symm
  have vlen : vs.length ≤ sizeLine := by
    have q := pm.length_eq
    rw [List.length_map, Array.length_toList] at q
    exact Nat.le_trans (Nat.le_of_eq q) (fits_of_scanBound hes)
  refine wpAny_bind (wpAny_newList ?_ vlen)
  have hoL : (s1.heap.push (seqObj "list" vs.toArray 0)).get? s1.heap.objs.size = some (seqObj "list" vs.toArray 0) := Heap.get?_push_size _ rfl
  refine wpAny_bind (wpAny_holding (wpAny_call_entry slot_list_sort ⟨_, hoL, rfl⟩ entry_list_sort (list_sort_treeKAny strKind_oneLt hoL hxs.keysOf (fun v₁ v₂ rest e => keyKind_strs (by rw [← e]; exact hxs)) vlen fun st' a1 a2 => ⟨_, rfl, ?_⟩) (args_list_sort _)))
  obtain ⟨ys, y1, y2, y3⟩ := sorted_out_str hxs a1 a2
  obtain ⟨c, hc⟩ := sortedHeap_at (vs := vs) (out := (arrOf st').map (·.2)) hoL
  refine wpAny_pure ⟨_, rfl, h _ s1.heap.objs.size _ c ys (fun b u e => ?_) g1 o1 hz hc y1 y3 (y2.trans (pxs.trans pl))⟩
  have q := k1 b u e
  have hlt := Heap.lt_size q
  refine Eq.trans (sortedHeap_old (Nat.ne_of_lt hlt) ?_) (Heap.get?_push_of_some _ q)
  rw [size_push']
  exact Nat.lt_succ_of_lt hlt
end
section
variable {X : Cx}
/-- a set of the texts l at a -/
def SetTx (P : Program) (w : World) (a : Addr) (l : List Str) : HO := .ext fun h => TxSet P w h a l
theorem setTx_ok {P : Program} {w : World} {H : Hp} {h : Heap} {a : Addr} {l : List Str} (R : TxSet P w h a l) : ObjOk P w H h a (SetTx P w a l) := by
  have ⟨D, e, _⟩ := R
  exact ⟨R, ⟨_, e⟩, fun h1 h2 p k => TxSet.at p k⟩
/-- set(texts) -/
def rSetTx (K : PySem.W.Frag) (P : Program) (w : World) : List V → Hp → VK → Prop := fun vs H Q => ∃ (a : Addr) (xs : List Str), vs = [.ref a] ∧ (SqL K H a (xs.map V.str) ∨ SqT K H a (xs.map V.str)) ∧ xs.length + 1 < scanBound ∧
  ∀ p, H p = none → Q (.ref p) (upd H p (SetTx P w p (toSet xs)))
theorem cr_setTx (hc : X.calm = true) : CallR X (.type "set") (rSetTx X.K X.prog X.w) := by
  intro pins s σ H vs us Q I r h
  obtain ⟨a, xs, rfl, hs, hx, q⟩ := h
  rw [Vals.ref1 r]
  have hl : SeqAt2 s a xs := by
    rcases hs with hs | hs
    · obtain ⟨its, rv, pl, _⟩ := I.list hs
      exact ⟨its.toArray, rv.strs, .inl pl.isList⟩
    · obtain ⟨its, rv, pl, _⟩ := I.tuple hs
      obtain ⟨o, e1, e2, e3⟩ := pl
      exact ⟨its.toArray, rv.strs, .inr ⟨o, e1, e2, e3⟩⟩
  refine call_setT (I.ok.hd hc) hl hx fun h' tk k T => ?_
  exact ⟨.ref _, upd H s.heap.objs.size (SetTx X.prog X.w s.heap.objs.size (toSet xs)), I.laid (t' := tk) k (Nat.le_refl _) (setTx_ok T), rfl, q _ (I.hok.fresh (Nat.le_refl _))⟩
/-- sorted(set of texts) -/
def rSortedTx (P : Program) (w : World) : List V → Hp → VK → Prop := fun vs H Q => ∃ (a : Addr) (l : List Str), vs = [.ref a] ∧ H a = some (SetTx P w a l) ∧ l.length < scanBound ∧
  ∀ (ys : List Str) p, sortedS ys = true → ys.Perm l → H p = none → Q (.ref p) (upd H p (.lst (ys.map V.str)))
theorem cr_sortedTx (hc : X.calm = true) : CallR X (.builtin "sorted") (rSortedTx X.prog X.w) := by
  intro pins s σ H vs us Q I r h
  obtain ⟨a, l, rfl, ha, hb, q⟩ := h
  rw [Vals.ref1 r]
  refine sorted_txset (I.hok a _ ha).1 (I.ok.hd hc) hb fun s' p out c ys k g o hp hg hi h1 h2 => ?_
  have hn : H p = none := I.hok.fresh hp
  have hlen : (ys.map V.str).length ≤ sizeLine := by
    rw [List.length_map, h2.length_eq]
    exact fits_of_scanBound hb
  have e : s' = { s with heap := s'.heap, gens := s'.gens, drawn := s'.drawn, toks := s'.toks } := by
    cases s'
    cases s
    cases o
    rfl
  rw [e]
  exact ⟨.ref p, upd H p (.lst (ys.map V.str)), I.call (ch := []) (Un.laid k hp hn) (I.hok.laid k hp ⟨hlen, out.toList, c, vals_of_strs hi, hg⟩) (by rw [g]; exact I.bare) (fun _ z => nomatch z), rfl, q ys p h1 h2 hn⟩
/-- sorted(list of texts), any length -/
def rSortedTL (K : PySem.W.Frag) : List V → Hp → VK → Prop := fun vs H Q => ∃ (a : Addr) (xs : List Str), vs = [.ref a] ∧ SqL K H a (xs.map V.str) ∧
  ∀ (ys : List Str) p, sortedS ys = true → ys.Perm xs → H p = none → Q (.ref p) (upd H p (.lst (ys.map V.str)))
theorem cr_sortedTL : CallR X (.builtin "sorted") (rSortedTL X.K) := by
  intro pins s σ H vs us Q I r h
  obtain ⟨a, xs, rfl, hs, q⟩ := h
  obtain ⟨its, rv, hl, hz⟩ := I.list hs
  rw [Vals.ref1 r]
  refine sorted_strsAny hl.isList rv.strs (by rw [← rv.length]; exact hz) fun out ys h1 h2 h3 => ?_
  obtain ⟨ep, he⟩ := sortedAll_at s.heap its out
  have hlen : (ys.map V.str).length ≤ sizeLine := by
    rw [List.length_map, h2.length_eq]
    rw [List.length_map] at hz
    exact hz
  exact ⟨.ref _, upd H (s.heap.objs.size + 1) (.lst (ys.map V.str)), I.laid (t' := s.toks) (fun _ _ => sortedAll_old) (Nat.le_succ _) ⟨hlen, out.toList, ep, vals_of_strs h1, he⟩, rfl, q ys _ h3 h2 (I.hok.fresh (Nat.le_succ _))⟩
end
end Sf
namespace Sf
open PySem PySem.Spec PyProof.Rows L2
/-- two texts walked side by side, the signs in new pairs -/
def Itz2 (x y : Str) : It :=
  ⟨fun i _ => i < x.cps.size ∧ i < y.cps.size,
    fun i H v H' => ∃ T c d, v = .ref T ∧ H T = none ∧ H' = upd H T (.tup [.str ⟨#[c]⟩, .str ⟨#[d]⟩]) ∧ x.cps[i]? = some c ∧ y.cps[i]? = some d,
    fun i _ => i = min x.cps.size y.cps.size⟩
def StZ (x y : Str) (t u : Tok) (z TI TO i1 i2 : Addr) (i : Nat) (h : Heap) : Prop :=
  IsZip h z TI TO .none ∧ IsTupOf2 h TI (.ref i1) (.ref i2) ∧ (∃ a1 a2, IsTupOf2 h TO a1 a2) ∧ h.IsStrIter i1 (strIterType x) x t i ∧ h.IsStrIter i2 (strIterType y) y u i
theorem turn_zip2 {P : Program} {w : World} {K : PySem.W.Frag} {elts : List Expr} {kk : Nat} {tpos : Pos} {z TI TO i1 i2 : Addr} {x y : Str} {t u : Tok} (S : ZipSep2 z TI TO i1 i2 [i1] [i2]) :
    Turn P w K (.Tuple elts kk tpos) (Itz2 x y) [z, TI, TO, i1, i2] z (StZ x y t u z TI TO i1 i2) where
  mem := by simp
  obj := fun i h st c hc => by
    obtain ⟨hz, hTI, ⟨a1, a2, hTO⟩, ⟨o1, e1, _, d1⟩, ⟨o2, e2, _, d2⟩⟩ := st
    have e' : c = z ∨ c = TI ∨ c = TO ∨ c = i1 ∨ c = i2 := by simpa using hc
    rcases e' with q | q | q | q | q
    · rw [q]
      exact ⟨_, hz, fun v r => nomatch r⟩
    · rw [q]
      exact ⟨_, hTI, fun v r => nomatch r⟩
    · rw [q]
      exact ⟨_, hTO, fun v r => nomatch r⟩
    · exact ⟨o1, by rw [q]; exact e1, fun v r => nomatch d1.symm.trans r⟩
    · exact ⟨o2, by rw [q]; exact e2, fun v r => nomatch d2.symm.trans r⟩
  keep := fun i h h' st k => by
    obtain ⟨hz, hTI, ⟨a1, a2, hTO⟩, ⟨o1, e1, r1⟩, ⟨o2, e2, r2⟩⟩ := st
    exact ⟨k z (by simp) _ hz, k TI (by simp) _ hTI, ⟨a1, a2, k TO (by simp) _ hTO⟩, ⟨o1, k i1 (by simp) _ e1, r1⟩, ⟨o2, k i2 (by simp) _ e2, r2⟩⟩
  item := by
    intro X hP hw hK hc i pins s σ H E I hf st hg
    subst hP hw hK
    have W := WalksT.zipD2 (prog := X.prog) (w := X.w) (A := X.A) S (Draws.text (A := X.A.in1) (I.ok.hd hc) i1 x t) (Draws.text (A := X.A.in1) (I.ok.hd hc) i2 y u)
    refine W.item i s _ _ (by have a1 := hg.1; have a2 := hg.2; omega) st fun T vals h1 tk1 hp hT hI hm k1 => ?_
    obtain ⟨v1, v2, ⟨c, t1, hc1, rfl⟩, ⟨d, t2, hd1, rfl⟩, rfl⟩ := hp
    refine ⟨_, rfl, W.go elts kk tpos i T { s with heap := h1, toks := tk1 } _ _ hm fun h2 st2 k2 => ?_⟩
    have hlt : ∀ b ∈ [z, TI, TO, i1, i2], b < s.heap.objs.size := by
      obtain ⟨hz, hTI, ⟨a1, a2, hTO⟩, ⟨o1, e1, _⟩, ⟨o2, e2, _⟩⟩ := st
      intro b hb
      have e' : b = z ∨ b = TI ∨ b = TO ∨ b = i1 ∨ b = i2 := by simpa using hb
      rcases e' with q | q | q | q | q
      · exact q ▸ Heap.lt_size hz
      · exact q ▸ Heap.lt_size hTI
      · exact q ▸ Heap.lt_size hTO
      · exact q ▸ Heap.lt_size e1
      · exact q ▸ Heap.lt_size e2
    have sub : ∀ b, b ∉ [z, TI, TO, i1, i2] → b ∉ [z, TO, i1, i2] := fun b hb => by
      simp only [List.mem_cons, List.not_mem_nil, or_false, not_or] at hb ⊢
      exact ⟨hb.1, hb.2.2⟩
    obtain ⟨oT, eT, cT, nT, dT⟩ := hI
    have hT2 : h2.get? T = some oT := k2 T oT (W.apart i T h1 hm) eT
    have new : ObjOk X.prog X.w (upd H T (.tup [.str ⟨#[c]⟩, .str ⟨#[d]⟩])) h2 T (.tup [.str ⟨#[c]⟩, .str ⟨#[d]⟩]) :=
      ⟨by show 2 ≤ sizeLine; decide, [.str ⟨#[c]⟩ t1, .str ⟨#[d]⟩ t2], .cons ⟨t1, rfl⟩ (.cons ⟨t2, rfl⟩ .nil), ⟨oT, hT2, cT, nT, dT⟩⟩
    refine ⟨.ref T, _, I.turnedNew (t' := tk1) (ch := [z, TI, TO, i1, i2]) (fun b o hb e => k2 b o (sub b hb) (k1 b o (sub b hb) e)) hf hT new, rfl, ⟨T, c, d, rfl, I.hok.fresh hT, rfl, hc1, hd1⟩, st2, fun b hb => ?_⟩
    rw [upd_ne (Nat.ne_of_lt (Nat.lt_of_lt_of_le (hlt b hb) hT))]
    exact (hf b hb).1
  done := by
    intro X hP hw hK hc i pins s σ H E I hf st hg
    subst hP hw hK
    have e : i = min x.cps.size y.cps.size := hg
    rw [e] at st
    have W := WalksT.zipD2 (prog := X.prog) (w := X.w) (A := X.A) S (Draws.text (A := X.A.in1) (I.ok.hd hc) i1 x t) (Draws.text (A := X.A.in1) (I.ok.hd hc) i2 y u)
    refine W.done s _ _ st fun h' tk k => ⟨rfl, I.turnedL (t' := tk) (ch := [z, TI, TO, i1, i2]) (fun b o hb q => k b o (fun m => hb ?_) q) hf⟩
    simp only [List.mem_cons, List.not_mem_nil, or_false] at m ⊢
    rcases m with m | m | m | m
    · exact .inl m
    · exact .inr (.inr (.inl m))
    · exact .inr (.inr (.inr (.inl m)))
    · exact .inr (.inr (.inr (.inr m)))
  self := fun A i s Q E st h => wpAny_pyIter_zip st.1 h
/-- for a, b in zip(text, text) -/
def iZip2 (ta : TA) : TI := fun σ H R => ta σ H fun vs H1 => ∃ x y, vs = [.str x, .str y] ∧ R (Itz2 x y) H1
theorem pi_zip2 {X : Cx} {e e2 : Expr} {ta : TA} {p pos tpos : Pos} {elts : List Expr} {kk : Nat} (hg : Gl X "zip") (hm : X.mg "zip" = none) (ha : PA X [e, e2] ta)
    (hs : starEach [e, e2] X.env = (false, eval e X.env) :: starEach [e2] X.env := by rfl) (hp : (backTo pos (starEach [e2] X.env)).any (·.1) = false := by rfl) :
    PI X (.Tuple elts kk tpos) (.Call (.Name "zip" p) [e, e2] [] pos) (iZip2 ta) := by
  refine ⟨fun pins s σ H R I h => Call_ (ld_blt I hg hm PyProof.Rows.boot_zip (PyProof.Rows.callWith_type1 (thn (ha.run pos pins s σ H _ I h) fun us s1 ⟨vs, H1, I1, r1, q1⟩ => ?_) hs hp))⟩
  obtain ⟨x, y, rfl, q⟩ := q1
  cases r1 with
  | cons r rr =>
    cases rr with
    | cons r' rr =>
      cases rr
      obtain ⟨t, rfl⟩ := r
      obtain ⟨u, rfl⟩ := r'
      refine zip_begins2 (begins_text x t) (begins_text y u) trivial trivial fun h' hz hTI hTO g1 g2 hsz k => wpAny_pyIter_zip hz ?_
      refine ⟨s1.heap.objs.size + 4, [s1.heap.objs.size + 4, s1.heap.objs.size + 2, s1.heap.objs.size + 3, s1.heap.objs.size, s1.heap.objs.size + 1], _, _, H1, rfl, I1.kept (t' := s1.toks) k,
        turn_zip2 (x := x) (y := y) (t := t) (u := u) (zip_sep2 (fp1 := []) (fp2 := []) (fun _ h => nomatch h) (fun _ h => nomatch h)), ⟨hz, hTI, ⟨_, _, hTO⟩, ⟨_, g1, rfl, rfl⟩, ⟨_, g2, rfl, rfl⟩⟩, fun c hc => ?_, q⟩
      have le : s1.heap.objs.size ≤ c := by
        have e' : c = s1.heap.objs.size + 4 ∨ c = s1.heap.objs.size + 2 ∨ c = s1.heap.objs.size + 3 ∨ c = s1.heap.objs.size ∨ c = s1.heap.objs.size + 1 := by simpa using hc
        have l0 : ∀ j, s1.heap.objs.size ≤ s1.heap.objs.size + j := fun j => Nat.le_add_right _ j
        rcases e' with z | z | z | z | z
        · rw [z]; exact l0 4
        · rw [z]; exact l0 2
        · rw [z]; exact l0 3
        · rw [z]; exact l0 0
        · rw [z]; exact l0 1
      exact I1.fpOk le (I1.hok.fresh le)
theorem walk_zip2 {x y : Str} {n : Nat} (hn : n = min x.cps.size y.cps.size) : Walk (Itz2 x y) n (fun _ => True)
    (fun i H v H' => ∃ T c d, v = .ref T ∧ H T = none ∧ H' = upd H T (.tup [.str ⟨#[c]⟩, .str ⟨#[d]⟩]) ∧ x.cps[i]? = some c ∧ y.cps[i]? = some d) :=
  ⟨fun i _ hi _ => ⟨by omega, by omega⟩, fun _ _ => hn, fun _ _ _ _ _ _ y => y⟩
end Sf
namespace Sf
open PySem PySem.Spec PyProof.Rows L2
theorem ltc_tot : ∀ a b : List Nat, ltCps a b = false → ltCps b a = false → a = b
  | [], [], _, _ => rfl
  | [], _ :: _, h, _ => by simp [ltCps] at h
  | _ :: _, [], _, h => by simp [ltCps] at h
  | x :: a, y :: b, h1, h2 => by
    simp only [ltCps, Bool.or_eq_false_iff, Bool.and_eq_false_iff, decide_eq_false_iff_not, beq_eq_false_iff_ne] at h1 h2
    have e : x = y := by omega
    subst e
    have h3 : ltCps a b = false := h1.2.resolve_left (fun z => z rfl)
    have h4 : ltCps b a = false := h2.2.resolve_left (fun z => z rfl)
    rw [ltc_tot a b h3 h4]
theorem ltc_trans : ∀ a b c : List Nat, ltCps b a = false → ltCps c b = false → ltCps c a = false
  | [], _, [], _, _ => rfl
  | [], [], _ :: _, _, h => by simp [ltCps]
  | [], _ :: _, _ :: _, h, _ => by simp [ltCps]
  | _ :: _, [], _, h, _ => by simp [ltCps] at h
  | _ :: _, _ :: _, [], _, h => by simp [ltCps] at h
  | x :: a, y :: b, z :: c, h1, h2 => by
    simp only [ltCps, Bool.or_eq_false_iff, Bool.and_eq_false_iff, decide_eq_false_iff_not, beq_eq_false_iff_ne] at h1 h2 ⊢
    refine ⟨by omega, ?_⟩
    by_cases e : z = x
    · right
      have e1 : y = x := by omega
      exact ltc_trans a b c (h1.2.resolve_left (fun q => q e1)) (h2.2.resolve_left (fun q => q (e.trans e1.symm)))
    · exact .inl e
def leS (a b : Str) : Prop := ltCps b.cps.toList a.cps.toList = false
theorem risingS_pw : ∀ (p : Str) (l : List Str), risingS p l = true → (∀ x ∈ l, leS p x) ∧ l.Pairwise leS
  | p, [], _ => ⟨(fun _ h => nomatch h), .nil⟩
  | p, x :: r, h => by
    simp only [risingS, Bool.and_eq_true, Bool.not_eq_true'] at h
    obtain ⟨h1, h2⟩ := risingS_pw x r h.2
    refine ⟨fun y hy => ?_, .cons h1 h2⟩
    rcases List.mem_cons.mp hy with rfl | hy
    · exact h.1
    · exact ltc_trans _ _ _ h.1 (h1 y hy)
theorem sortedS_pw : ∀ {l : List Str}, sortedS l = true → l.Pairwise leS
  | [], _ => .nil
  | x :: r, h => .cons (risingS_pw x r h).1 (risingS_pw x r h).2
theorem leS_anti {a b : Str} (h1 : leS a b) (h2 : leS b a) : a = b := Str.ext' (Array.toList_inj.mp (ltc_tot _ _ h2 h1))
theorem pw_uniq {l m : List Str} (h1 : l.Pairwise leS) (h2 : m.Pairwise leS) (p : l.Perm m) : l = m := p.eq_of_pairwise (fun _ _ _ _ => leS_anti) h1 h2
theorem sortedS_uniq {l m : List Str} (h1 : sortedS l = true) (h2 : sortedS m = true) (p : l.Perm m) : l = m := pw_uniq (sortedS_pw h1) (sortedS_pw h2) p
theorem insT_fold_nodup : ∀ (xs l : List Str), l.Nodup → (xs.foldl insT l).Nodup
  | [], l, h => h
  | x :: r, l, h => insT_fold_nodup r _ (insT_nodup h)
theorem toSet_nodup (xs : List Str) : (toSet xs).Nodup := insT_fold_nodup xs [] List.nodup_nil
theorem toSet_perm {xs ys : List Str} (h : ∀ k, k ∈ xs ↔ k ∈ ys) : (toSet xs).Perm (toSet ys) := by
  refine (List.perm_ext_iff_of_nodup (toSet_nodup xs) (toSet_nodup ys)).mpr fun k => ?_
  rw [toSet_mem, toSet_mem, h]
/-- ys is what sorted(set(xs)) gives -/
def SrtOf (xs ys : List Str) : Prop := sortedS ys = true ∧ ys.Perm (toSet xs)
theorem SrtOf.uniq {xs xs' ys ys' : List Str} (a : SrtOf xs ys) (b : SrtOf xs' ys') (h : ∀ k, k ∈ xs ↔ k ∈ xs') : ys = ys' :=
  sortedS_uniq a.1 b.1 (a.2.trans ((toSet_perm h).trans b.2.symm))
theorem SrtOf.mem {xs ys : List Str} (a : SrtOf xs ys) {k : Str} : k ∈ ys ↔ k ∈ xs := by rw [a.2.mem_iff, toSet_mem]
/-! ### pairs -/
def two (a b : Nat) : Str := ⟨#[a, b]⟩
def one (a : Nat) : Str := ⟨#[a]⟩
def tx (l : List Nat) : Str := ⟨l.toArray⟩
def prs : List Nat → List Str
  | a :: b :: r => two a b :: prs (b :: r)
  | _ => []
theorem prs_snoc : ∀ (z : List Nat) (a b : Nat), prs (z ++ [a, b]) = prs (z ++ [a]) ++ [two a b]
  | [], a, b => rfl
  | [x], a, b => rfl
  | x :: y :: z, a, b => by
    exact congrArg (two x y :: ·) (prs_snoc (y :: z) a b)
def pin (t : List Nat) : List Str := prs (94 :: (t ++ [36]))
theorem prs_len : ∀ l : List Nat, (prs l).length = l.length - 1
  | [] => rfl
  | [_] => rfl
  | a :: b :: r => by
    show (prs (b :: r)).length + 1 = _
    rw [prs_len (b :: r)]
    simp
theorem prs_get : ∀ (l : List Nat) (i a b : Nat), l[i]? = some a → l[i + 1]? = some b → (prs l)[i]? = some (two a b)
  | [], i, a, b, h, _ => by simp at h
  | [_], 0, a, b, _, h => by simp at h
  | [_], i + 1, a, b, h, _ => by simp at h
  | x :: y :: r, 0, a, b, h1, h2 => by
    simp at h1 h2
    subst h1; subst h2
    rfl
  | x :: y :: r, i + 1, a, b, h1, h2 => prs_get (y :: r) i a b h1 h2
/-! ### texts over some letters -/
def lst (t : List Nat) : Nat := (94 :: t).getLast (List.cons_ne_nil _ _)
theorem lst_nil : lst [] = 94 := rfl
theorem lst_snoc (t : List Nat) (c : Nat) : lst (t ++ [c]) = c := by
  unfold lst
  show ((94 :: t) ++ [c]).getLast _ = c
  exact List.getLast_concat
theorem prs_more (t : List Nat) (c : Nat) : prs (94 :: (t ++ [c])) = prs (94 :: t) ++ [two (lst t) c] := by
  have e : 94 :: t = (94 :: t).dropLast ++ [lst t] := (List.dropLast_concat_getLast (List.cons_ne_nil 94 t)).symm
  have q := prs_snoc (94 :: t).dropLast (lst t) c
  rw [← e] at q
  rw [← q]
  refine congrArg prs ?_
  rw [show (94 :: t).dropLast ++ [lst t, c] = ((94 :: t).dropLast ++ [lst t]) ++ [c] by rw [List.append_assoc] <;> rfl, ← e] <;> rfl
theorem pin_eq (t : List Nat) : pin t = prs (94 :: t) ++ [two (lst t) 36] := prs_more t 36
def chn (m : Str → Bool) (t : List Nat) : Bool := (prs (94 :: t)).all m
theorem chn_snoc (m : Str → Bool) (t : List Nat) (c : Nat) : chn m (t ++ [c]) = (chn m t && m (two (lst t) c)) := by
  unfold chn
  rw [prs_more, List.all_append]
  simp
def alw (m : Str → Bool) (t : List Nat) : Bool := (pin t).all m
theorem alw_eq (m : Str → Bool) (t : List Nat) : alw m t = (chn m t && m (two (lst t) 36)) := by
  unfold alw chn
  rw [pin_eq, List.all_append]
  simp
def more1 (L : List Nat) (t : List Nat) : List (List Nat) := L.map fun c => t ++ [c]
def lev (L : List Nat) : Nat → List (List Nat)
  | 0 => [[]]
  | n + 1 => (lev L n).flatMap (more1 L)
def allT (L : List Nat) : Nat → List (List Nat)
  | 0 => [[]]
  | n + 1 => allT L n ++ lev L (n + 1)
def rws (m : Str → Bool) (L : List Nat) (n : Nat) : List (List Nat) := (lev L n).filter (chn m)
def mor (m : Str → Bool) (L : List Nat) (t : List Nat) : List (List Nat) := (L.filter fun c => m (two (lst t) c)).map fun c => t ++ [c]
theorem mor_eq (m : Str → Bool) (L : List Nat) (t : List Nat) : (more1 L t).filter (chn m) = if chn m t = true then mor m L t else [] := by
  unfold more1 mor
  induction L with
  | nil => simp
  | cons c L ih =>
    rw [List.map_cons, List.filter_cons, ih, chn_snoc, List.filter_cons]
    cases h1 : chn m t <;> cases h2 : m (two (lst t) c) <;> simp
theorem rws_succ (m : Str → Bool) (L : List Nat) (n : Nat) : rws m L (n + 1) = (rws m L n).flatMap (mor m L) := by
  unfold rws
  show ((lev L n).flatMap (more1 L)).filter (chn m) = _
  induction lev L n with
  | nil => rfl
  | cons t r ih =>
    rw [List.flatMap_cons, List.filter_append, ih, mor_eq, List.filter_cons]
    split
    · rw [List.flatMap_cons]
    · rfl
def endOk (m : Str → Bool) (t : List Nat) : Bool := m (two (lst t) 36)
/-- what the walk has found behind n turns -/
def fnd (m : Str → Bool) (L : List Nat) : Nat → List (List Nat)
  | 0 => []
  | n + 1 => fnd m L n ++ (rws m L n).filter (endOk m)
theorem fnd_eq (m : Str → Bool) (L : List Nat) : ∀ n, fnd m L (n + 1) = (allT L n).filter (alw m)
  | 0 => by
    show [] ++ ([[]].filter (chn m)).filter (endOk m) = [[]].filter (alw m)
    rw [List.nil_append, List.filter_filter]
    refine List.filter_congr fun t _ => ?_
    rw [alw_eq, Bool.and_comm] <;> rfl
  | n + 1 => by
    show fnd m L (n + 1) ++ ((lev L (n + 1)).filter (chn m)).filter (endOk m) = (allT L n ++ lev L (n + 1)).filter (alw m)
    rw [fnd_eq m L n, List.filter_append, List.filter_filter]
    refine congrArg _ (List.filter_congr fun t _ => ?_)
    rw [alw_eq, Bool.and_comm] <;> rfl
theorem lev_len (L : List Nat) (k : Nat) (h : L.length ≤ k) : ∀ n, (lev L n).length ≤ k ^ n
  | 0 => Nat.le_refl _
  | n + 1 => by
    have b : ∀ l : List (List Nat), (l.flatMap (more1 L)).length = l.length * L.length := by
      intro l
      induction l with
      | nil => simp
      | cons t r ih =>
        rw [List.flatMap_cons, List.length_append, ih]
        unfold more1
        rw [List.length_map, List.length_cons, Nat.add_mul]
        omega
    show ((lev L n).flatMap (more1 L)).length ≤ _
    rw [b, Nat.pow_succ]
    exact Nat.mul_le_mul (lev_len L k h n) h
theorem lev_mem {L : List Nat} : ∀ {n : Nat} {t : List Nat}, t ∈ lev L n → t.length = n ∧ ∀ c ∈ t, c ∈ L
  | 0, t, h => by
    have e : t = [] := List.mem_singleton.mp h
    subst e
    exact ⟨rfl, fun _ h => nomatch h⟩
  | n + 1, t, h => by
    obtain ⟨u, hu, ht⟩ := List.mem_flatMap.mp h
    obtain ⟨c, hc, rfl⟩ := List.mem_map.mp ht
    obtain ⟨h1, h2⟩ := lev_mem hu
    refine ⟨by rw [List.length_append, h1] <;> rfl, fun d hd => ?_⟩
    rcases List.mem_append.mp hd with q | q
    · exact h2 d q
    · exact List.mem_singleton.mp q ▸ hc
theorem allT_mem {L : List Nat} : ∀ {n : Nat} {t : List Nat}, t ∈ allT L n → t.length ≤ n ∧ ∀ c ∈ t, c ∈ L
  | 0, t, h => by
    have q := lev_mem (L := L) (n := 0) h
    exact ⟨Nat.le_of_eq q.1, q.2⟩
  | n + 1, t, h => by
    rcases List.mem_append.mp h with q | q
    · have r := allT_mem q
      exact ⟨Nat.le_succ_of_le r.1, r.2⟩
    · have r := lev_mem q
      exact ⟨Nat.le_of_eq r.1, r.2⟩
end Sf
/-! Defs that must know that no repr is under way around them: the same promises as a def's, with this known of the surroundings. -/
namespace Sf
open PySem PySem.Spec PyProof.Rows L2
/-- a def's promise where no repr is under way -/
structure FnG (P : Program) (w : World) (K : PySem.W.Frag) (mg : Str → Option Value) (base : Heap) (k : Nat) (f : Addr) (fd : FuncData) (ps : List Str) (sp : Sp) : Prop where
  cnt : ∀ xs Hh W Ex, sp xs Hh W Ex → xs.length = ps.length
  go : ∀ (A : Around) (out : List Env) (st : Shared) (Hh : Hp) (ar : Args) (ys : List Value) (xs : List V) (W : VK) (Ex : XK), Room k A → A.guards = some [] → Env0 P w K mg base A out st Hh → BindsTo st fd ar (ps.zip ys) → Vals xs ys → sp xs Hh W Ex →
    codeAny (model P w) A (.call (.ref f) ar) (CR CX0 out P w Hh st W Ex) st
section
variable {P : Program} {w : World} {K : PySem.W.Frag} {mg : Str → Option Value} {base : Heap}
theorem okG {x qual : Str} {st : Stmt} {f : Addr} {fd : FuncData} {N ps : List Str} {k : Nat} {sp : Sp} (F : Fun K x qual st f fd) (S : FnScope N ps (defScope st)) (cnt : ∀ xs Hh W Ex, sp xs Hh W Ex → xs.length = ps.length)
    (body : ∀ (cdv : Value) (A : Around) (out : List Env) (sh : Shared) (Hh : Hp) (xs : List V) (W : VK) (Ex : XK), Room k (A.deeper (envOfC qual (defScope st) sh.heap.objs.size f cdv)) → A.guards = some [] → sp xs Hh W Ex →
      ∃ t, PSs (cxOf CX0 P w K mg base N qual (defScope st) f cdv A out sh Hh Ex).nox (defBody st) t ∧ t { nx := fun _ H' => W .non H', rt := W } (start N xs) Hh) : FnG P w K mg base (k + 1) f fd ps sp := by
  obtain ⟨oc, od, kV, doc, pm, an, cdv, ct, osl, rfl, look, code⟩ := F.ex
  refine ⟨cnt, fun A out sh Hh ar ys xs W Ex room gd e0 bind rel prom => ?_⟩
  have count := cnt _ _ _ _ prom
  have here : K.In sh.heap := e0.mod.kin.keeps fun p ob e => (e0.bs p ob e).1
  have calm : sh.heap.NoLimit := e0.mod.nolimit.keeps fun p ob e => (e0.bs p ob e).1
  have kinds : ∀ z ∈ ps.zip ys, (defScope st).names.lookup z.1 = some .local ∨ ((defScope st).names.lookup z.1 = some .cell ∧ ((cellsFrom (sh.heap.objs.size + 1) (defScope st).names []).lookup z.1).isSome = true) := fun ⟨nm, vl⟩ hz =>
    (S.par nm (List.of_mem_zip hz).1).elim .inl fun c => .inr ⟨c, PySem.W.cellsFrom_some _ _ _ (.inl c)⟩
  refine codeAny_call_function room.depth (here _ _ look) rfl S.co S.gen rfl (PySem.W.codeRec_of here code) (bind _ _ _ _ (wpAny_newFunctionEnv_cells S.kind kinds fun env ee sh1 ent => ?_))
  subst ee
  refine ⟨calm.keeps ent.toInCall.keep, codeAny_func ?_⟩
  obtain ⟨t, walk, start1⟩ := body cdv A out sh Hh xs W Ex (room.deeper _) gd prom
  have I := inv_start (CX := CX0) (E := Ex) S room.hd e0 count rel ent
  refine wpAny_mono (walk.nox.run [] sh1 (start N xs) Hh _ I start1) (fun how sh2 done => ?_) fun ex sh2 done => done
  match how, done with
  | .ret u, ⟨v, σ2, H2, J, rv, qv⟩ => exact ⟨v, H2, J.os, J.bare, J.base, J.hok, rv, qv⟩
  | .next, ⟨σ2, H2, J, qv⟩ => exact ⟨V.non, H2, J.os, J.bare, J.base, J.hok, rfl, qv⟩
  | .brk, ⟨_, _, _, no⟩ => exact no.elim
  | .cont, ⟨_, _, _, no⟩ => exact no.elim
/-- such a def called from another one -/
theorem pe_callG {X : Cx} {k : Nat} {f : Addr} {fd : FuncData} {ps : List Str} {sp : Sp} {x : Str} {p pos : Pos} {e : Expr} {es : List Expr} {t : TA} (F : FnG X.prog X.w X.K X.mg X.base k f fd ps sp) (room : Room k X.A) (gd : X.A.guards = some []) (hg : Gl X x) (hm : X.mg x = some (.ref f))
    (kp : PySem.W.keepIn X.K (.ref f) = true) (hb : Binds X.K fd ps []) (ha : PA X (e :: es) t) (hx : Passes CX0 X E0) (hdb : (x == ("__debug__" : Str)) = false := by decide)
    (he : starEach (e :: es) X.env = (false, eval e X.env) :: starEach es X.env := by rfl) (hpl : (backTo pos (starEach es X.env)).any (·.1) = false := by rfl) : PE X (.Call (.Name x p) (e :: es) [] pos) (tCall sp [] E0 t) :=
  ⟨fun pins sh σ Hh W I prom => wpAny_Call_Name_kw (ld_glob I hg hm
    (PySem.W.callWith_K (h₀ := X.base) I.ok.mod.kin kp (thn (ha.run pos pins sh σ Hh _ I prom) fun ys s1 ⟨xs, H1, I1, rel, q⟩ => ⟨I1.kIn, by
      have q : sp (xs ++ []) H1 W E0 := q
      rw [List.append_nil] at q
      have len1 : (ys ++ ([] : List Value)).length = ps.length := by
        rw [List.append_nil, ← rel.length]
        exact F.cnt _ _ _ _ q
      have bd := hb s1 ys I1.kIn len1
      rw [List.append_nil] at bd
      refine wpAny_call (codeAny_mono (F.go X.A X.stack s1 H1 ⟨ys, []⟩ ys xs W E0 room gd I1.env0 bd rel q) fun r s2 ends => ?_)
      match r, ends with
      | .error ex, z => exact hx pins σ H1 s1 ex s2 I1 z
      | .ok (.ret u), z => exact I1.after z
      | .ok .next, z => exact z.elim
      | .ok .brk, z => exact z.elim
      | .ok .cont, z => exact z.elim⟩) he hpl) hdb)⟩
/-- the law's own call, where its def is such a one -/
theorem law_callG {mb : Str → Option Value} {k : Nat} {fa a : Addr} {fd : FuncData} {x : Str} {sp : Sp} {sh : Shared} {us : List Value} {ns : List Int} (KX : K.In sh.heap) (hm : sh.heap.Ns mainGlobals mg) (hb : sh.heap.Ns builtinsNs mb) (hbb : ∀ y : Str, y ≠ "__name__" → mb y = bootBuiltins y)
    (lim : sh.heap.NoLimit) (gens : sh.gens = #[]) (at_ : sh.heap.get? a = some { cls := .type "list", data := .seq us.toArray }) (hints : IntsAre us ns) (fits : ns.length ≤ sizeLine) (room : Room k callerA)
    (F : ∀ b : Heap, K.In b → b.Ns mainGlobals mg → FnG P w K mg b k fa fd [x] sp) (bind : ∀ (s : Shared) (u : Value), BindsTo s fd ⟨[u], []⟩ [(x, u)]) (prom : ∀ Hh : Hp, SqL K Hh a (ns.map V.int) → sp [.ref a] Hh (fun v _ => v = .bl true) E0) :
    codeAny (model P w) callerA (.call (.ref fa) ⟨[.ref a], []⟩) (fun r s' => r = .ok (.ret (.bool true)) ∧ OldK sh.heap s'.heap ∧ s'.os = sh.os ∧ AllBare s'.gens) sh := by
  have rel := vals_ints hints
  have lens : us.length ≤ sizeLine := by
    rw [hints.length]
    exact fits
  -- what is tracked: the script's list alone, unless the module has it
  obtain ⟨Hh, only, hS⟩ : ∃ Hh : Hp, (∀ b u, Hh b = some u → b = a ∧ K.lookup a = none ∧ u = .frz { cls := .type "list", data := .seq us.toArray } (.lst (ns.map V.int))) ∧ SqL K Hh a (ns.map V.int) := by
    cases hk : K.lookup a with
    | some ob =>
      obtain rfl : ob = _ := Option.some.inj ((KX a ob hk).symm.trans at_)
      exact ⟨fun _ => none, (fun _ _ z => nomatch z), .inr ⟨_, us.toArray, _, hk, rfl, rfl, rfl, by rw [List.size_toArray]; exact lens, by simpa using rel⟩⟩
    | none =>
      refine ⟨fun b => if b = a then some (.frz { cls := .type "list", data := .seq us.toArray } (.lst (ns.map V.int))) else none, fun b u z => ?_, .inl (.inr ⟨_, if_pos rfl⟩)⟩
      dsimp only at z
      by_cases e : b = a
      · rw [if_pos e] at z
        exact ⟨e, rfl, (Option.some.inj z).symm⟩
      · rw [if_neg e] at z
        cases z
  have notK : ∀ b o, K.lookup b = some o → Hh b = none := fun b o e => by
    cases q : Hh b with
    | none => rfl
    | some u =>
      obtain ⟨e1, e2, _⟩ := only b u q
      rw [e1, e2] at e
      cases e
  have notD : ∀ (b : Addr) (o : Obj) (es : Array DictEntry) (ep : Nat), sh.heap.get? b = some o → o.data = .dict es ep → Hh b = none := fun b o es ep e d => by
    cases q : Hh b with
    | none => rfl
    | some u =>
      obtain ⟨e1, _, _⟩ := only b u q
      rw [e1, at_] at e
      cases e
      cases d
  have space : ∀ {b : Addr} {m : Str → Option Value}, sh.heap.Ns b m → (hidT sh.heap Hh).Ns b m := fun {b m} ⟨o, es, ep, e, d, r⟩ => ⟨o, es, ep, hidT_get e (notD b o es ep e d), d, r⟩
  have inB : K.In (hidT sh.heap Hh) := fun b o e => hidT_get (KX b o e) (notK b o e)
  have md : Mod K mg (hidT sh.heap Hh) := ⟨inB, space hm, ⟨mb, space hb, hbb⟩, lim.elim fun mc z => ⟨mc, space z.1, z.2⟩⟩
  have held : HOk P w Hh sh.heap := fun b u z => by
    obtain ⟨e1, _, e3⟩ := only b u z
    subst e1
    subst e3
    exact ⟨at_, by rw [List.length_map]; exact fits, us, _, rel, at_⟩
  have e0 : Env0 P w K mg (hidT sh.heap Hh) callerA [] sh Hh := ⟨rfl, md, fun b o e => of_hidT e, Nat.le_of_eq (hidT_size _ _), trivial, (fun b z => nomatch z), held, .of_eq gens⟩
  refine codeAny_mono ((F _ inB (space hm)).go callerA [] sh Hh ⟨[.ref a], []⟩ [.ref a] [.ref a] _ _ room rfl e0 (bind sh (.ref a)) (.cons rfl .nil) (prom Hh hS)) fun r s2 done => ?_
  match r, done with
  | .error ex, z => exact absurd z (by
      intro z
      exact z)
  | .ok .next, z => exact z.elim
  | .ok .brk, z => exact z.elim
  | .ok .cont, z => exact z.elim
  | .ok (.ret u), ⟨v, H2, os, bare, un, held2, rv, qv⟩ =>
    obtain rfl : v = .bl true := qv
    obtain rfl : u = Value.bool true := rv
    refine ⟨rfl, OldK.of_keep fun b o e => ?_, os, bare⟩
    cases q : Hh b with
    | none => exact un.keep b o e q (fun z => nomatch z) (fun z => nomatch z)
    | some t =>
      obtain ⟨e1, _, e3⟩ := only b t q
      rw [e3] at q
      obtain ⟨g1, _⟩ := held b _ q
      obtain ⟨g2, _⟩ := held2 b _ (un.frzs b _ _ q)
      rw [e] at g1
      cases g1
      exact g2
/-- the end of a claim whose law is such a def -/
theorem walk_G {l : PySem.W.OpenLaw} {n k : Nat} {q : Program} {loose : List Str} {XP : (Str → Option Value) → Heap → Prop} {YP : World → Heap → Prop} {d : DefRec} {KK : Params → PySem.W.Frag} {sp : World → Sp} {x : Str} (most : l.most = some n) (few : n ≤ sizeLine) (nodef : d.params.defaults = []) (room : Room k callerA)
    (hY : ∀ (w : World) (h : Heap), YP w h → (KK w.params).In h)
    (F : ∀ (w : World) (mg : Str → Option Value) (fa : Addr) (h : Heap), (KK w.params).In h → h.Ns mainGlobals mg → mg d.name = some (.ref fa) →
      ∃ fd : FuncData, (∀ (s : Shared) (u : Value), BindsTo s fd ⟨[u], []⟩ [(x, u)]) ∧ ∀ b : Heap, (KK w.params).In b → b.Ns mainGlobals mg → FnG l.prog w (KK w.params) mg b k fa fd [x] (sp w))
    (prom : ∀ (w : World) (Hh : Hp) (a : Addr) (ns : List Int), ns.length ≤ n → SqL (KK w.params) Hh a (ns.map V.int) → sp w [.ref a] Hh (fun v _ => v = .bl true) E0) :
    PySem.W.WalkO q loose XP YP l.row.toRowW d [] (fun f vs => PySem.call f vs) :=
  Att.attach_call most nodef fun w s0 s1 mg mb fa o pm cd doc a vs ns G Y _ _ _ hmg hobj hints hlen hg => by
    have KX := hY w _ Y
    obtain ⟨fd, bind, hF⟩ := F w mg fa _ KX G.T.g hmg
    exact law_callG KX G.T.g G.T.b G.T.builtins G.T.nolimit hg hobj hints (Nat.le_trans hlen few) room hF bind fun Hh hS => prom w Hh a ns hlen hS
end
end Sf
/-! Values of any kind, as trees of data on the tracked heap: None, bools, ints, texts, lists, tuples, dicts with one text as key; their repr, their isinstance. -/
namespace Sf
open PySem PySem.Spec PyProof.Rows L2
mutual
/-- v is the data d; no object of it stands at p; with g none of its lists at the modules' own place -/
inductive Od (g : Bool) (p : Addr) (H : Hp) : V → PyData → Prop
  | non : Od g p H .non .none
  | bl (b : Bool) : Od g p H (.bl b) (.bool b)
  | int (i : Int) : Od g p H (.int i) (.int i)
  | str (x : Str) : Od g p H (.str x) (.str x)
  | lst {a : Addr} {xs : List V} {ds : List PyData} : a ≠ p → (g = true → a ≠ sysModules) → H a = some (.lst xs) → OdAll g p H xs ds → Od g p H (.ref a) (.list ds)
  | tup {a : Addr} {xs : List V} {ds : List PyData} : a ≠ p → H a = some (.tup xs) → OdAll g p H xs ds → Od g p H (.ref a) (.tuple ds)
  | dic0 {a : Addr} : g = true → a ≠ p → H a = some (.dK []) → Od g p H (.ref a) (.dict [])
  | dic1 {a : Addr} {x : Str} {v : V} {d : PyData} : g = true → a ≠ p → H a = some (.dK [(.inr x, v)]) → Od g p H v d → Od g p H (.ref a) (.dict [(.str x, d)])
inductive OdAll (g : Bool) (p : Addr) (H : Hp) : List V → List PyData → Prop
  | nil : OdAll g p H [] []
  | cons {v : V} {vs : List V} {d : PyData} {ds : List PyData} : Od g p H v d → OdAll g p H vs ds → OdAll g p H (v :: vs) (d :: ds)
end
section
variable {g : Bool} {p : Addr} {H H' : Hp}
mutual
theorem Od.mono (k : ∀ b o, b ≠ p → H b = some o → H' b = some o) : ∀ {d : PyData} {v : V}, Od g p H v d → Od g p H' v d
  | .none, _, h => by
    cases h
    exact .non
  | .bool b, _, h => by
    cases h
    exact .bl b
  | .int i, _, h => by
    cases h
    exact .int i
  | .str x, _, h => by
    cases h
    exact .str x
  | .list ds, _, h => by
    cases h with
    | lst n1 n2 e t => exact .lst n1 n2 (k _ _ n1 e) (OdAll.mono k t)
  | .tuple ds, _, h => by
    cases h with
    | tup n1 e t => exact .tup n1 (k _ _ n1 e) (OdAll.mono k t)
  | .dict [], _, h => by
    cases h with
    | dic0 g1 n1 e => exact .dic0 g1 n1 (k _ _ n1 e)
  | .dict [(.str x, d)], _, h => by
    cases h with
    | dic1 g1 n1 e t => exact .dic1 g1 n1 (k _ _ n1 e) (Od.mono k t)
  | .dict ((.none, _) :: _), _, h => by cases h
  | .dict ((.bool _, _) :: _), _, h => by cases h
  | .dict ((.int _, _) :: _), _, h => by cases h
  | .dict ((.list _, _) :: _), _, h => by cases h
  | .dict ((.tuple _, _) :: _), _, h => by cases h
  | .dict ((.dict _, _) :: _), _, h => by cases h
  | .dict ((.str _, _) :: _ :: _), _, h => by cases h
theorem OdAll.mono (k : ∀ b o, b ≠ p → H b = some o → H' b = some o) : ∀ {ds : List PyData} {vs : List V}, OdAll g p H vs ds → OdAll g p H' vs ds
  | [], _, h => by
    cases h
    exact .nil
  | d :: ds, _, h => by
    cases h with
    | cons h1 h2 => exact .cons (Od.mono k h1) (OdAll.mono k h2)
end
theorem OdAll.len : ∀ {ds : List PyData} {vs : List V}, OdAll g p H vs ds → vs.length = ds.length
  | [], _, h => by
    cases h
    rfl
  | d :: ds, _, h => by
    cases h with
    | cons h1 h2 =>
      rw [List.length_cons, List.length_cons, h2.len]
theorem OdAll.get : ∀ {ds : List PyData} {vs : List V} {i : Nat} {v : V}, OdAll g p H vs ds → vs[i]? = some v → ∃ d, ds[i]? = some d ∧ Od g p H v d
  | [], _, _, _, h, e => by
    cases h
    cases e
  | d :: ds, _, 0, _, h, e => by
    cases h with
    | cons h1 h2 =>
      obtain rfl := Option.some.inj e
      exact ⟨d, rfl, h1⟩
  | d :: ds, _, i + 1, _, h, e => by
    cases h with
    | cons h1 h2 => exact h2.get (i := i) e
theorem OdAll.strs : ∀ (xs : List Str), OdAll g p H (xs.map V.str) (xs.map PyData.str)
  | [] => .nil
  | x :: xs => .cons (.str x) (OdAll.strs xs)
theorem OdAll.app : ∀ {ds es : List PyData} {vs us : List V}, OdAll g p H vs ds → OdAll g p H us es → OdAll g p H (vs ++ us) (ds ++ es)
  | [], es, _, us, h, k => by
    cases h
    exact k
  | d :: ds, es, _, us, h, k => by
    cases h with
    | cons h1 h2 => exact .cons h1 (h2.app k)
/-- texts alone, as a list of texts -/
theorem OdAll.isStrs : ∀ {ds : List PyData} {vs : List V}, OdAll g p H vs ds → (∀ d ∈ ds, ∃ x, d = .str x) → ∃ ts : List Str, vs = ts.map V.str ∧ ds = ts.map PyData.str
  | [], _, h, _ => by
    cases h
    exact ⟨[], rfl, rfl⟩
  | d :: ds, _, h, a => by
    cases h with
    | cons h1 h2 =>
      obtain ⟨x, rfl⟩ := a d List.mem_cons_self
      cases h1
      obtain ⟨ts, e1, e2⟩ := h2.isStrs fun z hz => a z (List.mem_cons_of_mem _ hz)
      exact ⟨x :: ts, by rw [e1] <;> rfl, by rw [e2] <;> rfl⟩
mutual
theorem Od.weak : ∀ {d : PyData} {v : V}, Od false p H v d → d.hasDict = false
  | .none, _, _ => rfl
  | .bool b, _, _ => rfl
  | .int i, _, _ => rfl
  | .str x, _, _ => rfl
  | .list ds, _, h => by
    cases h with
    | lst _ _ _ t =>
      simp only [PyData.hasDict]
      exact OdAll.weak t
  | .tuple ds, _, h => by
    cases h with
    | tup _ _ t =>
      simp only [PyData.hasDict]
      exact OdAll.weak t
  | .dict _, _, h => by
    cases h with
    | dic0 g1 => cases g1
    | dic1 g1 => cases g1
theorem OdAll.weak : ∀ {ds : List PyData} {vs : List V}, OdAll false p H vs ds → PyData.hasDictAll ds = false
  | [], _, _ => rfl
  | d :: ds, _, h => by
    cases h with
    | cons h1 h2 =>
      simp only [PyData.hasDictAll]
      rw [Od.weak h1, OdAll.weak h2] <;> rfl
end
end
section
variable {X : Cx} {pins : List (Addr × Obj)} {σ : L2.St} {g : Bool} {p : Addr} {H : Hp} {s : Shared}
theorem one_pair {knd : KeyKind X.prog X.w Key} {es : List DictEntry} {kv : Key × Value} (h : Pairs knd es [kv]) : ∃ e, es = [e] ∧ knd.is kv.1 e.key = true ∧ e.val = kv.2 := by
  cases h with
  | cons h1 h2 h3 =>
    cases h3
    exact ⟨_, rfl, h1, h2⟩
theorem no_pair {knd : KeyKind X.prog X.w Key} {es : List DictEntry} (h : Pairs knd es []) : es = [] := by
  cases h
  rfl
mutual
theorem Od.reads (I : Inv X pins σ H s) : ∀ (d : PyData) (v : V) (u : Value), Od g p H v d → RelV v u → ∃ as, Reads s.heap u d as ∧ (g = true → sysModules ∉ as)
  | .none, _, _, h, r => by
    cases h
    cases r
    exact ⟨_, .none, fun _ => List.not_mem_nil⟩
  | .bool b, _, _, h, r => by
    cases h
    cases r
    exact ⟨_, .bool b, fun _ => List.not_mem_nil⟩
  | .int i, _, _, h, r => by
    cases h
    obtain ⟨t, rfl⟩ := r
    exact ⟨_, .int i t, fun _ => List.not_mem_nil⟩
  | .str x, _, _, h, r => by
    cases h
    obtain ⟨t, rfl⟩ := r
    exact ⟨_, .str x t, fun _ => List.not_mem_nil⟩
  | .list ds, _, _, h, r => by
    cases h with
    | lst n1 n2 e t =>
      cases r
      obtain ⟨_, its, n, rv, h1⟩ := (show ObjOk X.prog X.w H s.heap _ (.lst _) from I.hok _ _ e)
      obtain ⟨as, hr, hn⟩ := OdAll.reads I ds _ its t rv
      refine ⟨_, .list h1 rfl rfl hr, fun q z => ?_⟩
      rcases List.mem_cons.mp z with z | z
      · exact n2 q z.symm
      · exact hn q z
  | .tuple ds, _, _, h, r => by
    cases h with
    | tup n1 e t =>
      cases r
      obtain ⟨_, its, rv, o, h1, h2, n, h3⟩ := (show ObjOk X.prog X.w H s.heap _ (.tup _) from I.hok _ _ e)
      obtain ⟨as, hr, hn⟩ := OdAll.reads I ds _ its t rv
      exact ⟨_, .tuple h1 h2 h3 hr, hn⟩
  | .dict [], _, _, h, r => by
    cases h with
    | dic0 g1 n1 e =>
      cases r
      obtain ⟨_, n2, vs, kv, o, es, ep, h1, h2, h3, _, h4, _⟩ := (show ObjOk X.prog X.w H s.heap _ (.dK _) from I.hok _ _ e)
      cases kv
      have e0 := no_pair h4
      refine ⟨_, .dict (as := []) (bs := []) h1 h2.1 h3 (by rw [e0]; exact .nil) (by rw [e0]; exact .nil), fun _ z => ?_⟩
      rcases List.mem_cons.mp z with z | z
      · exact (beq_eq_false_iff_ne.mp n2) z.symm
      · exact List.not_mem_nil z
  | .dict [(.str x, d)], _, _, h, r => by
    cases h with
    | dic1 g1 n1 e t =>
      cases r
      obtain ⟨_, n2, vs, kv, o, es, ep, h1, h2, h3, _, h4, _⟩ := (show ObjOk X.prog X.w H s.heap _ (.dK _) from I.hok _ _ e)
      cases kv with
      | @cons _ kw _ _ q1 q2 =>
        cases q2
        obtain ⟨k1, w1⟩ := kw
        obtain ⟨q3, q4⟩ := q1
        obtain ⟨e1, ee, e2, e3⟩ := one_pair h4
        obtain rfl : Sum.inr x = k1 := q3
        obtain ⟨as, hr, hn⟩ := Od.reads I d _ w1 t q4
        obtain ⟨y, tk, ey, ek⟩ : ∃ y tk, (Sum.inr x : Key) = Sum.inr y ∧ e1.key = Value.str y tk := by
          rcases keyIs_shape (k := Sum.inr x) (v := e1.key) e2 with ⟨i, tk, z, _⟩ | ⟨y, tk, z, z2⟩
          · cases z
          · exact ⟨y, tk, z, z2⟩
        cases ey
        refine ⟨_, .dict (as := []) (bs := as ++ []) h1 h2.1 h3 ?_ ?_, fun q z => ?_⟩
        · rw [ee]
          show ReadsAll s.heap [e1.key] [PyData.str x] []
          rw [ek]
          exact .cons (as := []) (.str x tk) .nil
        · rw [ee]
          show ReadsAll s.heap [e1.val] [d] (as ++ [])
          rw [e3]
          exact .cons hr .nil
        · rcases List.mem_cons.mp z with z | z
          · exact (beq_eq_false_iff_ne.mp n2) z.symm
          · have z : sysModules ∈ as ++ [] := z
            rw [List.append_nil] at z
            exact hn q z
  | .dict ((.none, _) :: _), _, _, h, _ => by cases h
  | .dict ((.bool _, _) :: _), _, _, h, _ => by cases h
  | .dict ((.int _, _) :: _), _, _, h, _ => by cases h
  | .dict ((.list _, _) :: _), _, _, h, _ => by cases h
  | .dict ((.tuple _, _) :: _), _, _, h, _ => by cases h
  | .dict ((.dict _, _) :: _), _, _, h, _ => by cases h
  | .dict ((.str _, _) :: _ :: _), _, _, h, _ => by cases h
theorem OdAll.reads (I : Inv X pins σ H s) : ∀ (ds : List PyData) (vs : List V) (us : List Value), OdAll g p H vs ds → Vals vs us → ∃ as, ReadsAll s.heap us ds as ∧ (g = true → sysModules ∉ as)
  | [], _, _, h, r => by
    cases h
    cases r
    exact ⟨_, .nil, fun _ => List.not_mem_nil⟩
  | d :: ds, _, _, h, r => by
    cases h with
    | cons h1 h2 =>
      cases r with
      | cons r1 r2 =>
        obtain ⟨as, q1, n1⟩ := Od.reads I d _ _ h1 r1
        obtain ⟨bs, q2, n2⟩ := OdAll.reads I ds _ _ h2 r2
        refine ⟨_, .cons q1 q2, fun q z => ?_⟩
        rcases List.mem_append.mp z with z | z
        · exact n1 q z
        · exact n2 q z
end
/-- data that is small enough to be shown -/
structure Sm (n m : Nat) (d : PyData) : Prop where
  sh : d.showable = true
  lv : d.leavesShort 40 = true
  wt : d.weight ≤ n
  dp : d.depth ≤ m
theorem Sm.fits {n m : Nat} {d : PyData} (h : Sm n m d) (hn : n ≤ 100000) : d.shown.length ≤ sizeLine := by
  have h1 := PyData.shown_le 40 (by decide) d h.lv
  have h2 : (40 + 2) * d.weight ≤ 42 * 100000 := Nat.mul_le_mul (by decide) (Nat.le_trans h.wt hn)
  exact Nat.le_trans (show _ ≤ 4200040 by omega) (by decide)
/-- repr of any such value -/
def rRepr : List V → Hp → VK → Prop := fun vs H Q => ∃ (v : V) (g : Bool) (p : Addr) (d : PyData) (n m : Nat), vs = [v] ∧ Od g p H v d ∧ Sm n m d ∧ n ≤ 100000 ∧ m ≤ 60 ∧ Q (.str d.shown) H
theorem cr_repr (hg : X.A.guards = some []) (hu : X.A.units + 64 < cLine) : CallR X (.builtin "repr") rRepr := by
  intro pins s σ H vs us Q I r h
  obtain ⟨v, g, p, d, n, m, rfl, ho, sm, hn, hm, q⟩ := h
  obtain ⟨u, rfl, r1⟩ := vals1 r
  obtain ⟨as, rd, nm⟩ := Od.reads I d v u ho r1
  have fit := sm.fits hn
  have dep : d.depth ≤ 60 := Nat.le_trans sm.dp hm
  have big : d.hasDict = true → sysModules ∉ as := fun z => by
    cases g with
    | true => exact nm rfl
    | false =>
      rw [ho.weak] at z
      cases z
  cases rd with
  | none => exact PySem.P.repr_of_none ⟨.str _, H, I.tok _, ⟨_, rfl⟩, q⟩
  | bool b => exact PySem.P.repr_of_bool ⟨.str _, H, I.tok _, ⟨_, rfl⟩, q⟩
  | int i t => exact PySem.P.repr_of_int (by simpa [PyData.showable] using sm.sh) ⟨.str _, H, I.tok _, ⟨_, rfl⟩, q⟩
  | str x t => exact PySem.P.repr_of_str ⟨.str _, H, I.tok _, ⟨_, rfl⟩, q⟩ fit
  | list h1 h2 h3 h4 => exact repr_of_reads' (.list h1 h2 h3 h4) sm.sh big hg (by omega) (fun _ _ e => e) (fun h' u tk k => ⟨.str _, H, I.kept k, ⟨_, rfl⟩, q⟩) fit
  | tuple h1 h2 h3 h4 => exact repr_of_reads' (.tuple h1 h2 h3 h4) sm.sh big hg (by omega) (fun _ _ e => e) (fun h' u tk k => ⟨.str _, H, I.kept k, ⟨_, rfl⟩, q⟩) fit
  | dict h1 h2 h3 h4 h5 => exact repr_of_reads' (.dict h1 h2 h3 h4 h5) sm.sh big hg (by omega) (fun _ _ e => e) (fun h' u tk k => ⟨.str _, H, I.kept k, ⟨_, rfl⟩, q⟩) fit
/-- a list that is written out, with where it does not stand -/
def tLstN (t : TA) : TE := fun σ H Q => t σ H fun xs H1 => xs.length ≤ sizeLine ∧ ∀ l, H1 l = none → l ≠ sysModules → Q (.ref l) (upd H1 l (.lst xs))
theorem pe_lstN {es : List Expr} {t : TA} {pos : Pos} (h : PA X es t) : PE X (.List es pos) (tLstN t) :=
  ⟨fun pins s σ H Q I hq => wpAny_List_spliced (thn (h.run pos pins s σ H _ I hq) fun us s1 ⟨xs, H1, I1, r, z, q⟩ => ⟨by
    rw [← r.length]
    exact z, .ref s1.heap.objs.size, upd H1 s1.heap.objs.size (.lst xs), I1.laid (t' := s1.toks) (fun b u e => Heap.get?_push_of_some _ e) (Nat.le_refl _) ⟨z, us, 0, r, Heap.get?_push_size _ rfl⟩, rfl,
      q _ (I1.hok.fresh (Nat.le_refl _)) (Ne.symm (Nat.ne_of_lt I1.big))⟩)⟩
/-! ### isinstance -/
def tyN : PyData → String
  | .none => "NoneType"
  | .bool _ => "bool"
  | .int _ => "int"
  | .str _ => "str"
  | .list _ => "list"
  | .tuple _ => "tuple"
  | .dict _ => "dict"
theorem Od.ty {K : PySem.W.Frag} : ∀ {d : PyData} {v : V}, Od g p H v d → TyX K H v (.type (tyN d))
  | _, _, .non => .base .non
  | _, _, .bl b => .base (.bl b)
  | _, _, .int i => .base (.int i)
  | _, _, .str x => .base (.str x)
  | _, _, .lst _ _ e _ => .base (.lst e)
  | _, _, .tup _ e _ => .base (.tup e)
  | _, _, .dic0 _ _ e => .base (.dK e)
  | _, _, .dic1 _ _ e _ => .base (.dK e)
def isS : PyData → Bool
  | .str _ => true
  | _ => false
def isT : PyData → Bool
  | .tuple _ => true
  | _ => false
theorem kit_str (d : PyData) : kitB (tyN d) "str" = some (isS d) := by
  cases d <;> (simp only [tyN, isS, isT]; decide +kernel)
theorem kit_tup (d : PyData) : kitB (tyN d) "tuple" = some (isT d) := by
  cases d <;> (simp only [tyN, isS, isT]; decide +kernel)
/-- isinstance(v, str) -/
theorem isi_str {K : PySem.W.Frag} {d : PyData} {v : V} {Q : VK} (h : Od g p H v d) (q : Q (.bl (isS d)) H) : rIsi K [v, .ty "str"] H Q := ⟨v, .ty "str", _, _, _, rfl, .ty "str", h.ty, kit_ty (kit_str d), q⟩
/-- isinstance(v, tuple) -/
theorem isi_tup {K : PySem.W.Frag} {d : PyData} {v : V} {Q : VK} (h : Od g p H v d) (q : Q (.bl (isT d)) H) : rIsi K [v, .ty "tuple"] H Q := ⟨v, .ty "tuple", _, _, _, rfl, .ty "tuple", h.ty, kit_ty (kit_tup d), q⟩
end
end Sf
/-! An own exception whose __init__ says super().__init__(value); self.value = value, over ValueError. -/
namespace Sf
open PySem PySem.Spec PyProof.Rows L2
/-- what the written part says of such a class -/
structure SupC (K : PySem.W.Frag) (mg : Str → Option Value) (D : Addr) : Prop where
  ex : OexC K D
  sup : PySem.W.ks_superIn K D D "__init__" = some (some (.builtin "ValueError.__init__"))
  sub : PySem.W.subIn K (.ref D) (.type "ValueError") = some true
  any : PySem.W.nsIn K cStatics "thirdparty.any" = some none
  own : PySem.W.mroIn K D (.ref D) = some true
  noSup : mg "super" = none
  noVal : PySem.W.findIn K (.ref D) "value" = some none
/-- the scope of such an __init__ -/
structure SupS (sc : Scope) : Prop where
  kind : sc.kind = .function
  co : sc.isCoroutine = false
  gen : sc.isGenerator = false
  sup : sc.names.lookup ("super" : Str) = some .globalImplicit
  cls : sc.names.lookup ("__class__" : Str) = some .free
  slf : sc.names.lookup ("self" : Str) = some .local
  val : sc.names.lookup ("value" : Str) = some .local
  noc : ∀ x ∈ sc.names, x.2 ≠ .cell
def spSup (D : Addr) : Sp := fun vs H Q _ => ∃ (a : Addr) (v : V), vs = [.ref a, v] ∧ H a = some (exo a D none) ∧ ∀ dx, H dx = none → dx ≠ a → Q .non (upd (upd H dx (exd dx [("value", v)])) a (exo a D (some dx)))
section
variable {P : Program} {w : World} {K : PySem.W.Frag} {mg : Str → Option Value} {base : Heap}
theorem ok_sup {f D cc cda : Addr} {name qual : Str} {params : Arguments} {scope : Scope} {dV kV doc pm ct oc cl ccl : Value} {an od cld cdd : Option Addr} {osl csl ccs : Array (Option Value)} {vs2 : Array Value} {file : Str} {tf : Tok} {k : Nat} {ar : Arg}
    {a1 a2 a3 a4 a5 a6 b1 b2 b3 b4 : Pos} (S : SupS scope) (C : SupC K mg D)
    (lk : K.lookup f = some ⟨oc, od, .func (PySem.W.ksFn name qual params [.Expr (.Call (.Attribute (.Call (.Name "super" a1) [] [] a2) "__init__" a3) [.Name "value" a4] [] a5) a6, .Assign [.Attribute (.Name "self" b1) "value" b2] (.Name "value" b3) b4] scope dV kV doc pm an (.ref cda) ct cc), osl⟩)
    (hcd : PySem.W.codeIn K (.ref cda) qual = true) (hcell : K.lookup cc = some ⟨cl, cld, .cell (some (.ref D)), csl⟩) (hcode : K.lookup cda = some ⟨ccl, cdd, .fields vs2, ccs⟩) (hvs : vs2[2]? = some (.str file tf)) (hfile : ((P.main.file : Str) == file) = true)
    (pl : Sem Bool) (T1 : ∀ L, interactive (PySem.W.ksEnv qual scope L f (.ref cda) cc) = false)
    (T2 : ∀ L, swapsWith (.Call (.Attribute (.Call (.Name "super" a1) [] [] a2) "__init__" a3) [.Name "value" a4] [] a5) none a6.line (PySem.W.ksEnv qual scope L f (.ref cda) cc) = pure false)
    (T3 : ∀ L, eval (.Call (.Attribute (.Call (.Name "super" a1) [] [] a2) "__init__" a3) [.Name "value" a4] [] a5) (PySem.W.ksEnv qual scope L f (.ref cda) cc) = (do
      let ov ← attributeBase (.Call (.Name "super" a1) [] [] a2) "__init__" (PySem.W.ksEnv qual scope L f (.ref cda) cc) (eval (.Call (.Name "super" a1) [] [] a2) (PySem.W.ksEnv qual scope L f (.ref cda) cc))
      standAt a3.atName
      let (fn, first) ← holding [ov] (getMethod ov "__init__" pl)
      callWith a5 fn first (backTo a5 (starEach [.Name "value" a4] (PySem.W.ksEnv qual scope L f (.ref cda) cc))) []))
    (T4 : ∀ L, swapsWith (.Name "value" b3) (some (.Attribute (.Name "self" b1) "value" b2)) b4.line (PySem.W.ksEnv qual scope L f (.ref cda) cc) = pure false)
    (htop : (P.main.scope.names.lookup ("super" : Str)).isSome = false) (hp : (params.posonlyargs ++ params.args).head? = some ar) (har : ar.arg = "self") :
    FnOk P w K mg base CX0 (k + 1) f (PySem.W.ksFn name qual params [.Expr (.Call (.Attribute (.Call (.Name "super" a1) [] [] a2) "__init__" a3) [.Name "value" a4] [] a5) a6, .Assign [.Attribute (.Name "self" b1) "value" b2] (.Name "value" b3) b4] scope dV kV doc pm an (.ref cda) ct cc) ["self", "value"] (spSup D) := by
  refine ⟨fun vs H Q E h => ?_, fun A outer s H args us vs Q E hr e0 hb r hsp => ?_⟩
  · obtain ⟨a, v, rfl, _⟩ := h
    rfl
  obtain ⟨a, v, rfl, ea, q⟩ := hsp
  obtain ⟨ua, u, rfl, ra, ru⟩ := vals2 r
  obtain rfl : ua = Value.ref a := ra
  have KX : K.In s.heap := e0.mod.kin.keeps fun b o e => (e0.bs b o e).1
  have lim : s.heap.NoLimit := e0.mod.nolimit.keeps fun b o e => (e0.bs b o e).1
  obtain ⟨t1, ha⟩ := exo_at e0.hok ea
  obtain ⟨nm, qn, N, bs, bm, sn, sb, ab, col, dd, k0, k1, k2, k3, k5, hC, hbm⟩ := C.ex.cls
  have hcl : PySem.W.clsIn K D = some { name := nm, bases := bs, mro := .ref D :: bm, ns := N, qualname := qn, hasDict := true, slotNames := sn, subclasses := sb, abstract := ab, collection := col, hasDel := false } := by
    unfold PySem.W.clsIn
    rw [hC] <;> rfl
  have hal : PySem.W.alongIn K "__init__" bm = some (some (.builtin "ValueError.__init__")) := by
    have z := C.sup
    unfold PySem.W.ks_superIn at z
    rw [hcl] at z
    have e : ((Value.ref D :: bm).dropWhile (· != .ref D)).drop 1 = bm := by simp [List.dropWhile_cons]
    have z : PySem.W.alongIn K "__init__" (((Value.ref D :: bm).dropWhile (· != .ref D)).drop 1) = _ := z
    rw [e] at z
    exact z
  obtain ⟨mb, hB0, hbb⟩ := e0.mod.blt
  have hG0 := e0.mod.glob
  have bsk : ∀ b o, base.get? b = some o → s.heap.get? b = some o := fun b o e => (e0.bs b o e).1
  have hDa : a ≠ D := fun z => by
    have y := KX _ _ hC
    rw [← z, ha] at y
    cases y
  have fr := e0.hok
  obtain ⟨hp0, g, d, t, os⟩ := s
  dsimp only at KX lim ha hb bsk fr
  refine ks_codeAny_call_defAt (binds := [("self", Value.ref a), ("value", u)]) hr.depth (KX _ _ lk) rfl lim (PySem.W.codeRec_of KX hcd) rfl hb S.noc (fun x hx => ?_) (fun h0 hns hk => ?_) S.co S.gen S.kind
  · rcases List.mem_cons.mp hx with rfl | hx
    · exact S.slf
    · obtain rfl := List.mem_singleton.mp hx
      exact S.val
  dsimp only at hns hk ⊢
  have X0 : K.In h0 := KX.keeps hk
  have ha0 := hk _ _ ha
  have hG : h0.Ns mainGlobals mg := hG0.keeps fun b o e => hk b o (bsk b o e)
  have hB : h0.Ns builtinsNs mb := hB0.keeps fun b o e => hk b o (bsk b o e)
  show PySem.wpAt _ _ _ (execs _ (PySem.W.ksEnv qual scope hp0.objs.size f (.ref cda) cc)) _ _ _
  refine ks_wpAt_execs_cons (ks_wpAt_Expr_any (ks_wpAt_MethodCall (pl := pl) ?_ (T3 _)) (T1 _) (T2 _))
  refine ks_wpAt_super_base S.sup S.cls rfl rfl (X0 _ _ lk) rfl hp rfl (X0 _ _ hcode) rfl hvs hfile htop ?_
  refine PySem.W.ks_loadName_global S.kind S.sup (Calls.loadGlobal_builtin hG C.noSup hB ((hbb "super" (by decide +kernel)).trans (by decide +kernel)) ⟨rfl, ?_⟩)
  refine wpAny_loadName_free S.kind S.cls rfl ⟨_, X0 _ _ hcell, rfl⟩ ?_
  rw [har]
  refine wpAny_loadName_local S.kind S.slf hns rfl ?_
  refine ks_wpAny_isType_cls (X0 _ _ hC) rfl ⟨rfl, ?_⟩
  refine ks_wpAny_call_super (X0 _ _ hC) rfl ha0 rfl (fun c z => nomatch z) (PySem.W.looks_mroIn X0 C.own) (fun h1 e1 k1 => ?_)
  have X1 : K.In h1 := X0.keeps k1
  have ha1 := k1 _ _ ha0
  have I1 : PySem.W.InstAt h1 a { cls := .ref D, dict := none, data := .fields #[.ref t1, .none, .none, .none, .bool false, .none] } D none := ⟨ha1, rfl, rfl, trivial⟩
  refine PySem.W.kxs_getMethod PySem.W.kxs_ValueError e1 (PySem.W.looks_opaque X1 C.any) (l₀ := .ref D :: bm) (fun A Q E s k q => wpAny_bind ((PySem.W.looks_clsIn X1 hcl) A _ E s k (wpAny_pure q))) (by simp [List.dropWhile_cons] <;> rfl) X1 hal (I1.type.andThen (PySem.W.looks_subIn X1 C.sub)) hDa rfl ?_
  -- the wrapper is called
  have keep2 : ∀ b o, h1.get? b = some o → (h1.push (PySem.W.kxs_mw "ValueError.__init__" a)).get? b = some o := fun b o e => Heap.get?_push_of_some _ e
  have hu2 : (h1.push (PySem.W.kxs_mw "ValueError.__init__" a)).get? h1.objs.size = some (PySem.W.kxs_mw "ValueError.__init__" a) := Heap.get?_push_at rfl rfl
  generalize h1.push (PySem.W.kxs_mw "ValueError.__init__" a) = h2 at keep2 hu2 ⊢
  have hk2 : ∀ b o, h0.get? b = some o → h2.get? b = some o := fun b o e => keep2 b o (k1 b o e)
  have X2 : K.In h2 := X0.keeps hk2
  have ha2 := hk2 _ _ ha0
  have hns2 : h2.Ns hp0.objs.size fun x => List.lookup x [(Str.ofString "self", Value.ref a), (Str.ofString "value", u)].reverse := hns.keeps hk2
  refine PySem.W.kxs_callWith (i := "ValueError.__init__") (x := a) rfl (Calls.evalArgs_plain (Calls.spliced_cons ?_))
  rw [if_neg Bool.false_ne_true]
  refine wpAny_Name (x := "value") ?_ (by decide)
  refine wpAny_loadName_local (env := PySem.W.ksEnv qual scope hp0.objs.size f (.ref cda) cc) S.kind S.val hns2 rfl ?_
  refine Calls.spliced_nil ⟨hu2, ?_⟩
  -- BaseException.__init__(e, value)
  refine wpAny_call (codeAny_of_tree ?_)
  show wpAny _ _ (callAny (.ref h1.objs.size) ⟨[u], []⟩) _ _ _
  simp only [callAny]
  refine wpAny_bind (wpAny_load hu2 ?_)
  simp only [PySem.W.kxs_mw, show (Value.type "method-wrapper" == Value.type "method" || Value.type "method-wrapper" == Value.type "builtin_function_or_method" || Value.type "method-wrapper" == Value.type "method-wrapper") = true by decide, if_true]
  refine PySem.W.KFB.if_so (by decide) ?_
  refine wpAny_bind (PySem.W.check_bound_init PySem.F.excBase_ValueError.toExcCallFacts (X2 _ _ hC) ha2 rfl ?_)
  refine wpAny_bind (wpAny_pure (wpAny_pure ?_))
  refine ⟨Code.quiet_builtin _ (by decide +kernel), codeAny_builtin PySem.F.excBase_ValueError.initEntry ?_⟩
  refine PySem.W.exc_init_tree (cls := .ref D) (t0 := t1) (dv := none) (c2 := .none) (c3 := .none) (b4 := .bool false) ha2 (show 1 ≤ sizeLine by decide) (fun h3 k3 e3 _ => ?_)
  have neA : ∀ b o, K.lookup b = some o → b ≠ a := fun b o e z => by
    have y := (e0.bs b o (e0.mod.kin b o e)).2
    rw [z, ea] at y
    cases y
  have X3 : K.In h3 := fun b o e => k3 b o (neA b o e) (X2 b o e)
  have nL : hp0.objs.size ≠ a := Nat.ne_of_gt (Heap.lt_size ha)
  have hns3 : h3.Ns hp0.objs.size fun x => List.lookup x [(Str.ofString "self", Value.ref a), (Str.ofString "value", u)].reverse := by
    obtain ⟨o, es, ep, ho, rr⟩ := hns2
    exact ⟨o, es, ep, k3 _ _ nL ho, rr⟩
  show PySem.wpAt _ _ _ (execs _ (PySem.W.ksEnv qual scope hp0.objs.size f (.ref cda) cc)) _ _ _
  refine ks_wpAt_execs_cons (ks_wpAt_Assign_Attr ?_ (T4 _))
  refine PySem.wpAt_of_wpAny (wpAny_Name (x := "value") ?_ (by decide))
  refine wpAny_loadName_local (env := PySem.W.ksEnv qual scope hp0.objs.size f (.ref cda) cc) S.kind S.val hns3 rfl ?_
  refine wpAny_Name (x := "self") ?_ (by decide)
  refine wpAny_loadName_local (env := PySem.W.ksEnv qual scope hp0.objs.size f (.ref cda) cc) S.kind S.slf hns3 rfl ?_
  refine PySem.W.set_plain X3 (ox := PySem.W.excRec (.ref D) h2.objs.size none .none .none (.bool false)) (od := none) ⟨e3, rfl, rfl, trivial⟩ C.ex.sa ?_
  refine PySem.HandSPX.exc_osa X3 e3 hcl (show PySem.HandSPX.refsVE (.ref D :: bm) = true from hbm) rfl C.noVal (fun h4 tk4 dx k4 dn dne hx hn => ?_)
  refine PySem.wpAt_of_wpAny (wpAny_execs_nil ?_)
  -- the end
  have kAll : ∀ b o, b ≠ a → hp0.get? b = some o → h4.get? b = some o := fun b o n e => k4 b o n (k3 b o n (hk2 b o (hk b o e)))
  have big : hp0.objs.size ≤ dx := by
    have l3 : hp0.objs.size < h3.objs.size := by
      obtain ⟨o, es, ep, ho, _⟩ := hns3
      exact Heap.lt_size ho
    have dn : h3.objs.size ≤ dx := dn
    omega
  have hnd : H dx = none := fr.fresh big
  have nd : ∀ {b : Addr} {o : Obj}, hp0.get? b = some o → b ≠ dx := fun {b o} e => Nat.ne_of_lt (Nat.lt_of_lt_of_le (Heap.lt_size e) big)
  have na : ∀ {b : Addr}, H b = none → b ≠ a := fun {b} n z => by
    rw [z, ea] at n
    cases n
  refine ⟨V.non, upd (upd H dx (exd dx [("value", v)])) a (exo a D (some dx)), rfl, e0.bare, ?_, fun b o e => ?_, rfl, q dx hnd dne⟩
  · exact {
      keep := fun b o e n _ _ => kAll b o (na n) e
      slot := fun b o e n _ _ => ⟨o.slots, kAll b o (na n) e⟩
      free := fun b o e n _ => by
        rw [upd_ne (na n), upd_ne (nd e)]
        exact n
      there := fun b o e _ => by
        by_cases z : b = a
        · exact ⟨_, by rw [z]; exact hx⟩
        · exact ⟨o, kAll b o z e⟩
      tups := fun b xs e => by
        rw [upd_ne (at_ne ea e exo_tup), upd_ne (ne_of_none e hnd)]
        exact e
      frzs := fun b o t e => by
        rw [upd_ne (at_ne ea e exo_frz), upd_ne (ne_of_none e hnd)]
        exact e
      tbls := fun b ps e => ⟨#[], by
        rw [upd_ne (at_ne ea e exo_tbl), upd_ne (ne_of_none e hnd), e]
        simp⟩ }
  · by_cases z : b = a
    · subst z
      rw [upd_same] at e
      cases e
      exact exo_ok hx
    · rw [upd_ne z] at e
      by_cases y : b = dx
      · subst y
        rw [upd_same] at e
        cases e
        exact exd_ok hn (relO_put (fs := []) ru fun _ => True.intro)
      · rw [upd_ne y] at e
        refine (fr b o e).stay (fun c t hc g => kAll c t ?_ g) (fun c hc => ?_) fun c xs hc => ?_
        · rcases hc with hc | hc
          · rw [hc]
            exact z
          · exact at_ne ea hc exo_own
        · rw [upd_ne (at_ne ea hc exo_own), upd_ne (ne_of_none hc hnd)]
          exact hc
        · rw [upd_ne (at_ne ea hc exo_tup), upd_ne (ne_of_none hc hnd)]
          exact hc
end
end Sf
/-! A caught exception that is looked at behind its except suite: it stays pinned while the rest of the body runs. -/
namespace Sf
open PySem PySem.Spec PyProof.Rows L2
/-- what the clause wishes of an exception: ts reads the suite, te the rest of the body behind it -/
def wKeep (K : PySem.W.Frag) (m : Nat) (c : Value) (i : Nat) (ts te : Addr → Value → Option Addr → TS) (Wo : WX) (D : Ends) : WX := fun cls d σ H => σ.length = m →
  ∃ b, PySem.W.exmOne K cls c = some b ∧ (b = true → ∀ a, H a = none → ts a cls d { nx := fun σ' H' => te a cls d D (σ'.set i none) H', rt := fun _ _ => False } (σ.set i (some (.ref a))) H) ∧ (b = false → Wo cls d σ H)
section
variable {X : Cx} {x n : Str} {c : Value} {i : Nat} {body suite rest : List Stmt} {b0 : Stmt} {np pos pos' : Pos} {tb : WX → TS} {tr : TS} {ts te : Addr → Value → Option Addr → TS} {Wo : WX}
theorem keepPin {pins pn' : List (Addr × Obj)} {σ : L2.St} {H : Hp} {s : Shared} {q : Addr × Obj} {xe : Value → Shared → Prop} (I : Inv (X.tr (q :: (X.pn ++ pins)) xe) pn' σ H s) (ok : X.Ok) : Inv X pins σ H s :=
  ⟨ok, I.os, I.bare, I.base, I.loc, I.cell, I.free, I.freeC, fun p hp => I.pin p (List.mem_append_left _ (List.mem_cons_of_mem _ hp)), I.hok, I.len⟩
theorem pss_try_keep (hs : X.stack = X.env :: X.outer) (hf : X.env.frame = some X.env.locals) (hN : X.N.Nodup) (hi : X.N[i]? = some n) (hln : X.env.kindOf n = some .local) (hc : Names X x c) (tk : Takes X Wo)
    (hb : ∀ (W : WX) (pn : List (Addr × Obj)) (xe : Value → Shared → Prop), Takes (X.tr pn xe) W → PassesOwn (model X.prog X.w) X.A X.env xe → PSs (X.tr pn xe) body (tb W))
    (hsu : ∀ (a : Addr) (oe : Obj) (cls : Value) (d : Option Addr) (pn : List (Addr × Obj)), Zc cls d oe → (∃ vs, oe.data = .fields vs) → PSs (X.suite a ((a, oe) :: pn)) (b0 :: suite) (ts a cls d))
    (hr : PSs X rest tr)
    (hk : ∀ (a : Addr) (oe : Obj) (cls : Value) (d : Option Addr) (pn : List (Addr × Obj)), Zc cls d oe → (∃ vs, oe.data = .fields vs) → PSs (X.tr ((a, oe) :: pn) X.xe) rest (te a cls d)) :
    PSs X (.Try body [.ExceptHandler (some (.Name x np)) (some n) (b0 :: suite) pos'] [] [] pos :: rest) (fun D σ H => tb (wKeep X.K X.N.length c i ts te Wo D) { D with nx := tr D } σ H) := by
  refine ⟨fun pins st σ H D I prom => ?_⟩
  have ok := I.ok
  have frm : X.A.frames = some (X.env :: X.outer) := by
    rw [ok.frames, hs]
  -- what stands behind the try
  let End : Flow → Shared → Prop := fun fl sx => SP X pins { D with nx := tr D } fl sx ∨ (fl = .next ∧ ∃ (a : Addr) (oe : Obj) (cls : Value) (d : Option Addr) (σ' : L2.St) (H' : Hp), Zc cls d oe ∧ (∃ vs, oe.data = .fields vs) ∧ Inv (X.tr ((a, oe) :: (X.pn ++ pins)) X.xe) [] σ' H' sx ∧ te a cls d D σ' H')
  refine wpAny_execs_cons (wpAny_mono (Q := End) (E := X.xe) ?_ (fun fl sx done => ?_) fun _ _ z => z)
  · refine wpAny_Try_except ?_
    refine wpAny_mono ((hb (wKeep X.K X.N.length c i ts te Wo D) (X.pn ++ pins) (fun ex s1 => wpAny (model X.prog X.w) X.A (noteFrame ex X.env) (fun _ s2 => wpAny (model X.prog X.w) X.A (setFlight ex none) (fun _ s3 =>
      wpAny (model X.prog X.w) X.A (handleBy ex X.env [.ExceptHandler (some (.Name x np)) (some n) (b0 :: suite) pos']) End X.xe s3) X.xe s2) X.xe s1) (fun u sx air => ?_) PassesOwn.looking).run [] st σ H _ (I.toTry _) prom) (fun fl s1 done => ?_) (fun _ _ z => z)
    · obtain ⟨a, B, sI, pins', σ', H', cls, d, rfl, J0, nb, up, sky, na, os, ag, wk⟩ := air
      obtain ⟨b, hb1, yes, no⟩ := wk J0.len
      have J : Inv X pins σ' H' sI := J0.ofTry ok
      have sky2 : Sky B (X.env :: X.outer) a (Zc cls d) X.env.locals sx.heap := by
        rw [← hs]
        exact sky
      show wpAny (model X.prog X.w) X.A (noteFrame (.ref a) X.env) _ _ _
      refine Sky.land Zc.steady frm hf sky2 fun g3 fly3 up3 => ?_
      have J3 : Inv X pins σ' H' { sx with heap := g3 } := J.landed nb fly3.1 (up.trans up3) os ag
      obtain ⟨oe3, vs3, he3, hz3, hd3⟩ := fly3.there
      have out : a ∉ frs (X.env :: X.outer) := fun hm => by
        obtain ⟨_, o', e', hnf⟩ := fly3.2.2.1.mem hm
        rw [he3] at e'
        cases e'
        exact hnf _ hd3
      have nL : a ≠ X.env.locals := fun z => out (List.mem_filterMap.mpr ⟨X.env, List.mem_cons_self, by rw [hf, z]⟩)
      have nF : a ∉ X.fs := fun hm => by
        obtain ⟨ev, he, q⟩ := List.mem_filterMap.mp hm
        exact out (List.mem_filterMap.mpr ⟨ev, List.mem_cons_of_mem _ he, q⟩)
      have S3 := J3.suite he3 hd3 na nL nF
      refine wpAny_handleBy_cons (codeAny_handlers_test ?_) (fun q => nomatch q)
      have LT : PySem.W.Looks (model X.prog X.w) g3 (typeOf (.ref a)) cls := fun A Q E s k q => wpAny_typeOf_ref (k _ _ he3) (by rw [hz3.1]; exact q)
      have LM := PySem.W.exm_one (M := model X.prog X.w) J3.kIn LT hb1
      have named : ∀ {Q : Value → Shared → Prop} {E : Value → Shared → Prop}, Q c { sx with heap := g3 } → wpAny (model X.prog X.w) (X.A.mark (some (.ref a))) (eval (.Name x np) X.env) Q E { sx with heap := g3 } := fun {Q E} q => by
        obtain ⟨hg, hdb, hm | ⟨hm, hv, hnn⟩⟩ := hc
        · exact ld_glob (X := X.suite a ((a, oe3) :: (X.pn ++ pins))) S3 hg hm q hdb
        · exact ld_blt (X := X.suite a ((a, oe3) :: (X.pn ++ pins))) S3 hg hm hv q hnn hdb
      refine named (LM.here ?_)
      cases b with
      | true =>
        refine codeAny_handlers_suite_as (HandSPX.lands_againZ fly3 fun g4 fly4 up4 => ?_)
        have J4 : Inv X pins σ' H' { sx with heap := g4 } := J.landed nb fly4.1 ((up.trans up3).trans up4) os ag
        obtain ⟨oe4, vs4, he4, hz4, hd4⟩ := fly4.there
        have S4 := J4.suite he4 hd4 na nL nF
        refine store_ok (X := X.suite a ((a, oe4) :: (X.pn ++ pins))) (v := .ref a) S4 hN hi (.inl hln) rfl (fun s5 S5 => ?_) (.inr hln)
        refine wpAny_mono ((hsu a oe4 cls d (X.pn ++ pins) hz4 ⟨_, hd4⟩).run [] s5 _ H' _ S5 (yes rfl a na)) (fun fl s6 done => ?_) (fun _ _ z => False.elim z)
        match fl, done with
        | .next, ⟨σ6, H6, S6, q6⟩ =>
          have P6 : Inv (X.tr ((a, oe4) :: (X.pn ++ pins)) X.xe) [] σ6 H6 s6 := ⟨ok.toTry _ _, S6.os, S6.bare, S6.base, S6.loc, S6.cell, S6.free, S6.freeC, S6.pin, S6.hok, S6.len⟩
          exact gone_ok (X := X.tr ((a, oe4) :: (X.pn ++ pins)) X.xe) P6 hN hi hln fun s7 P7 => .inr ⟨rfl, a, oe4, cls, d, _, _, hz4, ⟨_, hd4⟩, P7, q6⟩
        | .ret u, ⟨_, _, _, _, _, z⟩ => exact z.elim
        | .brk, ⟨_, _, _, z⟩ => exact z.elim
        | .cont, ⟨_, _, _, z⟩ => exact z.elim
      | false =>
        show wpAny _ X.A (handleBy (.ref a) X.env []) _ _ _
        refine wpAny_handleBy_nil ?_
        obtain ⟨_, _, _, oe, vs, T, oT, ts', he, hz, hd, h1, hr2⟩ := id fly3
        unfold PySem.passOn
        refine wpAny_bind (wpAny_field he hd h1 ?_)
        rw [if_neg (show ¬ ((Value.ref T == Value.none) = true) from by simp)]
        have fin : wpAny (model X.prog X.w) X.A (setFlight (.ref a) X.env.frame) (fun _ s4 => wpAny (model X.prog X.w) X.A (throw (.ref a) : Sem Flow) End X.xe s4) X.xe { sx with heap := g3 } := by
          rw [hf]
          exact HandSPX.setFlight_upZ fly3 fun g4 held4 up4 => wpAny_throw (tk _ _ ⟨a, B, sI, pins, σ', H', cls, d, rfl, J, nb, (up.trans up3).trans up4, .inr (.inr (by rw [hs]; exact held4)), na, os, ag, no rfl⟩)
        first
          | exact wpAny_bind (wpAny_pure (wpAny_bind fin))
          | exact wpAny_bind fin
    · match fl, done with
      | .next, ⟨σ', H', J', q⟩ => exact wpAny_execs_nil (.inl ⟨σ', H', J'.ofTry ok, q⟩)
      | .brk, ⟨σ', H', J', q⟩ => exact .inl ⟨σ', H', J'.ofTry ok, q⟩
      | .cont, ⟨σ', H', J', q⟩ => exact .inl ⟨σ', H', J'.ofTry ok, q⟩
      | .ret u, ⟨v, σ', H', J', rv, q⟩ => exact .inl ⟨v, σ', H', J'.ofTry ok, rv, q⟩
  · rcases done with done | ⟨rfl, a, oe, cls, d, σ', H', hz, hv, P, q⟩
    · match fl, done with
      | .next, ⟨σ', H', J', q⟩ => exact hr.run pins sx σ' H' D J' q
      | .brk, done => exact done
      | .cont, done => exact done
      | .ret u, done => exact done
    · refine wpAny_mono ((hk a oe cls d (X.pn ++ pins) hz hv).run [] sx σ' H' D P q) (fun fl s8 done => ?_) fun _ _ z => z
      match fl, done with
      | .next, ⟨σ', H', J', q⟩ => exact ⟨σ', H', keepPin J' ok, q⟩
      | .brk, ⟨σ', H', J', q⟩ => exact ⟨σ', H', keepPin J' ok, q⟩
      | .cont, ⟨σ', H', J', q⟩ => exact ⟨σ', H', keepPin J' ok, q⟩
      | .ret u, ⟨v, σ', H', J', rv, q⟩ => exact ⟨v, σ', H', keepPin J' ok, rv, q⟩
end
/-! ### looking at a pinned exception -/
section
variable {X : Cx} {a D dd : Addr} {oe : Obj}
theorem pin_at {pins : List (Addr × Obj)} {σ : L2.St} {H : Hp} {s : Shared} (I : Inv X pins σ H s) (hp : (a, oe) ∈ X.pn) (hz : Zc (.ref D) (some dd) oe) (hf : ∃ vs, oe.data = .fields vs) {fs : List (Str × V)} (ed : H dd = some (.xd fs)) :
    ∃ (od : Obj) (mA : Str → Option Value), PySem.W.InstAt s.heap a oe D (some od) ∧ (∀ n, PySem.W.lookIn n od = some (mA n)) ∧ ∀ n, RelO (fs.lookup n) (mA n) := by
  obtain ⟨ha, _⟩ := I.pin (a, oe) (List.mem_append_left _ hp)
  obtain ⟨vs, hd⟩ := hf
  have hx : ObjOk X.prog X.w H s.heap dd (.xd fs) := I.hok dd _ ed
  obtain ⟨mA, hns, hr⟩ := hx
  obtain ⟨od, ho, hl⟩ := lookIn_ns hns
  exact ⟨od, mA, ⟨ha, hz.1, by unfold PySem.W.notCls; rw [hd] <;> rfl, by rw [hz.2]; exact ho⟩, fun n => hl n, hr⟩
/-- isinstance(e, C) -/
def rIsP (K : PySem.W.Frag) (a D dd : Addr) : List V → Hp → VK → Prop := fun xs H Q => ∃ (c : V) (cv : Value) (b : Bool) (fs : List (Str × V)), xs = [.ref a, c] ∧ ClsV c cv ∧ H dd = some (.xd fs) ∧ PySem.W.kitOne K (.ref D) cv = some b ∧ Q (.bl b) H
theorem call_isP (C : ExcC X.K D) (hp : (a, oe) ∈ X.pn) (hz : Zc (.ref D) (some dd) oe) (hf : ∃ vs, oe.data = .fields vs) : CallR X (.builtin "isinstance") (rIsP X.K a D dd) := by
  intro pins s σ H xs us Q I r h
  obtain ⟨c, cv, b, fs, rfl, kc, ed, e, q⟩ := h
  obtain ⟨u1, u2, rfl, r1, r2⟩ := vals2 r
  obtain rfl : u1 = Value.ref a := r1
  have e2 := kc.eq r2
  subst e2
  obtain ⟨od, mA, J, _, _⟩ := pin_at I hp hz hf ed
  have hcl : (PySem.W.clsIn X.K D).isSome = true := by
    obtain ⟨cd, hc, _⟩ := PySem.W.any_some C.hd
    rw [hc] <;> rfl
  exact PySem.W.kia_one (PySem.W.kitx_exc hcl C.hg C.hk C.hs C.ha C.hn C.ht C.hm) I.kIn J e (fun z => nomatch z) fun tk => ⟨.bl b, H, I.tok tk, rfl, q⟩
/-- isinstance(e, (C1, C2, ..)) -/
def rIsPT (K : PySem.W.Frag) (a D dd : Addr) : List V → Hp → VK → Prop := fun xs H Q => ∃ (tp : Addr) (cs : List V) (vs : List Value) (b : Bool) (fs : List (Str × V)), xs = [.ref a, .ref tp] ∧ H tp = some (.tup cs) ∧ Paired ClsV cs vs ∧ H dd = some (.xd fs) ∧ PySem.W.kitAny K (.ref D) vs = some b ∧ Q (.bl b) H
theorem call_isPT (C : ExcC X.K D) (hp : (a, oe) ∈ X.pn) (hz : Zc (.ref D) (some dd) oe) (hf : ∃ vs, oe.data = .fields vs) : CallR X (.builtin "isinstance") (rIsPT X.K a D dd) := by
  intro pins s σ H xs us Q I r h
  obtain ⟨tp, cs, ws, b, fs, rfl, hT, kc, ed, e, q⟩ := h
  obtain ⟨u1, u2, rfl, r1, r2⟩ := vals2 r
  obtain rfl : u1 = Value.ref a := r1
  obtain rfl : u2 = Value.ref tp := r2
  obtain ⟨od, mA, J, _, _⟩ := pin_at I hp hz hf ed
  have hcl : (PySem.W.clsIn X.K D).isSome = true := by
    obtain ⟨cd, hc, _⟩ := PySem.W.any_some C.hd
    rw [hc] <;> rfl
  obtain ⟨_, its, rv, o, h1, h2, n, h3⟩ := (show ObjOk X.prog X.w H s.heap tp (.tup cs) from I.hok tp _ hT)
  have e3 := ClsV.all kc rv
  subst e3
  obtain ⟨oc, od2, dt, sl⟩ := o
  simp only at h2 h3
  subst h2 h3
  exact PySem.W.kia_tup (PySem.W.kitx_exc hcl C.hg C.hk C.hs C.ha C.hn C.ht C.hm) I.kIn J h1 e (fun z => nomatch z) fun tk => ⟨.bl b, H, I.tok tk, rfl, q⟩
/-- e.n -/
def tFieldP (a dd : Addr) (f : Str) (te : TE) : TE := fun σ H Q => te σ H fun x H1 => x = .ref a ∧ ∃ (fs : List (Str × V)) (v : V), H1 dd = some (.xd fs) ∧ fs.lookup f = some v ∧ Q v H1
theorem pe_fieldP {e : Expr} {te : TE} {pos : Pos} {n : Str} (T : XfC X.K D) (hno : PySem.W.findIn X.K (.ref D) n = some none) (hp : (a, oe) ∈ X.pn) (hz : Zc (.ref D) (some dd) oe) (hf : ∃ vs, oe.data = .fields vs) (he : PE X e te)
    (hb : attributeBase e n X.env (eval e X.env) = eval e X.env := by rfl) : PE X (.Attribute e n pos) (tFieldP a dd n te) :=
  ⟨fun pins s σ H Q I h => attr_of hb (thn (he.run pins s σ H _ I h) fun u s1 ⟨x, H1, I1, rx, ex, fs, v, ed, l, q⟩ => by
    subst ex
    obtain rfl : u = Value.ref a := rx
    obtain ⟨od, mA, J, hl, hr⟩ := pin_at I1 hp hz hf ed
    obtain ⟨u, hu, ru⟩ := RelO.some_of (v := v) (o := mA n) (by rw [← l]; exact hr n)
    exact HandSPX.exc_get I1.kIn J T.ga T.gg T.exC (PySem.W.findObj_own T.hdC hno rfl (by rw [hl n, hu])) (handed_of ru) ⟨v, H1, I1.tok _, ru, q⟩)⟩
end
end Sf
/-! The end of a claim whose law knows that no repr is under way, and in which one def makes lambdas: its table of code objects is tracked. -/
namespace Sf
open PySem PySem.Spec PyProof.Rows L2 LamX
section
variable {P : Program} {w : World} {K : PySem.W.Frag} {mg : Str → Option Value} {base : Heap}
theorem law_callGT {mb : Str → Option Value} {k : Nat} {fa a c T : Addr} {fd : FuncData} {x : Str} {sp : Sp} {sh : Shared} {us : List Value} {ns : List Int} (KX : K.In sh.heap) (hm : sh.heap.Ns mainGlobals mg) (hb : sh.heap.Ns builtinsNs mb) (hbb : ∀ y : Str, y ≠ "__name__" → mb y = bootBuiltins y)
    (lim : sh.heap.NoLimit) (gens : sh.gens = #[]) (hT : sh.heap.get? T = some { cls := .none, data := .fields #[] }) (nT : K.lookup T = none) (hcd : PySem.W.codeHdIn K c T = true)
    (hbm : ∃ (bm : Addr) (ob : Obj), mg "__builtins__" = some (.ref bm) ∧ bm ≠ builtinsNs ∧ sh.heap.get? bm = some ob ∧ ob.cls = .type "module" ∧ ob.dict = some builtinsNs ∧ ob.data = .plain)
    (at_ : sh.heap.get? a = some { cls := .type "list", data := .seq us.toArray }) (hints : IntsAre us ns) (fits : ns.length ≤ sizeLine) (room : Room k callerA)
    (F : ∀ b : Heap, K.In b → b.Ns mainGlobals mg → TabB b mg c T → FnG P w K mg b k fa fd [x] sp) (bind : ∀ (s : Shared) (u : Value), BindsTo s fd ⟨[u], []⟩ [(x, u)]) (prom : ∀ Hh : Hp, Hh T = some (.tbl #[]) → SqL K Hh a (ns.map V.int) → sp [.ref a] Hh (fun v _ => v = .bl true) E0) :
    codeAny (model P w) callerA (.call (.ref fa) ⟨[.ref a], []⟩) (fun r s' => r = .ok (.ret (.bool true)) ∧ OldK sh.heap s'.heap ∧ s'.os = sh.os ∧ AllBare s'.gens) sh := by
  have rel := vals_ints hints
  have lens : us.length ≤ sizeLine := by
    rw [hints.length]
    exact fits
  have aT : a ≠ T := fun z => by
    rw [z, hT] at at_
    have y : Data.fields #[] = Data.seq us.toArray _ := congrArg Obj.data (Option.some.inj at_)
    cases y
  -- tracked: the table, and the script's list unless the module has it
  obtain ⟨Hh, only, tabAt, hS⟩ : ∃ Hh : Hp, (∀ b u, Hh b = some u → (b = a ∧ K.lookup a = none ∧ u = .frz { cls := .type "list", data := .seq us.toArray } (.lst (ns.map V.int))) ∨ (b = T ∧ u = .tbl #[])) ∧ Hh T = some (.tbl #[]) ∧ SqL K Hh a (ns.map V.int) := by
    cases hk : K.lookup a with
    | some ob =>
      obtain rfl : ob = _ := Option.some.inj ((KX a ob hk).symm.trans at_)
      refine ⟨fun b => if b = T then some (.tbl #[]) else none, fun b u z => ?_, if_pos rfl, .inr ⟨_, us.toArray, _, hk, rfl, rfl, rfl, by rw [List.size_toArray]; exact lens, by simpa using rel⟩⟩
      dsimp only at z
      by_cases e : b = T
      · rw [if_pos e] at z
        exact .inr ⟨e, (Option.some.inj z).symm⟩
      · rw [if_neg e] at z
        cases z
    | none =>
      refine ⟨fun b => if b = a then some (.frz { cls := .type "list", data := .seq us.toArray } (.lst (ns.map V.int))) else if b = T then some (.tbl #[]) else none, fun b u z => ?_, ?_, .inl (.inr ⟨_, if_pos rfl⟩)⟩
      · dsimp only at z
        by_cases e : b = a
        · rw [if_pos e] at z
          exact .inl ⟨e, rfl, (Option.some.inj z).symm⟩
        · rw [if_neg e] at z
          by_cases e2 : b = T
          · rw [if_pos e2] at z
            exact .inr ⟨e2, (Option.some.inj z).symm⟩
          · rw [if_neg e2] at z
            cases z
      · dsimp only
        rw [if_neg aT.symm, if_pos rfl]
  have notK : ∀ b o, K.lookup b = some o → Hh b = none := fun b o e => by
    cases q : Hh b with
    | none => rfl
    | some u =>
      rcases only b u q with ⟨e1, e2, _⟩ | ⟨e1, _⟩
      · rw [e1, e2] at e
        cases e
      · rw [e1, nT] at e
        cases e
  have notO : ∀ (b : Addr) (o : Obj), sh.heap.get? b = some o → (∀ vs n, o.data ≠ .seq vs n) → o.data ≠ .fields #[] → Hh b = none := fun b o e h1 h2 => by
    cases q : Hh b with
    | none => rfl
    | some u =>
      rcases only b u q with ⟨e1, _, _⟩ | ⟨e1, _⟩
      · rw [e1, at_] at e
        cases e
        exact absurd rfl (h1 _ _)
      · rw [e1, hT] at e
        cases e
        exact absurd rfl h2
  have notD : ∀ (b : Addr) (o : Obj) (es : Array DictEntry) (ep : Nat), sh.heap.get? b = some o → o.data = .dict es ep → Hh b = none := fun b o es ep e d => notO b o e (fun vs n z => by rw [d] at z; cases z) fun z => by rw [d] at z; cases z
  have space : ∀ {b : Addr} {m : Str → Option Value}, sh.heap.Ns b m → (hidT sh.heap Hh).Ns b m := fun {b m} ⟨o, es, ep, e, d, r⟩ => ⟨o, es, ep, hidT_get e (notD b o es ep e d), d, r⟩
  have inB : K.In (hidT sh.heap Hh) := fun b o e => hidT_get (KX b o e) (notK b o e)
  have md : Mod K mg (hidT sh.heap Hh) := ⟨inB, space hm, ⟨mb, space hb, hbb⟩, lim.elim fun mc z => ⟨mc, space z.1, z.2⟩⟩
  have tb : TabB (hidT sh.heap Hh) mg c T := by
    obtain ⟨bm, ob, b1, b2, b3, b4, b5, b6⟩ := hbm
    obtain ⟨og, es, ep, eg, dg, _⟩ := hm
    refine NdefX.tabB_of_K inB hcd ⟨bm, ob, b1, b2, fun z => ?_, fun z => ?_, hidT_get b3 (notO bm ob b3 (fun vs n z => by rw [b6] at z; cases z) fun z => by rw [b6] at z; cases z), b4, b5, b6⟩ fun z => ?_
    · rw [z, eg] at b3
      cases b3
      rw [dg] at b6
      cases b6
    · rw [z, hT] at b3
      cases b3
      cases b6
    · rw [z, hT] at eg
      cases eg
      cases dg
  have held : HOk P w Hh sh.heap := fun b u z => by
    rcases only b u z with ⟨e1, _, e3⟩ | ⟨e1, e3⟩
    · subst e1
      subst e3
      exact ⟨at_, by rw [List.length_map]; exact fits, us, _, rel, at_⟩
    · subst e1
      subst e3
      exact hT
  have e0 : Env0 P w K mg (hidT sh.heap Hh) callerA [] sh Hh := ⟨rfl, md, fun b o e => of_hidT e, Nat.le_of_eq (hidT_size _ _), trivial, (fun b z => nomatch z), held, .of_eq gens⟩
  refine codeAny_mono ((F _ inB (space hm) tb).go callerA [] sh Hh ⟨[.ref a], []⟩ [.ref a] [.ref a] _ _ room rfl e0 (bind sh (.ref a)) (.cons rfl .nil) (prom Hh tabAt hS)) fun r s2 done => ?_
  match r, done with
  | .error ex, z => exact absurd z (by
      intro z
      exact z)
  | .ok .next, z => exact z.elim
  | .ok .brk, z => exact z.elim
  | .ok .cont, z => exact z.elim
  | .ok (.ret u), ⟨v, H2, os, bare, un, held2, rv, qv⟩ =>
    obtain rfl : v = .bl true := qv
    obtain rfl : u = Value.bool true := rv
    have stay : ∀ b o, b ≠ T → sh.heap.get? b = some o → s2.heap.get? b = some o := fun b o nb e => by
      cases q : Hh b with
      | none => exact un.keep b o e q (fun z => nomatch z) (fun z => nomatch z)
      | some t =>
        rcases only b t q with ⟨e1, _, e3⟩ | ⟨e1, _⟩
        · rw [e3] at q
          obtain ⟨g1, _⟩ := held b _ q
          obtain ⟨g2, _⟩ := held2 b _ (un.frzs b _ _ q)
          rw [e] at g1
          cases g1
          exact g2
        · exact absurd e1 nb
    obtain ⟨more, grown⟩ := un.tbls T #[] tabAt
    have grown2 : s2.heap.get? T = some { cls := .none, data := .fields (#[] ++ more) } := held2 T _ grown
    refine ⟨rfl, ⟨fun b o e => ?_, fun b o e => ?_⟩, os, bare⟩
    · by_cases nb : b = T
      · subst nb
        rw [hT] at e
        cases e
        exact .inr (.inl ⟨((PySem.W.codeHd_of_K KX hcd).tab hT).isCodeTable, rfl, #[], more, rfl, grown2⟩)
      · exact .inl (stay b o nb e)
    · by_cases nb : b = T
      · subst nb
        exact ⟨_, grown2⟩
      · exact ⟨o, stay b o nb e⟩
theorem walk_GT {l : PySem.W.OpenLaw} {n k : Nat} {q : Program} {loose : List Str} {XP : (Str → Option Value) → Heap → Prop} {YP : World → Heap → Prop} {d : DefRec} {KK : Params → PySem.W.Frag} {sp : World → Addr → Sp} {x nR : Str} (most : l.most = some n) (few : n ≤ sizeLine) (nodef : d.params.defaults = []) (room : Room k callerA)
    (hrec : ((recsOf q).any fun e => e.name == nR) = true) (hY : ∀ (w : World) (h : Heap), YP w h → (KK w.params).In h)
    (F : ∀ (w : World) (mg : Str → Option Value) (fa : Addr) (h : Heap), (KK w.params).In h → h.Ns mainGlobals mg → mg d.name = some (.ref fa) →
      ∃ (fd fdR : FuncData) (c T fR : Addr) (o : Obj) (e : Value) (dd : Option Addr) (vs : Array Value) (sl : Array (Option Value)), (KK w.params).lookup T = none ∧ PySem.W.codeHdIn (KK w.params) c T = true ∧ mg nR = some (.ref fR) ∧ (KK w.params).lookup fR = some o ∧ o.data = .func fdR ∧ fdR.code = .ref c ∧
        (KK w.params).lookup c = some ⟨e, dd, .fields vs, sl⟩ ∧ vs[11]? = some (.ref T) ∧ (∀ (s : Shared) (u : Value), BindsTo s fd ⟨[u], []⟩ [(x, u)]) ∧ ∀ b : Heap, (KK w.params).In b → b.Ns mainGlobals mg → TabB b mg c T → FnG l.prog w (KK w.params) mg b k fa fd [x] (sp w T))
    (prom : ∀ (w : World) (T : Addr) (Hh : Hp) (a : Addr) (ns : List Int), ns.length ≤ n → Hh T = some (.tbl #[]) → SqL (KK w.params) Hh a (ns.map V.int) → sp w T [.ref a] Hh (fun v _ => v = .bl true) E0) :
    PySem.W.WalkO q loose XP YP l.row.toRowW d [] (fun f vs => PySem.call f vs) :=
  Att.attach_call most nodef fun w s0 s1 mg mb fa o pm cd doc a vs ns G Y _ _ _ hmg hobj hints hlen hg => by
    have KX := hY w _ Y
    obtain ⟨fd, fdR, c, T, fR, oR, e, dd, us, sl, nT, hcd, g1, k1, k2, k3, k4, k5, bind, hF⟩ := F w mg fa _ KX G.T.g hmg
    obtain ⟨dR, hd1, hd2⟩ := List.any_eq_true.mp hrec
    have hd3 : dR.name = nR := beq_iff_eq.mp hd2
    obtain ⟨a', o', fd', c', T', h1, h2, h3, h4, h5, h6⟩ := G.T.tab dR hd1
    rw [hd3, g1] at h1
    cases h1
    have q1 := KX _ _ k1
    rw [q1] at h2
    cases h2
    rw [k2] at h3
    cases h3
    rw [k3] at h4
    cases h4
    obtain ⟨⟨oc, vc, e1, _, e3, e4⟩, hP⟩ := h6
    have q2 := KX _ _ k4
    rw [q2] at e1
    cases e1
    cases e3
    rw [k5] at e4
    cases e4
    exact law_callGT KX G.T.g G.T.b G.T.builtins G.T.nolimit hg hP nT hcd G.T.bmain hobj hints (Nat.le_trans hlen few) room hF bind fun Hh hH hS => prom w T Hh a ns hlen hH hS
end
end Sf
namespace Sf
open PySem PySem.Spec PyProof.Rows L2
/-! ### the text -/
def topS (i : Nat) : Stmt := PySem.Challenge.pw_siftstore_k02_pairs_of_texts.main.body.getD i (.Pass ⟨0, 0, 0, 0⟩)
abbrev sPot : Stmt := topS 16
abbrev sDraw : Stmt := topS 17
theorem scPot : FnScope ["_law_script", "_law_k", "_law_cell", "_law_own"] ["_law_script", "_law_k"] (defScope sPot) := ⟨rfl, rfl, rfl, by decide +kernel, rfl, by decide +kernel, by decide +kernel⟩
theorem scDraw : FnScope ["_law_pot_here", "_law_many", "_law_digit", "_law_prime", "_law_made"] ["_law_pot_here", "_law_many"] (defScope sDraw) := ⟨rfl, rfl, rfl, by decide +kernel, rfl, by decide +kernel, by decide +kernel⟩
/-! ### the pot -/
/-- a pot out of which at most n mixed numbers were drawn -/
def Pot (H : Hp) (p : Addr) (n : Int) : Prop := ∃ a b c : Int, H p = some (.lst [.int a, .int b, .int c]) ∧ 0 ≤ a ∧ 0 ≤ b ∧ b < 2305843009213693951 ∧ 0 ≤ c ∧ c ≤ n
theorem Pot.mono {H : Hp} {p : Addr} {n m : Int} (h : Pot H p n) (l : n ≤ m) : Pot H p m := by
  obtain ⟨a, b, c, e, h1, h2, h3, h4, h5⟩ := h
  exact ⟨a, b, c, e, h1, h2, h3, h4, by omega⟩
/-- all but the pot stands as it stood -/
def Kp (p : Addr) (H H' : Hp) : Prop := ∀ b o, b ≠ p → H b = some o → H' b = some o
theorem Kp.refl (p : Addr) (H : Hp) : Kp p H H := fun _ _ _ h => h
theorem Kp.trans {p : Addr} {H H1 H2 : Hp} (a : Kp p H H1) (b : Kp p H1 H2) : Kp p H H2 := fun c o n h => b c o n (a c o n h)
theorem Kp.same {p : Addr} {H H1 : Hp} (a : Same H H1) : Kp p H H1 := fun c o _ h => a c o h
theorem Kp.pot {p : Addr} {H : Hp} {o : HO} : Kp p H (upd H p o) := fun c u n h => by
  rw [upd_ne n]
  exact h
theorem sq_le {c : Int} (h0 : 0 ≤ c) (h1 : c ≤ 1000000) : 0 ≤ 99991 * c * c ∧ 99991 * c * c ≤ 99991000000000000 := by
  have h2 : 0 ≤ c * c := Int.mul_nonneg h0 h0
  have h3 : c * c ≤ 1000000 * 1000000 := Int.mul_le_mul h1 h1 h0 (by decide)
  rw [Int.mul_assoc]
  omega
def spDraw : Sp := fun vs H Q _ => ∃ (p : Addr) (n m : Int), vs = [.ref p, .int m] ∧ Pot H p n ∧ n < 1000000 ∧ 0 < m ∧ m < 1073741824 ∧
  ∀ (r : Int) (H' : Hp), 0 ≤ r → r < m → Pot H' p (n + 1) → Kp p H H' → Q (.int r) H'
section
variable {P : Program} {w : World} {K : PySem.W.Frag} {mg : Str → Option Value} {base : Heap}
theorem ok_draw {f : Addr} {fd : FuncData} {k : Nat} (F : Fun K "_law_draw" "_law_draw" sDraw f fd) (mi : mg "int" = none) : FnOk P w K mg base CX0 (k + 1) f fd ["_law_pot_here", "_law_many"] spDraw := by
  refine F.ok scDraw (fun vs H Q E h => ?_) (fun cdv A outer s H vs Q E hr h => ?_)
  · obtain ⟨p, n, m, rfl, _⟩ := h
    rfl
  · obtain ⟨p, n, m, rfl, ⟨a, b, c, hp, ha, hb0, hb1, hc0, hc1⟩, hn, hm0, hm1, q⟩ := h
    refine ⟨_, pss_cons (ps_if (pt_cmpR op_gt (pe_ix ix_list (pv 0) pe_int (fun _ _ => rfl)) pe_int (nomark _))
        (pss_cons (ps_set (i := 2) scDraw.nd rfl (.inl rfl) (pe_op op_mod (pe_callTy call_int1 (by rfl) mi PySem.Pv.boot_int (pa_cons (pe_ix ix_list (pv 0) pe_int (fun _ _ => rfl)) pa_nil)) (pv 1)))
        (pss_cons (ps_asg (pe_op op_fdiv (pe_ix ix_list (pv 0) pe_int (fun _ _ => rfl)) (pv 1)) (pg_sub (pv 0) pe_int set_list (fun _ => rfl)))
        (pss_one (ps_ret (pv 2)))))
        pss_nil)
      (pss_cons (ps_asg (pe_op op_add (pe_ix ix_list (pv 0) pe_int (fun _ _ => rfl)) pe_int) (pg_sub (pv 0) pe_int set_list (fun _ => rfl)))
      (pss_cons (ps_set (i := 3) scDraw.nd rfl (.inl rfl) (pe_ix ix_list (pe_lst (pa_cons pe_int (pa_cons pe_int (pa_cons pe_int (pa_cons pe_int (pa_cons pe_int pa_nil))))))
          (pe_op op_mod (pe_callTy call_int1 (by rfl) mi PySem.Pv.boot_int (pa_cons (pe_ix ix_list (pv 0) pe_int (fun _ _ => rfl)) pa_nil)) pe_int) (fun _ _ => rfl)))
      (pss_cons (ps_set (i := 4) scDraw.nd rfl (.inl rfl) (pe_op op_mod (pe_callTy call_int1 (by rfl) mi PySem.Pv.boot_int (pa_cons
          (pe_op op_pow (pe_op op_add (pe_op op_add (pe_ix ix_list (pv 0) pe_int (fun _ _ => rfl)) (pe_op op_mul (pe_op op_mul pe_int (pe_ix ix_list (pv 0) pe_int (fun _ _ => rfl))) (pe_ix ix_list (pv 0) pe_int (fun _ _ => rfl)))) pe_int) pe_int) pa_nil)) (pv 3)))
      (pss_cons (ps_set (i := 4) scDraw.nd rfl (.inl rfl) (pe_op op_mod (pe_callTy call_int1 (by rfl) mi PySem.Pv.boot_int (pa_cons
          (pe_op op_mul (pv 4) (pe_op op_add (pe_op op_mod (pe_callTy call_int1 (by rfl) mi PySem.Pv.boot_int (pa_cons (pv 4) pa_nil)) pe_int) (pe_op op_mul pe_int (pe_ix ix_list (pv 0) pe_int (fun _ _ => rfl))))) pa_nil)) pe_int))
      (pss_one (ps_ret (pe_op op_mod (pe_callTy call_int1 (by rfl) mi PySem.Pv.boot_int (pa_cons (pe_op op_fdiv (pv 4) pe_int) pa_nil)) (pv 1)))))))), ?_⟩
    have hS : ∀ {H1 : Hp} {xs : List V}, H1 p = some (.lst xs) → SqL K H1 p xs := fun h => .inl (.inl h)
    -- pot[0] > 0
    refine ⟨.ref p, rfl, p, _, 0, _, rfl, rfl, hS hp, rfl, _, _, rfl, rfl, _, rfl, ?_⟩
    refine ite2 (fun h => ?_) (fun h => ?_)
    · have h0 : 0 < a := of_decide_eq_true h
      -- digit
      refine ⟨.ref p, rfl, p, _, 0, _, rfl, rfl, hS hp, rfl, .inl ⟨_, rfl, .int m, rfl, _, _, rfl, rfl, hm0, ?_⟩⟩
      -- pot[0] = pot[0] // many
      refine ⟨.ref p, rfl, p, _, 0, _, rfl, rfl, hS hp, rfl, .int m, rfl, _, _, rfl, rfl, ⟨hm0, hm1⟩, ?_⟩
      refine ⟨.ref p, rfl, p, _, 0, 0, rfl, rfl, hp, rfl, ?_⟩
      refine ⟨_, rfl, q _ _ (Int.emod_nonneg _ (by omega)) (Int.emod_lt_of_pos _ hm0) ⟨a / m, b, c, upd_same, Int.ediv_nonneg ha (by omega), hb0, hb1, hc0, by omega⟩ Kp.pot⟩
    · have h0 : ¬ 0 < a := fun z => h (decide_eq_true z)
      -- pot[2] = pot[2] + 1
      refine ⟨.ref p, rfl, p, _, 2, _, rfl, rfl, hS hp, rfl, _, _, rfl, rfl, .ref p, rfl, p, _, 2, 2, rfl, rfl, hp, rfl, ?_⟩
      have e1 : upd H p (.lst [.int a, .int b, .int (c + 1)]) p = some (.lst [.int a, .int b, .int (c + 1)]) := upd_same
      -- prime
      refine ⟨by show 5 ≤ sizeLine; decide, fun l hl => ?_⟩
      have nlp : p ≠ l := ne_of_none e1 hl
      have e2 : upd (upd H p (.lst [.int a, .int b, .int (c + 1)])) l (.lst [.int 2147483647, .int 2147483629, .int 2147483587, .int 2147483579, .int 2147483563]) p = some (.lst [.int a, .int b, .int (c + 1)]) := by
        rw [upd_ne nlp]
        exact e1
      have kp : Kp p H (upd (upd H p (.lst [.int a, .int b, .int (c + 1)])) l (.lst [.int 2147483647, .int 2147483629, .int 2147483587, .int 2147483579, .int 2147483563])) := by
        intro b' o nb hb
        have nl : H l = none := by
          rw [upd_ne nlp.symm] at hl
          exact hl
        rw [upd_ne (ne_of_none hb nl), upd_ne nb]
        exact hb
      obtain ⟨pr, hpr, p0⟩ : ∃ pr : Int, atI [V.int 2147483647, V.int 2147483629, V.int 2147483587, V.int 2147483579, V.int 2147483563] ((c + 1) % 5) = some (.int pr) ∧ 0 < pr ∧ pr ≤ 2147483647 := by
        have h1 : 0 ≤ (c + 1) % 5 := Int.emod_nonneg _ (by decide)
        have h2 : (c + 1) % 5 < 5 := Int.emod_lt_of_pos _ (by decide)
        generalize (c + 1) % 5 = r at h1 h2
        have : r = 0 ∨ r = 1 ∨ r = 2 ∨ r = 3 ∨ r = 4 := by omega
        rcases this with rfl | rfl | rfl | rfl | rfl
        · exact ⟨2147483647, rfl, by decide⟩
        · exact ⟨2147483629, rfl, by decide⟩
        · exact ⟨2147483587, rfl, by decide⟩
        · exact ⟨2147483579, rfl, by decide⟩
        · exact ⟨2147483563, rfl, by decide⟩
      refine ⟨.ref p, rfl, p, _, 2, _, rfl, rfl, hS e2, rfl, .inl ⟨_, rfl, _, _, rfl, rfl, by show (0 : Int) < 5; decide, l, _, _, _, rfl, rfl, .inl (.inl upd_same), hpr, ?_⟩⟩
      -- made
      refine ⟨.ref p, rfl, p, _, 1, _, rfl, rfl, hS e2, rfl, .ref p, rfl, p, _, 2, _, rfl, rfl, hS e2, rfl, _, _, rfl, rfl, .inl ⟨by decide, by decide⟩, .ref p, rfl, p, _, 2, _, rfl, rfl, hS e2, rfl, _, _, rfl, rfl, .inl ⟨?_, ?_⟩, _, _, rfl, rfl, _, _, rfl, rfl, ?_⟩
      · omega
      · omega
      refine ⟨_, _, rfl, rfl, ⟨by decide, by decide, ?_⟩, .inl ⟨_, rfl, _, rfl, _, _, rfl, rfl, p0.1, ?_⟩⟩
      · have hq := sq_le (c := c + 1) (by omega) (by omega)
        show (b + 99991 * (c + 1) * (c + 1) + 61).natAbs < 2 ^ 64
        omega
      generalize (b + 99991 * (c + 1) * (c + 1) + 61) ^ Int.toNat 3 = X
      have hM0 : 0 ≤ X % pr := Int.emod_nonneg _ (by omega)
      have hM1 : X % pr < pr := Int.emod_lt_of_pos _ p0.1
      refine ⟨.int (X % pr), rfl, .int (X % pr), rfl, .inl ⟨_, rfl, _, _, rfl, rfl, by show (0 : Int) < 10007; decide, .ref p, rfl, p, _, 2, _, rfl, rfl, hS e2, rfl, _, _, rfl, rfl, .inl ⟨by decide, by decide⟩, _, _, rfl, rfl, _, _, rfl, rfl, .inl ⟨by omega, by omega⟩, .inl ⟨_, rfl, _, _, rfl, rfl, by show (0 : Int) < 2305843009213693907; decide, ?_⟩⟩⟩
      generalize X % pr * (X % pr % 10007 + 83 * (c + 1)) = Y
      refine ⟨.int (Y % 2305843009213693907), rfl, _, _, rfl, rfl, ⟨by decide, by decide⟩, .inl ⟨_, rfl, .int m, rfl, _, _, rfl, rfl, hm0, ?_⟩⟩
      exact q _ _ (Int.emod_nonneg _ (by omega)) (Int.emod_lt_of_pos _ hm0) ⟨a, b, c + 1, e2, ha, hb0, hb1, by omega, by omega⟩ kp
end
end Sf
namespace Sf
open PySem PySem.Spec PyProof.Rows L2
abbrev sIsText : Stmt := topS 9
abbrev sCheck : Stmt := topS 10
abbrev sPairsIn : Stmt := topS 11
abbrev sPairsOf : Stmt := topS 12
abbrev sPairsAll : Stmt := topS 13
abbrev sAllows : Stmt := topS 14
theorem scPairsOf : FnScope ["text"] ["text"] (defScope sPairsOf) := ⟨rfl, rfl, rfl, by decide +kernel, rfl, by decide +kernel, by decide +kernel⟩
theorem scIsText : FnScope ["value", "sign"] ["value"] (defScope sIsText) := ⟨rfl, rfl, rfl, by decide +kernel, rfl, by decide +kernel, by decide +kernel⟩
theorem scCheck : FnScope ["value"] ["value"] (defScope sCheck) := ⟨rfl, rfl, rfl, by decide +kernel, rfl, by decide +kernel, by decide +kernel⟩
theorem scPairsIn : FnScope ["text", "signs", "one", "other"] ["text"] (defScope sPairsIn) := ⟨rfl, rfl, rfl, by decide +kernel, rfl, by decide +kernel, by decide +kernel⟩
theorem scPairsAll : FnScope ["texts", "found", "text"] ["texts"] (defScope sPairsAll) := ⟨rfl, rfl, rfl, by decide +kernel, rfl, by decide +kernel, by decide +kernel⟩
theorem scAllows : FnScope ["pairs", "text", "pair"] ["pairs", "text"] (defScope sAllows) := ⟨rfl, rfl, rfl, by decide +kernel, rfl, by decide +kernel, by decide +kernel⟩
/-- the letters' codes -/
def LET : List Nat := (Str.ofString " 0123456789_abcdefghijklmnopqrstuvwxyz").cps.toList
def isTx (x : Str) : Bool := x.cps.toList.all fun c => decide (c ∈ LET)
theorem Same.upd {H : Hp} {p : Addr} {o : HO} (h : H p = none) : Same H (upd H p o) := fun b u e => by
  rw [upd_ne (ne_of_none e h)]
  exact e
/-- an object that was not there may change -/
theorem Same.mut {H H' : Hp} {p : Addr} {o : HO} (a : Same H H') (h : H p = none) : Same H (L2.upd H' p o) := fun b u e => by
  rw [upd_ne (ne_of_none e h)]
  exact a b u e
theorem str_len (x : Str) : x.length = x.cps.toList.length := TL.len_tl x
theorem map_getD {α β : Type} (F : β → α) (d : β) (l : List β) : (List.range l.length).map (fun i => F (l.getD i d)) = l.map F := by
  apply List.ext_getElem
  · simp
  · intro i a b
    have hi : i < l.length := by
      rw [List.length_map] at b
      exact b
    rw [List.getElem_map, List.getElem_map, List.getElem_range, List.getD_eq_getElem?_getD, List.getElem?_eq_getElem hi] <;> rfl
theorem getD_at {β : Type} {d x : β} {l : List β} {i : Nat} (h : l[i]? = some x) : l.getD i d = x := by
  rw [List.getD_eq_getElem?_getD, h] <;> rfl
/-- a comprehension whose elements are told by the turn -/
theorem lc_fun {J : It} {n : Nat} {G : Hp → Prop} {Y : Nat → Hp → V → Hp → Prop} (w : Walk J n G Y) {g : TG} {tt : TT} {te : TE} {vs : List Nat} {σ : L2.St} {H1 : Hp} {D : Addr} {Qd : Hp → Prop} (p : Nat → Bool) (f : Nat → V)
    (hn : n ≤ 1000000) (hD : H1 D = none) (hG : ∀ H, Same H1 H → G H)
    (he : ∀ i x H H' (N : V → Hp → Prop) (M : Hp → Prop), i < n → Same H1 H → Y i H x H' → (p i = true → ∀ H4, Same H H4 → N (f i) H4) → (p i = false → ∀ H4, Same H H4 → M H4) →
      g x (wipe σ vs) H' fun σ2 H2 => wipe σ2 vs = wipe σ vs ∧ tt σ2 H2 fun b H3 => if b = true then te σ2 H3 N else M H3)
    (hd : ∀ H, Same H1 H → H D = some (.lst (((List.range n).filter p).map f)) → Qd H) :
    ∃ W : Nat → Nat → Hp → Prop, (∃ m, W 0 m (upd H1 D (.lst []))) ∧ ∀ i m H, W i m H →
      (J.stop i H ∧ Qd H) ∨ (J.go i H ∧ ∃ Nx : Hp → Prop, (∀ H', Nx H' → ∃ m', m' < m ∧ W (i + 1) m' H') ∧ ∀ x H', J.yld i H x H' → g x (wipe σ vs) H' fun σ2 H2 => wipe σ2 vs = wipe σ vs ∧ tt σ2 H2 fun b H3 =>
        if b = true then te σ2 H3 fun y H4 => ∃ acc, H4 D = some (.lst acc) ∧ acc.length < sizeLine ∧ Nx (upd H4 D (.lst (acc ++ [y]))) else Nx H3) := by
  refine lc_it w (fun i H => i ≤ n ∧ Same H1 H ∧ H D = some (.lst (((List.range i).filter p).map f))) ⟨Nat.zero_le _, Same.upd hD, upd_same⟩ (fun i H _ h => hG H h.2.1) (fun i x H H' hi h y => ?_) (fun H h => hd H h.2.1 h.2.2)
  obtain ⟨_, h1, h2⟩ := h
  refine he i x H H' _ _ hi h1 y (fun hp H4 s4 => ⟨_, s4 D _ h2, ?_, hi, Same.mut (h1.trans s4) hD, ?_⟩) (fun hp H4 s4 => ⟨hi, h1.trans s4, ?_⟩)
  · rw [List.length_map]
    have q := List.length_filter_le p (List.range i)
    rw [List.length_range] at q
    exact Nat.lt_of_le_of_lt (Nat.le_trans q (Nat.le_of_lt hi)) (Nat.lt_of_le_of_lt hn (by decide))
  · rw [upd_same, List.range_succ, List.filter_append, List.map_append, List.filter_cons, if_pos hp] <;> rfl
  · rw [s4 D _ h2, List.range_succ, List.filter_append, List.map_append, List.filter_cons, if_neg (by rw [hp]; decide)]
    rw [List.filter_nil, List.map_nil, List.append_nil]
/-- without a test -/
theorem lc_map {J : It} {n : Nat} {G : Hp → Prop} {Y : Nat → Hp → V → Hp → Prop} (w : Walk J n G Y) {g : TG} {te : TE} {vs : List Nat} {σ : L2.St} {H1 : Hp} {D : Addr} {Qd : Hp → Prop} (f : Nat → V)
    (hn : n ≤ 1000000) (hD : H1 D = none) (hG : ∀ H, Same H1 H → G H)
    (he : ∀ i x H H' (N : V → Hp → Prop), i < n → Same H1 H → Y i H x H' → (∀ H4, Same H H4 → N (f i) H4) → g x (wipe σ vs) H' fun σ2 H2 => wipe σ2 vs = wipe σ vs ∧ te σ2 H2 N)
    (hd : ∀ H, Same H1 H → H D = some (.lst ((List.range n).map f)) → Qd H) :
    ∃ W : Nat → Nat → Hp → Prop, (∃ m, W 0 m (upd H1 D (.lst []))) ∧ ∀ i m H, W i m H →
      (J.stop i H ∧ Qd H) ∨ (J.go i H ∧ ∃ Nx : Hp → Prop, (∀ H', Nx H' → ∃ m', m' < m ∧ W (i + 1) m' H') ∧ ∀ x H', J.yld i H x H' → g x (wipe σ vs) H' fun σ2 H2 => wipe σ2 vs = wipe σ vs ∧ tYes σ2 H2 fun b H3 =>
        if b = true then te σ2 H3 fun y H4 => ∃ acc, H4 D = some (.lst acc) ∧ acc.length < sizeLine ∧ Nx (upd H4 D (.lst (acc ++ [y]))) else Nx H3) := by
  refine lc_fun w (fun _ => true) f hn hD hG (fun i x H H' N M hi h1 y hN _ => he i x H H' N hi h1 y (hN rfl)) (fun H h1 h2 => hd H h1 ?_)
  rw [h2, List.filter_eq_self.mpr (fun _ _ => rfl)]
section
variable {P : Program} {w : World} {K : PySem.W.Frag} {mg : Str → Option Value} {base : Heap}
/-- the values of a mapped list as it grows -/
theorem map_snoc {α : Type} (f : Nat → α) (n : Nat) : (List.range (n + 1)).map f = (List.range n).map f ++ [f n] := by
  rw [List.range_succ, List.map_append] <;> rfl
/-! ### pairs_in -/
theorem tl_ap (x y : Str) : (x ++ y).cps.toList = x.cps.toList ++ y.cps.toList := TL.tl_append x y
theorem len_ap (x y : Str) : (x ++ y).length = x.length + y.length := by
  rw [TL.len_tl, TL.len_tl, TL.len_tl, TL.tl_append, List.length_append]
theorem one_ap (a b : Nat) : (⟨#[a]⟩ : Str) ++ ⟨#[b]⟩ = two a b := rfl
theorem bg : (Str.ofString "^").cps.toList = [94] := by decide +kernel
theorem en : (Str.ofString "$").cps.toList = [36] := by decide +kernel
theorem cut1 {z : Str} (h : 1 ≤ z.length) : (cutS z (some 1) none).cps.toList = z.cps.toList.drop 1 := by
  show ((z.cps.toList.drop (HT.sIx z.length 0 (some ((1 : Nat) : Int)))).take (HT.sIx z.length z.length none - HT.sIx z.length 0 (some ((1 : Nat) : Int)))).toArray.toList = _
  rw [HT.sIx_nat, HT.sIx_none, Nat.min_eq_left h]
  show (z.cps.toList.drop 1).take (z.length - 1) = _
  rw [TL.len_tl]
  exact List.take_of_length_le (Nat.le_of_eq List.length_drop)
def spPairsIn : Sp := fun vs H Q _ => ∃ x : Str, vs = [.str x] ∧ x.length ≤ 1000 ∧ ∀ (p : Addr) H', H p = none → Same H H' → H' p = some (.lst ((pin x.cps.toList).map V.str)) → Q (.ref p) H'
theorem ok_pairsIn {f : Addr} {fd : FuncData} {k : Nat} (F : Fun K "pairs_in" "pairs_in" sPairsIn f fd) (mz : mg "zip" = none) {t1 t2 : Tok} (gB : mg "BEGIN" = some (.str (Str.ofString "^") t1)) (gE : mg "END" = some (.str (Str.ofString "$") t2)) :
    FnOk P w K mg base CX0 (k + 1) f fd ["text"] spPairsIn := by
  refine F.ok scPairsIn (fun vs H Q E h => ?_) (fun cdv A outer s H vs Q E hr h => ?_)
  · obtain ⟨x, rfl, _⟩ := h
    rfl
  · obtain ⟨x, rfl, hx, q⟩ := h
    refine ⟨_, pss_cons (ps_set (i := 1) scPairsIn.nd rfl (.inl rfl) (pe_op op_add_str (pe_op op_add_str (pe_glob (v := .str _) rfl gB ⟨_, rfl⟩) (pv 0)) (pe_glob (v := .str _) rfl gE ⟨_, rfl⟩)))
      (pss_one (ps_ret (pe_lc (own := [("one", 2), ("other", 3)]) (g := gTup K 2 (gCons (gName 2) (gCons (gName 3) gNil))) (tt := tYes) rfl scPairsIn.nd (pi_zip2 (by rfl) mz (pa_cons (pv 1) (pa_cons (pe_slice sl_str (pv 1) (po_some pe_int) po_none) pa_nil)))
        (blkOk_by (N := ["text", "signs", "one", "other"]) (sc := defScope sPairsIn) (by decide +kernel))
        (fun _ _ _ _ _ => pg_tup rfl (pgs_cons (pg_name (i := 2) scPairsIn.nd rfl (.inl rfl) (.inr rfl)) (pgs_cons (pg_name (i := 3) scPairsIn.nd rfl (.inl rfl) (.inr rfl)) pgs_nil)))
        (fun _ _ _ _ _ => pts_nil) (fun _ _ _ _ _ => pe_op op_add_str (pv 2) (pv 3))))), ?_⟩
    have lx : x.cps.toList.length ≤ 1000 := by
      rw [← TL.len_tl]
      exact hx
    have sl : ∀ n : Nat, n ≤ 2000 → n ≤ sizeLine := fun n h => Nat.le_trans h (by decide)
    have l1 : (Str.ofString "^").length = 1 := by
      rw [TL.len_tl, TL.tl, bg] <;> rfl
    have l2 : (Str.ofString "$").length = 1 := by
      rw [TL.len_tl, TL.tl, en] <;> rfl
    have l3 := len_ap (Str.ofString "^") x
    refine ⟨.str x, rfl, _, _, rfl, rfl, sl _ (by omega), _, _, rfl, rfl, sl _ (by omega), ?_⟩
    generalize hz : Str.ofString "^" ++ x ++ Str.ofString "$" = z
    have ez : z.cps.toList = 94 :: (x.cps.toList ++ [36]) := by
      rw [← hz, tl_ap, tl_ap, bg, en] <;> rfl
    have lz : z.length = x.cps.toList.length + 2 := by
      rw [TL.len_tl, TL.tl, ez, List.length_cons, List.length_append] <;> rfl
    have ec := cut1 (z := z) (by omega)
    have ep : (pin x.cps.toList).length = x.cps.toList.length + 1 := by
      unfold pin
      rw [prs_len, List.length_cons, List.length_append] <;> rfl
    refine ⟨.str z, rfl, .str z, rfl, 1, rfl, z, rfl, sl _ (by omega), z, cutS z (some 1) none, rfl, fun D hD => lc_map (walk_zip2 (x := z) (y := cutS z (some 1) none) (n := x.cps.toList.length + 1) ?_)
      (fun i => .str ((pin x.cps.toList).getD i Str.empty)) (by omega) hD (fun _ _ => True.intro) (fun i y H1 H2 N hi h1 hy hN => ?_) (fun H1 h1 h2 => q D H1 hD h1 ?_)⟩
    · have lz2 : z.cps.toList.length = x.cps.toList.length + 2 := (TL.len_tl z).symm.trans lz
      rw [← Array.length_toList, ← Array.length_toList, ec, List.length_drop, lz2]
      omega
    · obtain ⟨T, c, d, rfl, hT, rfl, hc, hd⟩ := hy
      have hc2 : z.cps.toList[i]? = some c := by
        rw [Array.getElem?_toList]
        exact hc
      have hd2 : z.cps.toList[i + 1]? = some d := by
        have e : (cutS z (some 1) none).cps.toList[i]? = some d := by
          rw [Array.getElem?_toList]
          exact hd
        rw [ec, List.getElem?_drop, Nat.add_comm] at e
        exact e
      have e : (pin x.cps.toList).getD i Str.empty = two c d := getD_at (by
        unfold pin
        rw [← ez]
        exact prs_get _ i c d hc2 hd2)
      have q2 := hN _ (Same.upd (o := .tup [.str ⟨#[c]⟩, .str ⟨#[d]⟩]) hT)
      rw [e] at q2
      exact ⟨T, _, rfl, .inl (.inl upd_same), rfl, _, _, rfl, _, _, rfl, rfl, rfl, _, rfl, _, rfl, _, _, rfl, rfl, by show 1 + 1 ≤ sizeLine; decide, q2⟩
    · rw [h2, ← ep, map_getD V.str Str.empty]
theorem toSet_len (l : List Str) : (toSet l).length ≤ l.length := by
  have q : ∀ (l acc : List Str), (l.foldl insT acc).length ≤ acc.length + l.length := by
    intro l
    induction l with
    | nil => intro acc; exact Nat.le_refl _
    | cons y r ih =>
      intro acc
      have b1 := ih (insT acc y)
      have b2 := insT_len (l := acc) (x := y)
      rw [List.foldl_cons, List.length_cons]
      omega
  have q2 := q l []
  rw [List.length_nil] at q2
  unfold toSet
  omega
theorem pin_len (l : List Nat) : (pin l).length = l.length + 1 := by
  unfold pin
  rw [prs_len, List.length_cons, List.length_append] <;> rfl
theorem flat_len (f : Str → List Str) (k : Nat) : ∀ xs : List Str, (∀ x ∈ xs, (f x).length ≤ k) → (xs.flatMap f).length ≤ xs.length * k
  | [], _ => Nat.zero_le _
  | x :: r, h => by
    have h1 := h x List.mem_cons_self
    have h2 := flat_len f k r fun y hy => h y (List.mem_cons_of_mem _ hy)
    rw [List.flatMap_cons, List.length_append, List.length_cons, Nat.add_mul]
    omega
theorem inV_str (x : Str) : ∀ ps : List Str, inV (.str x) (ps.map V.str) = decide (x ∈ ps)
  | [] => by simp [inV]
  | y :: r => by
    have ih := inV_str x r
    unfold inV at ih ⊢
    rw [List.map_cons, List.any_cons, ih]
    have e : eqV (.str y) (.str x) = decide (x = y) := by
      by_cases h : x = y
      · subst h
        simp [eqV]
      · rw [decide_eq_false h]
        simp [eqV]
        exact fun z => h z.symm
    rw [e, Bool.eq_iff_iff]
    simp [List.mem_cons]
theorem flat_str : ∀ ps : List Str, (ps.map V.str).all flatV = true
  | [] => rfl
  | y :: r => by
    rw [List.map_cons, List.all_cons, flat_str r] <;> rfl
end
end Sf
namespace Sf
open PySem PySem.Spec PyProof.Rows L2
abbrev sAny : Stmt := topS 18
abbrev sText : Stmt := topS 20
theorem scAny : FnScope ["_law_pot_here", "_law_items"] ["_law_pot_here", "_law_items"] (defScope sAny) := ⟨rfl, rfl, rfl, by decide +kernel, rfl, by decide +kernel, by decide +kernel⟩
theorem scText : FnScope ["_law_pot_here", "_law_letters", "_law_most", "_law_turn"] ["_law_pot_here", "_law_letters", "_law_most"] (defScope sText) := ⟨rfl, rfl, rfl, by decide +kernel, rfl, by decide +kernel, by decide +kernel⟩
/-! ### powers of greater numbers -/
def CPw (i j : Int) : Prop := 0 ≤ j ∧ (Builtin.Int.intBits i : Int) * j ≤ 2 ^ 27
section
variable {X : Cx}
theorem op_powW : OpR X (binaryOp .Pow) (rI CPw fun i j => .int (i ^ j.toNat)) := opI fun _ _ _ _ _ _ _ hc q => pow_int hc.1 hc.2 q
end
section
variable {P : Program} {w : World} {K : PySem.W.Frag} {mg : Str → Option Value} {base : Heap}
/-! ### _law_pot -/
def spPot (K : PySem.W.Frag) : Sp := fun vs H Q _ => ∃ (a : Addr) (ns : List Int) (k : Nat), vs = [.ref a, .int (k : Int)] ∧ SqL K H a (ns.map V.int) ∧ k ≤ 2 ∧ ∀ (p : Addr) H', H p = none → Same H H' → Pot H' p 0 → Q (.ref p) H'
theorem ok_pot {f : Addr} {fd : FuncData} {k : Nat} (F : Fun K "_law_pot" "_law_pot" sPot f fd) (mi : mg "int" = none) (ma : mg "abs" = none) (ml : mg "len" = none) : FnOk P w K mg base CX0 (k + 1) f fd ["_law_script", "_law_k"] (spPot K) := by
  refine F.ok scPot (fun vs H Q E h => ?_) (fun cdv A outer s H vs Q E hr h => ?_)
  · obtain ⟨a, ns, k, rfl, _⟩ := h
    rfl
  · obtain ⟨a, ns, k, rfl, hS, hk, q⟩ := h
    refine ⟨_, Evl.pss_cut (ps_set (i := 2) scPot.nd rfl (.inl rfl) (pe_ifExp (pt_cmpR op_lt (pv 1) (pe_callB call_len_seq (by rfl) ml PySem.boot_len (pa_cons (pv 0) pa_nil)) (nomark _))
        (pe_ix ix_list (pv 0) (pv 1) (fun _ _ => rfl)) (pe_op op_add (pe_op op_mul pe_int (pv 1)) pe_int)))
      (pss_cons (ps_set (i := 3) scPot.nd rfl (.inl rfl) (pe_op op_mul (pe_op op_mod (pe_callTy call_int1 (by rfl) mi PySem.Pv.boot_int (pa_cons (pe_callB call_abs (by rfl) ma (by decide +kernel) (pa_cons (pv 2) pa_nil)) pa_nil))
          (pe_op op_powW (pe_op op_pow pe_int pe_int) pe_int))
        (pe_callTy call_int1 (by rfl) mi PySem.Pv.boot_int (pa_cons (pe_cmpR op_ge (pe_callB call_abs (by rfl) ma (by decide +kernel) (pa_cons (pv 2) pa_nil)) (pe_op op_pow pe_int pe_int) (nomark _)) pa_nil))))
      (pss_one (ps_ret (pe_lst (pa_cons (pv 3) (pa_cons (pe_op op_mod (pe_callTy call_int1 (by rfl) mi PySem.Pv.boot_int (pa_cons
          (pe_op op_add (pe_op op_add (pe_op op_mul (pe_op op_mod (pe_callTy call_int1 (by rfl) mi PySem.Pv.boot_int (pa_cons (pv 2) pa_nil)) pe_int) pe_int) (pe_op op_mul (pe_op op_mul pe_int (pv 1)) (pv 1))) pe_int) pa_nil)) pe_int)
        (pa_cons pe_int pa_nil))))))), ?_⟩
    refine ⟨fun σ H' => ∃ c : Int, σ = [some (.ref a), some (.int k), some (.int c), none] ∧ H' = H, ?_, fun σ H' hM => ?_⟩
    · refine ⟨.int k, rfl, .ref a, rfl, a, _, rfl, .inl hS, _, _, rfl, rfl, _, rfl, ?_⟩
      refine ite2 (fun h => ?_) (fun h => ?_)
      · have h1 : (k : Int) < ((ns.map V.int).length : Int) := of_decide_eq_true h
        rw [List.length_map] at h1
        have hk2 : k < ns.length := by omega
        exact ⟨.ref a, rfl, .int k, rfl, a, _, k, .int ns[k], rfl, rfl, hS, atI_nat (by rw [List.getElem?_map, List.getElem?_eq_getElem hk2] <;> rfl), ns[k], rfl, rfl⟩
      · exact ⟨.int k, rfl, _, _, rfl, rfl, .inl ⟨by decide, by decide⟩, _, _, rfl, rfl, _, rfl, rfl⟩
    · obtain ⟨c, rfl, rfl⟩ := hM
      have p0 : (0 : Int) < (10 ^ Int.toNat 60) ^ Int.toNat 5 := by decide +kernel
      have m0 : ∀ z : Int, 0 ≤ z % (10 ^ Int.toNat 60) ^ Int.toNat 5 := fun z => Int.emod_nonneg _ (by omega)
      have b0 : ∀ b : Bool, (0 : Int) ≤ (if b = true then 1 else 0) ∧ (if b = true then (1 : Int) else 0) < 2 ^ 64 := fun b => by cases b <;> decide
      have c0 : 0 ≤ c % 2305843009213693951 ∧ c % 2305843009213693951 < 2305843009213693951 := ⟨Int.emod_nonneg _ (by decide), Int.emod_lt_of_pos _ (by decide)⟩
      refine ⟨.int c, rfl, c, rfl, .inl ⟨_, rfl, _, _, rfl, rfl, ⟨by decide, by decide, by decide⟩, _, _, rfl, rfl, ⟨by decide, by decide +kernel⟩, _, _, rfl, rfl, p0,
        .int c, rfl, c, rfl, _, _, rfl, rfl, ⟨by decide, by decide, by decide⟩, _, _, rfl, rfl, .inr ⟨_, rfl, _, _, rfl, rfl, .inr ⟨Int.lt_of_lt_of_le (by decide) (b0 _).1, (b0 _).2⟩, ?_⟩⟩⟩
      refine ⟨_, rfl, .int c, rfl, .inl ⟨_, rfl, _, _, rfl, rfl, by show (0 : Int) < 2305843009213693951; decide, _, _, rfl, rfl, .inr ⟨by decide, by decide⟩,
        .int k, rfl, _, _, rfl, rfl, .inl ⟨by decide, by decide⟩, .int k, rfl, _, _, rfl, rfl, .inl ⟨by omega, by omega⟩, _, _, rfl, rfl, _, _, rfl, rfl,
        .inl ⟨_, rfl, _, _, rfl, rfl, by show (0 : Int) < 2305843009213693921; decide, by show 3 ≤ sizeLine; decide, fun p np => q p _ np (Same.upd np) ?_⟩⟩⟩
      refine ⟨_, _, 0, upd_same, Int.mul_nonneg (m0 _) (b0 _).1, Int.emod_nonneg _ (by decide), Int.lt_trans (Int.emod_lt_of_pos _ (by decide)) (by decide), Int.le_refl _, Int.le_refl _⟩
/-! ### _law_any -/
def spAny (K : PySem.W.Frag) : Sp := fun vs H Q _ => ∃ (p : Addr) (n : Int) (x : V), vs = [.ref p, x] ∧ Pot H p n ∧ n < 1000000 ∧
  ((∃ z : Str, x = .str z ∧ 0 < z.length ∧ z.length ≤ 1000 ∧ ∀ (c : Nat) H', c ∈ z.cps.toList → Pot H' p (n + 1) → Kp p H H' → Q (.str ⟨#[c]⟩) H') ∨
   (∃ (a : Addr) (xs : List V), x = .ref a ∧ (∀ {H'}, Kp p H H' → SqL K H' a xs) ∧ 0 < xs.length ∧ xs.length ≤ 1000 ∧ ∀ (v : V) H', v ∈ xs → Pot H' p (n + 1) → Kp p H H' → Q v H'))
theorem atI_of {α : Type} {xs : List α} {r : Int} (h0 : 0 ≤ r) (h1 : r < (xs.length : Int)) : ∃ x, atI xs r = some x ∧ x ∈ xs := by
  obtain ⟨n, rfl⟩ := Int.eq_ofNat_of_zero_le h0
  have hn : n < xs.length := by omega
  exact ⟨xs[n], atI_nat (List.getElem?_eq_getElem hn), List.getElem_mem hn⟩
theorem ok_any {f fD : Addr} {fd fdD : FuncData} {k : Nat} (F : Fun K "_law_any" "_law_any" sAny f fd) (FD : Fun K "_law_draw" "_law_draw" sDraw fD fdD) (bD : Binds K fdD ["_law_pot_here", "_law_many"] []) (gD : mg "_law_draw" = some (.ref fD))
    (GD : FnOk P w K mg base CX0 (k + 1) fD fdD ["_law_pot_here", "_law_many"] spDraw) (ml : mg "len" = none) : FnOk P w K mg base CX0 (k + 2) f fd ["_law_pot_here", "_law_items"] (spAny K) := by
  refine F.ok scAny (fun vs H Q E h => ?_) (fun cdv A outer s H vs Q E hr h => ?_)
  · obtain ⟨p, n, x, rfl, _⟩ := h
    rfl
  · obtain ⟨p, n, x, rfl, hp, hn, h⟩ := h
    refine ⟨_, pss_one (ps_ret (pe_ix ix_seq (pv 1) (pe_call GD hr (by rfl) gD FD.kp bD .nil pass0 (pa_cons (pv 0) (pa_cons (pe_callB (CallR.or call_len_seq call_len_str) (by rfl) ml PySem.boot_len (pa_cons (pv 1) pa_nil)) pa_nil))) (fun _ _ => rfl))), ?_⟩
    rcases h with ⟨z, rfl, z0, z1, q⟩ | ⟨a, xs, rfl, hS, x0, x1, q⟩
    · have zl : z.length ≤ sizeLine := Nat.le_trans z1 (by decide)
      refine ⟨.str z, rfl, .ref p, rfl, .str z, rfl, .inr ⟨z, rfl, zl, p, n, _, rfl, hp, hn, by omega, by omega, fun r H' h0 h1 hp' hk => ?_⟩⟩
      rw [str_len] at h1
      obtain ⟨c, e, hc⟩ := atI_of h0 h1
      exact .inr (.inr ⟨z, r, c, rfl, rfl, zl, e, q c H' hc hp' hk⟩)
    · refine ⟨.ref a, rfl, .ref p, rfl, .ref a, rfl, .inl ⟨a, xs, rfl, .inl (hS (Kp.refl p H)), p, n, _, rfl, hp, hn, by omega, by omega, fun r H' h0 h1 hp' hk => ?_⟩⟩
      obtain ⟨v, e, hv⟩ := atI_of h0 h1
      exact .inl ⟨a, xs, r, v, rfl, rfl, hS hk, e, q v H' hv hp' hk⟩
/-! ### _law_text -/
theorem em : (Str.ofString "").cps.toList = [] := by decide +kernel
theorem joinL_ones : ∀ cs : List Nat, TL.joinL [] (cs.map fun c => [c]) = cs
  | [] => rfl
  | [c] => rfl
  | c :: d :: r => by
    show [c] ++ ([] ++ TL.joinL [] ((d :: r).map fun c => [c])) = _
    rw [joinL_ones (d :: r)] <;> rfl
theorem join_ones (cs : List Nat) : Txt.join (Str.ofString "") (cs.map fun c => (⟨#[c]⟩ : Str)) = tx cs := by
  rw [TL.join_eq]
  refine TL.ext_tl ?_
  rw [TL.tl_join, TL.tl, em, List.map_map]
  exact joinL_ones cs
theorem sum_ones (cs : List Nat) : ((cs.map fun c => (⟨#[c]⟩ : Str)).map (·.length)).sum = cs.length := by
  induction cs with
  | nil => rfl
  | cons c r ih =>
    rw [List.map_cons, List.map_cons, List.sum_cons, ih, List.length_cons]
    show 1 + r.length = r.length + 1
    omega
theorem Pot.up {H : Hp} {p D : Addr} {o : HO} {n : Int} (h : Pot H p n) (hD : H D = none) : Pot (upd H D o) p n := by
  obtain ⟨a, b, c, e, r⟩ := h
  refine ⟨a, b, c, ?_, r⟩
  rw [upd_ne (ne_of_none e hD)]
  exact e
theorem Pot.ne {H : Hp} {p D : Addr} {n : Int} (h : Pot H p n) (hD : H D = none) : D ≠ p := by
  obtain ⟨a, b, c, e, r⟩ := h
  exact (ne_of_none e hD).symm
theorem Pot.wr {H : Hp} {p D : Addr} {o : HO} {n : Int} (h : Pot H p n) (hD : D ≠ p) : Pot (upd H D o) p n := by
  obtain ⟨a, b, c, e, r⟩ := h
  refine ⟨a, b, c, ?_, r⟩
  rw [upd_ne hD.symm]
  exact e
def spText : Sp := fun vs H Q _ => ∃ (p : Addr) (n : Int) (L : Str) (m : Nat), vs = [.ref p, .str L, .int (m : Int)] ∧ Pot H p n ∧ n + m + 2 ≤ 1000000 ∧ m ≤ 100 ∧ 0 < L.length ∧ L.length ≤ 1000 ∧
  ∀ (t : List Nat) H', t.length ≤ m → (∀ c ∈ t, c ∈ L.cps.toList) → Pot H' p (n + m + 1) → Kp p H H' → Q (.str (tx t)) H'
theorem ok_text {f fD fA : Addr} {fd fdD fdA : FuncData} {k : Nat} (F : Fun K "_law_text" "_law_text" sText f fd) (FD : Fun K "_law_draw" "_law_draw" sDraw fD fdD) (bD : Binds K fdD ["_law_pot_here", "_law_many"] []) (gD : mg "_law_draw" = some (.ref fD))
    (GD : FnOk P w K mg base CX0 (k + 2) fD fdD ["_law_pot_here", "_law_many"] spDraw) (FA : Fun K "_law_any" "_law_any" sAny fA fdA) (bA : Binds K fdA ["_law_pot_here", "_law_items"] []) (gA : mg "_law_any" = some (.ref fA))
    (GA : FnOk P w K mg base CX0 (k + 2) fA fdA ["_law_pot_here", "_law_items"] (spAny K)) (mr : mg "range" = none) : FnOk P w K mg base CX0 (k + 3) f fd ["_law_pot_here", "_law_letters", "_law_most"] spText := by
  refine F.ok scText (fun vs H Q E h => ?_) (fun cdv A outer s H vs Q E hr h => ?_)
  · obtain ⟨p, n, L, m, rfl, _⟩ := h
    rfl
  · obtain ⟨p, n, L, m, rfl, hp, hn, hm, l0, l1, q⟩ := h
    refine ⟨_, pss_one (ps_ret (pe_join pe_str (pe_lc (own := [("_law_turn", 3)]) (g := gName 3) (tt := tYes) rfl scText.nd
        (pi_range1 rfl mr (pa_cons (pe_call GD hr (by rfl) gD FD.kp bD .nil pass0 (pa_cons (pv 0) (pa_cons (pe_op op_add (pv 2) pe_int) pa_nil))) pa_nil))
        (blkOk_by (N := ["_law_pot_here", "_law_letters", "_law_most", "_law_turn"]) (sc := defScope sText) (by decide +kernel))
        (fun _ _ _ _ _ => pg_name (i := 3) scText.nd rfl (Or.inl rfl)) (fun _ _ _ _ _ => pts_nil)
        (fun _ _ _ _ _ => pe_call GA hr (by rfl) gA FA.kp bA .nil pass0 (pa_cons (pv 0) (pa_cons (pv 1) pa_nil)))))), ?_⟩
    refine ⟨⟨_, rfl⟩, ?_⟩
    refine ⟨.ref p, rfl, .int m, rfl, _, _, rfl, rfl, p, n, _, rfl, hp, by omega, by omega, by omega, fun r H1 r0 r1 hp1 k1 => ⟨r, rfl, by omega, by omega, fun D hD => ?_⟩⟩
    obtain ⟨j, rfl⟩ := Int.eq_ofNat_of_zero_le r0
    rw [Int.toNat_natCast]
    have hj : j ≤ m := by omega
    refine lc_it (walk_range (lo := 0) (n := j)) (fun i H2 => ∃ cs : List Nat, cs.length = i ∧ (∀ c ∈ cs, c ∈ L.cps.toList) ∧ Pot H2 p (n + 1 + i) ∧ Kp p H H2 ∧ H2 D = some (.lst (cs.map fun c => V.str ⟨#[c]⟩)))
      ⟨[], rfl, (fun _ h => nomatch h), ?_, ?_, upd_same⟩ (fun _ _ _ _ => True.intro) (fun i x H2 H3 hi hP hy => ?_) (fun H2 hP => ?_)
    · exact (hp1.up hD).mono (by omega)
    · exact k1.trans (Kp.same (Same.upd hD))
    · obtain ⟨cs, hc1, hc2, hp2, k2, e2⟩ := hP
      obtain ⟨rfl, rfl⟩ := hy
      have nD : D ≠ p := hp1.ne hD
      refine ⟨rfl, .ref p, rfl, .str L, rfl, p, _, .str L, rfl, hp2, by omega, .inl ⟨L, rfl, l0, l1, fun c H5 hc hp5 k5 => ?_⟩⟩
      refine ⟨_, k5 D _ nD e2, ?_, cs ++ [c], by rw [List.length_append, hc1] <;> rfl, fun d hd => ?_, (hp5.wr nD).mono (by omega), ?_, ?_⟩
      · rw [List.length_map, hc1]
        exact Nat.lt_of_lt_of_le (show i < 200 by omega) (by decide)
      · rcases List.mem_append.mp hd with z | z
        · exact hc2 d z
        · exact List.mem_singleton.mp z ▸ hc
      · intro b o nb hb
        have nbD : b ≠ D := fun z => by
          have q1 := k1 b o nb hb
          rw [z, hD] at q1
          cases q1
        rw [upd_ne nbD]
        exact k5 b o nb (k2 b o nb hb)
      · rw [upd_same, List.map_append] <;> rfl
    · obtain ⟨cs, hc1, hc2, hp2, k2, e2⟩ := hP
      have e3 : H2 D = some (.lst ((cs.map fun c => (⟨#[c]⟩ : Str)).map V.str)) := by
        rw [e2, List.map_map] <;> rfl
      refine ⟨_, D, _, rfl, rfl, .inl (.inl (.inl e3)), ?_, ?_⟩
      · rw [sum_ones, List.length_map, str_len, em]
        show cs.length + cs.length * 0 ≤ _
        omega
      · rw [join_ones]
        exact q cs H2 (by omega) hc2 (hp2.mono (by omega)) k2
end
end Sf
namespace Sf
open PySem PySem.Spec PyProof.Rows L2
abbrev sLets : Stmt := topS 19
abbrev sLIsText : Stmt := topS 22
theorem scLets : FnScope [] [] (defScope sLets) := ⟨rfl, rfl, rfl, by decide +kernel, rfl, by decide +kernel, by decide +kernel⟩
theorem scLIsText : FnScope ["_law_thing", "_law_sign"] ["_law_thing"] (defScope sLIsText) := ⟨rfl, rfl, rfl, by decide +kernel, rfl, by decide +kernel, by decide +kernel⟩
/-! ### what is told -/
def LS : Str := Str.ofString " 0123456789_abcdefghijklmnopqrstuvwxyz"
def dTx : PyData → Bool
  | .str x => isTx x
  | _ => false
section
variable {P : Program} {w : World} {K : PySem.W.Frag} {mg : Str → Option Value} {base : Heap}
def spDat (f : PyData → Bool) : Sp := fun vs H Q _ => ∃ (v : V) (g : Bool) (p : Addr) (d : PyData), vs = [v] ∧ Od g p H v d ∧ d.weight ≤ 2000 ∧ ∀ H', Same H H' → Q (.bl (f d)) H'
theorem ok_isText {f : Addr} {fd : FuncData} {k : Nat} (F : Fun K "is_text" "is_text" sIsText f fd) (mi : mg "isinstance" = none) (ms : mg "str" = none) (ma : mg "all" = none) {tk : Tok}
    (gL : mg "LETTERS" = some (.str (Str.ofString " 0123456789_abcdefghijklmnopqrstuvwxyz") tk)) : FnOk P w K mg base CX0 (k + 1) f fd ["value"] (spDat dTx) := by
  refine F.ok scIsText (fun vs H Q E h => ?_) (fun cdv A outer s H vs Q E hr h => ?_)
  · obtain ⟨v, g, p, d, rfl, _⟩ := h
    rfl
  · obtain ⟨v, g, p, d, rfl, ho, hw, q⟩ := h
    refine ⟨_, pss_one (ps_ret (pe_and (pe_callB call_isi (by rfl) mi PyProof.Rows.boot_isinstance (pa_cons (pv 0) (pa_cons (pe_bltn (by rfl) ms PySem.Pv.boot_str (v := .ty "str") rfl) pa_nil)))
      (pe_one (pe_callB (cr_all rfl) (by rfl) ma (by decide +kernel) (pa_cons (pe_lc (own := [("sign", 1)]) (g := gName 1) (tt := tYes) rfl scIsText.nd (pi_str (pv 0)) (blkOk_by (N := ["value", "sign"]) (sc := defScope sIsText) (by decide +kernel))
        (fun _ _ _ _ _ => pg_name (i := 1) scIsText.nd rfl (Or.inl rfl)) (fun _ _ _ _ _ => pts_nil) (fun _ _ _ _ _ => pe_cmpR op_in_sign (pv 1) (pe_glob (v := .str _) rfl gL ⟨_, rfl⟩) (by rfl))) pa_nil))))), ?_⟩
    refine ⟨v, rfl, v, .ty "str", _, _, isS d, rfl, .ty "str", ho.ty, kit_ty (kit_str d), isS d, rfl, ?_⟩
    cases ho with
    | str x =>
      refine iteT ?_
      have hx : x.length ≤ 2000 := hw
      refine ⟨.str x, rfl, x, rfl, fun D hD => lc_map (walk_str (z := x)) (fun i => .bl (decide ((x.cps.toList.getD i 0) ∈ LET))) (Nat.le_trans hx (by decide)) hD (fun _ _ => True.intro) (fun i y H1 H2 N hi h1 hy hN => ?_) (fun H1 h1 h2 => ?_)⟩
      · obtain ⟨rfl, c, hc, rfl⟩ := hy
        refine ⟨rfl, _, rfl, c, _, rfl, rfl, ?_⟩
        have q2 := hN H2 (Same.refl _)
        have e : x.cps.toList.getD i 0 = c := getD_at (by rw [Array.getElem?_toList]; exact hc)
        rw [e] at q2
        exact q2
      · have e := map_getD (fun c => V.bl (decide (c ∈ LET))) 0 x.cps.toList
        rw [Array.length_toList] at e
        have h3 : H1 D = some (.lst ((x.cps.toList.map fun c => decide (c ∈ LET)).map V.bl)) := by
          rw [h2, e, List.map_map] <;> rfl
        refine ⟨D, _, rfl, .inl (.inl h3), ?_⟩
        rw [List.all_map]
        exact q H1 h1
    | _ => exact iteF (q H (Same.refl H))
/-! ### the law's letters -/
def spLets : Sp := fun vs H Q _ => vs = [] ∧ Q (.str LS) H
theorem ok_lets {f : Addr} {fd : FuncData} {k : Nat} (F : Fun K "_law_all_letters" "_law_all_letters" sLets f fd) : FnOk P w K mg base CX0 (k + 1) f fd [] spLets := by
  refine F.ok scLets (fun vs H Q E h => ?_) (fun cdv A outer s H vs Q E hr h => ?_)
  · obtain ⟨rfl, _⟩ := h
    rfl
  · obtain ⟨rfl, q⟩ := h
    exact ⟨_, pss_one (ps_ret pe_str), q⟩
theorem ok_lisText {f fL : Addr} {fd fdL : FuncData} {k : Nat} (F : Fun K "_law_is_text" "_law_is_text" sLIsText f fd) (FL : Fun K "_law_all_letters" "_law_all_letters" sLets fL fdL) (bL : Binds K fdL [] []) (gL : mg "_law_all_letters" = some (.ref fL))
    (GL : FnOk P w K mg base CX0 (k + 1) fL fdL [] spLets) (mi : mg "isinstance" = none) (ms : mg "str" = none) (ma : mg "all" = none) : FnOk P w K mg base CX0 (k + 2) f fd ["_law_thing"] (spDat dTx) := by
  refine F.ok scLIsText (fun vs H Q E h => ?_) (fun cdv A outer s H vs Q E hr h => ?_)
  · obtain ⟨v, g, p, d, rfl, _⟩ := h
    rfl
  · obtain ⟨v, g, p, d, rfl, ho, hw, q⟩ := h
    refine ⟨_, pss_one (ps_ret (pe_and (pe_callB call_isi (by rfl) mi PyProof.Rows.boot_isinstance (pa_cons (pv 0) (pa_cons (pe_bltn (by rfl) ms PySem.Pv.boot_str (v := .ty "str") rfl) pa_nil)))
      (pe_one (pe_callB (cr_all rfl) (by rfl) ma (by decide +kernel) (pa_cons (pe_lc (own := [("_law_sign", 1)]) (g := gName 1) (tt := tYes) rfl scLIsText.nd (pi_str (pv 0)) (blkOk_by (N := ["_law_thing", "_law_sign"]) (sc := defScope sLIsText) (by decide +kernel))
        (fun _ _ _ _ _ => pg_name (i := 1) scLIsText.nd rfl (Or.inl rfl)) (fun _ _ _ _ _ => pts_nil) (fun _ _ _ _ _ => pe_cmpR op_in_sign (pv 1) (pe_call0 GL hr (by rfl) gL FL.kp bL .nil pass0) (by rfl))) pa_nil))))), ?_⟩
    refine ⟨v, rfl, v, .ty "str", _, _, isS d, rfl, .ty "str", ho.ty, kit_ty (kit_str d), isS d, rfl, ?_⟩
    cases ho with
    | str x =>
      refine iteT ?_
      have hx : x.length ≤ 2000 := hw
      refine ⟨.str x, rfl, x, rfl, fun D hD => lc_map (walk_str (z := x)) (fun i => .bl (decide ((x.cps.toList.getD i 0) ∈ LET))) (Nat.le_trans hx (by decide)) hD (fun _ _ => True.intro) (fun i y H1 H2 N hi h1 hy hN => ?_) (fun H1 h1 h2 => ?_)⟩
      · obtain ⟨rfl, c, hc, rfl⟩ := hy
        refine ⟨rfl, _, rfl, rfl, c, _, rfl, rfl, ?_⟩
        have q2 := hN H2 (Same.refl _)
        have e : x.cps.toList.getD i 0 = c := getD_at (by rw [Array.getElem?_toList]; exact hc)
        rw [e] at q2
        exact q2
      · have e := map_getD (fun c => V.bl (decide (c ∈ LET))) 0 x.cps.toList
        rw [Array.length_toList] at e
        have h3 : H1 D = some (.lst ((x.cps.toList.map fun c => decide (c ∈ LET)).map V.bl)) := by
          rw [h2, e, List.map_map] <;> rfl
        refine ⟨D, _, rfl, .inl (.inl h3), ?_⟩
        rw [List.all_map]
        exact q H1 h1
    | _ => exact iteF (q H (Same.refl H))
/-! ### what raises -/
def Rz (D : Addr) (E : XK) (H : Hp) (v : V) : Prop := ∀ dd H', H dd = none → Same H H' → H' dd = some (.xd [("value", v)]) → E (.ref D) (some dd) H'
/-- BadText as it stands -/
structure Bad (P : Program) (w : World) (K : PySem.W.Frag) (mg : Str → Option Value) (base : Heap) (k : Nat) (D fB : Addr) (dB : FuncData) : Prop where
  T : OexC K D
  iC : PySem.W.findIn K (.ref D) "__init__" = some (some (.ref fB))
  tI : PySem.W.typeIn K (.ref fB) = some (.type "function")
  G : FnOk P w K mg base CX0 k fB dB ["self", "value"] (spSup D)
  b : Binds K dB ["self", "value"] []
  g : mg "BadText" = some (.ref D)
theorem raised {H : Hp} {D : Addr} {E : XK} {v : V} (z : Rz D E H v) {a dx : Addr} (na : H a = none) (nx : upd H a (exo a D none) dx = none) (hne : dx ≠ a) :
    E (.ref D) (some dx) (upd (del (upd (upd (upd H a (exo a D none)) dx (exd dx [("value", v)])) a (exo a D (some dx))) a) dx (.xd [("value", v)])) := by
  have nd : H dx = none := by
    rw [upd_ne hne] at nx
    exact nx
  refine z dx _ nd (fun b o e => ?_) upd_same
  have h1 : b ≠ dx := ne_of_none e nd
  have h2 : b ≠ a := ne_of_none e na
  rw [upd_ne h1, del_ne h2, upd_ne h2, upd_ne h1, upd_ne h2]
  exact e
def spCheckX (D : Addr) : Sp := fun vs H Q E => ∃ (v : V) (g : Bool) (p : Addr) (d : PyData), vs = [v] ∧ Od g p H v d ∧ d.weight ≤ 900 ∧ (dTx d = true → ∀ H', Same H H' → Q .non H') ∧ (dTx d = false → Rz D E H v)
theorem ok_check {f fI D fB : Addr} {fd fdI dB : FuncData} {k : Nat} (F : Fun K "check_text" "check_text" sCheck f fd) (FI : Fun K "is_text" "is_text" sIsText fI fdI) (bI : Binds K fdI ["value"] []) (gI : mg "is_text" = some (.ref fI))
    (GI : FnOk P w K mg base CX0 (k + 1) fI fdI ["value"] (spDat dTx)) (B : Bad P w K mg base k D fB dB) : FnOk P w K mg base (L2.CX P w) (k + 2) f fd ["value"] (spCheckX D) := by
  refine F.okX scCheck (fun vs H Q E h => ?_) (fun cdv A outer s H vs Q E hr h => ?_)
  · obtain ⟨v, g, p, d, rfl, _⟩ := h
    rfl
  · obtain ⟨v, g, p, d, rfl, od, hw, q1, q2⟩ := h
    refine ⟨_, pss_one (ps_if (pt_not (pt_val (pe_call GI hr (by rfl) gI FI.kp bI .nil pass0 (pa_cons (pv 0) pa_nil)))) (pss_one (ps_raise rfl (takes_of rfl rfl rfl rfl) (pmk_oex B.T B.iC B.tI B.G hr B.b .nil pass0 (by rfl) B.g (pa_cons (pv 0) pa_nil)))) pss_nil), ?_⟩
    refine ⟨v, rfl, v, g, p, d, rfl, od, by omega, fun H1 s1 => ⟨dTx d, rfl, ?_⟩⟩
    cases e : dTx d with
    | true => exact iteF (q1 e H1 s1)
    | false =>
      refine iteT ?_
      have z : Rz D E H1 v := fun dd H' n s => q2 e dd H' (s1.free n) (s1.trans s)
      exact ⟨v, rfl, (show 1 ≤ 1000 by decide), fun a na => ⟨a, v, rfl, upd_same, fun dx nx hne => ⟨rfl, dx, _, upd_same, by rw [upd_ne hne, upd_same], by rw [upd_ne hne] at nx; exact nx, raised z na nx hne⟩⟩⟩
/-! ### pairs_of -/
theorem dTx_str {d : PyData} (h : dTx d = true) : ∃ x, d = .str x ∧ isTx x = true := by
  cases d with
  | str x => exact ⟨x, rfl, h⟩
  | _ => cases h
def spPairsOfX (D : Addr) : Sp := fun vs H Q E => ∃ (v : V) (g : Bool) (p : Addr) (d : PyData), vs = [v] ∧ Od g p H v d ∧ d.weight ≤ 900 ∧
  (∀ x, d = .str x → isTx x = true → ∀ (ys : List Str) (r : Addr) H', SrtOf (pin x.cps.toList) ys → H r = none → Same H H' → H' r = some (.tup (ys.map V.str)) → Q (.ref r) H') ∧ (dTx d = false → Rz D E H v)
theorem ok_pairsOf {f fC fP D : Addr} {fd fdC fdP : FuncData} {k : Nat} (F : Fun K "pairs_of" "pairs_of" sPairsOf f fd)
    (FC : Fun K "check_text" "check_text" sCheck fC fdC) (bC : Binds K fdC ["value"] []) (gC : mg "check_text" = some (.ref fC)) (GC : FnOk P w K mg base (L2.CX P w) k fC fdC ["value"] (spCheckX D))
    (FP : Fun K "pairs_in" "pairs_in" sPairsIn fP fdP) (bP : Binds K fdP ["text"] []) (gP : mg "pairs_in" = some (.ref fP)) (GP : FnOk P w K mg base CX0 k fP fdP ["text"] spPairsIn)
    (mt : mg "tuple" = none) (ms : mg "sorted" = none) (mS : mg "set" = none) : FnOk P w K mg base (L2.CX P w) (k + 1) f fd ["text"] (spPairsOfX D) := by
  refine F.okX scPairsOf (fun vs H Q E h => ?_) (fun cdv A outer s H vs Q E hr h => ?_)
  · obtain ⟨v, g, p, d, rfl, _⟩ := h
    rfl
  · obtain ⟨v, g, p, d, rfl, od, hw, q1, q2⟩ := h
    refine ⟨_, pss_cons (ps_expr (pe_call GC hr (by rfl) gC FC.kp bC .nil (passes_call (takes_of rfl rfl rfl rfl) (fun _ _ _ _ h => h)) (pa_cons (pv 0) pa_nil)))
      (pss_one (ps_ret (pe_tupleOf (by rfl) mt (pe_callB (cr_sortedTx rfl) (by rfl) ms (by decide +kernel) (pa_cons (pe_callTy (cr_setTx rfl) (by rfl) mS PySem.Pv.boot_set (pa_cons (pe_call GP hr (by rfl) gP FP.kp bP .nil pass0 (pa_cons (pv 0) pa_nil)) pa_nil)) pa_nil))))), ?_⟩
    refine ⟨v, rfl, v, g, p, d, rfl, od, hw, fun e H1 s1 => ?_, q2⟩
    obtain ⟨x, rfl, hx⟩ := dTx_str e
    cases od
    have lx : x.length ≤ 900 := hw
    refine ⟨.str x, rfl, x, rfl, by omega, fun o H2 no s2 eo => ?_⟩
    have lp : (pin x.cps.toList).length ≤ 901 := by
      rw [pin_len, ← str_len]
      omega
    have lt := toSet_len (pin x.cps.toList)
    refine ⟨o, _, rfl, .inl (.inl (.inl eo)), Nat.lt_of_le_of_lt (Nat.succ_le_succ lp) (by decide), fun S nS => ?_⟩
    refine ⟨S, _, rfl, upd_same, Nat.lt_of_le_of_lt (Nat.le_trans lt lp) (by decide), fun ys r h1 h2 nr => .inl ⟨r, _, rfl, .inl (.inl upd_same), fun t nt => ?_⟩⟩
    have s3 := s1.trans (s2.trans ((Same.upd nS).trans (Same.upd (o := HO.lst (ys.map V.str)) nr)))
    exact q1 x rfl hx ys t _ ⟨h1, h2⟩ (s3.free nt) (s3.trans (Same.upd nt)) upd_same
/-! ### allows -/
def spAllowsX (K : PySem.W.Frag) (D : Addr) : Sp := fun vs H Q E => ∃ (a : Addr) (ps : List Str) (v : V) (g : Bool) (p : Addr) (d : PyData), vs = [.ref a, v] ∧ SqT K H a (ps.map V.str) ∧ Od g p H v d ∧ d.weight ≤ 900 ∧
  (∀ x, d = .str x → isTx x = true → ∀ H', Same H H' → Q (.bl (alw (fun p => decide (p ∈ ps)) x.cps.toList)) H') ∧ (dTx d = false → Rz D E H v)
theorem ok_allows {f fC fP D : Addr} {fd fdC fdP : FuncData} {k : Nat} (F : Fun K "allows" "allows" sAllows f fd)
    (FC : Fun K "check_text" "check_text" sCheck fC fdC) (bC : Binds K fdC ["value"] []) (gC : mg "check_text" = some (.ref fC)) (GC : FnOk P w K mg base (L2.CX P w) k fC fdC ["value"] (spCheckX D))
    (FP : Fun K "pairs_in" "pairs_in" sPairsIn fP fdP) (bP : Binds K fdP ["text"] []) (gP : mg "pairs_in" = some (.ref fP)) (GP : FnOk P w K mg base CX0 k fP fdP ["text"] spPairsIn)
    (ma : mg "all" = none) : FnOk P w K mg base (L2.CX P w) (k + 1) f fd ["pairs", "text"] (spAllowsX K D) := by
  refine F.okX scAllows (fun vs H Q E h => ?_) (fun cdv A outer s H vs Q E hr h => ?_)
  · obtain ⟨a, ps, v, g, p, d, rfl, _⟩ := h
    rfl
  · obtain ⟨a, ps, v, g, p, d, rfl, hS, od, hw, q1, q2⟩ := h
    refine ⟨_, pss_cons (ps_expr (pe_call GC hr (by rfl) gC FC.kp bC .nil (passes_call (takes_of rfl rfl rfl rfl) (fun _ _ _ _ h => h)) (pa_cons (pv 1) pa_nil)))
      (pss_one (ps_ret (pe_callB (cr_all rfl) (by rfl) ma (by decide +kernel) (pa_cons (pe_lc (own := [("pair", 2)]) (g := gName 2) (tt := tYes) rfl scAllows.nd
        (pi_list (pe_call GP hr (by rfl) gP FP.kp bP .nil pass0 (pa_cons (pv 1) pa_nil))) (blkOk_by (N := ["pairs", "text", "pair"]) (sc := defScope sAllows) (by decide +kernel))
        (fun _ _ _ _ _ => pg_name (i := 2) scAllows.nd rfl (Or.inl rfl)) (fun _ _ _ _ _ => pts_nil) (te := tOp (rIn K false) (tVar 2) (tVar 0)) (fun _ _ _ _ _ => pe_cmpR op_in_seq (pv 2) (pv 0) (by rfl))) pa_nil)))), ?_⟩
    refine ⟨v, rfl, v, g, p, d, rfl, od, hw, fun e H1 s1 => ?_, q2⟩
    obtain ⟨x, rfl, hx⟩ := dTx_str e
    cases od
    have lx : x.length ≤ 900 := hw
    have hSa : ∀ {H2 : Hp}, Same H H2 → SqT K H2 a (ps.map V.str) := fun s2 => hS.elim (fun r => .inl (r.elim (fun e => .inl (s2 _ _ e)) (fun ⟨u, e⟩ => .inr ⟨u, s2 _ _ e⟩))) .inr
    refine ⟨.str x, rfl, x, rfl, by omega, fun p H2 np s2 hp => ⟨p, rfl, ⟨_, .inl (.inl hp)⟩, fun D hD => ?_⟩⟩
    have lp : (pin x.cps.toList).length ≤ 1001 := by
      rw [pin_len, ← str_len]
      omega
    refine lc_map (walk_list (K := K) (a := p) (xs := (pin x.cps.toList).map V.str)) (fun i => .bl (decide ((pin x.cps.toList).getD i Str.empty ∈ ps))) (by rw [List.length_map]; omega) hD (fun _ s3 => .inl (.inl (s3 _ _ hp))) (fun i y H3 H4 N hi s3 hy hN => ?_) (fun H3 s3 e3 => ?_)
    · obtain ⟨rfl, hv⟩ := hy
      rw [List.getElem?_map] at hv
      cases hz : (pin x.cps.toList)[i]? with
      | none =>
        rw [hz] at hv
        cases hv
      | some z =>
        rw [hz] at hv
        obtain rfl : V.str z = y := Option.some.inj hv
        have q3 := hN _ (Same.refl _)
        rw [getD_at hz] at q3
        refine ⟨rfl, .str z, rfl, .ref a, rfl, a, _, rfl, .inr (hSa (s1.trans (s2.trans s3))), rfl, flat_str ps, ?_⟩
        rw [inV_str]
        exact q3
    · have e4 : H3 D = some (.lst (((pin x.cps.toList).map fun z => decide (z ∈ ps)).map V.bl)) := by
        rw [e3, List.length_map, map_getD (fun z => V.bl (decide (z ∈ ps))) Str.empty, List.map_map] <;> rfl
      refine ⟨D, _, rfl, .inl (.inl e4), ?_⟩
      rw [List.all_map]
      exact q1 x rfl hx H3 (s1.trans (s2.trans s3))
end
end Sf
namespace Sf
open PySem PySem.Spec PyProof.Rows L2
abbrev sPairs : Stmt := topS 23
def NPairs : List Str := ["_law_lots", "_law_found", "_law_one", "_law_signs", "_law_at"]
theorem scPairs : FnScope NPairs ["_law_lots"] (defScope sPairs) := ⟨rfl, rfl, rfl, by decide +kernel, rfl, by decide +kernel, by decide +kernel⟩
section
variable {P : Program} {w : World} {K : PySem.W.Frag} {mg : Str → Option Value} {base : Heap}
theorem SqT.same {H H' : Hp} {a : Addr} {xs : List V} (s : Same H H') (h : SqT K H a xs) : SqT K H' a xs :=
  h.elim (fun r => .inl (r.elim (fun e => .inl (s _ _ e)) (fun ⟨u, e⟩ => .inr ⟨u, s _ _ e⟩))) .inr
def spPairs (K : PySem.W.Frag) : Sp := fun vs H Q _ => ∃ (a : Addr) (xs : List Str), vs = [.ref a] ∧ (SqL K H a (xs.map V.str) ∨ SqT K H a (xs.map V.str)) ∧ xs.length ≤ 8 ∧ (∀ x ∈ xs, x.length ≤ 200) ∧
  ∀ (ys : List Str) (p : Addr) H', SrtOf (xs.flatMap fun x => pin x.cps.toList) ys → H p = none → Same H H' → H' p = some (.tup (ys.map V.str)) → Q (.ref p) H'
theorem cut2 {z : Str} {i : Nat} {a b : Nat} (h1 : z.cps.toList[i]? = some a) (h2 : z.cps.toList[i + 1]? = some b) : cutS z (some (i : Int)) (some ((i : Int) + 2)) = two a b := by
  refine TL.ext_tl ?_
  show ((z.cps.toList.drop (HT.sIx z.length 0 (some (i : Int)))).take (HT.sIx z.length z.length (some ((i : Int) + 2)) - HT.sIx z.length 0 (some (i : Int)))).toArray.toList = [a, b]
  have l2 : i + 1 < z.cps.toList.length := (List.getElem?_eq_some_iff.mp h2).1
  have e2 : ((i : Int) + 2) = ((i + 2 : Nat) : Int) := by omega
  rw [e2, HT.sIx_nat, HT.sIx_nat, str_len, Nat.min_eq_left (by omega), Nat.min_eq_left (by omega), show i + 2 - i = 2 by omega]
  have d1 : z.cps.toList.drop i = a :: b :: z.cps.toList.drop (i + 2) := by
    rw [List.drop_eq_getElem_cons (show i < z.cps.toList.length by omega), List.drop_eq_getElem_cons l2]
    rw [List.getElem?_eq_getElem (by omega)] at h1 h2
    rw [Option.some.inj h1, Option.some.inj h2]
  rw [d1] <;> rfl
theorem ok_pairs {f : Addr} {fd : FuncData} {k : Nat} (F : Fun K "_law_pairs" "_law_pairs" sPairs f fd) (mt : mg "tuple" = none) (ms : mg "sorted" = none) (mS : mg "set" = none) (mr : mg "range" = none) (ml : mg "len" = none) :
    FnOk P w K mg base CX0 (k + 1) f fd ["_law_lots"] (spPairs K) := by
  refine F.ok scPairs (fun vs H Q E h => ?_) (fun cdv A outer s H vs Q E hr h => ?_)
  · obtain ⟨a, xs, rfl, _⟩ := h
    rfl
  · obtain ⟨a, xs, rfl, hS, hl, ht, q⟩ := h
    rcases hS with hS | hS
    · refine ⟨_, pss_cons (ps_set (i := 1) scPairs.nd rfl (.inl rfl) (pe_lst pa_nil))
        (pss_cons (ps_for PassesOwn.never rfl (pi_list (pv 0)) (pg_name (i := 2) scPairs.nd rfl (.inl rfl))
          (pss_cons (ps_set (i := 3) scPairs.nd rfl (.inr rfl) (pe_op op_add_str (pe_op op_add_str pe_str (pv 2)) pe_str))
          (pss_one (ps_expr (pe_bm PySem.F.plainAttrs_list PySem.F.slot_list_extend PySem.F.type_list_extend mt_extend (pv 1) (pa_cons
            (pe_lc (own := [("_law_at", 4)]) (g := gName 4) (tt := tYes) rfl scPairs.nd
              (pi_range1 rfl mr (pa_cons (pe_op op_sub (pe_callB call_len_str (by rfl) ml PySem.boot_len (pa_cons (pv 3) pa_nil)) pe_int) pa_nil))
              (blkOk_by (N := NPairs) (sc := defScope sPairs) (by decide +kernel))
              (fun _ _ _ _ _ => pg_name (i := 4) scPairs.nd rfl (Or.inl rfl)) (fun _ _ _ _ _ => pts_nil)
              (fun _ _ _ _ _ => pe_slice sl_str (pv 3) (po_some (pv 4)) (po_some (pe_op op_add (pv 4) pe_int)))) pa_nil))))))
        (pss_one (ps_ret (pe_tupleOf (by rfl) mt (pe_callB (cr_sortedTx rfl) (by rfl) ms (by decide +kernel) (pa_cons (pe_callTy (cr_setTx rfl) (by rfl) mS PySem.Pv.boot_set (pa_cons (pv 1) pa_nil)) pa_nil)))))), ?_⟩
      refine ⟨Nat.zero_le _, fun o no => ?_⟩
      have tlen : ∀ i, (((xs.take i).flatMap fun x => pin x.cps.toList)).length ≤ 8 * 201 := fun i => by
        have q1 := flat_len (fun x => pin x.cps.toList) 201 (xs.take i) fun x hx => by
          have h2 := ht x (List.mem_of_mem_take hx)
          rw [str_len] at h2
          rw [pin_len]
          omega
        have q2 := List.length_take_le' i xs
        have q3 : (xs.take i).length * 201 ≤ 8 * 201 := Nat.mul_le_mul_right 201 (Nat.le_trans q2 hl)
        omega
      refine ⟨.ref a, rfl, a, rfl, ⟨_, (Same.upd no).seq hS⟩, ?_⟩
      refine for_it (walk_list (K := K) (a := a) (xs := xs.map V.str)) (fun i σ H2 => ∃ y2 y3 y4, σ = [some (.ref a), some (.ref o), y2, y3, y4] ∧ Same H H2 ∧ H2 o = some (.lst (((xs.take i).flatMap fun x => pin x.cps.toList).map V.str)))
        ⟨none, none, none, rfl, Same.upd no, upd_same⟩ (fun i σ H2 _ hP => ?_) (fun i v σ H2 H3 hi hP hy => ?_) (fun σ H2 hP => ?_)
      · obtain ⟨y2, y3, y4, _, s2, _⟩ := hP
        exact s2.seq hS
      · obtain ⟨y2, y3, y4, rfl, s2, e2⟩ := hP
        obtain ⟨rfl, hv⟩ := hy
        rw [List.getElem?_map] at hv
        cases hx : xs[i]? with
        | none =>
          rw [hx] at hv
          cases hv
        | some x =>
          rw [hx] at hv
          obtain rfl : V.str x = v := Option.some.inj hv
          have h2 := ht x (List.mem_of_getElem? hx)
          rw [str_len] at h2
          have sl : ∀ n : Nat, n ≤ 20000 → n ≤ sizeLine := fun n h => Nat.le_trans h (by decide)
          have l1 : (Str.ofString "^").length = 1 := by
            rw [str_len, bg] <;> rfl
          have l2 : (Str.ofString "$").length = 1 := by
            rw [str_len, en] <;> rfl
          have l3 := len_ap (Str.ofString "^") x
          rw [str_len x] at l3
          refine ⟨.str x, rfl, _, _, rfl, rfl, sl _ (by rw [str_len x]; omega), _, _, rfl, rfl, sl _ (by omega), ?_⟩
          generalize hz : Str.ofString "^" ++ x ++ Str.ofString "$" = z
          have ez : z.cps.toList = 94 :: (x.cps.toList ++ [36]) := by
            rw [← hz, tl_ap, tl_ap, bg, en] <;> rfl
          have lz : z.length = x.cps.toList.length + 2 := by
            rw [str_len, ez, List.length_cons, List.length_append] <;> rfl
          have ep : (pin x.cps.toList).length = x.cps.toList.length + 1 := pin_len _
          refine ⟨.ref o, rfl, .inl ⟨rfl, _, .inl (.inl e2)⟩, .str z, rfl, z, rfl, sl _ (by omega), _, _, rfl, rfl, _, rfl, by omega, by omega, fun D hD => ?_⟩
          have en1 : ((z.length : Int) - 1).toNat = x.cps.toList.length + 1 := by omega
          rw [en1]
          refine lc_map (walk_range (lo := 0) (n := x.cps.toList.length + 1)) (fun j => .str ((pin x.cps.toList).getD j Str.empty)) (by omega) hD (fun _ _ => True.intro) (fun j y H4 H5 N hj s4 hy hN => ?_) (fun H4 s4 e4 => ?_)
          · obtain ⟨rfl, rfl⟩ := hy
            have g1 : z.cps.toList[j]? = some (z.cps.toList.getD j 0) := by
              rw [List.getD_eq_getElem?_getD, List.getElem?_eq_getElem (by rw [← str_len]; omega)] <;> rfl
            have g2 : z.cps.toList[j + 1]? = some (z.cps.toList.getD (j + 1) 0) := by
              rw [List.getD_eq_getElem?_getD, List.getElem?_eq_getElem (by rw [← str_len]; omega)] <;> rfl
            have q2 := hN _ (Same.refl _)
            have e : (pin x.cps.toList).getD j Str.empty = two (z.cps.toList.getD j 0) (z.cps.toList.getD (j + 1) 0) := getD_at (by
              unfold pin
              rw [← ez]
              exact prs_get _ j _ _ g1 g2)
            rw [e, ← cut2 g1 g2] at q2
            have e0 : (0 : Int) + (j : Int) = (j : Int) := Int.zero_add _
            refine ⟨rfl, .str z, rfl, .int ((0 : Int) + (j : Int)), rfl, _, rfl, .int ((0 : Int) + (j : Int)), rfl, _, _, rfl, rfl, _, rfl, z, rfl, sl _ (by omega), ?_⟩
            rw [e0]
            exact q2
          · have e5 : H4 D = some (.lst ((pin x.cps.toList).map V.str)) := by
              rw [e4, ← ep, map_getD V.str Str.empty]
            have e6 := s4 _ _ e2
            refine ⟨o, D, _, _, rfl, rfl, e6, e5, ?_, _, _, _, rfl, Same.mut (s2.trans s4) no, ?_⟩
            · have q1 := tlen i
              rw [List.length_map, List.length_map, pin_len]
              exact sl _ (by omega)
            · rw [upd_same, List.take_add_one, hx, List.flatMap_append, List.map_append]
              show some (HO.lst (_ ++ List.map V.str (pin x.cps.toList))) = some (HO.lst (_ ++ List.map V.str (List.flatMap (fun x => pin x.cps.toList) [x])))
              rw [List.flatMap_cons, List.flatMap_nil, List.append_nil]
      · obtain ⟨y2, y3, y4, rfl, s2, e2⟩ := hP
        rw [List.length_map, List.take_length] at e2
        have t2 := tlen xs.length
        rw [List.take_length] at t2
        refine ⟨.ref o, rfl, o, _, rfl, .inl (.inl (.inl e2)), ?_, fun S nS => ?_⟩
        · exact Nat.lt_of_le_of_lt (Nat.succ_le_succ t2) (by decide)
        have slen : (toSet (xs.flatMap fun x => pin x.cps.toList)).length < scanBound := by
          have q1 := toSet_len (xs.flatMap fun x => pin x.cps.toList)
          exact Nat.lt_of_le_of_lt (Nat.le_trans q1 t2) (by decide)
        refine ⟨S, _, rfl, upd_same, slen, fun ys p h1 h2 np => .inl ⟨p, _, rfl, .inl (.inl upd_same), fun r nr => ?_⟩⟩
        have s3 : Same H (upd (upd H2 S (SetTx P w S (toSet (xs.flatMap fun x => pin x.cps.toList)))) p (.lst (ys.map V.str))) := s2.trans ((Same.upd nS).trans (Same.upd np))
        exact q ys r _ ⟨h1, h2⟩ (s3.free nr) (s3.trans (Same.upd nr)) upd_same
    · refine ⟨_, pss_cons (ps_set (i := 1) scPairs.nd rfl (.inl rfl) (pe_lst pa_nil))
        (pss_cons (ps_for PassesOwn.never rfl (pi_tup (pv 0)) (pg_name (i := 2) scPairs.nd rfl (.inl rfl))
          (pss_cons (ps_set (i := 3) scPairs.nd rfl (.inr rfl) (pe_op op_add_str (pe_op op_add_str pe_str (pv 2)) pe_str))
          (pss_one (ps_expr (pe_bm PySem.F.plainAttrs_list PySem.F.slot_list_extend PySem.F.type_list_extend mt_extend (pv 1) (pa_cons
            (pe_lc (own := [("_law_at", 4)]) (g := gName 4) (tt := tYes) rfl scPairs.nd
              (pi_range1 rfl mr (pa_cons (pe_op op_sub (pe_callB call_len_str (by rfl) ml PySem.boot_len (pa_cons (pv 3) pa_nil)) pe_int) pa_nil))
              (blkOk_by (N := NPairs) (sc := defScope sPairs) (by decide +kernel))
              (fun _ _ _ _ _ => pg_name (i := 4) scPairs.nd rfl (Or.inl rfl)) (fun _ _ _ _ _ => pts_nil)
              (fun _ _ _ _ _ => pe_slice sl_str (pv 3) (po_some (pv 4)) (po_some (pe_op op_add (pv 4) pe_int)))) pa_nil))))))
        (pss_one (ps_ret (pe_tupleOf (by rfl) mt (pe_callB (cr_sortedTx rfl) (by rfl) ms (by decide +kernel) (pa_cons (pe_callTy (cr_setTx rfl) (by rfl) mS PySem.Pv.boot_set (pa_cons (pv 1) pa_nil)) pa_nil)))))), ?_⟩
      refine ⟨Nat.zero_le _, fun o no => ?_⟩
      have tlen : ∀ i, (((xs.take i).flatMap fun x => pin x.cps.toList)).length ≤ 8 * 201 := fun i => by
        have q1 := flat_len (fun x => pin x.cps.toList) 201 (xs.take i) fun x hx => by
          have h2 := ht x (List.mem_of_mem_take hx)
          rw [str_len] at h2
          rw [pin_len]
          omega
        have q2 := List.length_take_le' i xs
        have q3 : (xs.take i).length * 201 ≤ 8 * 201 := Nat.mul_le_mul_right 201 (Nat.le_trans q2 hl)
        omega
      refine ⟨.ref a, rfl, a, rfl, ⟨_, SqT.same (Same.upd no) hS⟩, ?_⟩
      refine for_it (walk_tup (K := K) (a := a) (xs := xs.map V.str)) (fun i σ H2 => ∃ y2 y3 y4, σ = [some (.ref a), some (.ref o), y2, y3, y4] ∧ Same H H2 ∧ H2 o = some (.lst (((xs.take i).flatMap fun x => pin x.cps.toList).map V.str)))
        ⟨none, none, none, rfl, Same.upd no, upd_same⟩ (fun i σ H2 _ hP => ?_) (fun i v σ H2 H3 hi hP hy => ?_) (fun σ H2 hP => ?_)
      · obtain ⟨y2, y3, y4, _, s2, _⟩ := hP
        exact SqT.same s2 hS
      · obtain ⟨y2, y3, y4, rfl, s2, e2⟩ := hP
        obtain ⟨rfl, hv⟩ := hy
        rw [List.getElem?_map] at hv
        cases hx : xs[i]? with
        | none =>
          rw [hx] at hv
          cases hv
        | some x =>
          rw [hx] at hv
          obtain rfl : V.str x = v := Option.some.inj hv
          have h2 := ht x (List.mem_of_getElem? hx)
          rw [str_len] at h2
          have sl : ∀ n : Nat, n ≤ 20000 → n ≤ sizeLine := fun n h => Nat.le_trans h (by decide)
          have l1 : (Str.ofString "^").length = 1 := by
            rw [str_len, bg] <;> rfl
          have l2 : (Str.ofString "$").length = 1 := by
            rw [str_len, en] <;> rfl
          have l3 := len_ap (Str.ofString "^") x
          rw [str_len x] at l3
          refine ⟨.str x, rfl, _, _, rfl, rfl, sl _ (by rw [str_len x]; omega), _, _, rfl, rfl, sl _ (by omega), ?_⟩
          generalize hz : Str.ofString "^" ++ x ++ Str.ofString "$" = z
          have ez : z.cps.toList = 94 :: (x.cps.toList ++ [36]) := by
            rw [← hz, tl_ap, tl_ap, bg, en] <;> rfl
          have lz : z.length = x.cps.toList.length + 2 := by
            rw [str_len, ez, List.length_cons, List.length_append] <;> rfl
          have ep : (pin x.cps.toList).length = x.cps.toList.length + 1 := pin_len _
          refine ⟨.ref o, rfl, .inl ⟨rfl, _, .inl (.inl e2)⟩, .str z, rfl, z, rfl, sl _ (by omega), _, _, rfl, rfl, _, rfl, by omega, by omega, fun D hD => ?_⟩
          have en1 : ((z.length : Int) - 1).toNat = x.cps.toList.length + 1 := by omega
          rw [en1]
          refine lc_map (walk_range (lo := 0) (n := x.cps.toList.length + 1)) (fun j => .str ((pin x.cps.toList).getD j Str.empty)) (by omega) hD (fun _ _ => True.intro) (fun j y H4 H5 N hj s4 hy hN => ?_) (fun H4 s4 e4 => ?_)
          · obtain ⟨rfl, rfl⟩ := hy
            have g1 : z.cps.toList[j]? = some (z.cps.toList.getD j 0) := by
              rw [List.getD_eq_getElem?_getD, List.getElem?_eq_getElem (by rw [← str_len]; omega)] <;> rfl
            have g2 : z.cps.toList[j + 1]? = some (z.cps.toList.getD (j + 1) 0) := by
              rw [List.getD_eq_getElem?_getD, List.getElem?_eq_getElem (by rw [← str_len]; omega)] <;> rfl
            have q2 := hN _ (Same.refl _)
            have e : (pin x.cps.toList).getD j Str.empty = two (z.cps.toList.getD j 0) (z.cps.toList.getD (j + 1) 0) := getD_at (by
              unfold pin
              rw [← ez]
              exact prs_get _ j _ _ g1 g2)
            rw [e, ← cut2 g1 g2] at q2
            have e0 : (0 : Int) + (j : Int) = (j : Int) := Int.zero_add _
            refine ⟨rfl, .str z, rfl, .int ((0 : Int) + (j : Int)), rfl, _, rfl, .int ((0 : Int) + (j : Int)), rfl, _, _, rfl, rfl, _, rfl, z, rfl, sl _ (by omega), ?_⟩
            rw [e0]
            exact q2
          · have e5 : H4 D = some (.lst ((pin x.cps.toList).map V.str)) := by
              rw [e4, ← ep, map_getD V.str Str.empty]
            have e6 := s4 _ _ e2
            refine ⟨o, D, _, _, rfl, rfl, e6, e5, ?_, _, _, _, rfl, Same.mut (s2.trans s4) no, ?_⟩
            · have q1 := tlen i
              rw [List.length_map, List.length_map, pin_len]
              exact sl _ (by omega)
            · rw [upd_same, List.take_add_one, hx, List.flatMap_append, List.map_append]
              show some (HO.lst (_ ++ List.map V.str (pin x.cps.toList))) = some (HO.lst (_ ++ List.map V.str (List.flatMap (fun x => pin x.cps.toList) [x])))
              rw [List.flatMap_cons, List.flatMap_nil, List.append_nil]
      · obtain ⟨y2, y3, y4, rfl, s2, e2⟩ := hP
        rw [List.length_map, List.take_length] at e2
        have t2 := tlen xs.length
        rw [List.take_length] at t2
        refine ⟨.ref o, rfl, o, _, rfl, .inl (.inl (.inl e2)), ?_, fun S nS => ?_⟩
        · exact Nat.lt_of_le_of_lt (Nat.succ_le_succ t2) (by decide)
        have slen : (toSet (xs.flatMap fun x => pin x.cps.toList)).length < scanBound := by
          have q1 := toSet_len (xs.flatMap fun x => pin x.cps.toList)
          exact Nat.lt_of_le_of_lt (Nat.le_trans q1 t2) (by decide)
        refine ⟨S, _, rfl, upd_same, slen, fun ys p h1 h2 np => .inl ⟨p, _, rfl, .inl (.inl upd_same), fun r nr => ?_⟩⟩
        have s3 : Same H (upd (upd H2 S (SetTx P w S (toSet (xs.flatMap fun x => pin x.cps.toList)))) p (.lst (ys.map V.str))) := s2.trans ((Same.upd nS).trans (Same.upd np))
        exact q ys r _ ⟨h1, h2⟩ (s3.free nr) (s3.trans (Same.upd nr)) upd_same
/-! ### pairs_of_all -/
def spPairsAllX (D : Addr) : Sp := fun vs H Q E => ∃ (a : Addr) (g : Bool) (p : Addr) (xs : List V) (ds : List PyData), vs = [.ref a] ∧ a ≠ p ∧ H a = some (.tup xs) ∧ OdAll g p H xs ds ∧ ds.length ≤ 8 ∧ (∀ d ∈ ds, d.weight ≤ 200) ∧
  (∀ ts : List Str, ds = ts.map PyData.str → (∀ t ∈ ts, isTx t = true) → ∀ (ys : List Str) (r : Addr) H', SrtOf (ts.flatMap fun x => pin x.cps.toList) ys → H r = none → Same H H' → H' r = some (.tup (ys.map V.str)) → Q (.ref r) H') ∧
  (∀ (j : Nat) (d : PyData) (v : V), ds[j]? = some d → xs[j]? = some v → (∀ (i : Nat) (e : PyData), i < j → ds[i]? = some e → dTx e = true) → dTx d = false → Rz D E H v)
theorem ok_pairsAll {f fC fP D : Addr} {fd fdC fdP : FuncData} {k : Nat} (F : Fun K "pairs_of_all" "pairs_of_all" sPairsAll f fd)
    (FC : Fun K "check_text" "check_text" sCheck fC fdC) (bC : Binds K fdC ["value"] []) (gC : mg "check_text" = some (.ref fC)) (GC : FnOk P w K mg base (L2.CX P w) k fC fdC ["value"] (spCheckX D))
    (FP : Fun K "pairs_in" "pairs_in" sPairsIn fP fdP) (bP : Binds K fdP ["text"] []) (gP : mg "pairs_in" = some (.ref fP)) (GP : FnOk P w K mg base CX0 k fP fdP ["text"] spPairsIn)
    (mt : mg "tuple" = none) (ms : mg "sorted" = none) (mS : mg "set" = none) : FnOk P w K mg base (L2.CX P w) (k + 1) f fd ["texts"] (spPairsAllX D) := by
  refine F.okX scPairsAll (fun vs H Q E h => ?_) (fun cdv A outer s H vs Q E hr h => ?_)
  · obtain ⟨a, g, p, xs, ds, rfl, _⟩ := h
    rfl
  · obtain ⟨a, g, p, xs, ds, rfl, na, ea, oa, hl, hw, q1, q2⟩ := h
    have lxs : xs.length = ds.length := oa.len
    refine ⟨_, pss_cons (ps_set (i := 1) scPairsAll.nd rfl (.inl rfl) (pe_lst pa_nil))
      (pss_cons (ps_for (passes_of rfl) rfl (pi_tup (pv 0)) (pg_name (i := 2) scPairsAll.nd rfl (.inl rfl))
        (pss_cons (ps_expr (pe_call GC hr (by rfl) gC FC.kp bC .nil (passes_call (takes_of rfl rfl rfl rfl) (fun _ _ _ _ h => h)) (pa_cons (pv 2) pa_nil)))
        (pss_one (ps_expr (pe_bm PySem.F.plainAttrs_list PySem.F.slot_list_extend PySem.F.type_list_extend mt_extend (pv 1) (pa_cons (pe_call GP hr (by rfl) gP FP.kp bP .nil pass0 (pa_cons (pv 2) pa_nil)) pa_nil))))))
      (pss_one (ps_ret (pe_tupleOf (by rfl) mt (pe_callB (cr_sortedTx rfl) (by rfl) ms (by decide +kernel) (pa_cons (pe_callTy (cr_setTx rfl) (by rfl) mS PySem.Pv.boot_set (pa_cons (pv 1) pa_nil)) pa_nil)))))), ?_⟩
    refine ⟨Nat.zero_le _, fun o no => ?_⟩
    have ea0 : ∀ {H2 : Hp}, Same H H2 → H2 a = some (.tup xs) := fun s => s _ _ ea
    have tlen : ∀ ts : List Str, ts.length ≤ 8 → (∀ t ∈ ts, t.length ≤ 200) → (ts.flatMap fun x => pin x.cps.toList).length ≤ 1608 := fun ts h1 h2 => by
      have z := flat_len (fun x => pin x.cps.toList) 201 ts fun t ht => by
        have h3 := h2 t ht
        show (pin t.cps.toList).length ≤ 201
        rw [pin_len, ← str_len]
        omega
      omega
    refine ⟨.ref a, rfl, a, rfl, ⟨_, .inl (.inl (ea0 (Same.upd no)))⟩, ?_⟩
    refine for_it (walk_tup (K := K) (a := a) (xs := xs)) (fun i σ H2 => ∃ (y2 : Option V) (ts : List Str), σ = [some (.ref a), some (.ref o), y2] ∧ Same H H2 ∧ ts.length = i ∧ (∀ (j : Nat) (t : Str), ts[j]? = some t → ds[j]? = some (.str t) ∧ isTx t = true) ∧ H2 o = some (.lst ((ts.flatMap fun x => pin x.cps.toList).map V.str)))
      ⟨none, [], rfl, Same.upd no, rfl, (fun _ _ h => nomatch h), upd_same⟩ (fun i σ H2 _ hP => ?_) (fun i v σ H2 H3 hi hP hy => ?_) (fun σ H2 hP => ?_)
    · obtain ⟨y2, ts, _, s2, _⟩ := hP
      exact .inl (.inl (ea0 s2))
    · obtain ⟨y2, ts, rfl, s2, l2, t2, e2⟩ := hP
      obtain ⟨rfl, hv⟩ := hy
      obtain ⟨d, hd, od⟩ := oa.get hv
      have wd := hw d (List.mem_of_getElem? hd)
      have okt : ∀ t ∈ ts, t.length ≤ 200 := fun t ht => by
        obtain ⟨j, hj⟩ := List.getElem?_of_mem ht
        exact hw (.str t) (List.mem_of_getElem? (t2 j t hj).1)
      refine ⟨v, rfl, v, g, p, d, rfl, od.mono fun b u _ z => s2 b u z, by omega, fun e H4 s4 => ?_, fun e dd H4 n4 s4 e4 => ?_⟩
      · obtain ⟨x, rfl, hx⟩ := dTx_str e
        cases od
        have lx : x.length ≤ 200 := wd
        have e4 := s4 _ _ e2
        refine ⟨.ref o, rfl, .inl ⟨rfl, _, .inl (.inl e4)⟩, .str x, rfl, x, rfl, by omega, fun r H5 nr s5 hp => ?_⟩
        have e5 := s5 _ _ e4
        refine ⟨o, r, _, _, rfl, rfl, e5, hp, ?_, _, ts ++ [x], rfl, Same.mut (s2.trans (s4.trans s5)) no, by rw [List.length_append, l2] <;> rfl, fun j t ht => ?_, ?_⟩
        · have z := tlen ts (by omega) okt
          rw [List.length_map, List.length_map, pin_len]
          rw [str_len] at lx
          exact Nat.le_trans (show _ ≤ 10000 by omega) (by decide)
        · by_cases hj : j < ts.length
          · rw [List.getElem?_append_left hj] at ht
            exact t2 j t ht
          · have hj2 : j = ts.length := by
              have z := (List.getElem?_eq_some_iff.mp ht).1
              rw [List.length_append, List.length_singleton] at z
              omega
            rw [hj2, List.getElem?_append_right (Nat.le_refl _), Nat.sub_self] at ht
            obtain rfl : x = t := Option.some.inj ht
            rw [hj2, l2]
            exact ⟨hd, hx⟩
        · rw [upd_same, List.flatMap_append, List.map_append]
          show some (HO.lst (_ ++ List.map V.str (pin x.cps.toList))) = some (HO.lst (_ ++ List.map V.str (List.flatMap (fun x => pin x.cps.toList) [x])))
          rw [List.flatMap_cons, List.flatMap_nil, List.append_nil]
      · refine q2 i d v hd hv (fun j e' hj he => ?_) e dd H4 (s2.free n4) (s2.trans s4) e4
        have hj2 : j < ts.length := by omega
        obtain ⟨z1, z2⟩ := t2 j ts[j] (List.getElem?_eq_getElem hj2)
        rw [z1] at he
        obtain rfl := Option.some.inj he
        exact z2
    · obtain ⟨y2, ts, rfl, s2, l2, t2, e2⟩ := hP
      have eds : ds = ts.map PyData.str := by
        refine List.ext_getElem? fun j => ?_
        rw [List.getElem?_map]
        by_cases hj : j < ts.length
        · rw [List.getElem?_eq_getElem hj, (t2 j ts[j] (List.getElem?_eq_getElem hj)).1] <;> rfl
        · rw [List.getElem?_eq_none (by omega), List.getElem?_eq_none (by omega)] <;> rfl
      have okt : ∀ t ∈ ts, t.length ≤ 200 := fun t ht => by
        obtain ⟨j, hj⟩ := List.getElem?_of_mem ht
        exact hw (.str t) (List.mem_of_getElem? (t2 j t hj).1)
      have okt2 : ∀ t ∈ ts, isTx t = true := fun t ht => by
        obtain ⟨j, hj⟩ := List.getElem?_of_mem ht
        exact (t2 j t hj).2
      have z := tlen ts (by omega) okt
      refine ⟨.ref o, rfl, o, _, rfl, .inl (.inl (.inl e2)), Nat.lt_of_le_of_lt (Nat.succ_le_succ z) (by decide), fun S nS => ?_⟩
      have zz := toSet_len (ts.flatMap fun x => pin x.cps.toList)
      refine ⟨S, _, rfl, upd_same, Nat.lt_of_le_of_lt (Nat.le_trans zz z) (by decide), fun ys r h1 h2 nr => .inl ⟨r, _, rfl, .inl (.inl upd_same), fun t nt => ?_⟩⟩
      have s3 := s2.trans ((Same.upd nS).trans (Same.upd (o := HO.lst (ys.map V.str)) nr))
      exact q1 ts eds okt2 ys t _ ⟨h1, h2⟩ (s3.free nt) (s3.trans (Same.upd nt)) upd_same
end
end Sf
namespace Sf
open PySem PySem.Spec PyProof.Rows L2
abbrev sOdd : Stmt := topS 21
theorem scOdd : FnScope ["_law_pot_here", "_law_some", "_law_found", "_law_turn"] ["_law_pot_here"] (defScope sOdd) := ⟨rfl, rfl, rfl, by decide +kernel, rfl, by decide +kernel, by decide +kernel⟩
def smB (d : PyData) : Bool := d.showable && d.leavesShort 40 && decide (d.weight ≤ 105) && decide (d.depth ≤ 3)
theorem sm_of {d : PyData} (h : smB d = true) : Sm 105 3 d := by
  simp only [smB, Bool.and_eq_true, decide_eq_true_eq] at h
  exact ⟨h.1.1.1, h.1.1.2, h.1.2, h.2⟩
theorem allc {P : V → Prop} {x : V} {l : List V} (h : P x) (t : ∀ v ∈ l, P v) : ∀ v ∈ x :: l, P v := fun v hv => by
  rcases List.mem_cons.mp hv with rfl | hv
  · exact h
  · exact t v hv
theorem alln {P : V → Prop} : ∀ v ∈ ([] : List V), P v := fun _ h => nomatch h
/-- one more coat around a value -/
theorem Sm.tup1 {n m : Nat} {d : PyData} (h : Sm n m d) : Sm (n + 3) (m + 1) (.tuple [d]) := by
  obtain ⟨h1, h2, h3, h4⟩ := h
  refine ⟨by simp [PyData.showable, PyData.showableAll, h1], by simp [PyData.leavesShort, PyData.leavesShortAll, h2], ?_, ?_⟩
  · simp only [PyData.weight, PyData.weightAll]
    omega
  · simp only [PyData.depth, PyData.depthAll]
    omega
theorem Sm.lst1 {n m : Nat} {d : PyData} (h : Sm n m d) : Sm (n + 3) (m + 1) (.list [d]) := by
  obtain ⟨h1, h2, h3, h4⟩ := h
  refine ⟨by simp [PyData.showable, PyData.showableAll, h1], by simp [PyData.leavesShort, PyData.leavesShortAll, h2], ?_, ?_⟩
  · simp only [PyData.weight, PyData.weightAll]
    omega
  · simp only [PyData.depth, PyData.depthAll]
    omega
theorem sm_a : (PyData.str (Str.ofString "a")).leavesShort 40 = true := by decide +kernel
theorem Sm.dic {n m : Nat} {d : PyData} (h : Sm n m d) : Sm (n + 3) (m + 1) (.dict [(.str (Str.ofString "a"), d)]) := by
  obtain ⟨h1, h2, h3, h4⟩ := h
  refine ⟨by simp [PyData.showable, PyData.showableKv, h1], by rw [PyData.leavesShort, PyData.leavesShortKv, sm_a, h2] <;> rfl, ?_, ?_⟩
  · simp only [PyData.weight, PyData.weightKv]
    show (Str.ofString "a").cps.size + d.weight + 2 + 0 ≤ n + 3
    rw [show (Str.ofString "a").cps.size = 1 by decide +kernel]
    omega
  · simp only [PyData.depth, PyData.depthKv]
    omega
theorem sm_1 : (PyData.int 1).leavesShort 40 = true := by decide +kernel
theorem sm_1s : (PyData.int 1).showable = true := by decide +kernel
theorem sm_1w : (PyData.int 1).weight = 1 := by decide +kernel
theorem Sm.two1 {n m : Nat} {d : PyData} (h : Sm n m d) : Sm (n + 3) (m + 1) (.tuple [d, .int 1]) := by
  obtain ⟨h1, h2, h3, h4⟩ := h
  refine ⟨by rw [PyData.showable, PyData.showableAll, PyData.showableAll, sm_1s, h1] <;> rfl, by rw [PyData.leavesShort, PyData.leavesShortAll, PyData.leavesShortAll, sm_1, h2] <;> rfl, ?_, ?_⟩
  · show d.weight + 1 + ((PyData.int 1).weight + 1 + 0) ≤ n + 3
    rw [sm_1w]
    omega
  · simp only [PyData.depth, PyData.depthAll]
    omega
theorem Sm.two2 {n m : Nat} {d : PyData} (h : Sm n m d) : Sm (n + 3) (m + 1) (.tuple [.int 1, d]) := by
  obtain ⟨h1, h2, h3, h4⟩ := h
  refine ⟨by rw [PyData.showable, PyData.showableAll, PyData.showableAll, sm_1s, h1] <;> rfl, by rw [PyData.leavesShort, PyData.leavesShortAll, PyData.leavesShortAll, sm_1, h2] <;> rfl, ?_, ?_⟩
  · show (PyData.int 1).weight + 1 + (d.weight + 1 + 0) ≤ n + 3
    rw [sm_1w]
    omega
  · simp only [PyData.depth, PyData.depthAll]
    omega
theorem Sm.mono {n m n' m' : Nat} {d : PyData} (h : Sm n m d) (a : n ≤ n') (b : m ≤ m') : Sm n' m' d := ⟨h.sh, h.lv, Nat.le_trans h.wt a, Nat.le_trans h.dp b⟩
theorem sPotS {Ha Hb : Hp} {p : Addr} {n : Int} (s : Same Ha Hb) (h : Pot Ha p n) : Pot Hb p n := by
  obtain ⟨a, b, c, e, h⟩ := h
  exact ⟨a, b, c, s _ _ e, h⟩
/-- the twenty-nine values -/
theorem all29 {p : Addr} {Hf : Hp} {T0 L0 D0 T1 L1 T2 T3 T4 T5 T6 T7 D1 : Addr} (nt0 : T0 ≠ p) (nl0 : L0 ≠ p) (m0 : L0 ≠ sysModules) (nd0 : D0 ≠ p) (nt1 : T1 ≠ p) (nl1 : L1 ≠ p) (m1 : L1 ≠ sysModules) (nt2 : T2 ≠ p) (nt3 : T3 ≠ p) (nt4 : T4 ≠ p) (nt5 : T5 ≠ p) (nt6 : T6 ≠ p) (nt7 : T7 ≠ p) (nd1 : D1 ≠ p)
    (e1 : Hf T0 = some (.tup [])) (e2 : Hf L0 = some (.lst [])) (e3 : Hf D0 = some (.dK [])) (e4 : Hf T1 = some (.tup [.str (Str.ofString "ab")])) (e5 : Hf L1 = some (.lst [.str (Str.ofString "ab")])) (e6 : Hf T2 = some (.tup [.int 0])) (e7 : Hf T3 = some (.tup [.str (Str.ofString "^$")])) (e8 : Hf T4 = some (.tup [.str (Str.ofString "$^")]))
    (e9 : Hf T5 = some (.tup [.str (Str.ofString "ab"), .str (Str.ofString "ab")])) (e10 : Hf T6 = some (.tup [.str (Str.ofString "b "), .str (Str.ofString "ab")])) (e11 : Hf T7 = some (.tup [.str (Str.ofString "^"), .str (Str.ofString "$")])) (e12 : Hf D1 = some (.dK [(.inr (Str.ofString "ab"), .int 1)])) :
    ∀ v ∈ ([.non, .bl true, .bl false, .int 0, .int 1, .int (-1), .int (10 ^ Int.toNat 30), .str (Str.ofString ""), .str (Str.ofString "a"), .str (Str.ofString "^a"), .str (Str.ofString "a$"), .str (Str.ofString "^$"), .str (Str.ofString "$a"), .str (Str.ofString "a^"), .str (Str.ofString "ab"), .str (Str.ofString "A"), .str (Str.ofString "a\n"), .ref T0, .ref L0, .ref D0] ++ [.ref T1, .ref L1, .ref T2, .ref T3, .ref T4, .ref T5, .ref T6, .ref T7, .ref D1] : List V),
      ∃ d, Od true p Hf v d ∧ Sm 105 3 d :=
  allc (P := fun v => ∃ d, Od true p Hf v d ∧ Sm 105 3 d) ⟨_, .non, sm_of (by decide +kernel)⟩ (allc (P := fun v => ∃ d, Od true p Hf v d ∧ Sm 105 3 d) ⟨_, .bl true, sm_of (by decide +kernel)⟩ (allc (P := fun v => ∃ d, Od true p Hf v d ∧ Sm 105 3 d) ⟨_, .bl false, sm_of (by decide +kernel)⟩ (allc (P := fun v => ∃ d, Od true p Hf v d ∧ Sm 105 3 d) ⟨_, .int 0, sm_of (by decide +kernel)⟩ (allc (P := fun v => ∃ d, Od true p Hf v d ∧ Sm 105 3 d) ⟨_, .int 1, sm_of (by decide +kernel)⟩ (allc (P := fun v => ∃ d, Od true p Hf v d ∧ Sm 105 3 d) ⟨_, .int _, sm_of (by decide +kernel)⟩ (allc (P := fun v => ∃ d, Od true p Hf v d ∧ Sm 105 3 d) ⟨_, .int _, sm_of (by decide +kernel)⟩ (allc (P := fun v => ∃ d, Od true p Hf v d ∧ Sm 105 3 d) ⟨_, .str _, sm_of (by decide +kernel)⟩ (allc (P := fun v => ∃ d, Od true p Hf v d ∧ Sm 105 3 d) ⟨_, .str _, sm_of (by decide +kernel)⟩ (allc (P := fun v => ∃ d, Od true p Hf v d ∧ Sm 105 3 d) ⟨_, .str _, sm_of (by decide +kernel)⟩ (allc (P := fun v => ∃ d, Od true p Hf v d ∧ Sm 105 3 d) ⟨_, .str _, sm_of (by decide +kernel)⟩ (allc (P := fun v => ∃ d, Od true p Hf v d ∧ Sm 105 3 d) ⟨_, .str _, sm_of (by decide +kernel)⟩ (allc (P := fun v => ∃ d, Od true p Hf v d ∧ Sm 105 3 d) ⟨_, .str _, sm_of (by decide +kernel)⟩ (allc (P := fun v => ∃ d, Od true p Hf v d ∧ Sm 105 3 d) ⟨_, .str _, sm_of (by decide +kernel)⟩ (allc (P := fun v => ∃ d, Od true p Hf v d ∧ Sm 105 3 d) ⟨_, .str _, sm_of (by decide +kernel)⟩ (allc (P := fun v => ∃ d, Od true p Hf v d ∧ Sm 105 3 d) ⟨_, .str _, sm_of (by decide +kernel)⟩ (allc (P := fun v => ∃ d, Od true p Hf v d ∧ Sm 105 3 d) ⟨_, .str _, sm_of (by decide +kernel)⟩ (allc (P := fun v => ∃ d, Od true p Hf v d ∧ Sm 105 3 d) ⟨_, .tup nt0 e1 .nil, sm_of (by decide +kernel)⟩ (allc (P := fun v => ∃ d, Od true p Hf v d ∧ Sm 105 3 d) ⟨_, .lst nl0 (fun _ => m0) e2 .nil, sm_of (by decide +kernel)⟩ (allc (P := fun v => ∃ d, Od true p Hf v d ∧ Sm 105 3 d) ⟨_, .dic0 rfl nd0 e3, sm_of (by decide +kernel)⟩ (allc (P := fun v => ∃ d, Od true p Hf v d ∧ Sm 105 3 d) ⟨_, .tup nt1 e4 (.cons (.str _) .nil), sm_of (by decide +kernel)⟩ (allc (P := fun v => ∃ d, Od true p Hf v d ∧ Sm 105 3 d) ⟨_, .lst nl1 (fun _ => m1) e5 (.cons (.str _) .nil), sm_of (by decide +kernel)⟩ (allc (P := fun v => ∃ d, Od true p Hf v d ∧ Sm 105 3 d) ⟨_, .tup nt2 e6 (.cons (.int _) .nil), sm_of (by decide +kernel)⟩ (allc (P := fun v => ∃ d, Od true p Hf v d ∧ Sm 105 3 d) ⟨_, .tup nt3 e7 (.cons (.str _) .nil), sm_of (by decide +kernel)⟩ (allc (P := fun v => ∃ d, Od true p Hf v d ∧ Sm 105 3 d) ⟨_, .tup nt4 e8 (.cons (.str _) .nil), sm_of (by decide +kernel)⟩ (allc (P := fun v => ∃ d, Od true p Hf v d ∧ Sm 105 3 d) ⟨_, .tup nt5 e9 (.cons (.str _) (.cons (.str _) .nil)), sm_of (by decide +kernel)⟩ (allc (P := fun v => ∃ d, Od true p Hf v d ∧ Sm 105 3 d) ⟨_, .tup nt6 e10 (.cons (.str _) (.cons (.str _) .nil)), sm_of (by decide +kernel)⟩ (allc (P := fun v => ∃ d, Od true p Hf v d ∧ Sm 105 3 d) ⟨_, .tup nt7 e11 (.cons (.str _) (.cons (.str _) .nil)), sm_of (by decide +kernel)⟩ (allc (P := fun v => ∃ d, Od true p Hf v d ∧ Sm 105 3 d) ⟨_, .dic1 rfl nd1 e12 (.int _), sm_of (by decide +kernel)⟩ (alln)))))))))))))))))))))))))))))
section
variable {P : Program} {w : World} {K : PySem.W.Frag} {mg : Str → Option Value} {base : Heap}
def spOdd : Sp := fun vs H Q _ => ∃ (p : Addr) (n : Int), vs = [.ref p] ∧ Pot H p n ∧ n ≤ 900000 ∧ ∀ (v : V) (d : PyData) H', Od true p H' v d → Sm 140 15 d → Pot H' p (n + 20) → Kp p H H' → Q v H'
theorem ok_odd {f fA : Addr} {fd fdA : FuncData} {k : Nat} (F : Fun K "_law_odd" "_law_odd" sOdd f fd) (FA : Fun K "_law_any" "_law_any" sAny fA fdA) (bA : Binds K fdA ["_law_pot_here", "_law_items"] []) (gA : mg "_law_any" = some (.ref fA))
    (GA : FnOk P w K mg base CX0 k fA fdA ["_law_pot_here", "_law_items"] (spAny K)) (mr : mg "range" = none) : FnOk P w K mg base CX0 (k + 1) f fd ["_law_pot_here"] spOdd := by
  refine F.ok scOdd (fun vs H Q E h => ?_) (fun cdv A outer s H vs Q E hr h => ?_)
  · obtain ⟨p, n, rfl, _⟩ := h
    rfl
  · obtain ⟨p, n, rfl, hp, hn, q⟩ := h
    refine ⟨_, pss_cons (ps_set (i := 1) scOdd.nd rfl (.inl rfl) (pe_lst (pa_cons pe_non (pa_cons pe_bl (pa_cons pe_bl (pa_cons pe_int (pa_cons pe_int (pa_cons (pe_un un_neg pe_int) (pa_cons (pe_op op_pow pe_int pe_int)
          (pa_cons pe_str (pa_cons pe_str (pa_cons pe_str (pa_cons pe_str (pa_cons pe_str (pa_cons pe_str (pa_cons pe_str (pa_cons pe_str (pa_cons pe_str (pa_cons pe_str (pa_cons (pe_tup pa_nil) (pa_cons (pe_lstN pa_nil) (pa_cons pe_dnewK pa_nil))))))))))))))))))))))
      (pss_cons (ps_set (i := 1) scOdd.nd rfl (.inl rfl) (pe_op op_cat (pv 1) (pe_lst (pa_cons (pe_tup (pa_cons pe_str pa_nil)) (pa_cons (pe_lstN (pa_cons pe_str pa_nil)) (pa_cons (pe_tup (pa_cons pe_int pa_nil)) (pa_cons (pe_tup (pa_cons pe_str pa_nil)) (pa_cons (pe_tup (pa_cons pe_str pa_nil))
          (pa_cons (pe_tup (pa_cons pe_str (pa_cons pe_str pa_nil))) (pa_cons (pe_tup (pa_cons pe_str (pa_cons pe_str pa_nil))) (pa_cons (pe_tup (pa_cons pe_str (pa_cons pe_str pa_nil))) (pa_cons (pe_disp (pps_cons pe_str pe_int pps_nil) rfl rfl (by simp) (by decide)) pa_nil))))))))))))
      (pss_cons (ps_set (i := 2) scOdd.nd rfl (.inl rfl) (pe_call GA hr (by rfl) gA FA.kp bA .nil pass0 (pa_cons (pv 0) (pa_cons (pv 1) pa_nil))))
      (pss_cons (ps_for PassesOwn.never rfl (pi_range1 rfl mr (pa_cons (pe_call GA hr (by rfl) gA FA.kp bA .nil pass0 (pa_cons (pv 0) (pa_cons (pe_lst (pa_cons pe_int (pa_cons pe_int (pa_cons pe_int (pa_cons pe_int (pa_cons pe_int (pa_cons pe_int pa_nil))))))) pa_nil))) pa_nil)) (pg_name (i := 3) scOdd.nd rfl (.inl rfl))
          (pss_one (ps_set (i := 2) scOdd.nd rfl (.inl rfl) (pe_call GA hr (by rfl) gA FA.kp bA .nil pass0 (pa_cons (pv 0) (pa_cons (pe_lst (pa_cons (pe_tup (pa_cons (pv 2) pa_nil)) (pa_cons (pe_lstN (pa_cons (pv 2) pa_nil)) (pa_cons (pe_disp (pps_cons pe_str (pv 2) pps_nil) rfl rfl (by simp) (by decide))
            (pa_cons (pe_tup (pa_cons (pv 2) (pa_cons pe_int pa_nil))) (pa_cons (pe_tup (pa_cons pe_int (pa_cons (pv 2) pa_nil))) pa_nil)))))) pa_nil))))))
      (pss_one (ps_ret (pv 2)))))), ?_⟩
    have sl : ∀ n : Nat, n ≤ 20000 → n ≤ sizeLine := fun n h => Nat.le_trans h (by decide)
    refine ⟨_, rfl, _, _, rfl, rfl, ⟨by decide, by decide, by decide⟩, sl 0 (by decide), fun T0 t0 => ⟨sl 0 (by decide), fun L0 l0 m0 D0 d0 => ⟨sl 20 (by decide), fun S0 s0 => ?_⟩⟩⟩
    refine ⟨.ref S0, rfl, sl 1 (by decide), fun T1 t1 => ⟨sl 1 (by decide), fun L1 l1 m1 => ⟨sl 1 (by decide), fun T2 t2 => ⟨sl 1 (by decide), fun T3 t3 => ⟨sl 1 (by decide), fun T4 t4 => ⟨sl 2 (by decide), fun T5 t5 => ⟨sl 2 (by decide), fun T6 t6 => ⟨sl 2 (by decide), fun T7 t7 => ?_⟩⟩⟩⟩⟩⟩⟩⟩
    refine fun D1 d1 => ⟨upd_same, [(.inr (Str.ofString "ab"), .int 1)], rfl, (show 1 ≤ 15 by decide), sl 9 (by decide), fun S1 s1 => ?_⟩
    have nt0 : T0 ≠ p := hp.ne t0
    have nl0 : L0 ≠ p := (hp.up t0).ne l0
    have nd0 : D0 ≠ p := ((hp.up t0).up l0).ne d0
    have ns0 : S0 ≠ p := (((hp.up t0).up l0).up d0).ne s0
    have nt1 : T1 ≠ p := ((((hp.up t0).up l0).up d0).up s0).ne t1
    have nl1 : L1 ≠ p := (((((hp.up t0).up l0).up d0).up s0).up t1).ne l1
    have nt2 : T2 ≠ p := ((((((hp.up t0).up l0).up d0).up s0).up t1).up l1).ne t2
    have nt3 : T3 ≠ p := (((((((hp.up t0).up l0).up d0).up s0).up t1).up l1).up t2).ne t3
    have nt4 : T4 ≠ p := ((((((((hp.up t0).up l0).up d0).up s0).up t1).up l1).up t2).up t3).ne t4
    have nt5 : T5 ≠ p := (((((((((hp.up t0).up l0).up d0).up s0).up t1).up l1).up t2).up t3).up t4).ne t5
    have nt6 : T6 ≠ p := ((((((((((hp.up t0).up l0).up d0).up s0).up t1).up l1).up t2).up t3).up t4).up t5).ne t6
    have nt7 : T7 ≠ p := (((((((((((hp.up t0).up l0).up d0).up s0).up t1).up l1).up t2).up t3).up t4).up t5).up t6).ne t7
    have nd1 : D1 ≠ p := ((((((((((((hp.up t0).up l0).up d0).up s0).up t1).up l1).up t2).up t3).up t4).up t5).up t6).up t7).ne d1
    have g_s1 := Same.upd (o := HO.lst [V.ref T1, V.ref L1, V.ref T2, V.ref T3, V.ref T4, V.ref T5, V.ref T6, V.ref T7, V.ref D1]) s1
    have g_d1 := (Same.mut (Same.upd d1) d1).trans g_s1
    have g_t7 := (Same.upd t7).trans g_d1
    have g_t6 := (Same.upd t6).trans g_t7
    have g_t5 := (Same.upd t5).trans g_t6
    have g_t4 := (Same.upd t4).trans g_t5
    have g_t3 := (Same.upd t3).trans g_t4
    have g_t2 := (Same.upd t2).trans g_t3
    have g_l1 := (Same.upd l1).trans g_t2
    have g_t1 := (Same.upd t1).trans g_l1
    have g_s0 := (Same.upd s0).trans g_t1
    have g_d0 := (Same.upd d0).trans g_s0
    have g_l0 := (Same.upd l0).trans g_d0
    have g_t0 := (Same.upd t0).trans g_l0
    refine ⟨S0, S1, _, _, rfl, rfl, g_t1 _ _ upd_same, upd_same, sl 29 (by decide), fun S2 s2 => ?_⟩
    have f := fun {Ha : Hp} (g : Same Ha _) => g.trans (Same.upd (o := HO.lst ([.non, .bl true, .bl false, .int 0, .int 1, .int (-1), .int (10 ^ Int.toNat 30), .str (Str.ofString ""), .str (Str.ofString "a"), .str (Str.ofString "^a"), .str (Str.ofString "a$"), .str (Str.ofString "^$"), .str (Str.ofString "$a"), .str (Str.ofString "a^"), .str (Str.ofString "ab"), .str (Str.ofString "A"), .str (Str.ofString "a\n"), .ref T0, .ref L0, .ref D0] ++ [.ref T1, .ref L1, .ref T2, .ref T3, .ref T4, .ref T5, .ref T6, .ref T7, .ref D1])) s2)
    have hpf := sPotS (f g_t0) hp
    have ns2 : S2 ≠ p := (sPotS g_t0 hp).ne s2
    have kf := Kp.same (p := p) (f g_t0)
    refine ⟨.ref p, rfl, .ref S2, rfl, p, n, .ref S2, rfl, hpf, by omega, .inr ⟨S2, _, rfl, fun hK => .inl (.inl (hK S2 _ ns2 upd_same)), (show 0 < 29 by decide), (show 29 ≤ 1000 by decide), fun v H9 hv hp9 k9 => ?_⟩⟩
    obtain ⟨d, od0, sm0⟩ : ∃ d, Od true p _ v d ∧ Sm 105 3 d := all29 nt0 nl0 m0 nd0 nt1 nl1 m1 nt2 nt3 nt4 nt5 nt6 nt7 nd1 (f g_l0 _ _ upd_same) (f g_d0 _ _ upd_same) (f g_s0 _ _ upd_same) (f g_l1 _ _ upd_same) (f g_t2 _ _ upd_same) (f g_t3 _ _ upd_same) (f g_t4 _ _ upd_same) (f g_t5 _ _ upd_same) (f g_t6 _ _ upd_same) (f g_t7 _ _ upd_same) (f g_d1 _ _ upd_same) (f g_s1 _ _ upd_same) v hv
    have od9 := od0.mono k9
    have k9' : Kp p H H9 := kf.trans k9
    clear od0 hv kf hpf ns2 k9 g_s1 g_d1 g_t0 g_l0 g_d0 g_s0 g_t1 g_l1 g_t2 g_t3 g_t4 g_t5 g_t6 g_t7 f s2 s1 d1 t7 t6 t5 t4 t3 t2 l1 t1 s0 d0 l0 t0
    clear nt0 nl0 nd0 ns0 nt1 nl1 nt2 nt3 nt4 nt5 nt6 nt7 nd1 m0 m1
    -- how often
    refine ⟨.ref p, rfl, sl 6 (by decide), fun l nl => ⟨p, n + 1, .ref l, rfl, hp9.up nl, by omega, .inr ⟨l, _, rfl, fun hK => .inl (.inl (hK l _ (hp9.ne nl) upd_same)), (show 0 < 6 by decide), (show 6 ≤ 1000 by decide), fun v2 H10 hv2 hp10 k10 => ?_⟩⟩⟩
    obtain ⟨m, rfl, hm⟩ : ∃ m : Nat, v2 = .int (m : Int) ∧ m ≤ 9 := by
      simp only [List.mem_cons, List.not_mem_nil, or_false] at hv2
      rcases hv2 with h | h | h | h | h | h
      · exact ⟨0, h, by decide⟩
      · exact ⟨0, h, by decide⟩
      · exact ⟨0, h, by decide⟩
      · exact ⟨1, h, by decide⟩
      · exact ⟨2, h, by decide⟩
      · exact ⟨9, h, by decide⟩
    have k10' : Kp p H9 H10 := (Kp.same (Same.upd nl)).trans k10
    refine ⟨_, rfl, by omega, by omega, ?_⟩
    refine for_it (walk_range (lo := 0) (n := m)) (fun i σ H2 => ∃ v d y3, σ = [some (.ref p), some (.ref S2), some v, y3] ∧ Od true p H2 v d ∧ Sm (105 + 3 * i) (3 + i) d ∧ Pot H2 p (n + 2 + i) ∧ Kp p H H2)
      ⟨v, d, none, rfl, od9.mono k10', sm0, hp10.mono (by omega), k9'.trans k10'⟩ (fun _ _ _ _ _ => True.intro) (fun i x σ H2 H2' hi hP hy => ?_) (fun σ H2 hP => ?_)
    · obtain ⟨v, d, y3, rfl, od, sm, hp2, k2⟩ := hP
      obtain ⟨rfl, rfl⟩ := hy
      refine ⟨.ref p, rfl, v, rfl, sl 1 (by decide), fun A1 a1 => ⟨v, rfl, sl 1 (by decide), fun A2 a2 mA2 A3 a3 => ⟨v, rfl, upd_same, [(.inr (Str.ofString "a"), v)], rfl, (show 1 ≤ 15 by decide), v, rfl, sl 2 (by decide), fun A4 a4 => ⟨v, rfl, sl 2 (by decide), fun A5 a5 => ⟨sl 5 (by decide), fun A6 a6 => ?_⟩⟩⟩⟩⟩
      have c6 := Same.upd (o := HO.lst [V.ref A1, V.ref A2, V.ref A3, V.ref A4, V.ref A5]) a6
      have c5 := (Same.upd a5).trans c6
      have c4 := (Same.upd a4).trans c5
      have c3 := (Same.mut (Same.upd a3) a3).trans c4
      have c2 := (Same.upd a2).trans c3
      have c1 := (Same.upd a1).trans c2
      have n1 : A1 ≠ p := hp2.ne a1
      have n2 : A2 ≠ p := (hp2.up a1).ne a2
      have n3 : A3 ≠ p := ((hp2.up a1).up a2).ne a3
      have n4 : A4 ≠ p := ((((hp2.up a1).up a2).up a3).wr n3).ne a4
      have n5 : A5 ≠ p := (((((hp2.up a1).up a2).up a3).wr n3).up a4).ne a5
      have n6 : A6 ≠ p := ((((((hp2.up a1).up a2).up a3).wr n3).up a4).up a5).ne a6
      have odE := od.mono fun b o _ z => c1 b o z
      refine ⟨p, n + 2 + i, .ref A6, rfl, sPotS c1 hp2, by omega, .inr ⟨A6, _, rfl, fun hK => .inl (.inl (hK A6 _ n6 upd_same)), (show 0 < 5 by decide), (show 5 ≤ 1000 by decide), fun v' H' hv' hp' k' => ?_⟩⟩
      obtain ⟨d', od', sm'⟩ : ∃ d', Od true p _ v' d' ∧ Sm (105 + 3 * (i + 1)) (3 + (i + 1)) d' := allc (P := fun v' => ∃ d', Od true p _ v' d' ∧ Sm (105 + 3 * (i + 1)) (3 + (i + 1)) d') ⟨_, .tup n1 (c2 _ _ upd_same) (.cons odE .nil), sm.tup1⟩ (allc ⟨_, .lst n2 (fun _ => mA2) (c3 _ _ upd_same) (.cons odE .nil), sm.lst1⟩
        (allc ⟨_, .dic1 rfl n3 (c4 _ _ upd_same) odE, sm.dic⟩ (allc ⟨_, .tup n4 (c5 _ _ upd_same) (.cons odE (.cons (.int 1) .nil)), sm.two1⟩ (allc ⟨_, .tup n5 (c6 _ _ upd_same) (.cons (.int 1) (.cons odE .nil)), sm.two2⟩ alln)))) v' hv'
      exact ⟨v', d', _, rfl, od'.mono k', sm', hp'.mono (by omega), k2.trans ((Kp.same c1).trans k')⟩
    · obtain ⟨v, d, y3, rfl, od, sm, hp2, k2⟩ := hP
      exact ⟨v, rfl, q v d H2 od (sm.mono (by omega) (by omega)) (hp2.mono (by omega)) k2⟩
end
end Sf
namespace Sf
open PySem PySem.Spec PyProof.Rows L2
abbrev sDue : Stmt := topS 25
theorem scDue : FnScope ["_law_things", "_law_told", "_law_thing"] ["_law_things", "_law_told"] (defScope sDue) := ⟨rfl, rfl, rfl, by decide +kernel, rfl, by decide +kernel, by decide +kernel⟩
section
variable {P : Program} {w : World} {K : PySem.W.Frag} {mg : Str → Option Value} {base : Heap}
def tld : Str := Str.ofString "told"
def bad : Str := Str.ofString "bad"
def spDue : Sp := fun vs H Q _ => ∃ (a : Addr) (g : Bool) (p : Addr) (xs : List V) (ds : List PyData) (t : V), vs = [.ref a, t] ∧ H a = some (.tup xs) ∧ OdAll g p H xs ds ∧ ds.length ≤ 100 ∧ (∀ d ∈ ds, d.weight ≤ 2000) ∧
  ((∀ d ∈ ds, dTx d = true) → ∀ (T : Addr) H', H T = none → Same H H' → H' T = some (.tup [.str tld, t]) → Q (.ref T) H') ∧
  (∀ (j : Nat) (d : PyData) (v : V), ds[j]? = some d → xs[j]? = some v → (∀ (i : Nat) (e : PyData), i < j → ds[i]? = some e → dTx e = true) → dTx d = false → ∀ (T : Addr) H', H T = none → Same H H' → H' T = some (.tup [.str bad, v]) → Q (.ref T) H')
theorem ok_due {f fI : Addr} {fd fdI : FuncData} {k : Nat} (F : Fun K "_law_due" "_law_due" sDue f fd) (FI : Fun K "_law_is_text" "_law_is_text" sLIsText fI fdI) (bI : Binds K fdI ["_law_thing"] []) (gI : mg "_law_is_text" = some (.ref fI))
    (GI : FnOk P w K mg base CX0 k fI fdI ["_law_thing"] (spDat dTx)) : FnOk P w K mg base CX0 (k + 1) f fd ["_law_things", "_law_told"] spDue := by
  refine F.ok scDue (fun vs H Q E h => ?_) (fun cdv A outer s H vs Q E hr h => ?_)
  · obtain ⟨a, g, p, xs, ds, t, rfl, _⟩ := h
    rfl
  · obtain ⟨a, g, p, xs, ds, t, rfl, ea, oa, hl, hw, q1, q2⟩ := h
    have lxs : xs.length = ds.length := oa.len
    refine ⟨_, pss_cons (ps_for PassesOwn.never rfl (pi_tup (pv 0)) (pg_name (i := 2) scDue.nd rfl (.inl rfl))
        (pss_one (ps_if (pt_not (pt_val (pe_call GI hr (by rfl) gI FI.kp bI .nil pass0 (pa_cons (pv 2) pa_nil)))) (pss_one (ps_ret (pe_tup (pa_cons pe_str (pa_cons (pv 2) pa_nil))))) pss_nil)))
      (pss_one (ps_ret (pe_tup (pa_cons pe_str (pa_cons (pv 1) pa_nil))))), ?_⟩
    refine ⟨.ref a, rfl, a, rfl, ⟨_, .inl (.inl ea)⟩, ?_⟩
    refine for_it (walk_tup (K := K) (a := a) (xs := xs)) (fun i σ H2 => ∃ (y2 : Option V), σ = [some (.ref a), some t, y2] ∧ Same H H2 ∧ ∀ (j : Nat) (e : PyData), j < i → ds[j]? = some e → dTx e = true)
      ⟨none, rfl, Same.refl H, (fun j e h => absurd h (Nat.not_lt_zero j))⟩ (fun i σ H2 _ hP => ?_) (fun i v σ H2 H3 hi hP hy => ?_) (fun σ H2 hP => ?_)
    · obtain ⟨y2, _, s2, _⟩ := hP
      exact .inl (.inl (s2 _ _ ea))
    · obtain ⟨y2, rfl, s2, t2⟩ := hP
      obtain ⟨rfl, hv⟩ := hy
      obtain ⟨d, hd, od⟩ := oa.get hv
      refine ⟨v, rfl, v, g, p, d, rfl, od.mono fun b u _ z => s2 b u z, hw d (List.mem_of_getElem? hd), fun H4 s4 => ⟨dTx d, rfl, ?_⟩⟩
      cases e : dTx d with
      | true =>
        refine iteF ⟨_, rfl, s2.trans s4, fun j e' hj he => ?_⟩
        by_cases hj2 : j < i
        · exact t2 j e' hj2 he
        · obtain rfl : j = i := by omega
          rw [hd] at he
          obtain rfl := Option.some.inj he
          exact e
      | false =>
        have s5 := s2.trans s4
        exact iteT ⟨v, rfl, (show 2 ≤ sizeLine by decide), fun T nT => q2 i d v hd hv t2 e T _ (s5.free nT) (s5.trans (Same.upd nT)) upd_same⟩
    · obtain ⟨y2, rfl, s2, t2⟩ := hP
      refine ⟨t, rfl, (show 2 ≤ sizeLine by decide), fun T nT => q1 (fun d hd => ?_) T _ (s2.free nT) (s2.trans (Same.upd nT)) upd_same⟩
      obtain ⟨j, hj⟩ := List.getElem?_of_mem hd
      exact t2 j d (by rw [lxs]; exact (List.getElem?_eq_some_iff.mp hj).1) hj
end
end Sf
namespace Sf
open PySem PySem.Spec PyProof.Rows L2 LamX
abbrev sMet : Stmt := topS 24
def NMet : List Str := ["_law_ask", "_law_caught", "_law_told", "error", "_law_is_due"]
theorem scMet : FnScope NMet ["_law_ask"] (defScope sMet) := ⟨rfl, rfl, rfl, by decide +kernel, rfl, by decide +kernel, by decide +kernel⟩
/-- the classes that _law_met names -/
structure MetC (K : PySem.W.Frag) (mg : Str → Option Value) (D S N1 N2 : Addr) : Prop where
  ex : ExcC K D
  xf : XfC K D
  noVal : PySem.W.findIn K (.ref D) "value" = some none
  gS : mg "SiftError" = some (.ref S)
  gD : mg "BadText" = some (.ref D)
  g1 : mg "NoName" = some (.ref N1)
  g2 : mg "BadQuestion" = some (.ref N2)
  m0 : PySem.W.exmOne K (.ref D) (.ref S) = some true
  m1 : PySem.W.kitOne K (.ref D) (.ref D) = some true
  m2 : PySem.W.kitOne K (.ref D) (.type "ValueError") = some true
  m3 : PySem.W.kitAny K (.ref D) [.ref N1, .ref N2] = some false
  mi : mg "isinstance" = none
  mv : mg "ValueError" = none
/-- what _law_met makes of the reading of the lambda that it got -/
def TMet (D : Addr) : (XK → Hp → VK → Prop) → Hp → VK → Prop := fun tl H Q => ∀ (H1 : Hp) (E' : XK) (Q' : VK), Same H H1 →
  (∀ (dd : Addr) (v : V) (H' : Hp), H' dd = some (.xd [("value", v)]) → (∀ T H'', H' T = none → Same H' H'' → H'' T = some (.tup [.str bad, v]) → Q (.ref T) H'') → E' (.ref D) (some dd) H') →
  (∀ (v : V) (H' : Hp), (∀ T H'', H' T = none → Same H' H'' → H'' T = some (.tup [.str tld, v]) → Q (.ref T) H'') → Q' v H') → tl E' H1 Q'
theorem list5 {σ : L2.St} (h : σ.length = 5) : ∃ a b c d e, σ = [a, b, c, d, e] := by
  match σ, h with
  | [a, b, c, d, e], _ => exact ⟨a, b, c, d, e, rfl⟩
def teMet (D : Addr) : Addr → Value → Option Addr → TS := fun a cls d Dn σ Hh => ∃ (dd : Addr) (v : V), cls = .ref D ∧ d = some dd ∧ Hh dd = some (.xd [("value", v)]) ∧ (∃ y0 y2 y4, σ = [y0, some (.ref a), y2, none, y4]) ∧
  ∀ T H'', Hh T = none → Same Hh H'' → H'' T = some (.tup [.str bad, v]) → Dn.rt (.ref T) H''
abbrev Zm (X : Cx) (g : Addr) (cdg : Value) (s : Shared) (H : Hp) : Cx := (cxOf C8.CX0 X.prog X.w X.K X.mg X.base NMet "_law_met" (defScope sMet) g cdg X.A X.stack s H C8.E0).nox
theorem met_gives {X : Cx} {D S N1 N2 g : Addr} {cdg : Value} {q : Str} (C : MetC X.K X.mg D S N1 N2) : GivesTo X NMet "_law_met" (defScope sMet) g cdg (defBody sMet) "_law_ask" q (TMet D) := by
  intro f c' s H Q tl act hc h
  refine ⟨_, pss_cons (ps_asg (pe_tup (pa_cons pe_non (pa_cons pe_non pa_nil))) (pg_tup rfl (pgs_cons (pg_name (i := 1) scMet.nd rfl (.inl rfl)) (pgs_cons (pg_name (i := 2) scMet.nd rfl (.inl rfl)) pgs_nil))))
    (pss_try_keep (i := 3) (c := .ref S) (Wo := fun _ _ _ _ => False) (te := teMet D) (ts := fun _ _ _ => tAsg (tVar 3) (gName 1))
      (tb := fun W Dn σ Hh => ∃ Ech : XK, (∀ cls d σ' H', Ech cls d H' → W cls d σ' H') ∧ tAsg (fun σZ HZ Q' => σZ[0]? = some (some (.ref f)) ∧ HZ c' = some (CodeO c' q) ∧ tl Ech HZ Q') (gName 2) Dn σ Hh)
      rfl rfl scMet.nd rfl rfl ⟨rfl, rfl, .inl C.gS⟩ L2.takes0 (fun W pn xe tk _ => ?_) (fun a oe cls d pn _ _ => pss_one (ps_set (i := 1) scMet.nd rfl (.inl rfl) (pv 3)))
      (pss_cons (ps_if (pt_cmpR op_isN (pv 1) pe_non (nomark _)) (pss_one (ps_ret (pe_tup (pa_cons pe_str (pa_cons (pv 2) pa_nil))))) pss_nil) pss_never)
      (fun a oe cls d pn hz hf => ?_)), ?_⟩
  · refine ⟨fun pins s' σ H' Dn I h' => ?_⟩
    obtain ⟨Ech, hW, h1⟩ := h'
    exact (pss_one (ps_set (i := 2) scMet.nd rfl (.inl rfl) (act W pn xe Ech _ _ tk hW))).run pins s' σ H' Dn I h1
  · refine ⟨fun pins s' σ H' Dn I h' => ?_⟩
    obtain ⟨dd, v, rfl, rfl, ed, ⟨y0, y2, y4, rfl⟩, q1⟩ := h'
    have hp : (a, oe) ∈ (a, oe) :: pn := List.mem_cons_self
    have fin : ∀ t, PSs ((Zm X g cdg s H).tr ((a, oe) :: pn) (Zm X g cdg s H).xe) ((defBody sMet).drop 2) t → t Dn [y0, some (.ref a), y2, none, y4] H' →
      wpAny (model X.prog X.w) (Zm X g cdg s H).A (execs ((defBody sMet).drop 2) (Zm X g cdg s H).env) (SP ((Zm X g cdg s H).tr ((a, oe) :: pn) (Zm X g cdg s H).xe) pins Dn) (Zm X g cdg s H).xe s' := fun t h1 h2 => h1.run pins s' _ H' Dn I h2
    refine fin _ (pss_cons (ps_if (pt_cmpR op_isN (pv 1) pe_non (nomark _)) pss_never pss_nil)
      (pss_cons (ps_set (i := 4) scMet.nd rfl (.inl rfl) (pe_and (pe_callB (call_isP C.ex hp hz hf) (by rfl) C.mi PyProof.Rows.boot_isinstance (pa_cons (pv 1) (pa_cons (pe_glob (v := .ref D) (by rfl) C.gD rfl) pa_nil)))
        (pe_one (pe_callB (call_isP C.ex hp hz hf) (by rfl) C.mi PyProof.Rows.boot_isinstance (pa_cons (pv 1) (pa_cons (pe_bltn (by rfl) C.mv PyProof.Rows.Boot.«ValueError» (v := .ty "ValueError") rfl) pa_nil))))))
      (pss_cons (ps_if (PW.pt (pw_or (pt_not (pt_val (pv 4))) (pw_or1 (pt_val (pe_callB (call_isPT C.ex hp hz hf) (by rfl) C.mi PyProof.Rows.boot_isinstance (pa_cons (pv 1) (pa_cons (pe_tup (pa_cons (pe_glob (v := .ref N1) (by rfl) C.g1 rfl) (pa_cons (pe_glob (v := .ref N2) (by rfl) C.g2 rfl) pa_nil))) pa_nil)))))))
          pss_never pss_nil)
      (pss_one (ps_ret (pe_tup (pa_cons pe_str (pa_cons (pe_fieldP C.xf C.noVal hp hz hf (pv 1)) pa_nil)))))))) ?_
    refine ⟨.ref a, rfl, rfl, _, rfl, ite2 (fun z => ?_) (fun _ => ?_)⟩
    · cases (of_decide_eq_true z)
    refine ⟨.ref a, rfl, .ref D, .ref D, true, _, rfl, .own D, ed, C.m1, true, rfl, iteT ?_⟩
    refine ⟨.ref a, rfl, .ty "ValueError", .type "ValueError", true, _, rfl, .ty _, ed, C.m2, ?_⟩
    refine ⟨.bl true, rfl, true, rfl, iteF ?_⟩
    refine ⟨.ref a, rfl, (show 2 ≤ sizeLine by decide), fun T2 n2 => ?_⟩
    have nd2 : dd ≠ T2 := fun z => by
      rw [z, n2] at ed
      cases ed
    have ed2 : upd H' T2 (.tup [.ref N1, .ref N2]) dd = some (.xd [("value", v)]) := by
      rw [upd_ne nd2]
      exact ed
    refine ⟨T2, [.ref N1, .ref N2], [.ref N1, .ref N2], false, _, rfl, upd_same, .cons (.own N1) (.cons (.own N2) .nil), ed2, C.m3, false, rfl, iteF ?_⟩
    refine ⟨.ref a, rfl, rfl, _, v, ed2, rfl, (show 2 ≤ sizeLine by decide), fun T nT => ?_⟩
    have s2 := Same.upd (o := HO.tup [.ref N1, .ref N2]) n2
    exact q1 T _ (s2.free nT) (s2.trans (Same.upd nT)) upd_same
  · refine ⟨(show 2 ≤ sizeLine by decide), fun T0 n0 => ⟨T0, _, rfl, .inl (.inl upd_same), rfl, _, _, rfl, _, _, rfl, rfl, ?_⟩⟩
    have s0 := Same.upd (o := HO.tup [.non, .non]) n0
    refine ⟨fun cls d H' => cls = .ref D ∧ ∃ (dd : Addr) (v : V), d = some dd ∧ H' dd = some (.xd [("value", v)]) ∧ ∀ T H'', H' T = none → Same H' H'' → H'' T = some (.tup [.str bad, v]) → Q (.ref T) H'', fun cls d σ' H' hE hlen => ?_, rfl, s0 _ _ hc, h _ _ _ s0 (fun dd v H' e q1 => ⟨rfl, dd, v, rfl, e, q1⟩) (fun v H' q1 => ?_)⟩
    · obtain ⟨rfl, dd, v, rfl, e, q1⟩ := hE
      obtain ⟨y0, y1, y2, y3, y4, rfl⟩ := list5 hlen
      exact ⟨true, C.m0, fun _ a na => ⟨.ref a, rfl, dd, v, rfl, rfl, e, ⟨_, _, _, rfl⟩, q1⟩, fun z => nomatch z⟩
    · refine ⟨.non, rfl, rfl, _, rfl, ite2 (fun _ => ?_) (fun z => absurd (decide_eq_true rfl) z)⟩
      exact ⟨v, rfl, (show 2 ≤ sizeLine by decide), fun T nT => q1 T _ nT (Same.upd nT) upd_same⟩
end Sf
namespace Sf
open PySem PySem.Spec PyProof.Rows L2 LamX
/-! ### values through lambdas: tables may grow -/
section
variable {g : Bool} {p q : Addr} {H H' : Hp}
mutual
/-- objects at p or q alone may change, and tables -/
theorem Od.both (k : ∀ b o, b ≠ p → b ≠ q → H b = some o → (∀ ps, o ≠ .tbl ps) → H' b = some o) : ∀ {d : PyData} {v : V}, Od g p H v d → Od g q H v d → Od g p H' v d
  | .none, _, h, _ => by
    cases h
    exact .non
  | .bool b, _, h, _ => by
    cases h
    exact .bl b
  | .int i, _, h, _ => by
    cases h
    exact .int i
  | .str x, _, h, _ => by
    cases h
    exact .str x
  | .list ds, _, h, h2 => by
    cases h with
    | lst n1 n2 e t =>
      cases h2 with
      | lst n3 _ e2 t2 =>
        rw [e] at e2
        cases e2
        exact .lst n1 n2 (k _ _ n1 n3 e (fun ps z => by cases z)) (OdAll.both k t t2)
  | .tuple ds, _, h, h2 => by
    cases h with
    | tup n1 e t =>
      cases h2 with
      | tup n3 e2 t2 =>
        rw [e] at e2
        cases e2
        exact .tup n1 (k _ _ n1 n3 e (fun ps z => by cases z)) (OdAll.both k t t2)
  | .dict [], _, h, h2 => by
    cases h with
    | dic0 g1 n1 e =>
      cases h2 with
      | dic0 _ n3 _ => exact .dic0 g1 n1 (k _ _ n1 n3 e (fun ps z => by cases z))
  | .dict [(.str x, d)], _, h, h2 => by
    cases h with
    | dic1 g1 n1 e t =>
      cases h2 with
      | dic1 _ n3 e2 t2 =>
        rw [e] at e2
        cases e2
        exact .dic1 g1 n1 (k _ _ n1 n3 e (fun ps z => by cases z)) (Od.both k t t2)
  | .dict ((.none, _) :: _), _, h, _ => by cases h
  | .dict ((.bool _, _) :: _), _, h, _ => by cases h
  | .dict ((.int _, _) :: _), _, h, _ => by cases h
  | .dict ((.list _, _) :: _), _, h, _ => by cases h
  | .dict ((.tuple _, _) :: _), _, h, _ => by cases h
  | .dict ((.dict _, _) :: _), _, h, _ => by cases h
  | .dict ((.str _, _) :: _ :: _), _, h, _ => by cases h
theorem OdAll.both (k : ∀ b o, b ≠ p → b ≠ q → H b = some o → (∀ ps, o ≠ .tbl ps) → H' b = some o) : ∀ {ds : List PyData} {vs : List V}, OdAll g p H vs ds → OdAll g q H vs ds → OdAll g p H' vs ds
  | [], _, h, _ => by
    cases h
    exact .nil
  | d :: ds, _, h, h2 => by
    cases h with
    | cons a b =>
      cases h2 with
      | cons a2 b2 => exact .cons (Od.both k a a2) (OdAll.both k b b2)
end
mutual
/-- none of its objects stands where nothing is -/
theorem Od.off (n : H q = none) : ∀ {d : PyData} {v : V}, Od g p H v d → Od g q H v d
  | .none, _, h => by
    cases h
    exact .non
  | .bool b, _, h => by
    cases h
    exact .bl b
  | .int i, _, h => by
    cases h
    exact .int i
  | .str x, _, h => by
    cases h
    exact .str x
  | .list ds, _, h => by
    cases h with
    | lst n1 n2 e t => exact .lst (ne_of_none e n) n2 e (OdAll.off n t)
  | .tuple ds, _, h => by
    cases h with
    | tup n1 e t => exact .tup (ne_of_none e n) e (OdAll.off n t)
  | .dict [], _, h => by
    cases h with
    | dic0 g1 n1 e => exact .dic0 g1 (ne_of_none e n) e
  | .dict [(.str x, d)], _, h => by
    cases h with
    | dic1 g1 n1 e t => exact .dic1 g1 (ne_of_none e n) e (Od.off n t)
  | .dict ((.none, _) :: _), _, h => by cases h
  | .dict ((.bool _, _) :: _), _, h => by cases h
  | .dict ((.int _, _) :: _), _, h => by cases h
  | .dict ((.list _, _) :: _), _, h => by cases h
  | .dict ((.tuple _, _) :: _), _, h => by cases h
  | .dict ((.dict _, _) :: _), _, h => by cases h
  | .dict ((.str _, _) :: _ :: _), _, h => by cases h
theorem OdAll.off (n : H q = none) : ∀ {ds : List PyData} {vs : List V}, OdAll g p H vs ds → OdAll g q H vs ds
  | [], _, h => by
    cases h
    exact .nil
  | d :: ds, _, h => by
    cases h with
    | cons a b => exact .cons (Od.off n a) (OdAll.off n b)
end
theorem Od.ext {d : PyData} {v : V} (e : ExtN H H') (h : Od g p H v d) : Od g p H' v d := Od.both (q := p) (fun b o _ _ z n => e b o z n) h h
theorem OdAll.ext {ds : List PyData} {vs : List V} (e : ExtN H H') (h : OdAll g p H vs ds) : OdAll g p H' vs ds := OdAll.both (q := p) (fun b o _ _ z n => e b o z n) h h
theorem extS (s : Same H H') : ExtN H H' := fun b o z _ => s b o z
theorem ExtN.mut {H2 : Hp} {l : Addr} {o : HO} (e : ExtN H H2) (n : H l = none) : ExtN H (upd H2 l o) := fun b u z w => by
  rw [upd_ne (ne_of_none z n)]
  exact e b u z w
theorem ExtN.pot {n : Int} (e : ExtN H H') (h : Pot H p n) : Pot H' p n := by
  obtain ⟨a, b, c, z, r⟩ := h
  exact ⟨a, b, c, e _ _ z (fun ps w => by cases w), r⟩
/-- a list or tuple may change beside the tables -/
theorem Tabs.wr {T : List (Addr × Str)} {l : Addr} {xs : List V} {o : HO} (hl : H l = some (.lst xs)) (t : Tabs T H) : Tabs T (upd H l o) := fun r hr => by
  obtain ⟨ps, e, ok, f⟩ := t r hr
  have n1 : r.1 ≠ l := fun z => by
    rw [z, hl] at e
    cases e
  refine ⟨ps, by rw [upd_ne n1]; exact e, ok, fun pos cv hc => ?_⟩
  obtain ⟨c, e1, e2⟩ := f pos cv hc
  refine ⟨c, e1, ?_⟩
  have n2 : c ≠ l := fun z => by
    rw [z, hl] at e2
    cases e2
  rw [upd_ne n2]
  exact e2
theorem Tabs.kp {T : List (Addr × Str)} {n : Int} (hp : Pot H p n) (k : Kp p H H') (t : Tabs T H) : Tabs T H' := fun r hr => by
  obtain ⟨a, b, c, ep, _⟩ := hp
  obtain ⟨ps, e, ok, f⟩ := t r hr
  have n1 : r.1 ≠ p := fun z => by
    rw [z, ep] at e
    cases e
  refine ⟨ps, k _ _ n1 e, ok, fun pos cv hc => ?_⟩
  obtain ⟨c', e1, e2⟩ := f pos cv hc
  have n2 : c' ≠ p := fun z => by
    rw [z, ep] at e2
    cases e2
  exact ⟨c', e1, k _ _ n2 e2⟩
def KpN (p : Addr) (H H' : Hp) : Prop := ∀ b o, b ≠ p → H b = some o → (∀ ps, o ≠ .tbl ps) → H' b = some o
theorem KpN.of {H H' : Hp} (k : Kp p H H') : KpN p H H' := fun b o n e _ => k b o n e
theorem KpN.ext {H H' : Hp} (k : ExtN H H') : KpN p H H' := fun b o _ e z => k b o e z
theorem KpN.trans {H H1 H2 : Hp} (a : KpN p H H1) (b : KpN p H1 H2) : KpN p H H2 := fun c o n e z => b c o n (a c o n e z) z
end
/-! ### texts among data -/
theorem filt_any {α : Type} {β : Type} (z : β) (F : β → α) (r : β → Bool) (l : List β) : ((List.range l.length).filter (fun i => r (l.getD i z))).map (fun i => F (l.getD i z)) = (l.filter r).map F := by
  induction l with
  | nil => rfl
  | cons x t ih =>
    have e : ((List.range t.length).map Nat.succ).filter (fun i => r ((x :: t).getD i z)) = ((List.range t.length).filter (fun i => r (t.getD i z))).map Nat.succ := by
      rw [List.filter_map] <;> rfl
    have e2 : (((List.range t.length).filter (fun i => r (t.getD i z))).map Nat.succ).map (fun i => F ((x :: t).getD i z)) = ((List.range t.length).filter (fun i => r (t.getD i z))).map (fun i => F (t.getD i z)) := by
      rw [List.map_map] <;> rfl
    rw [List.length_cons, List.range_succ_eq_map, List.filter_cons, List.filter_cons]
    cases hx : r x with
    | true =>
      rw [if_pos (show r ((x :: t).getD 0 z) = true from hx), if_pos rfl, List.map_cons, List.map_cons, e, e2, ih] <;> rfl
    | false =>
      rw [if_neg (show ¬ r ((x :: t).getD 0 z) = true from fun w => by
        have w : r x = true := w
        rw [hx] at w
        cases w), if_neg (by decide), e, e2, ih]
def vOf : PyData → V
  | .str x => .str x
  | _ => .non
def gds : List PyData → List Str
  | [] => []
  | .str x :: r => if isTx x = true then x :: gds r else gds r
  | _ :: r => gds r
theorem gds_eq : ∀ ds : List PyData, (ds.filter dTx).map vOf = (gds ds).map V.str
  | [] => rfl
  | .str x :: r => by
    have ih := gds_eq r
    rw [List.filter_cons]
    show (if isTx x = true then _ else _ : List PyData).map vOf = (if isTx x = true then x :: gds r else gds r).map V.str
    by_cases h : isTx x = true
    · rw [if_pos h, if_pos h, List.map_cons, List.map_cons, ih] <;> rfl
    · rw [if_neg h, if_neg h, ih]
  | .none :: r => gds_eq r
  | .bool _ :: r => gds_eq r
  | .int _ :: r => gds_eq r
  | .list _ :: r => gds_eq r
  | .tuple _ :: r => gds_eq r
  | .dict _ :: r => gds_eq r
theorem gds_mem : ∀ {ds : List PyData} {x : Str}, x ∈ gds ds → PyData.str x ∈ ds ∧ isTx x = true
  | .str y :: r, x, h => by
    unfold gds at h
    by_cases hy : isTx y = true
    · rw [if_pos hy] at h
      rcases List.mem_cons.mp h with rfl | h
      · exact ⟨List.mem_cons_self, hy⟩
      · exact ⟨List.mem_cons_of_mem _ (gds_mem h).1, (gds_mem h).2⟩
    · rw [if_neg hy] at h
      exact ⟨List.mem_cons_of_mem _ (gds_mem h).1, (gds_mem h).2⟩
  | .none :: r, x, h => ⟨List.mem_cons_of_mem _ (gds_mem (ds := r) h).1, (gds_mem (ds := r) h).2⟩
  | .bool _ :: r, x, h => ⟨List.mem_cons_of_mem _ (gds_mem (ds := r) h).1, (gds_mem (ds := r) h).2⟩
  | .int _ :: r, x, h => ⟨List.mem_cons_of_mem _ (gds_mem (ds := r) h).1, (gds_mem (ds := r) h).2⟩
  | .list _ :: r, x, h => ⟨List.mem_cons_of_mem _ (gds_mem (ds := r) h).1, (gds_mem (ds := r) h).2⟩
  | .tuple _ :: r, x, h => ⟨List.mem_cons_of_mem _ (gds_mem (ds := r) h).1, (gds_mem (ds := r) h).2⟩
  | .dict _ :: r, x, h => ⟨List.mem_cons_of_mem _ (gds_mem (ds := r) h).1, (gds_mem (ds := r) h).2⟩
theorem gds_len : ∀ ds : List PyData, (gds ds).length ≤ ds.length
  | [] => Nat.le_refl 0
  | .str y :: r => by
    have ih := gds_len r
    unfold gds
    split
    · rw [List.length_cons, List.length_cons]
      omega
    · rw [List.length_cons]
      omega
  | .none :: r => Nat.le_succ_of_le (gds_len r)
  | .bool _ :: r => Nat.le_succ_of_le (gds_len r)
  | .int _ :: r => Nat.le_succ_of_le (gds_len r)
  | .list _ :: r => Nat.le_succ_of_le (gds_len r)
  | .tuple _ :: r => Nat.le_succ_of_le (gds_len r)
  | .dict _ :: r => Nat.le_succ_of_le (gds_len r)
theorem gds_all : ∀ {ts : List Str}, (∀ t ∈ ts, isTx t = true) → gds (ts.map PyData.str) = ts
  | [], _ => rfl
  | t :: r, h => by
    show (if isTx t = true then t :: gds (r.map PyData.str) else gds (r.map PyData.str)) = _
    rw [if_pos (h t List.mem_cons_self), gds_all fun x hx => h x (List.mem_cons_of_mem _ hx)]
/-- what is told of data and x -/
def outD (ds : List PyData) (x : PyData) : PyData := match ds.find? (fun d => !dTx d) with
  | some d => .tuple [.str bad, d]
  | none => .tuple [.str tld, x]
theorem out_all {ds : List PyData} {x : PyData} (h : ∀ d ∈ ds, dTx d = true) : outD ds x = .tuple [.str tld, x] := by
  unfold outD
  rw [List.find?_eq_none.mpr fun d hd => by rw [h d hd]; decide]
theorem out_bad {ds : List PyData} {x d : PyData} {j : Nat} (hd : ds[j]? = some d) (hb : ∀ (i : Nat) (e : PyData), i < j → ds[i]? = some e → dTx e = true) (h : dTx d = false) : outD ds x = .tuple [.str bad, d] := by
  have e : ds.find? (fun d => !dTx d) = some d := by
    induction ds generalizing j with
    | nil => cases hd
    | cons y r ih =>
      cases j with
      | zero =>
        obtain rfl := Option.some.inj hd
        exact List.find?_cons_of_pos (by rw [h] <;> rfl)
      | succ j =>
        rw [List.find?_cons_of_neg (by rw [hb 0 y (Nat.succ_pos j) rfl]; decide)]
        exact ih (j := j) hd fun i e hi he => hb (i + 1) e (by omega) he
  unfold outD
  rw [e]
end Sf
namespace Sf
open PySem PySem.Spec PyProof.Rows L2 LamX
section
variable {P : Program} {w : World} {K : PySem.W.Frag} {mg : Str → Option Value} {base : Heap}
/-- as okG, the body's code told -/
theorem okG2 {x qual : Str} {st : Stmt} {f : Addr} {fd : FuncData} {N ps : List Str} {k : Nat} {sp : Sp} (F : Fun K x qual st f fd) (S : FnScope N ps (defScope st)) (cnt : ∀ xs Hh W Ex, sp xs Hh W Ex → xs.length = ps.length)
    (body : ∀ (cdv : Value) (A : Around) (out : List Env) (sh : Shared) (Hh : Hp) (xs : List V) (W : VK) (Ex : XK), fd.code = cdv → Room k (A.deeper (envOfC qual (defScope st) sh.heap.objs.size f cdv)) → A.guards = some [] → sp xs Hh W Ex →
      ∃ t, PSs (cxOf CX0 P w K mg base N qual (defScope st) f cdv A out sh Hh Ex).nox (defBody st) t ∧ t { nx := fun _ H' => W .non H', rt := W } (start N xs) Hh) : FnG P w K mg base (k + 1) f fd ps sp := by
  obtain ⟨oc, od, kV, doc, pm, an, cdv, ct, osl, rfl, look, code⟩ := F.ex
  refine ⟨cnt, fun A out sh Hh ar ys xs W Ex room gd e0 bind rel prom => ?_⟩
  have count := cnt _ _ _ _ prom
  have here : K.In sh.heap := e0.mod.kin.keeps fun p ob e => (e0.bs p ob e).1
  have calm : sh.heap.NoLimit := e0.mod.nolimit.keeps fun p ob e => (e0.bs p ob e).1
  have kinds : ∀ z ∈ ps.zip ys, (defScope st).names.lookup z.1 = some .local ∨ ((defScope st).names.lookup z.1 = some .cell ∧ ((cellsFrom (sh.heap.objs.size + 1) (defScope st).names []).lookup z.1).isSome = true) := fun ⟨nm, vl⟩ hz =>
    (S.par nm (List.of_mem_zip hz).1).elim .inl fun c => .inr ⟨c, PySem.W.cellsFrom_some _ _ _ (.inl c)⟩
  refine codeAny_call_function room.depth (here _ _ look) rfl S.co S.gen rfl (PySem.W.codeRec_of here code) (bind _ _ _ _ (wpAny_newFunctionEnv_cells S.kind kinds fun env ee sh1 ent => ?_))
  subst ee
  refine ⟨calm.keeps ent.toInCall.keep, codeAny_func ?_⟩
  obtain ⟨t, walk, start1⟩ := body cdv A out sh Hh xs W Ex rfl (room.deeper _) gd prom
  have I := inv_start (CX := CX0) (E := Ex) S room.hd e0 count rel ent
  refine wpAny_mono (walk.nox.run [] sh1 (start N xs) Hh _ I start1) (fun how sh2 done => ?_) fun ex sh2 done => done
  match how, done with
  | .ret u, ⟨v, σ2, H2, J, rv, qv⟩ => exact ⟨v, H2, J.os, J.bare, J.base, J.hok, rv, qv⟩
  | .next, ⟨σ2, H2, J, qv⟩ => exact ⟨V.non, H2, J.os, J.bare, J.base, J.hok, rfl, qv⟩
  | .brk, ⟨_, _, _, no⟩ => exact no.elim
  | .cont, ⟨_, _, _, no⟩ => exact no.elim
end
/-! ### calls by keywords alone, of defs that may raise -/
def tKwX (n : Nat) (sp : Sp) (pm : List V → List V) (E : XK) (tk : TA) : TE := fun σ H Q => tk σ H fun zs H1 => zs.length = n ∧ sp (pm zs) H1 Q E
section
variable {X : Cx}
theorem pe_kwX {CX : CXT} {E : XK} {k : Nat} {f : Addr} {fd : FuncData} {ps ks : List Str} {sp : Sp} {x : Str} {p pos : Pos} {kws : List Keyword} {tk : TA} {pm : List V → List V} {pw : List Value → List Value} (F : FnOk X.prog X.w X.K X.mg X.base CX k f fd ps sp) (room : Room k X.A) (hg : Gl X x) (hm : X.mg x = some (.ref f))
    (kp : PySem.W.keepIn X.K (.ref f) = true) (hb : ∀ (s : Shared) (ws : List Value), ws.length = ks.length → BindsTo s fd ⟨[], ks.zip ws⟩ (ps.zip (pw ws))) (hp : ∀ {zs : List V} {ws : List Value}, Vals zs ws → zs.length = ks.length → Vals (pm zs) (pw ws)) (hx : Passes CX X E) (hkw : PK X kws tk)
    (hall : (backToKw pos (keywordEach kws X.env)).all (·.1.isSome) = true := by rfl) (hks : (backToKw pos (keywordEach kws X.env)).filterMap (·.1) = ks := by rfl) (hdb : (x == ("__debug__" : Str)) = false := by decide)
    (hpl : ((backTo pos (starEach [] X.env)).any (·.1) || (backToKw pos (keywordEach kws X.env)).any (·.1.isNone)) = false := by rfl) : PE X (.Call (.Name x p) [] kws pos) (tKwX ks.length sp pm E tk) :=
  ⟨fun pins sh σ Hh W I prom => wpAny_Call_Name_kw (ld_glob I hg hm
    (PySem.W.callWith_KW0 (h₀ := X.base) I.ok.mod.kin kp hall (thn (hkw.run pos pins sh σ Hh _ I prom) fun ws s2 ⟨zs, H2, I2, rz, lz, q2⟩ => ⟨I2.kIn, by
      rw [hks]
      refine wpAny_call (codeAny_mono (F.run X.A X.stack s2 H2 ⟨[], ks.zip ws⟩ (pw ws) (pm zs) W E room I2.env0 (hb s2 ws (by rw [← rz.length]; exact lz)) (hp rz lz) q2) fun r s3 ends => ?_)
      match r, ends with
      | .error ex, z => exact hx pins σ H2 s2 ex s3 I2 z
      | .ok (.ret u), z => exact I2.after z
      | .ok .next, z => exact z.elim
      | .ok .brk, z => exact z.elim
      | .ok .cont, z => exact z.elim⟩) hpl) hdb)⟩
theorem kwx_binds {K : PySem.W.Frag} {x qual : Str} {st : Stmt} {f : Addr} {fd : FuncData} {ps ks : List Str} {pw : List Value → List Value} (F : Fun K x qual st f fd)
    (h : ∀ (kV doc pm : Value) (an : Option Addr) (cdv ct : Value) (ws : List Value), ws.length = ks.length → bindArgs (PySem.W.fnOf x qual (defArgs st) (defBody st) (defScope st) .none kV doc pm an cdv ct) ⟨[], ks.zip ws⟩ = pure (ps.zip (pw ws))) :
    ∀ (s : Shared) (ws : List Value), ws.length = ks.length → BindsTo s fd ⟨[], ks.zip ws⟩ (ps.zip (pw ws)) := by
  obtain ⟨oc, od, kV, doc, pm, an, cdv, ct, osl, rfl, _⟩ := F.ex
  exact fun s ws hl => .of_eq (h kV doc pm an cdv ct ws hl)
def swp {α : Type} : List α → List α
  | [a, b] => [b, a]
  | l => l
theorem swp_vals {zs : List V} {ws : List Value} (h : Vals zs ws) : Vals (swp zs) (swp ws) := by
  cases h with
  | nil => exact .nil
  | cons a t =>
    cases t with
    | nil => exact .cons a .nil
    | cons b t =>
      cases t with
      | nil => exact .cons b (.cons a .nil)
      | cons c t => exact .cons a (.cons b (.cons c t))
/-- [x] * 2, and where it does not stand -/
theorem op_rep2 : OpR X (binaryOp .Mult) (fun x y H Q => ∃ l z, x = .ref l ∧ y = .int 2 ∧ H l = some (.lst [z]) ∧ ∀ p, H p = none → p ≠ sysModules → Q (.ref p) (upd H p (.lst [z, z]))) := by
  intro pins s σ H x y v u Q I rx ry h
  obtain ⟨l, z, rfl, rfl, at_, q⟩ := h
  cases rx
  obtain ⟨t, rfl⟩ := ry
  obtain ⟨_, its, n, r, _, held⟩ := I.lstM at_
  obtain ⟨i, rfl⟩ : ∃ i, its = [i] := by
    match its, r.length with
    | [i], _ => exact ⟨i, rfl⟩
  have ri : RelV z i := by
    cases r with
    | cons a _ => exact a
  have slow : ¬ ([i].toArray.size * (2 : Int).toNat > (2 ^ 63 - 1) / 8) := by
    show ¬ (2 > (2 ^ 63 - 1) / 8)
    decide
  have inIx : ¬ (!Builtin.List.listFitsIndex 2) = true := by decide
  have brief : ¬ Builtin.List.listTooLong ([i].toArray.size * (2 : Int).toNat) = true := by
    show ¬ Builtin.List.listTooLong 2 = true
    decide
  refine wpAny_binaryOp_repeat_ref (T := "list") (U := "int") (by decide) ⟨_, held, rfl⟩ (fun s' => typeIs_int s' 2 t) noFill_list_mul F.fills_int_mul F.slot_int_rmul repeat_list F.slot_int_index.lookup
    (call_meets F.slot_int_rmul (typeIs_int s 2 t) F.entry_int_rmul (F.args_int_rmul_2 _ _) (int___rmul___int_list 2 t l [i].toArray n)
      ⟨held, rfl, ⟨_, held, rfl⟩, call_meets F.slot_list_mul ⟨_, held, rfl⟩ F.entry_list_mul (F.args_list_mul_2 _ _) (AutoListH.list___mul___list_int_3 l [i].toArray n 2 t inIx slow brief) ⟨held, ?_⟩⟩)
  exact ⟨.ref _, _, I.lnew (t' := s.toks) (ys := [z, z]) (.cons ri (.cons ri .nil)) (show 2 ≤ sizeLine by decide), rfl, q _ I.fresh (Ne.symm (Nat.ne_of_lt I.big))⟩
end
/-! ### what is told by a lambda -/
section
variable {K : PySem.W.Frag} {p a D : Addr} {H : Hp} {n : Int} {T : List (Addr × Str)} {Q : VK} {l : Addr}
def Rp (T : List (Addr × Str)) (p l : Addr) (H : Hp) (d : PyData) (Q : VK) : Prop := ∀ (v : V) (H' : Hp), ExtN H H' → Tabs T H' → Od true p H' v d → Od true l H' v d → Q v H'
theorem use_met {tl : XK → Hp → VK → Prop} {t : XK → TE} {σ : L2.St} (h : Tabs T H ∧ ∀ H1, ExtN H H1 → Tabs T H1 → TMet D tl H1 Q) (i : ∀ E H' Q', (∀ H1 Q1, tl E H1 Q1 → tl E H1 Q1) → tl E H' Q' → t E σ H' Q') : tLam T (TMet D) t σ H Q :=
  ⟨h.1, fun H1 a b H2 E' Q' s h1 h2 => i _ _ _ (fun _ _ z => z) (h.2 H1 a b H2 E' Q' s h1 h2)⟩
theorem Pot.lst (h : Pot H p n) : ∃ zs, H p = some (.lst zs) := by
  obtain ⟨_, _, _, e, _⟩ := h
  exact ⟨_, e⟩
theorem lst_ne {xs zs : List V} (ea : H a = some (.tup xs)) (el : H l = some (.lst zs)) : a ≠ l := fun z => by
  rw [z, el] at ea
  cases ea
theorem lst_ext {H' : Hp} {zs : List V} (e : ExtN H H') (el : H l = some (.lst zs)) : H' l = some (.lst zs) := e _ _ el (fun _ z => by cases z)
theorem tmet_imp {tl tl' : XK → Hp → VK → Prop} (h : TMet D tl H Q) (i : ∀ E H' Q', tl E H' Q' → tl' E H' Q') : TMet D tl' H Q := fun H1 E' Q' s h1 h2 => i _ _ _ (h H1 E' Q' s h1 h2)
theorem od_out {H' : Hp} {t : Addr} {b : Str} {v : V} {d : PyData} (n : t ≠ p) (e : H' t = some (.tup [.str b, v])) (h : Od true p H' v d) : Od true p H' (.ref t) (.tuple [.str b, d]) := .tup n e (.cons (.str _) (.cons h .nil))
theorem pot_tup {xs : List V} (hp : Pot H p n) (ea : H a = some (.tup xs)) : a ≠ p := fun z => by
  obtain ⟨_, _, _, e, _⟩ := hp
  rw [z, e] at ea
  cases ea
theorem pot_lst {xs : List V} (hp : Pot H p n) (ea : H a = some (.lst xs)) (l : xs.length ≠ 3) : a ≠ p := fun z => by
  obtain ⟨_, _, _, e, _⟩ := hp
  rw [z, e] at ea
  cases ea
  exact l rfl
theorem met_all {xs : List V} {ds : List PyData} {ys : List Str} (hp : Pot H p n) (hlo : ∃ zs, H l = some (.lst zs)) (ea : H a = some (.tup xs)) (oa : OdAll true p H xs ds) (oal : OdAll true l H xs ds) (hl : ds.length ≤ 8) (hw : ∀ d ∈ ds, d.weight ≤ 200) (hT : Tabs T H)
    (hs : SrtOf ((gds ds).flatMap fun x => pin x.cps.toList) ys) (q : Rp T p l H (outD ds (.tuple (ys.map PyData.str))) Q) : Tabs T H ∧ ∀ H1, ExtN H H1 → Tabs T H1 → TMet D (fun E H' Q' => spPairsAllX D [.ref a] H' Q' E) H1 Q := by
  refine ⟨hT, fun H1 e1 T1 H2 E' Q' s2 hbad htold => ?_⟩
  have e2 : ExtN H H2 := e1.trans (extS s2)
  have ea2 : H2 a = some (.tup xs) := e2 _ _ ea (fun _ z => by cases z)
  have hp2 := ExtN.pot e2 hp
  refine ⟨a, true, p, xs, ds, rfl, pot_tup hp ea, ea2, oa.ext e2, hl, hw, fun ts eds hts ys' r H3 hs' nr s3 er => ?_, fun j d v hd hv hb hf dd H3 nd s3 ed => ?_⟩
  · refine htold (.ref r) H3 fun t H4 nt s4 et => ?_
    have ey : ys = ys' := hs.uniq hs' fun k => by rw [eds, gds_all hts]
    have eo := out_all (x := .tuple (ys.map PyData.str)) (ds := ds) (fun d hd => by
      rw [eds] at hd
      obtain ⟨x, hx, rfl⟩ := List.mem_map.mp hd
      exact hts x hx)
    have fin : ∀ b, (∃ zs, H b = some (.lst zs)) → Od true b H4 (.ref t) (outD ds (.tuple (ys.map PyData.str))) := fun b ⟨zs, eb⟩ => by
      rw [eo]
      refine od_out (ne_of_none (s3 _ _ (lst_ext e2 eb)) nt).symm et (.tup (ne_of_none (lst_ext e2 eb) nr).symm (s4 _ _ er) ?_)
      rw [ey]
      exact .strs ys'
    exact q (.ref t) H4 (e2.trans (extS (s3.trans s4))) (T1.ext (s2.trans (s3.trans s4))) (fin p hp.lst) (fin l hlo)
  · refine hbad dd v H3 ed fun t H4 nt s4 et => ?_
    have fin : ∀ b, (∃ zs, H b = some (.lst zs)) → OdAll true b H xs ds → Od true b H4 (.ref t) (outD ds (.tuple (ys.map PyData.str))) := fun b ⟨zs, eb⟩ ob => by
      rw [out_bad hd hb hf]
      obtain ⟨d', hd', od⟩ := ob.get hv
      rw [hd] at hd'
      obtain rfl := Option.some.inj hd'
      exact od_out (ne_of_none (s3 _ _ (lst_ext e2 eb)) nt).symm et (od.ext (e2.trans (extS (s3.trans s4))))
    exact q (.ref t) H4 (e2.trans (extS (s3.trans s4))) (T1.ext (s2.trans (s3.trans s4))) (fin p hp.lst oa) (fin l hlo oal)
theorem gds1 {x : Str} (h : isTx x = true) : gds [.str x] = [x] := by
  show (if isTx x = true then x :: gds [] else gds []) = [x]
  rw [if_pos h] <;> rfl
theorem out_bad1 {d : PyData} (x : PyData) (h : dTx d = false) : outD [d] x = .tuple [.str bad, d] := out_bad (j := 0) rfl (fun i e hi => absurd hi (Nat.not_lt_zero i)) h
theorem out_all1 {d : PyData} (x : PyData) (h : dTx d = true) : outD [d] x = .tuple [.str tld, x] := out_all fun e he => by
  obtain rfl := List.mem_singleton.mp he
  exact h
theorem met_one {v : V} {d : PyData} {ys : List Str} (hp : Pot H p n) (hlo : ∃ zs, H l = some (.lst zs)) (od : Od true p H v d) (odl : Od true l H v d) (hw : d.weight ≤ 900) (hT : Tabs T H)
    (hs : SrtOf ((gds [d]).flatMap fun x => pin x.cps.toList) ys) (q : Rp T p l H (outD [d] (.tuple (ys.map PyData.str))) Q) : Tabs T H ∧ ∀ H1, ExtN H H1 → Tabs T H1 → TMet D (fun E H' Q' => spPairsOfX D [v] H' Q' E) H1 Q := by
  refine ⟨hT, fun H1 e1 T1 H2 E' Q' s2 hbad htold => ?_⟩
  have e2 : ExtN H H2 := e1.trans (extS s2)
  have hp2 := ExtN.pot e2 hp
  refine ⟨v, true, p, d, rfl, od.ext e2, hw, fun x ed hx ys' r H3 hs' nr s3 er => ?_, fun hf dd H3 nd s3 ed => ?_⟩
  · refine htold (.ref r) H3 fun t H4 nt s4 et => ?_
    have ey : ys = ys' := hs.uniq hs' fun k => by
      rw [ed, gds1 hx, List.flatMap_cons, List.flatMap_nil, List.append_nil]
    have fin : ∀ b, (∃ zs, H b = some (.lst zs)) → Od true b H4 (.ref t) (outD [d] (.tuple (ys.map PyData.str))) := fun b ⟨zs, eb⟩ => by
      rw [ed, out_all1 (d := .str x) _ hx]
      refine od_out (ne_of_none (s3 _ _ (lst_ext e2 eb)) nt).symm et (.tup (ne_of_none (lst_ext e2 eb) nr).symm (s4 _ _ er) ?_)
      rw [ey]
      exact .strs ys'
    exact q (.ref t) H4 (e2.trans (extS (s3.trans s4))) (T1.ext (s2.trans (s3.trans s4))) (fin p hp.lst) (fin l hlo)
  · refine hbad dd v H3 ed fun t H4 nt s4 et => ?_
    have fin : ∀ b x, (∃ zs, H b = some (.lst zs)) → Od true b H v d → Od true b H4 (.ref t) (outD [d] x) := fun b x ⟨zs, eb⟩ ob => by
      rw [out_bad1 _ hf]
      exact od_out (ne_of_none (s3 _ _ (lst_ext e2 eb)) nt).symm et (ob.ext (e2.trans (extS (s3.trans s4))))
    exact q (.ref t) H4 (e2.trans (extS (s3.trans s4))) (T1.ext (s2.trans (s3.trans s4))) (fin p _ hp.lst od) (fin l _ hlo odl)
theorem met_alw {v : V} {d : PyData} {ms : List Str} {b : Bool} (hp : Pot H p n) (hlo : ∃ zs, H l = some (.lst zs)) (em : H a = some (.tup (ms.map V.str))) (od : Od true p H v d) (odl : Od true l H v d) (hw : d.weight ≤ 900) (hT : Tabs T H)
    (hb : ∀ x, d = .str x → isTx x = true → alw (fun p => decide (p ∈ ms)) x.cps.toList = b) (q : Rp T p l H (outD [d] (.bool b)) Q) : Tabs T H ∧ ∀ H1, ExtN H H1 → Tabs T H1 → TMet D (fun E H' Q' => spAllowsX K D [.ref a, v] H' Q' E) H1 Q := by
  refine ⟨hT, fun H1 e1 T1 H2 E' Q' s2 hbad htold => ?_⟩
  have e2 : ExtN H H2 := e1.trans (extS s2)
  have hp2 := ExtN.pot e2 hp
  refine ⟨a, ms, v, true, p, d, rfl, .inl (.inl (e2 _ _ em (fun _ z => by cases z))), od.ext e2, hw, fun x ed hx H3 s3 => ?_, fun hf dd H3 nd s3 ed => ?_⟩
  · refine htold _ H3 fun t H4 nt s4 et => ?_
    rw [hb x ed hx] at et
    have fin : ∀ b', (∃ zs, H b' = some (.lst zs)) → Od true b' H4 (.ref t) (outD [d] (.bool b)) := fun b' ⟨zs, eb⟩ => by
      rw [ed, out_all1 (d := .str x) _ hx]
      exact od_out (ne_of_none (s3 _ _ (lst_ext e2 eb)) nt).symm et (.bl b)
    exact q (.ref t) H4 (e2.trans (extS (s3.trans s4))) (T1.ext (s2.trans (s3.trans s4))) (fin p hp.lst) (fin l hlo)
  · refine hbad dd v H3 ed fun t H4 nt s4 et => ?_
    have fin : ∀ b x, (∃ zs, H b = some (.lst zs)) → Od true b H v d → Od true b H4 (.ref t) (outD [d] x) := fun b x ⟨zs, eb⟩ ob => by
      rw [out_bad1 _ hf]
      exact od_out (ne_of_none (s3 _ _ (lst_ext e2 eb)) nt).symm et (ob.ext (e2.trans (extS (s3.trans s4))))
    exact q (.ref t) H4 (e2.trans (extS (s3.trans s4))) (T1.ext (s2.trans (s3.trans s4))) (fin p _ hp.lst od) (fin l _ hlo odl)
theorem due_of {xs : List V} {ds : List PyData} {t : V} {x : PyData} {E : XK} (hp : Pot H p n) (ea : H a = some (.tup xs)) (oa : OdAll true p H xs ds) (hl : ds.length ≤ 100) (hw : ∀ d ∈ ds, d.weight ≤ 2000) (ot : Od true p H t x)
    (q : ∀ v H', Same H H' → Od true p H' v (outD ds x) → Q v H') : spDue [.ref a, t] H Q E := by
  refine ⟨a, true, p, xs, ds, t, rfl, ea, oa, hl, hw, fun ha r H' nr s er => q (.ref r) H' s ?_, fun j d v hd hv hb hf r H' nr s er => q (.ref r) H' s ?_⟩
  · rw [out_all ha]
    exact od_out (hp.ne nr) er (ot.mono fun b u _ z => s b u z)
  · rw [out_bad hd hb hf]
    obtain ⟨d', hd', od⟩ := oa.get hv
    rw [hd] at hd'
    obtain rfl := Option.some.inj hd'
    exact od_out (hp.ne nr) er (od.mono fun b u _ z => s b u z)
end
/-! ### sizes -/
theorem Sm.all {n m k : Nat} {ds : List PyData} (h : ∀ d ∈ ds, Sm n m d) (l : ds.length ≤ k) : PyData.showableAll ds = true ∧ PyData.leavesShortAll 40 ds = true ∧ PyData.weightAll ds ≤ k * (n + 1) ∧ PyData.depthAll ds ≤ m := by
  induction ds generalizing k with
  | nil => exact ⟨rfl, rfl, Nat.zero_le _, Nat.zero_le _⟩
  | cons d r ih =>
    cases k with
    | zero => cases l
    | succ k =>
      obtain ⟨h1, h2, h3, h4⟩ := h d List.mem_cons_self
      obtain ⟨i1, i2, i3, i4⟩ := ih (fun e he => h e (List.mem_cons_of_mem _ he)) (Nat.le_of_succ_le_succ l)
      refine ⟨by simp [PyData.showableAll, h1, i1], by simp [PyData.leavesShortAll, h2, i2], ?_, ?_⟩
      · simp only [PyData.weightAll]
        rw [Nat.succ_mul]
        omega
      · simp only [PyData.depthAll]
        omega
theorem Sm.tup {n m k : Nat} {ds : List PyData} (h : ∀ d ∈ ds, Sm n m d) (l : ds.length ≤ k) : Sm (k * (n + 1) + 2) (m + 1) (.tuple ds) := by
  obtain ⟨h1, h2, h3, h4⟩ := Sm.all h l
  refine ⟨by simp [PyData.showable, h1], by simp [PyData.leavesShort, h2], ?_, ?_⟩
  · simp only [PyData.weight]
    omega
  · simp only [PyData.depth]
    omega
theorem Sm.lst {n m k : Nat} {ds : List PyData} (h : ∀ d ∈ ds, Sm n m d) (l : ds.length ≤ k) : Sm (k * (n + 1) + 2) (m + 1) (.list ds) := by
  obtain ⟨h1, h2, h3, h4⟩ := Sm.all h l
  refine ⟨by simp [PyData.showable, h1], by simp [PyData.leavesShort, h2], ?_, ?_⟩
  · simp only [PyData.weight]
    omega
  · simp only [PyData.depth]
    omega
theorem lv_str {t : Str} (h : ∀ c ∈ t.cps.toList, c < 128) : (PyData.str t).leavesShort 40 = true := by
  show (t.cps.toList.all fun c => decide (c < 16 ^ 8)) = true
  rw [List.all_eq_true]
  intro c hc
  have := h c hc
  exact decide_eq_true (Nat.lt_of_lt_of_le this (by decide))
theorem sm_str {t : Str} {n : Nat} (h : ∀ c ∈ t.cps.toList, c < 128) (hl : t.length ≤ n) : Sm n 0 (.str t) := ⟨rfl, lv_str h, hl, Nat.le_refl 0⟩
theorem prs_mem : ∀ {l : List Nat} {y : Str}, y ∈ prs l → ∃ a b, a ∈ l ∧ b ∈ l ∧ y = two a b
  | a :: b :: r, y, h => by
    rcases List.mem_cons.mp h with rfl | h
    · exact ⟨a, b, List.mem_cons_self, List.mem_cons_of_mem _ List.mem_cons_self, rfl⟩
    · obtain ⟨c, d, h1, h2, e⟩ := prs_mem (l := b :: r) h
      exact ⟨c, d, List.mem_cons_of_mem _ h1, List.mem_cons_of_mem _ h2, e⟩
theorem let_128 : ∀ c ∈ LET, c < 128 := by decide +kernel
theorem pin_sm {x y : Str} (hx : isTx x = true) (hy : y ∈ pin x.cps.toList) : Sm 2 0 (.str y) := by
  obtain ⟨a, b, h1, h2, rfl⟩ := prs_mem hy
  have ok : ∀ c ∈ 94 :: (x.cps.toList ++ [36]), c < 128 := fun c hc => by
    rcases List.mem_cons.mp hc with rfl | hc
    · decide
    · rcases List.mem_append.mp hc with hc | hc
      · have z := List.all_eq_true.mp hx c hc
        exact let_128 c (of_decide_eq_true z)
      · rw [List.mem_singleton.mp hc]
        decide
  refine sm_str (fun c hc => ?_) (Nat.le_refl 2)
  have hc : c ∈ [a, b] := hc
  rcases List.mem_cons.mp hc with rfl | hc
  · exact ok _ h1
  · rw [List.mem_singleton.mp hc]
    exact ok _ h2
theorem sm_ys {ds : List PyData} {ys : List Str} (hs : SrtOf ((gds ds).flatMap fun x => pin x.cps.toList) ys) (hl : ds.length ≤ 6) (h : ∀ d ∈ ds, Sm 140 15 d) : Sm 2540 1 (.tuple (ys.map PyData.str)) := by
  have l1 : ((gds ds).flatMap fun x => pin x.cps.toList).length ≤ 846 := by
    have z := flat_len (fun x => pin x.cps.toList) 141 (gds ds) fun x hx => by
      have h3 : x.length ≤ 140 := (h _ (gds_mem hx).1).wt
      show (pin x.cps.toList).length ≤ 141
      rw [pin_len, ← str_len]
      omega
    have z2 := gds_len ds
    omega
  have l2 := hs.2.length_eq
  have l3 := toSet_len ((gds ds).flatMap fun x => pin x.cps.toList)
  refine Sm.tup (n := 2) (m := 0) (k := 846) (fun d hd => ?_) (by rw [List.length_map]; omega)
  obtain ⟨y, hy, rfl⟩ := List.mem_map.mp hd
  obtain ⟨x, hx, hy2⟩ := List.mem_flatMap.mp (hs.mem.mp hy)
  exact pin_sm (gds_mem hx).2 hy2
theorem sm_out {ds : List PyData} {x : PyData} (h : ∀ d ∈ ds, Sm 140 15 d) (hx : Sm 2540 15 x) : Sm 6000 16 (outD ds x) := by
  have st : ∀ t : Str, (∀ c ∈ t.cps.toList, c < 128) → t.length ≤ 10 → ∀ e, Sm 2540 15 e → Sm 6000 16 (.tuple [.str t, e]) := fun t ht hl e he => (Sm.tup (n := 2540) (m := 15) (k := 2) (ds := [.str t, e]) (fun d hd => by
    rcases List.mem_cons.mp hd with rfl | hd
    · exact (sm_str ht hl).mono (by decide) (by decide)
    · rw [List.mem_singleton.mp hd]
      exact he) (Nat.le_refl 2)).mono (by decide) (by decide)
  unfold outD
  split
  · rename_i d hd
    exact st bad (by decide +kernel) (by decide +kernel) d ((h d (List.mem_of_find?_eq_some hd)).mono (by decide) (by decide))
  · exact st tld (by decide +kernel) (by decide +kernel) x hx
theorem str_ne {A B : Prop} {x : Str} (h : B) : if (!decide (V.str x = V.str x)) = true then A else B := by
  rw [decide_eq_true rfl]
  exact iteF h
end Sf
namespace Sf
open PySem PySem.Spec PyProof.Rows L2 LamX
abbrev sRight : Stmt := topS 26
def NRight : List Str := ["_law_pot_here", "_law_turn", "_law_letters", "_law_at", "_law_kept", "_law_good", "_law_told", "_law_is_held", "_law_due_here", "_law_lots", "_law_mine", "_law_other", "_law_thing", "_law_again", "_law_one"]
theorem scRight : FnScope NRight ["_law_pot_here"] (defScope sRight) := ⟨rfl, rfl, rfl, by decide +kernel, rfl, by decide +kernel, by decide +kernel⟩
abbrev RTabs (T : Addr) : List (Addr × Str) := [(T, "_law_right" ++ ".<locals>." ++ "<lambda>")]
def spRight (T : Addr) : Sp := fun vs H Q _ => ∃ p : Addr, vs = [.ref p] ∧ Pot H p 0 ∧ Tabs (RTabs T) H ∧ ∀ H', KpN p H H' → Tabs (RTabs T) H' → Q (.bl true) H'
/-- what is known of the values of a turn -/
structure Fx (T p : Addr) (n : Int) (H0 : Hp) (lots : Addr) (xs : List V) (ds : List PyData) (o : V) (e : PyData) (H : Hp) : Prop where
  pot : Pot H p n
  tab : Tabs (RTabs T) H
  kp : KpN p H0 H
  el : H lots = some (.tup xs)
  oa : OdAll true p H xs ds
  oo : Od true p H o e
  ll : ds.length ≤ 6
  sm : ∀ d ∈ ds, Sm 140 15 d
  so : Sm 140 15 e
theorem Fx.ext {T p : Addr} {n : Int} {H0 H H' : Hp} {lots : Addr} {xs : List V} {ds : List PyData} {o : V} {e : PyData} (f : Fx T p n H0 lots xs ds o e H) (x : ExtN H H') (t : Tabs (RTabs T) H') : Fx T p n H0 lots xs ds o e H' :=
  ⟨ExtN.pot x f.pot, t, f.kp.trans (KpN.ext x), x _ _ f.el (fun _ z => by cases z), f.oa.ext x, f.oo.ext x, f.ll, f.sm, f.so⟩
theorem Fx.same {T p : Addr} {n : Int} {H0 H H' : Hp} {lots : Addr} {xs : List V} {ds : List PyData} {o : V} {e : PyData} (f : Fx T p n H0 lots xs ds o e H) (s : Same H H') : Fx T p n H0 lots xs ds o e H' := f.ext (extS s) (f.tab.ext s)
theorem slA_take {K : PySem.W.Frag} {H : Hp} {a : Addr} {xs : List V} {i : Nat} {Q : VK} (e : H a = some (.tup xs)) (hi : i ≤ xs.length) (q : ∀ b H', Same H H' → H' b = some (.tup (xs.take i)) → Q (.ref b) H') : rSlA K (.ref a) none (some (i : Int)) H Q := by
  have e1 : HT.sIx xs.length xs.length (some (i : Int)) = i := by rw [HT.sIx_nat, Nat.min_eq_left hi]
  refine ⟨a, xs, rfl, .inl (.inl e), fun h => q a H (Same.refl H) ?_, fun _ p np => q p _ (Same.upd np) ?_⟩
  · rw [e1] at h
    rw [h.2, List.take_length]
    exact e
  · rw [upd_same]
    show some (HO.tup ((xs.drop (HT.sIx xs.length 0 none)).take (HT.sIx xs.length xs.length (some (i : Int)) - HT.sIx xs.length 0 none))) = _
    rw [e1] <;> rfl
theorem slA_drop {K : PySem.W.Frag} {H : Hp} {a : Addr} {xs : List V} {i : Nat} {Q : VK} (e : H a = some (.tup xs)) (hi : i ≤ xs.length) (q : ∀ b H', Same H H' → H' b = some (.tup (xs.drop i)) → Q (.ref b) H') : rSlA K (.ref a) (some (i : Int)) none H Q := by
  have e1 : HT.sIx xs.length 0 (some (i : Int)) = i := by rw [HT.sIx_nat, Nat.min_eq_left hi]
  refine ⟨a, xs, rfl, .inl (.inl e), fun h => q a H (Same.refl H) ?_, fun _ p np => q p _ (Same.upd np) ?_⟩
  · rw [e1] at h
    rw [h.1, List.drop_zero]
    exact e
  · rw [upd_same]
    show some (HO.tup ((xs.drop (HT.sIx xs.length 0 (some (i : Int)))).take (HT.sIx xs.length xs.length none - HT.sIx xs.length 0 (some (i : Int))))) = _
    rw [e1, HT.sIx_none, List.take_of_length_le (by rw [List.length_drop] <;> omega)]
theorem catA_of {K : PySem.W.Frag} {H : Hp} {a b : Addr} {xs ys : List V} {Q : VK} (ea : H a = some (.tup xs)) (eb : H b = some (.tup ys)) (l : xs.length + ys.length ≤ sizeLine) (q : ∀ r H', Same H H' → H' r = some (.tup (xs ++ ys)) → Q (.ref r) H') : rCatA K (.ref a) (.ref b) H Q := by
  refine ⟨a, b, xs, ys, rfl, rfl, .inl (.inl ea), .inl (.inl eb), l, fun h => q b H (Same.refl H) ?_, fun _ h => q a H (Same.refl H) ?_, fun _ _ p np => q p _ (Same.upd np) upd_same⟩
  · rw [h, List.nil_append]
    exact eb
  · rw [h, List.append_nil]
    exact ea
theorem Fx.pair {T p t : Addr} {n : Int} {H0 H : Hp} {lots : Addr} {xs : List V} {ds : List PyData} {o : V} {e : PyData} (f : Fx T p n H0 lots xs ds o e H) (nt : H t = none) : Od true p (upd H t (.tup [.ref lots, o])) (.ref t) (.tuple [.tuple ds, e]) :=
  have g := f.same (Same.upd (o := HO.tup [.ref lots, o]) nt)
  .tup (f.pot.ne nt) upd_same (.cons (.tup (pot_tup g.pot g.el) g.el g.oa) (.cons g.oo .nil))
theorem Fx.psm {T p : Addr} {n : Int} {H0 H : Hp} {lots : Addr} {xs : List V} {ds : List PyData} {o : V} {e : PyData} (f : Fx T p n H0 lots xs ds o e H) : Sm 1700 17 (.tuple [.tuple ds, e]) :=
  (Sm.tup (n := 848) (m := 16) (k := 2) (ds := [.tuple ds, e]) (fun d hd => by
    rcases List.mem_cons.mp hd with rfl | hd
    · exact (Sm.tup (k := 6) f.sm f.ll).mono (by decide) (by decide)
    · rw [List.mem_singleton.mp hd]
      exact f.so.mono (by decide) (by decide)) (Nat.le_refl 2)).mono (by decide) (by decide)
theorem sm_two {d : PyData} (h : Sm 6000 16 d) : Sm 13000 17 (.list [d, d]) :=
  (Sm.lst (k := 2) (ds := [d, d]) (fun e he => by
    rcases List.mem_cons.mp he with rfl | he
    · exact h
    · rw [List.mem_singleton.mp he]
      exact h) (Nat.le_refl 2)).mono (by decide) (by decide)
theorem all_memeq {a b : List Str} (f : Str → Bool) (h : ∀ k, k ∈ a ↔ k ∈ b) : a.all f = b.all f := by
  rw [Bool.eq_iff_iff, List.all_eq_true, List.all_eq_true]
  exact ⟨fun z k hk => z k ((h k).mpr hk), fun z k hk => z k ((h k).mp hk)⟩
def Md (T p : Addr) (n : Int) (H0 : Hp) (lots : Addr) (xs : List V) (ds : List PyData) (o : V) (e : PyData) (kd : Str) (mine : Addr) (ys : List Str) (P7 : Option V → Prop) : L2.St → Hp → Prop := fun σ H' =>
  ∃ z1 z2 z3 z5 z6 z7 z8 z12, σ = [some (.ref p), z1, z2, z3, some (.str kd), z5, z6, z7, z8, some (.ref lots), some (.ref mine), some o, z12, none, none] ∧ Fx T p n H0 lots xs ds o e H' ∧ H' mine = some (.tup (ys.map V.str)) ∧ P7 z7
theorem sm_bool (b : Bool) : Sm 2540 15 (.bool b) := by
  cases b <;> exact ⟨rfl, rfl, by decide +kernel, by decide +kernel⟩
section
variable {P : Program} {w : World} {K : PySem.W.Frag} {mg : Str → Option Value} {base : Heap}
theorem ok_right {f fAny fLets fText fDraw fOdd fPrs fMet fDue fLis fAll fOf fAlw D S N1 N2 c T : Addr} {fd dAny dLets dText dDraw dOdd dPrs dMet dDue dLis dAll dOf dAlw : FuncData} {k : Nat} (F : Fun K "_law_right" "_law_right" sRight f fd)
    (FAny : Fun K "_law_any" "_law_any" sAny fAny dAny) (bAny : Binds K dAny ["_law_pot_here", "_law_items"] []) (gAny : mg "_law_any" = some (.ref fAny)) (GAny : FnOk P w K mg base CX0 k fAny dAny ["_law_pot_here", "_law_items"] (spAny K))
    (FLets : Fun K "_law_all_letters" "_law_all_letters" sLets fLets dLets) (bLets : Binds K dLets [] []) (gLets : mg "_law_all_letters" = some (.ref fLets)) (GLets : FnOk P w K mg base CX0 k fLets dLets [] spLets)
    (FText : Fun K "_law_text" "_law_text" sText fText dText) (bText : Binds K dText ["_law_pot_here", "_law_letters", "_law_most"] []) (gText : mg "_law_text" = some (.ref fText)) (GText : FnOk P w K mg base CX0 k fText dText ["_law_pot_here", "_law_letters", "_law_most"] spText)
    (FDraw : Fun K "_law_draw" "_law_draw" sDraw fDraw dDraw) (bDraw : Binds K dDraw ["_law_pot_here", "_law_many"] []) (gDraw : mg "_law_draw" = some (.ref fDraw)) (GDraw : FnOk P w K mg base CX0 k fDraw dDraw ["_law_pot_here", "_law_many"] spDraw)
    (FOdd : Fun K "_law_odd" "_law_odd" sOdd fOdd dOdd) (bOdd : Binds K dOdd ["_law_pot_here"] []) (gOdd : mg "_law_odd" = some (.ref fOdd)) (GOdd : FnOk P w K mg base CX0 k fOdd dOdd ["_law_pot_here"] spOdd)
    (FPrs : Fun K "_law_pairs" "_law_pairs" sPairs fPrs dPrs) (bPrs : Binds K dPrs ["_law_lots"] []) (gPrs : mg "_law_pairs" = some (.ref fPrs)) (GPrs : FnOk P w K mg base CX0 k fPrs dPrs ["_law_lots"] (spPairs K))
    (FMet : Fun K "_law_met" "_law_met" sMet fMet dMet) (bMet : Binds K dMet ["_law_ask"] []) (gMet : mg "_law_met" = some (.ref fMet)) (MC : MetC K mg D S N1 N2)
    (FDue : Fun K "_law_due" "_law_due" sDue fDue dDue) (bDue : Binds K dDue ["_law_things", "_law_told"] []) (gDue : mg "_law_due" = some (.ref fDue)) (GDue : FnOk P w K mg base CX0 k fDue dDue ["_law_things", "_law_told"] spDue)
    (FLis : Fun K "_law_is_text" "_law_is_text" sLIsText fLis dLis) (bLis : Binds K dLis ["_law_thing"] []) (gLis : mg "_law_is_text" = some (.ref fLis)) (GLis : FnOk P w K mg base CX0 k fLis dLis ["_law_thing"] (spDat dTx))
    (FAll : Fun K "pairs_of_all" "pairs_of_all" sPairsAll fAll dAll) (bAll : Binds K dAll ["texts"] []) (gAll : mg "pairs_of_all" = some (.ref fAll)) (GAll : FnOk P w K mg base (L2.CX P w) k fAll dAll ["texts"] (spPairsAllX D))
    (FOf : Fun K "pairs_of" "pairs_of" sPairsOf fOf dOf) (bOf : Binds K dOf ["text"] []) (gOf : mg "pairs_of" = some (.ref fOf)) (GOf : FnOk P w K mg base (L2.CX P w) k fOf dOf ["text"] (spPairsOfX D))
    (FAlw : Fun K "allows" "allows" sAllows fAlw dAlw) (bAlw : Binds K dAlw ["pairs", "text"] []) (gAlw : mg "allows" = some (.ref fAlw)) (GAlw : FnOk P w K mg base (L2.CX P w) k fAlw dAlw ["pairs", "text"] (spAllowsX K D))
    (TB : TabB base mg c T) (hcode : fd.code = .ref c)
    (mr : mg "range" = none) (mp : mg "repr" = none) (mt : mg "tuple" = none) (ml : mg "len" = none) (ma : mg "all" = none) : FnG P w K mg base (k + 3) f fd ["_law_pot_here"] (spRight T) := by
  have kAll := kwx_binds (ps := ["texts"]) (ks := ["texts"]) (pw := fun ws => ws) FAll fun _ _ _ _ _ _ ws hl => match ws, hl with | [_], _ => rfl
  have kOf := kwx_binds (ps := ["text"]) (ks := ["text"]) (pw := fun ws => ws) FOf fun _ _ _ _ _ _ ws hl => match ws, hl with | [_], _ => rfl
  have kAlw := kwx_binds (ps := ["pairs", "text"]) (ks := ["text", "pairs"]) (pw := swp) FAlw fun _ _ _ _ _ _ ws hl => match ws, hl with | [_, _], _ => rfl
  obtain ⟨oc, od, kV, doc, pm, an, cdm, ctm, osl, em, lkm, cim⟩ := FMet.ex
  subst em
  refine okG2 F scRight (fun vs H Q E h => ?_) (fun cdv A outer s H vs Q E ecd hr hgd h => ?_)
  · obtain ⟨p, rfl, _⟩ := h
    rfl
  · obtain ⟨p, rfl, hp, hT, q⟩ := h
    have hu := hr.units
    have hcd : cdv = .ref c := ecd.symm.trans hcode
    have hr0 := hr.mono (Nat.le_add_right k 2)
    refine ⟨_, pss_cons (ps_for PassesOwn.never rfl (pi_range1 rfl mr (pa_cons pe_int pa_nil)) (pg_name (i := 1) scRight.nd rfl (.inl rfl))
        (pss_cons (ps_set (i := 2) scRight.nd rfl (.inr rfl) (pe_call GAny hr0 (by rfl) gAny FAny.kp bAny .nil pass0 (pa_cons (pv 0) (pa_cons (pe_lst (pa_cons (pe_call0 GLets hr0 (by rfl) gLets FLets.kp bLets .nil pass0) (pa_cons pe_str (pa_cons pe_str (pa_cons pe_str pa_nil))))) pa_nil))))
        (pss_cons (ps_set (i := 9) scRight.nd rfl (.inr rfl) (pe_tupleOf (by rfl) mt (pe_lc (own := [("_law_again", 13)]) (g := gName 13) (tt := tYes) rfl scRight.nd (pi_range1 rfl mr (pa_cons (pe_call GDraw hr0 (by rfl) gDraw FDraw.kp bDraw .nil pass0 (pa_cons (pv 0) (pa_cons pe_int pa_nil))) pa_nil)) (blkOk_by (N := NRight) (sc := defScope sRight) (by decide +kernel)) (fun _ _ _ _ _ => pg_name (i := 13) scRight.nd rfl (Or.inl rfl)) (fun _ _ _ _ _ => pts_nil) (fun _ _ _ _ _ => (pe_call GText hr0 (by rfl) gText FText.kp bText .nil pass0 (pa_cons (pv 0) (pa_cons (pv 2) (pa_cons pe_int pa_nil))))))))
        (pss_cons (ps_set (i := 11) scRight.nd rfl (.inr rfl) (pe_call GText hr0 (by rfl) gText FText.kp bText .nil pass0 (pa_cons (pv 0) (pa_cons (pv 2) (pa_cons pe_int pa_nil)))))
        (Evl.pss_cut (ps_if (pt_cmpR op_eq (pe_call GDraw hr0 (by rfl) gDraw FDraw.kp bDraw .nil pass0 (pa_cons (pv 0) (pa_cons pe_int pa_nil))) pe_int (nomark _))
            (pss_cons (ps_set (i := 3) scRight.nd rfl (.inl rfl) (pe_call GDraw hr0 (by rfl) gDraw FDraw.kp bDraw .nil pass0 (pa_cons (pv 0) (pa_cons (pe_op op_add (pe_callB call_len_seq (by rfl) ml PySem.boot_len (pa_cons (pv 9) pa_nil)) pe_int) pa_nil))))
            (pss_one (ps_asg (pe_tup (pa_cons (pe_op op_catA (pe_op op_catA (pe_slice sl_tupA (pv 9) po_none (po_some (pv 3))) (pe_tup (pa_cons (pe_call GOdd hr0 (by rfl) gOdd FOdd.kp bOdd .nil pass0 (pa_cons (pv 0) pa_nil)) (pa_cons (pe_call GOdd hr0 (by rfl) gOdd FOdd.kp bOdd .nil pass0 (pa_cons (pv 0) pa_nil)) pa_nil)))) (pe_slice sl_tupA (pv 9) (po_some (pv 3)) po_none))
                (pa_cons (pe_call GOdd hr0 (by rfl) gOdd FOdd.kp bOdd .nil pass0 (pa_cons (pv 0) pa_nil)) pa_nil))) (pg_tup rfl (pgs_cons (pg_name (i := 9) scRight.nd rfl (.inr rfl)) (pgs_cons (pg_name (i := 11) scRight.nd rfl (.inr rfl)) pgs_nil)))))) pss_nil)
        (pss_cons (ps_par (i := 4) (j := 5) rfl scRight.nd rfl rfl (by decide) rfl rfl (pa_cons (pe_callB (cr_repr hgd hu) (by rfl) mp (by decide +kernel) (pa_cons (pe_tup (pa_cons (pv 9) (pa_cons (pv 11) pa_nil))) pa_nil))
            (pa_cons (pe_lc (own := [("_law_one", 14)]) (g := gName 14) rfl scRight.nd (pi_tup (pv 9)) (blkOk_by (N := NRight) (sc := defScope sRight) (by decide +kernel)) (fun _ _ _ _ _ => pg_name (i := 14) scRight.nd rfl (Or.inl rfl)) (fun _ _ _ _ _ => pts_one (pt_val (pe_call GLis hr0 (by rfl) gLis FLis.kp bLis .nil pass0 (pa_cons (pv 14) pa_nil)))) (fun _ _ _ _ _ => pv 14)) pa_nil)) (by rfl))
        (Evl.pss_cut (ps_set (i := 10) scRight.nd rfl (.inr rfl) (pe_call GPrs hr0 (by rfl) gPrs FPrs.kp bPrs .nil pass0 (pa_cons (pv 5) pa_nil)))
        (pss_cons (ps_set (i := 6) scRight.nd rfl (.inl rfl) (pe_lstN (pa_cons (pe_lamcall (T := RTabs T) (k := k) (Ng := NMet) (by rfl) gMet FMet.kp lkm cim bMet scMet rfl (.inl rfl) (met_gives MC) TB (by rw [hcd] <;> rfl) (List.mem_singleton.mpr rfl) (fun p hp _ => by rw [List.mem_singleton.mp hp] <;> rfl) hr (lamS_by (by show lamSB (defScope sRight) _ = true; decide +kernel)) rfl (fun _ _ _ _ _ => rfl)
            (fun _ _ _ _ E _ _ hq => pe_call GAll hq (by rfl) gAll FAll.kp bAll .nil (passes_call (takes_of rfl rfl rfl rfl) (fun _ _ _ _ h => h)) (pa_cons (pv 9) pa_nil))) pa_nil)))
        (pss_cons (ps_expr (pe_bm PySem.F.plainAttrs_list PySem.F.slot_list_append PySem.F.type_list_append mt_append (pv 6) (pa_cons (pe_lamcall (T := RTabs T) (k := k) (Ng := NMet) (by rfl) gMet FMet.kp lkm cim bMet scMet rfl (.inl rfl) (met_gives MC) TB (by rw [hcd] <;> rfl) (List.mem_singleton.mpr rfl) (fun p hp _ => by rw [List.mem_singleton.mp hp] <;> rfl) hr (lamS_by (by show lamSB (defScope sRight) _ = true; decide +kernel)) rfl (fun _ _ _ _ _ => rfl)
            (fun _ _ _ _ E _ _ hq => pe_kwX (ks := ["texts"]) (pm := fun zs => zs) GAll hq (by rfl) gAll FAll.kp kAll (fun r _ => r) (passes_call (takes_of rfl rfl rfl rfl) (fun _ _ _ _ h => h)) (pk_cons (pv 9) pk_nil))) pa_nil)))
        (Evl.pss_cut (ps_if (pt_cmpR op_ne (pe_callB (cr_repr hgd hu) (by rfl) mp (by decide +kernel) (pa_cons (pv 6) pa_nil)) (pe_callB (cr_repr hgd hu) (by rfl) mp (by decide +kernel) (pa_cons (pe_op op_rep2 (pe_lst (pa_cons (pe_call GDue hr0 (by rfl) gDue FDue.kp bDue .nil pass0 (pa_cons (pv 9) (pa_cons (pv 10) pa_nil))) pa_nil)) pe_int) pa_nil)) (nomark _)) (pss_one (ps_ret pe_bl)) pss_nil)
        (Evl.pss_cut (ps_set (i := 7) scRight.nd rfl (.inl rfl) (pe_and (pe_call GLis hr0 (by rfl) gLis FLis.kp bLis .nil pass0 (pa_cons (pv 11) pa_nil)) (pe_one (pe_callB (cr_all rfl) (by rfl) ma (by decide +kernel) (pa_cons (pe_lc (own := [("_law_one", 14)]) (g := gName 14) (tt := tYes) rfl scRight.nd (pi_tup (pe_call GPrs hr0 (by rfl) gPrs FPrs.kp bPrs .nil pass0 (pa_cons (pe_tup (pa_cons (pv 11) pa_nil)) pa_nil))) (blkOk_by (N := NRight) (sc := defScope sRight) (by decide +kernel)) (fun _ _ _ _ _ => pg_name (i := 14) scRight.nd rfl (Or.inl rfl)) (fun _ _ _ _ _ => pts_nil) (te := tOp (rIn K false) (tVar 14) (tVar 10)) (fun _ _ _ _ _ => pe_cmpR op_in_seq (pv 14) (pv 10) (by rfl))) pa_nil)))))
        (pss_cons (ps_set (i := 6) scRight.nd rfl (.inl rfl) (pe_lstN (pa_cons (pe_lamcall (T := RTabs T) (k := k) (Ng := NMet) (by rfl) gMet FMet.kp lkm cim bMet scMet rfl (.inl rfl) (met_gives MC) TB (by rw [hcd] <;> rfl) (List.mem_singleton.mpr rfl) (fun p hp _ => by rw [List.mem_singleton.mp hp] <;> rfl) hr (lamS_by (by show lamSB (defScope sRight) _ = true; decide +kernel)) rfl (fun _ _ _ _ _ => rfl)
            (fun _ _ _ _ E _ _ hq => pe_call GAlw hq (by rfl) gAlw FAlw.kp bAlw .nil (passes_call (takes_of rfl rfl rfl rfl) (fun _ _ _ _ h => h)) (pa_cons (pv 10) (pa_cons (pv 11) pa_nil)))) pa_nil)))
        (pss_cons (ps_expr (pe_bm PySem.F.plainAttrs_list PySem.F.slot_list_append PySem.F.type_list_append mt_append (pv 6) (pa_cons (pe_lamcall (T := RTabs T) (k := k) (Ng := NMet) (by rfl) gMet FMet.kp lkm cim bMet scMet rfl (.inl rfl) (met_gives MC) TB (by rw [hcd] <;> rfl) (List.mem_singleton.mpr rfl) (fun p hp _ => by rw [List.mem_singleton.mp hp] <;> rfl) hr (lamS_by (by show lamSB (defScope sRight) _ = true; decide +kernel)) rfl (fun _ _ _ _ _ => rfl)
            (fun _ _ _ _ E _ _ hq => pe_kwX (ks := ["text", "pairs"]) (pm := swp) GAlw hq (by rfl) gAlw FAlw.kp kAlw (fun r _ => swp_vals r) (passes_call (takes_of rfl rfl rfl rfl) (fun _ _ _ _ h => h)) (pk_cons (pv 11) (pk_cons (pv 10) pk_nil)))) pa_nil)))
        (Evl.pss_cut (ps_if (pt_cmpR op_ne (pe_callB (cr_repr hgd hu) (by rfl) mp (by decide +kernel) (pa_cons (pv 6) pa_nil)) (pe_callB (cr_repr hgd hu) (by rfl) mp (by decide +kernel) (pa_cons (pe_op op_rep2 (pe_lst (pa_cons (pe_call GDue hr0 (by rfl) gDue FDue.kp bDue .nil pass0 (pa_cons (pe_tup (pa_cons (pv 11) pa_nil)) (pa_cons (pv 7) pa_nil))) pa_nil)) pe_int) pa_nil)) (nomark _)) (pss_one (ps_ret pe_bl)) pss_nil)
        (Evl.pss_cut (ps_for PassesOwn.never rfl (pi_tup (pe_op op_catA (pv 9) (pe_tup (pa_cons (pv 11) pa_nil)))) (pg_name (i := 12) scRight.nd rfl (.inr rfl))
          (pss_cons (ps_set (i := 8) scRight.nd rfl (.inl rfl) (pe_call GDue hr0 (by rfl) gDue FDue.kp bDue .nil pass0 (pa_cons (pe_tup (pa_cons (pv 12) pa_nil)) (pa_cons (pe_call GPrs hr0 (by rfl) gPrs FPrs.kp bPrs .nil pass0 (pa_cons (pe_lc (own := [("_law_one", 14)]) (g := gName 14) rfl scRight.nd (pi_tup (pe_tup (pa_cons (pv 12) pa_nil))) (blkOk_by (N := NRight) (sc := defScope sRight) (by decide +kernel)) (fun _ _ _ _ _ => pg_name (i := 14) scRight.nd rfl (Or.inl rfl)) (fun _ _ _ _ _ => pts_one (pt_val (pe_call GLis hr0 (by rfl) gLis FLis.kp bLis .nil pass0 (pa_cons (pv 14) pa_nil)))) (fun _ _ _ _ _ => pv 14)) pa_nil)) pa_nil))))
          (pss_cons (ps_set (i := 6) scRight.nd rfl (.inl rfl) (pe_lstN (pa_cons (pe_lamcall (T := RTabs T) (k := k) (Ng := NMet) (by rfl) gMet FMet.kp lkm cim bMet scMet rfl (.inl rfl) (met_gives MC) TB (by rw [hcd] <;> rfl) (List.mem_singleton.mpr rfl) (fun p hp _ => by rw [List.mem_singleton.mp hp] <;> rfl) hr (lamS_by (by show lamSB (defScope sRight) _ = true; decide +kernel)) rfl (fun _ _ _ _ _ => rfl)
            (fun _ _ _ _ E _ _ hq => pe_call GOf hq (by rfl) gOf FOf.kp bOf .nil (passes_call (takes_of rfl rfl rfl rfl) (fun _ _ _ _ h => h)) (pa_cons (pv 12) pa_nil))) pa_nil)))
          (pss_cons (ps_expr (pe_bm PySem.F.plainAttrs_list PySem.F.slot_list_append PySem.F.type_list_append mt_append (pv 6) (pa_cons (pe_lamcall (T := RTabs T) (k := k) (Ng := NMet) (by rfl) gMet FMet.kp lkm cim bMet scMet rfl (.inl rfl) (met_gives MC) TB (by rw [hcd] <;> rfl) (List.mem_singleton.mpr rfl) (fun p hp _ => by rw [List.mem_singleton.mp hp] <;> rfl) hr (lamS_by (by show lamSB (defScope sRight) _ = true; decide +kernel)) rfl (fun _ _ _ _ _ => rfl)
            (fun _ _ _ _ E _ _ hq => pe_kwX (ks := ["text"]) (pm := fun zs => zs) GOf hq (by rfl) gOf FOf.kp kOf (fun r _ => r) (passes_call (takes_of rfl rfl rfl rfl) (fun _ _ _ _ h => h)) (pk_cons (pv 12) pk_nil))) pa_nil)))
          (pss_one (ps_if (pt_cmpR op_ne (pe_callB (cr_repr hgd hu) (by rfl) mp (by decide +kernel) (pa_cons (pv 6) pa_nil)) (pe_callB (cr_repr hgd hu) (by rfl) mp (by decide +kernel) (pa_cons (pe_lstN (pa_cons (pv 8) (pa_cons (pv 8) pa_nil))) pa_nil)) (nomark _)) (pss_one (ps_ret pe_bl)) pss_nil))))))
        (pss_one (ps_if (pt_cmpR op_ne (pe_callB (cr_repr hgd hu) (by rfl) mp (by decide +kernel) (pa_cons (pe_tup (pa_cons (pv 9) (pa_cons (pv 11) pa_nil))) pa_nil)) (pv 4) (nomark _)) (pss_one (ps_ret pe_bl)) pss_nil)))))))))))))))))
      (pss_one (ps_ret pe_bl)), ?_⟩
    have sl : ∀ n : Nat, n ≤ 20000 → n ≤ sizeLine := fun n h => Nat.le_trans h (by decide)
    refine ⟨_, rfl, by decide, by decide, ?_⟩
    refine for_it (walk_range (lo := 0) (n := 30)) (fun i σ H2 => ∃ y1 y2 y3 y4 y5 y6 y7 y8 y9 y10 y11 y12, σ = [some (.ref p), y1, y2, y3, y4, y5, y6, y7, y8, y9, y10, y11, y12, none, none] ∧ Pot H2 p (200 * (i : Int)) ∧ KpN p H H2 ∧ Tabs (RTabs T) H2)
      ⟨_, _, _, _, _, _, _, _, _, _, _, _, rfl, hp.mono (by omega), (fun b o _ z _ => z), hT⟩ (fun _ _ _ _ _ => True.intro) (fun i x σ H1o H1 hi hP hy => ?_) (fun σ H2 hP => ?_)
    · obtain ⟨y1, y2, y3, y4, y5, y6, y7, y8, y9, y10, y11, y12, rfl, hp1, k1, t1⟩ := hP
      obtain ⟨rfl, rfl⟩ := hy
      -- letters
      refine ⟨.ref p, rfl, rfl, sl 4 (by decide), fun l nl => ⟨p, _, .ref l, rfl, hp1.up nl, by omega, .inr ⟨l, _, rfl, fun hK => .inl (.inl (hK l _ (hp1.ne nl) upd_same)), (show 0 < 4 by decide), (show 4 ≤ 1000 by decide), fun vL H2 hvL hp2 k2 => ?_⟩⟩⟩
      obtain ⟨L, rfl, l0, lK, lc⟩ : ∃ L : Str, vL = .str L ∧ 0 < L.length ∧ L.length ≤ 1000 ∧ ∀ c ∈ L.cps.toList, c < 128 := by
        simp only [List.mem_cons, List.not_mem_nil, or_false] at hvL
        rcases hvL with rfl | rfl | rfl | rfl
        · exact ⟨_, rfl, by decide +kernel, by decide +kernel, by decide +kernel⟩
        · exact ⟨_, rfl, by decide +kernel, by decide +kernel, by decide +kernel⟩
        · exact ⟨_, rfl, by decide +kernel, by decide +kernel, by decide +kernel⟩
        · exact ⟨_, rfl, by decide +kernel, by decide +kernel, by decide +kernel⟩
      have k2' : Kp p H1 H2 := (Kp.same (Same.upd nl)).trans k2
      clear hvL k2
      -- lots
      refine ⟨.ref p, rfl, p, _, _, rfl, hp2, by omega, by decide, by decide, fun r H3 r0 r1 hp3 k3 => ⟨r, rfl, by omega, by omega, fun D hD => ?_⟩⟩
      obtain ⟨j, rfl⟩ := Int.eq_ofNat_of_zero_le r0
      rw [Int.toNat_natCast]
      have hj : j ≤ 4 := by omega
      refine lc_it (walk_range (lo := 0) (n := j)) (fun i' Hx => ∃ ts : List Str, ts.length = i' ∧ (∀ t ∈ ts, t.length ≤ 9 ∧ ∀ c ∈ t.cps.toList, c < 128) ∧ Pot Hx p (200 * (i : Int) + 2 + 10 * i') ∧ Kp p H1 Hx ∧ Hx D = some (.lst (ts.map V.str)))
        ⟨[], rfl, (fun _ h => nomatch h), (hp3.up hD).mono (by omega), (k2'.trans k3).trans (Kp.same (Same.upd hD)), upd_same⟩ (fun _ _ _ _ => True.intro) (fun i' x Hxo Hx hi' hP hy => ?_) (fun Hx hP => ?_)
      · obtain ⟨ts, tl, tt, hpx, kx, ex⟩ := hP
        obtain ⟨rfl, rfl⟩ := hy
        have nD : D ≠ p := hp3.ne hD
        refine ⟨rfl, .ref p, rfl, .str L, rfl, p, _, L, 9, rfl, hpx, by omega, by decide, l0, lK, fun t Hy lt ht hpy ky => ⟨_, ky D _ nD ex, ?_, ts ++ [tx t], by rw [List.length_append, tl] <;> rfl, fun t' ht' => ?_, (hpy.wr nD).mono (by omega), ?_, ?_⟩⟩
        · rw [List.length_map, tl]
          exact Nat.lt_of_lt_of_le (show i' < 200 by omega) (by decide)
        · rcases List.mem_append.mp ht' with z | z
          · exact tt t' z
          · rw [List.mem_singleton.mp z]
            refine ⟨?_, fun c hc => ?_⟩
            · show t.toArray.size ≤ 9
              rw [List.size_toArray]
              exact lt
            · have hc : c ∈ t.toArray.toList := hc
              exact lc c (ht c (by simpa using hc))
        · intro b o nb hb
          have nbD : b ≠ D := fun z => by
            have q1 := (k2'.trans k3) b o nb hb
            rw [z, hD] at q1
            cases q1
          rw [upd_ne nbD]
          exact ky b o nb (kx b o nb hb)
        · rw [upd_same, List.map_append] <;> rfl
      · obtain ⟨ts, tl, tt, hpx, kx, ex⟩ := hP
        refine .inl ⟨D, _, rfl, .inl (.inl ex), fun lots nlots => ?_⟩
        have npl : lots ≠ p := hpx.ne nlots
        have elots : upd Hx lots (.tup (ts.map V.str)) lots = some (.tup (ts.map V.str)) := upd_same
        have kL : Kp p H1 (upd Hx lots (.tup (ts.map V.str))) := kx.trans (Kp.same (Same.upd nlots))
        -- the other one
        refine ⟨.ref p, rfl, .str L, rfl, p, _, L, 5, rfl, hpx.up nlots, by omega, by decide, l0, lK, fun t2 H4 lt2 ht2 hp4 k4 => ?_⟩
        have el4 := k4 _ _ npl elots
        have kH4 := kL.trans k4
        have so4 : Sm 140 15 (.str (tx t2)) := (sm_str (n := 140) (fun c hc => lc c (ht2 c (by
          have hc : c ∈ t2.toArray.toList := hc
          simpa using hc))) (by
          show t2.toArray.size ≤ 140
          rw [List.size_toArray]
          omega)).mono (Nat.le_refl _) (by decide)
        have st4 : ∀ t ∈ ts, Sm 140 15 (.str t) := fun t ht => (sm_str (n := 140) (tt t ht).2 (by have z := (tt t ht).1; omega)).mono (Nat.le_refl _) (by decide)
        clear elots kL k4 ex kx k2' k3
        have toTab : ∀ {Hy : Hp}, Kp p H1 Hy → Tabs (RTabs T) Hy := fun k => Tabs.kp hp1 k t1
        refine ⟨fun σ H' => ∃ z1 z2 z3 z4 z5 z6 z7 z8 lots z10 o z12 xs ds e, σ = [some (.ref p), z1, z2, z3, z4, z5, z6, z7, z8, some (.ref lots), z10, some o, z12, none, none] ∧ Fx T p (200 * ((i + 1 : Nat) : Int)) H lots xs ds o e H', ?_, fun σ Hm hM => ?_⟩
        · refine ⟨.ref p, rfl, p, _, 3, rfl, hp4, by omega, by decide, by decide, fun r5 H5 _ _ hp5 k5 => ⟨rfl, _, rfl, ?_⟩⟩
          have el5 := k5 _ _ npl el4
          have kH5 := kH4.trans k5
          refine ite2 (fun _ => ?_) (fun _ => ?_)
          · refine ⟨.ref p, rfl, .ref lots, rfl, lots, _, rfl, .inr (.inl (.inl el5)), _, _, rfl, rfl, p, _, _, rfl, hp5, by omega, by omega, by rw [List.length_map]; omega, fun at6 H6 a0 a1 hp6 k6 => ?_⟩
            obtain ⟨ai, rfl⟩ := Int.eq_ofNat_of_zero_le a0
            rw [List.length_map] at a1
            have hai : ai ≤ ts.length := by omega
            have el6 := k6 _ _ npl el5
            have kH6 := kH5.trans k6
            refine ⟨.ref lots, rfl, .int ai, rfl, (ai : Int), rfl, slA_take el6 (by rw [List.length_map]; exact hai) fun b1 H7 s7 eb1 => ?_⟩
            have hp7 := sPotS s7 hp6
            have nb1 := pot_tup hp7 eb1
            refine ⟨.ref p, rfl, p, _, rfl, hp7, by omega, fun v1 d1 H8 od1 sm1 hp8 k8 => ⟨.ref p, rfl, p, _, rfl, hp8, by omega, fun v2 d2 H9 od2 sm2 hp9 k9 => ⟨sl 2 (by decide), fun t0 nt0 => ?_⟩⟩⟩
            have eb9 := k9 _ _ nb1 (k8 _ _ nb1 eb1)
            have s10 := Same.upd (o := HO.tup [v1, v2]) nt0
            refine catA_of (s10 _ _ eb9) upd_same (by rw [List.length_take, List.length_map]; exact sl _ (by simp only [List.length_cons, List.length_nil]; omega)) fun b2 H10 s11 eb2 => ?_
            have el10 := s11 _ _ (s10 _ _ (k9 _ _ npl (k8 _ _ npl (s7 _ _ el6))))
            refine ⟨.ref lots, rfl, .int ai, rfl, (ai : Int), rfl, ?_⟩
            unfold tNoPart
            refine slA_drop el10 (by rw [List.length_map]; exact hai) fun b3 H11 s12 eb3 => ?_
            refine catA_of (s12 _ _ eb2) eb3 (by rw [List.length_append, List.length_take, List.length_drop, List.length_map]; exact sl _ (by simp only [List.length_cons, List.length_nil]; omega)) fun b4 H12 s13 eb4 => ?_
            have s14 : Same H9 H12 := s10.trans (s11.trans (s12.trans s13))
            have hp12 := sPotS s14 hp9
            have nb4 := pot_tup hp12 eb4
            refine ⟨.ref p, rfl, p, _, rfl, hp12, by omega, fun v3 d3 H13 od3 sm3 hp13 k13 => ⟨sl 2 (by decide), fun t9 nt9 => ⟨t9, _, rfl, .inl (.inl upd_same), rfl, _, _, rfl, _, _, rfl, rfl, ?_⟩⟩⟩
            have s15 := Same.upd (o := HO.tup [.ref b4, v3]) nt9
            have kE : Kp p H1 (upd H13 t9 (.tup [.ref b4, v3])) := kH6.trans ((Kp.same s7).trans (k8.trans (k9.trans ((Kp.same s14).trans (k13.trans (Kp.same s15))))))
            have k89 : Kp p H8 (upd H13 t9 (.tup [.ref b4, v3])) := k9.trans ((Kp.same s14).trans (k13.trans (Kp.same s15)))
            have k99 : Kp p H9 (upd H13 t9 (.tup [.ref b4, v3])) := (Kp.same s14).trans (k13.trans (Kp.same s15))
            refine ⟨_, _, _, _, _, _, _, _, b4, _, v3, _, _, (ts.take ai).map PyData.str ++ [d1, d2] ++ (ts.drop ai).map PyData.str, d3, rfl, (sPotS s15 hp13).mono (by omega), toTab kE, k1.trans (KpN.of kE), s15 _ _ (k13 _ _ nb4 eb4), ?_, od3.mono (Kp.same s15), ?_, fun d hd => ?_, sm3⟩
            · rw [← List.map_take, ← List.map_drop]
              exact ((OdAll.strs _).app (.cons (od1.mono k89) (.cons (od2.mono k99) .nil))).app (OdAll.strs _)
            · rw [List.length_append, List.length_append, List.length_map, List.length_map, List.length_take, List.length_drop]
              simp only [List.length_cons, List.length_nil]
              omega
            · rcases List.mem_append.mp hd with hd | hd
              · rcases List.mem_append.mp hd with hd | hd
                · obtain ⟨t, ht, rfl⟩ := List.mem_map.mp hd
                  exact st4 t (List.mem_of_mem_take ht)
                · rcases List.mem_cons.mp hd with rfl | hd
                  · exact sm1
                  · rw [List.mem_singleton.mp hd]
                    exact sm2
              · obtain ⟨t, ht, rfl⟩ := List.mem_map.mp hd
                exact st4 t (List.mem_of_mem_drop ht)
          · refine ⟨_, _, _, _, _, _, _, _, lots, _, _, _, _, ts.map PyData.str, .str (tx t2), rfl, hp5.mono (by omega), toTab kH5, k1.trans (KpN.of kH5), el5, OdAll.strs ts, .str _, by rw [List.length_map]; omega, fun d hd => ?_, so4⟩
            obtain ⟨t, ht, rfl⟩ := List.mem_map.mp hd
            exact st4 t ht
        · obtain ⟨z1, z2, z3, z4, z5, z6, z7, z8, lots, z10, o, z12, xs, ds, e, rfl, fx⟩ := hM
          clear el4 kH4 so4 st4 ht2 hp4 lt2 npl nlots hpx tt tl
          have smA := fx.sm
          have lds : xs.length = ds.length := fx.oa.len
          have hll := fx.ll
          refine ⟨.ref lots, rfl, o, rfl, sl 2 (by decide), fun t0 nt0 => ⟨.ref t0, true, p, .tuple [.tuple ds, e], 1700, 17, rfl, fx.pair nt0, fx.psm, by decide, by decide, ?_⟩⟩
          replace fx := fx.same (Same.upd (o := HO.tup [.ref lots, o]) nt0)
          refine ⟨.ref lots, rfl, lots, rfl, ⟨_, .inl (.inl fx.el)⟩, fun D hD => lc_fun (walk_tup (K := K) (a := lots) (xs := xs)) (fun i => dTx ((ds).getD i .none)) (fun i => vOf ((ds).getD i .none)) (by rw [lds]; omega) hD (fun Ha sa => .inl (.inl (sa _ _ fx.el))) (fun i x Ha Hb N M hi sa hy hN hM => ?_) (fun Hg sg eg => ?_)⟩
          · obtain ⟨rfl, hv⟩ := hy
            obtain ⟨dg, hd, od⟩ := (fx.oa).get hv
            have eg : (ds).getD i .none = dg := by rw [List.getD_eq_getElem?_getD, hd] <;> rfl
            rw [eg] at hN hM
            have smd := smA dg (List.mem_of_getElem? hd)
            refine ⟨rfl, x, rfl, x, true, p, dg, rfl, od.mono (fun b u _ z => sa b u z), Nat.le_trans smd.wt (by decide), fun H4 s4 => ⟨dTx dg, rfl, ?_⟩⟩
            cases ed : dTx dg with
            | false => exact iteF (hM ed H4 s4)
            | true =>
              obtain ⟨x', rfl, _⟩ := dTx_str ed
              cases od
              exact iteT ⟨_, rfl, hN ed H4 s4⟩
          · have eg2 : Hg D = some (.lst ((gds (ds)).map V.str)) := by
              rw [eg, (fx.oa).len, filt_any PyData.none vOf dTx (ds), gds_eq]
            refine ⟨_, _, rfl, ?_⟩
            replace fx := fx.same sg
            refine ⟨fun σ H' => ∃ mine ys, SrtOf ((gds ds).flatMap fun x => pin x.cps.toList) ys ∧ Md T p (200 * ((i + 1 : Nat) : Int)) H lots xs ds o e (PyData.tuple [.tuple ds, e]).shown mine ys (fun _ => True) σ H', ?_, fun σ Hn hN => ?_⟩
            · refine ⟨.ref D, rfl, D, gds ds, rfl, .inl (.inl (.inl eg2)), Nat.le_trans (gds_len ds) (by omega), fun x hx => Nat.le_trans (smA _ (gds_mem hx).1).wt (by decide), fun ys m H' hs nm s em => ?_⟩
              exact ⟨m, ys, hs, _, _, _, _, _, _, _, _, rfl, fx.same s, em, True.intro⟩
            obtain ⟨mine, ys, hs, z1, z2, z3, z5, z6, z7, z8, z12, rfl, fx, em, _⟩ := hN
            refine use_met (met_all (l := p) fx.pot fx.pot.lst fx.el fx.oa fx.oa (by omega) (fun d hd => Nat.le_trans (smA d hd).wt (by decide)) fx.tab hs (fun v1 H1 e1 t1 od1 _ => ?_)) (fun E H' Q' _ z => ⟨.ref lots, rfl, z⟩)
            have fx1 := fx.ext e1 t1
            refine ⟨sl 1 (by decide), fun L nL mL => ?_⟩
            have sL := Same.upd (o := HO.lst [v1]) nL
            have fx2 := fx1.same sL
            have nLp : L ≠ p := fx1.pot.ne nL
            refine ⟨.ref L, rfl, .inl ⟨rfl, _, .inl (.inl upd_same)⟩, ?_⟩
            refine use_met (met_all (l := L) fx2.pot ⟨_, upd_same⟩ fx2.el fx2.oa ((fx1.oa.off nL).ext (extS sL)) (by omega) (fun d hd => Nat.le_trans (smA d hd).wt (by decide)) fx2.tab hs (fun v2 H3 e3 t3 od3 od3l => ?_)) (fun E H' Q' _ z => ⟨.ref lots, rfl, rfl, z⟩)
            have eL3 := lst_ext e3 (upd_same (H := H1) (a := L) (o := HO.lst [v1]))
            refine ⟨L, [v1], v2, rfl, rfl, eL3, (show 1 < sizeLine by decide), ?_⟩
            have E14 : ExtN H1 (upd H3 L (.lst [v1, v2])) := ExtN.mut ((extS sL).trans e3) nL
            have fx4 := fx1.ext E14 (Tabs.wr (o := HO.lst [v1, v2]) eL3 t3)
            have od4 : Od true p (upd H3 L (.lst [v1, v2])) v2 (outD ds (.tuple (ys.map PyData.str))) := Od.both (q := L) (fun b o _ nb z _ => by
              rw [upd_ne nb]
              exact z) od3 od3l
            have smD : Sm 6000 16 (outD ds (.tuple (ys.map PyData.str))) := sm_out smA ((sm_ys hs hll smA).mono (by decide) (by decide))
            have em4 := (e1.trans E14) _ _ em (fun _ z => by cases z)
            refine ⟨Md T p (200 * ((i + 1 : Nat) : Int)) H lots xs ds o e (PyData.tuple [.tuple ds, e]).shown mine ys (fun _ => True), ?_, ?_⟩
            · refine ⟨.ref L, rfl, .ref L, true, p, .list [outD ds (.tuple (ys.map PyData.str)), outD ds (.tuple (ys.map PyData.str))], 13000, 17, rfl, .lst nLp (fun _ => mL) upd_same (.cons (od1.ext E14) (.cons od4 .nil)), sm_two smD, by decide, by decide, ?_⟩
              refine ⟨.ref lots, rfl, .ref mine, rfl, ?_⟩
              unfold tNil
              refine due_of (x := .tuple (ys.map PyData.str)) fx4.pot fx4.el fx4.oa (by omega) (fun d hd => Nat.le_trans (smA d hd).wt (by decide)) (.tup (pot_tup fx4.pot em4) em4 (.strs ys)) (fun v5 H5 s5 od5 => ⟨sl 1 (by decide), fun L2 nL2 => ⟨L2, v5, rfl, rfl, upd_same, fun L3 nL3 mL3 => ?_⟩⟩)
              have s6 := s5.trans ((Same.upd (o := HO.lst [v5]) nL2).trans (Same.upd (o := HO.lst [v5, v5]) nL3))
              have o6 := od5.mono (H' := upd (upd H5 L2 (.lst [v5])) L3 (.lst [v5, v5])) (fun b u _ z => ((Same.upd nL2).trans (Same.upd nL3)) b u z)
              refine ⟨.ref L3, true, p, .list [outD ds (.tuple (ys.map PyData.str)), outD ds (.tuple (ys.map PyData.str))], 13000, 17, rfl, .lst ((sPotS (s5.trans (Same.upd nL2)) fx4.pot).ne nL3) (fun _ => mL3) upd_same (.cons o6 (.cons o6 .nil)), sm_two smD, by decide, by decide, rfl, _, rfl, str_ne ?_⟩
              exact ⟨_, _, _, _, _, _, _, _, rfl, fx4.same s6, s6 _ _ em4, True.intro⟩
            · intro σ Hn hN
              obtain ⟨z1, z2, z3, z5, z6, z7, z8, z12, rfl, fx, em, _⟩ := hN
              refine ⟨fun σ H' => ∃ b : Bool, (∀ x, e = .str x → isTx x = true → alw (fun p => decide (p ∈ ys)) x.cps.toList = b) ∧ Md T p (200 * ((i + 1 : Nat) : Int)) H lots xs ds o e (PyData.tuple [.tuple ds, e]).shown mine ys (fun z7 => z7 = some (.bl b)) σ H', ?_, fun σ Hn hN => ?_⟩
              · refine ⟨o, rfl, o, true, p, e, rfl, fx.oo, Nat.le_trans fx.so.wt (by decide), fun H1 s1 => ⟨dTx e, rfl, ?_⟩⟩
                have fx1 := fx.same s1
                cases he : dTx e with
                | false => exact iteF ⟨false, (fun x ex hx => by
                    rw [ex] at he
                    rw [show dTx (.str x) = true from hx] at he
                    cases he), _, _, _, _, _, _, _, _, rfl, fx1, s1 _ _ em, rfl⟩
                | true =>
                  obtain ⟨x, rfl, hx⟩ := dTx_str he
                  have eo : o = .str x := by
                    have z := fx.oo
                    cases z
                    rfl
                  subst eo
                  have lx : x.length ≤ 140 := fx.so.wt
                  refine iteT ⟨.str x, rfl, sl 1 (by decide), fun t nt => ⟨t, [x], rfl, .inr (.inl (.inl upd_same)), (show 1 ≤ 8 by decide), fun y hy => by
                    rw [List.mem_singleton.mp hy]
                    omega, fun y2 r H2 hs2 nr s2 er => ⟨r, rfl, ⟨_, .inl (.inl er)⟩, fun D hD => ?_⟩⟩⟩
                  have sA : Same Hn H2 := s1.trans ((Same.upd nt).trans s2)
                  have l2 : y2.length ≤ 141 := by
                    have a := hs2.2.length_eq
                    have b := toSet_len (List.flatMap (fun x => pin x.cps.toList) [x])
                    rw [List.flatMap_cons, List.flatMap_nil, List.append_nil, pin_len, ← str_len] at b
                    rw [List.flatMap_cons, List.flatMap_nil, List.append_nil] at a
                    omega
                  refine lc_map (walk_tup (K := K) (a := r) (xs := y2.map V.str)) (fun i => .bl (decide (y2.getD i Str.empty ∈ ys))) (by rw [List.length_map]; omega) hD (fun _ s3 => .inl (.inl (s3 _ _ er))) (fun i y H3 H4 N hi s3 hy hN => ?_) (fun H3 s3 e3 => ?_)
                  · obtain ⟨rfl, hv⟩ := hy
                    rw [List.getElem?_map] at hv
                    cases hz : y2[i]? with
                    | none =>
                      rw [hz] at hv
                      cases hv
                    | some z =>
                      rw [hz] at hv
                      obtain rfl : V.str z = y := Option.some.inj hv
                      have q3 := hN _ (Same.refl _)
                      rw [getD_at hz] at q3
                      refine ⟨rfl, .str z, rfl, .ref mine, rfl, mine, _, rfl, .inr (.inl (.inl (s3 _ _ (sA _ _ em)))), rfl, flat_str ys, ?_⟩
                      rw [inV_str]
                      exact q3
                  · have e4 : H3 D = some (.lst ((y2.map fun z => decide (z ∈ ys)).map V.bl)) := by
                      rw [e3, List.length_map, map_getD (fun z => V.bl (decide (z ∈ ys))) Str.empty, List.map_map] <;> rfl
                    refine ⟨D, _, rfl, .inl (.inl e4), ?_⟩
                    refine ⟨_, fun x' ex hx' => ?_, _, _, _, _, _, _, _, _, rfl, fx.same (sA.trans s3), (sA.trans s3) _ _ em, rfl⟩
                    obtain rfl : x = x' := PyData.str.inj ex
                    rw [List.all_map]
                    show (pin x.cps.toList).all (fun p => decide (p ∈ ys)) = y2.all _
                    refine (all_memeq _ fun k => ?_).trans rfl
                    rw [hs2.mem, List.flatMap_cons, List.flatMap_nil, List.append_nil]
              · obtain ⟨b, hb, z1, z2, z3, z5, z6, z7, z8, z12, rfl, fx, em, rfl⟩ := hN
                have se : ∀ d ∈ [e], Sm 140 15 d := fun d hd => by
                  rw [List.mem_singleton.mp hd]
                  exact fx.so
                refine use_met (met_alw (K := K) (d := e) (ms := ys) (b := b) (l := p) fx.pot fx.pot.lst em fx.oo fx.oo (Nat.le_trans fx.so.wt (by decide)) fx.tab hb (fun v1 H1 e1 t1 od1 _ => ?_)) (fun E H' Q' _ z => ⟨.ref mine, rfl, o, rfl, z⟩)
                have fx1 := fx.ext e1 t1
                refine ⟨sl 1 (by decide), fun L nL mL => ?_⟩
                have sL := Same.upd (o := HO.lst [v1]) nL
                have fx2 := fx1.same sL
                have nLp : L ≠ p := fx1.pot.ne nL
                refine ⟨.ref L, rfl, .inl ⟨rfl, _, .inl (.inl upd_same)⟩, ?_⟩
                refine use_met (met_alw (K := K) (d := e) (ms := ys) (b := b) (l := L) fx2.pot ⟨_, upd_same⟩ (sL _ _ (e1 _ _ em (fun _ z => by cases z))) fx2.oo ((fx1.oo.off nL).ext (extS sL)) (Nat.le_trans fx.so.wt (by decide)) fx2.tab hb (fun v2 H3 e3 t3 od3 od3l => ?_)) (fun E H' Q' _ z => ⟨o, rfl, .ref mine, rfl, rfl, z⟩)
                have eL3 := lst_ext e3 (upd_same (H := H1) (a := L) (o := HO.lst [v1]))
                refine ⟨L, [v1], v2, rfl, rfl, eL3, (show 1 < sizeLine by decide), ?_⟩
                have E14 : ExtN H1 (upd H3 L (.lst [v1, v2])) := ExtN.mut ((extS sL).trans e3) nL
                have fx4 := fx1.ext E14 (Tabs.wr (o := HO.lst [v1, v2]) eL3 t3)
                have od4 : Od true p (upd H3 L (.lst [v1, v2])) v2 (outD [e] (.bool b)) := Od.both (q := L) (fun b o _ nb z _ => by
                  rw [upd_ne nb]
                  exact z) od3 od3l
                have smD : Sm 6000 16 (outD [e] (.bool b)) := sm_out se (sm_bool b)
                have em4 := (e1.trans E14) _ _ em (fun _ z => by cases z)
                refine ⟨Md T p (200 * ((i + 1 : Nat) : Int)) H lots xs ds o e (PyData.tuple [.tuple ds, e]).shown mine ys (fun _ => True), ?_, ?_⟩
                · refine ⟨.ref L, rfl, .ref L, true, p, .list [outD [e] (.bool b), outD [e] (.bool b)], 13000, 17, rfl, .lst nLp (fun _ => mL) upd_same (.cons (od1.ext E14) (.cons od4 .nil)), sm_two smD, by decide, by decide, ?_⟩
                  refine ⟨o, rfl, sl 1 (by decide), fun t9 nt9 => ⟨.bl b, rfl, ?_⟩⟩
                  have s9 := Same.upd (o := HO.tup [o]) nt9
                  have fx5 := fx4.same s9
                  unfold tNil
                  refine due_of (ds := [e]) (xs := [o]) (x := .bool b) fx5.pot upd_same (.cons fx5.oo .nil) (show 1 ≤ 100 by decide) (fun d hd => Nat.le_trans (se d hd).wt (by decide)) (.bl b) (fun v5 H5 s5 od5 => ⟨sl 1 (by decide), fun L2 nL2 => ⟨L2, v5, rfl, rfl, upd_same, fun L3 nL3 mL3 => ?_⟩⟩)
                  have s6 := s5.trans ((Same.upd (o := HO.lst [v5]) nL2).trans (Same.upd (o := HO.lst [v5, v5]) nL3))
                  have o6 := od5.mono (H' := upd (upd H5 L2 (.lst [v5])) L3 (.lst [v5, v5])) (fun b u _ z => ((Same.upd nL2).trans (Same.upd nL3)) b u z)
                  refine ⟨.ref L3, true, p, .list [outD [e] (.bool b), outD [e] (.bool b)], 13000, 17, rfl, .lst ((sPotS (s5.trans (Same.upd nL2)) fx5.pot).ne nL3) (fun _ => mL3) upd_same (.cons o6 (.cons o6 .nil)), sm_two smD, by decide, by decide, rfl, _, rfl, str_ne ?_⟩
                  exact ⟨_, _, _, _, _, _, _, _, rfl, fx5.same s6, s6 _ _ (s9 _ _ em4), True.intro⟩
                · intro σ Hn hN
                  obtain ⟨z1, z2, z3, z5, z6, z7, z8, z12, rfl, fx, em, _⟩ := hN
                  refine ⟨Md T p (200 * ((i + 1 : Nat) : Int)) H lots xs ds o e (PyData.tuple [.tuple ds, e]).shown mine ys (fun _ => True), ?_, fun σ Hn hN => ?_⟩
                  · refine ⟨.ref lots, rfl, o, rfl, sl 1 (by decide), fun t0 nt0 => ?_⟩
                    have s0 := Same.upd (o := HO.tup [o]) nt0
                    refine catA_of (s0 _ _ fx.el) upd_same (by rw [lds]; exact sl _ (by simp only [List.length_cons, List.length_nil]; omega)) fun r Hr sr er => ⟨r, rfl, ⟨_, .inl (.inl er)⟩, ?_⟩
                    refine for_it (walk_tup (K := K) (a := r) (xs := xs ++ [o])) (fun i' σ H' => ∃ z1 z2 z3 z5 z6 z7 z8 z12, σ = [some (.ref p), z1, z2, z3, some (.str (PyData.tuple [.tuple ds, e]).shown), z5, z6, z7, z8, some (.ref lots), some (.ref mine), some o, z12, none, none] ∧ Fx T p (200 * ((i + 1 : Nat) : Int)) H lots xs ds o e H' ∧ H' r = some (.tup (xs ++ [o])) ∧ H' mine = some (.tup (ys.map V.str)))
                      ⟨_, _, _, _, _, _, _, _, rfl, fx.same (s0.trans sr), er, (s0.trans sr) _ _ em⟩ (fun i' σ H' _ hP => ?_) (fun i' v σ Hvo Hv hi hP hy => ?_) (fun σ H' hP => ?_)
                    · obtain ⟨_, _, _, _, _, _, _, _, _, _, er, _⟩ := hP
                      exact .inl (.inl er)
                    · obtain ⟨z1, z2, z3, z5, z6, z7, z8, z12, rfl, fx, er, em⟩ := hP
                      obtain ⟨rfl, hv⟩ := hy
                      obtain ⟨d, hd, odv⟩ := (fx.oa.app (.cons fx.oo .nil)).get hv
                      have smv : Sm 140 15 d := by
                        rcases List.mem_append.mp (List.mem_of_getElem? hd) with z | z
                        · exact smA d z
                        · rw [List.mem_singleton.mp z]
                          exact fx.so
                      have sms : ∀ d' ∈ [d], Sm 140 15 d' := fun d' hd' => by
                        rw [List.mem_singleton.mp hd']
                        exact smv
                      clear hd hv
                      refine ⟨v, rfl, sl 1 (by decide), fun t nt => ⟨v, rfl, sl 1 (by decide), fun t2 nt2 => ⟨t2, rfl, ⟨_, .inl (.inl upd_same)⟩, fun D hD => ?_⟩⟩⟩
                      have odt : Od true p (upd (upd Hv t (.tup [v])) t2 (.tup [v])) v d := odv.mono (fun b u _ z => ((Same.upd nt).trans (Same.upd nt2)) b u z)
                      refine lc_fun (walk_tup (K := K) (a := t2) (xs := [v])) (fun i => dTx (([d]).getD i .none)) (fun i => vOf (([d]).getD i .none)) (show 1 ≤ 1000000 by decide) hD (fun Ha sa => .inl (.inl (sa _ _ (upd_same (o := HO.tup [v]))))) (fun i x Ha Hb N M hi sa hy hN hM => ?_) (fun Hg sg eg => ?_)
                      · obtain ⟨rfl, hv⟩ := hy
                        obtain ⟨dg, hd, od⟩ := (OdAll.cons odt .nil).get hv
                        have eg : ([d]).getD i .none = dg := by rw [List.getD_eq_getElem?_getD, hd] <;> rfl
                        rw [eg] at hN hM
                        have smd := sms dg (List.mem_of_getElem? hd)
                        refine ⟨rfl, x, rfl, x, true, p, dg, rfl, od.mono (fun b u _ z => sa b u z), Nat.le_trans smd.wt (by decide), fun H4 s4 => ⟨dTx dg, rfl, ?_⟩⟩
                        cases ed : dTx dg with
                        | false => exact iteF (hM ed H4 s4)
                        | true =>
                          obtain ⟨x', rfl, _⟩ := dTx_str ed
                          cases od
                          exact iteT ⟨_, rfl, hN ed H4 s4⟩
                      · have eg2 : Hg D = some (.lst ((gds ([d])).map V.str)) := by
                          rw [eg, (OdAll.cons odt .nil).len, filt_any PyData.none vOf dTx ([d]), gds_eq]
                        refine ⟨D, gds [d], rfl, .inl (.inl (.inl eg2)), Nat.le_trans (gds_len [d]) (show 1 ≤ 8 by decide), fun x hx => Nat.le_trans (sms _ (gds_mem hx).1).wt (by decide), fun yt m Hm hst nm sm' em' => ?_⟩
                        have sAll : Same Hv Hm := (Same.upd nt).trans ((Same.upd nt2).trans (sg.trans sm'))
                        replace fx := fx.same sAll
                        replace em := sAll _ _ em
                        replace er := sAll _ _ er
                        replace odv := odv.mono (fun b u _ z => sAll b u z)
                        unfold tNil
                        refine due_of (ds := [d]) (xs := [v]) (x := .tuple (yt.map PyData.str)) fx.pot (((Same.upd nt2).trans (sg.trans sm')) _ _ upd_same) (.cons odv .nil) (show 1 ≤ 100 by decide) (fun d' hd' => Nat.le_trans (sms d' hd').wt (by decide)) (.tup (pot_tup fx.pot em') em' (.strs yt)) (fun v8 H8 s8 od8 => ?_)
                        replace fx := fx.same s8
                        replace em := s8 _ _ em
                        replace er := s8 _ _ er
                        replace odv := odv.mono (fun b u _ z => s8 b u z)
                        refine use_met (met_one (d := d) (ys := yt) (l := p) fx.pot fx.pot.lst odv odv (Nat.le_trans smv.wt (by decide)) fx.tab hst (fun v1 H1 e1 t1 od1 _ => ?_)) (fun E H' Q' _ z => ⟨v, rfl, z⟩)
                        have fx1 := fx.ext e1 t1
                        refine ⟨sl 1 (by decide), fun L nL mL => ?_⟩
                        have sL := Same.upd (o := HO.lst [v1]) nL
                        have fx2 := fx1.same sL
                        have nLp : L ≠ p := fx1.pot.ne nL
                        refine ⟨.ref L, rfl, .inl ⟨rfl, _, .inl (.inl upd_same)⟩, ?_⟩
                        refine use_met (met_one (d := d) (ys := yt) (l := L) fx2.pot ⟨_, upd_same⟩ (odv.ext (e1.trans (extS sL))) (((odv.ext e1).off nL).ext (extS sL)) (Nat.le_trans smv.wt (by decide)) fx2.tab hst (fun v2 H3 e3 t3 od3 od3l => ?_)) (fun E H' Q' _ z => ⟨v, rfl, rfl, z⟩)
                        have eL3 := lst_ext e3 (upd_same (H := H1) (a := L) (o := HO.lst [v1]))
                        refine ⟨L, [v1], v2, rfl, rfl, eL3, (show 1 < sizeLine by decide), ?_⟩
                        have E14 : ExtN H1 (upd H3 L (.lst [v1, v2])) := ExtN.mut ((extS sL).trans e3) nL
                        have fx4 := fx1.ext E14 (Tabs.wr (o := HO.lst [v1, v2]) eL3 t3)
                        have od4 : Od true p (upd H3 L (.lst [v1, v2])) v2 (outD [d] (.tuple (yt.map PyData.str))) := Od.both (q := L) (fun b o _ nb z _ => by
                          rw [upd_ne nb]
                          exact z) od3 od3l
                        have smD : Sm 6000 16 (outD [d] (.tuple (yt.map PyData.str))) := sm_out sms ((sm_ys hst (show 1 ≤ 6 by decide) sms).mono (by decide) (by decide))
                        refine ⟨.ref L, rfl, .ref L, true, p, .list [outD [d] (.tuple (yt.map PyData.str)), outD [d] (.tuple (yt.map PyData.str))], 13000, 17, rfl, .lst nLp (fun _ => mL) upd_same (.cons (od1.ext E14) (.cons od4 .nil)), sm_two smD, by decide, by decide, ?_⟩
                        refine ⟨v8, rfl, v8, rfl, sl 2 (by decide), fun L3 nL3 mL3 => ?_⟩
                        have o6 := (od8.ext (e1.trans E14)).mono (H' := upd (upd H3 L (.lst [v1, v2])) L3 (.lst [v8, v8])) (fun b u _ z => (Same.upd nL3) b u z)
                        refine ⟨.ref L3, true, p, .list [outD [d] (.tuple (yt.map PyData.str)), outD [d] (.tuple (yt.map PyData.str))], 13000, 17, rfl, .lst (fx4.pot.ne nL3) (fun _ => mL3) upd_same (.cons o6 (.cons o6 .nil)), sm_two smD, by decide, by decide, rfl, _, rfl, str_ne ?_⟩
                        have fx9 := fx4.same (Same.upd (o := HO.lst [v8, v8]) nL3)
                        exact ⟨_, _, _, _, _, _, _, _, rfl, fx9, (Same.upd nL3) _ _ ((e1.trans E14) _ _ er (fun _ z => by cases z)), (Same.upd nL3) _ _ ((e1.trans E14) _ _ em (fun _ z => by cases z))⟩
                    · obtain ⟨z1, z2, z3, z5, z6, z7, z8, z12, rfl, fx, _, em⟩ := hP
                      exact ⟨_, _, _, _, _, _, _, _, rfl, fx, em, True.intro⟩
                  · obtain ⟨z1, z2, z3, z5, z6, z7, z8, z12, rfl, fx, em, _⟩ := hN
                    refine ⟨.ref lots, rfl, o, rfl, sl 2 (by decide), fun t0 nt0 => ⟨.ref t0, true, p, .tuple [.tuple ds, e], 1700, 17, rfl, fx.pair nt0, fx.psm, by decide, by decide, .str _, rfl, rfl, _, rfl, str_ne ?_⟩⟩
                    have fx9 := fx.same (Same.upd (o := HO.tup [.ref lots, o]) nt0)
                    exact ⟨_, _, _, _, _, _, _, _, _, _, _, _, rfl, fx9.pot, fx9.kp, fx9.tab⟩
    · obtain ⟨_, _, _, _, _, _, _, _, _, _, _, _, _, _, k, t⟩ := hP
      exact q H2 k t
end
end Sf
namespace Sf
open PySem PySem.Spec PyProof.Rows L2 LamX
abbrev sLaw : Stmt := topS 27
theorem scLaw : FnScope ["_law_script", "_law_k", "_law_pot_here"] ["_law_script"] (defScope sLaw) := ⟨rfl, rfl, rfl, by decide +kernel, rfl, by decide +kernel, by decide +kernel⟩
theorem SqL.extN {K : PySem.W.Frag} {H H' : Hp} {a : Addr} {xs : List V} (s : ExtN H H') (h : SqL K H a xs) : SqL K H' a xs :=
  h.elim (fun r => .inl (r.elim (fun e => .inl (s _ _ e (fun _ z => by cases z))) (fun ⟨u, e⟩ => .inr ⟨u, s _ _ e (fun _ z => by cases z)⟩))) .inr
section
variable {P : Program} {w : World} {K : PySem.W.Frag} {mg : Str → Option Value} {base : Heap}
def spLaw (K : PySem.W.Frag) (T : Addr) : Sp := fun vs H Q _ => ∃ (a : Addr) (ns : List Int), vs = [.ref a] ∧ SqL K H a (ns.map V.int) ∧ ns.length ≤ 63 ∧ H T = some (.tbl #[]) ∧ ∀ H', Q (.bl true) H'
theorem turns_le (n : Nat) : ∃ m : Nat, (if (if (n : Int) < 3 then (n : Int) else 3) > 1 then (if (n : Int) < 3 then (n : Int) else 3) else 1) = (m : Int) ∧ m ≤ 3 := by
  by_cases h3 : (n : Int) < 3
  · rw [if_pos h3]
    by_cases h1 : (n : Int) > 1
    · rw [if_pos h1]
      exact ⟨n, rfl, by omega⟩
    · rw [if_neg h1]
      exact ⟨1, rfl, by omega⟩
  · rw [if_neg h3]
    exact ⟨3, rfl, by omega⟩
theorem ok_law {f fP fR T : Addr} {fd fdP fdR : FuncData} {k : Nat} (F : Fun K "law" "law" sLaw f fd)
    (FP : Fun K "_law_pot" "_law_pot" sPot fP fdP) (bP : Binds K fdP ["_law_script", "_law_k"] []) (gP : mg "_law_pot" = some (.ref fP)) (GP : FnOk P w K mg base CX0 k fP fdP ["_law_script", "_law_k"] (spPot K))
    (FR : Fun K "_law_right" "_law_right" sRight fR fdR) (bR : Binds K fdR ["_law_pot_here"] []) (gR : mg "_law_right" = some (.ref fR)) (GR : FnG P w K mg base k fR fdR ["_law_pot_here"] (spRight T))
    (mr : mg "range" = none) (mx : mg "max" = none) (mn : mg "min" = none) (ml : mg "len" = none) : FnG P w K mg base (k + 1) f fd ["_law_script"] (spLaw K T) := by
  refine okG F scLaw (fun vs H Q E h => ?_) (fun cdv A outer s H vs Q E hr hgd h => ?_)
  · obtain ⟨a, ns, rfl, _⟩ := h
    rfl
  · obtain ⟨a, ns, rfl, hS, hlen, hT0, q⟩ := h
    have hT : Tabs (RTabs T) H := fun r hr => by
      rw [List.mem_singleton.mp hr]
      exact TabS.nil hT0
    refine ⟨_, pss_cons (ps_for PassesOwn.never rfl (pi_range1 rfl mr (pa_cons (pe_callB (call_max2 rfl) (by rfl) mx (by decide +kernel) (pa_cons pe_int (pa_cons
          (pe_callB (call_min2 rfl) (by rfl) mn (by decide +kernel) (pa_cons pe_int (pa_cons (pe_callB call_len_seq (by rfl) ml PySem.boot_len (pa_cons (pv 0) pa_nil)) pa_nil))) pa_nil))) pa_nil)) (pg_name (i := 1) scLaw.nd rfl (.inl rfl))
        (pss_cons (ps_set (i := 2) scLaw.nd rfl (.inl rfl) (pe_call GP hr (by rfl) gP FP.kp bP .nil pass0 (pa_cons (pv 0) (pa_cons (pv 1) pa_nil))))
        (pss_one (ps_if (pt_not (pt_val (pe_callG GR hr hgd (by rfl) gR FR.kp bR (pa_cons (pv 2) pa_nil) pass0))) (pss_one (ps_ret pe_bl)) pss_nil))))
      (pss_one (ps_ret pe_bl)), ?_⟩
    refine ⟨.ref a, rfl, a, _, rfl, .inl hS, 3, _, rfl, 1, _, rfl, ?_⟩
    rw [List.length_map]
    obtain ⟨m, em, lm⟩ := turns_le ns.length
    rw [em]
    refine ⟨_, rfl, by omega, by omega, ?_⟩
    refine for_it (walk_range (lo := 0) (n := m)) (fun i σ H2 => ∃ y1 y2, σ = [some (.ref a), y1, y2] ∧ SqL K H2 a (ns.map V.int) ∧ Tabs (RTabs T) H2) ⟨none, none, rfl, hS, hT⟩ (fun _ _ _ _ _ => True.intro) (fun i x σ H2 H2' hi hP hy => ?_) (fun σ H2 hP => ?_)
    · obtain ⟨y1, y2, rfl, hS2, hT2⟩ := hP
      obtain ⟨rfl, rfl⟩ := hy
      refine ⟨.ref a, rfl, _, rfl, a, ns, i, by
        show [V.ref a, V.int ((0 : Int) + (i : Nat))] = _
        rw [Int.zero_add], hS2, by omega, fun p H3 np s3 hp3 => ?_⟩
      refine ⟨.ref p, rfl, p, rfl, hp3, hT2.ext s3, fun H4 k4 t4 => ⟨true, rfl, iteF ?_⟩⟩
      have s4 : ExtN H2' H4 := fun b o hb nt => k4 b o (fun z => by
        rw [z, np] at hb
        cases hb) (s3 b o hb) nt
      exact ⟨_, _, rfl, SqL.extN s4 hS2, t4⟩
    · exact q H2
end
end Sf
namespace Sf
open PySem PySem.Spec PyProof.Rows L2 LamX
theorem all_mk {l : PySem.W.OpenLaw} {w : World} {K : PySem.W.Frag} {h : Heap} {mg : Str → Option Value} {fa f0 f1 f2 f3 f4 f5 f6 f7 f8 f9 f10 f11 f12 f13 f14 f15 f16 f17 : Addr} (X : K.In h) (G : h.Ns mainGlobals mg) (hfa : mg "law" = some (.ref fa))
    {od0 an0 od1 an1 od2 an2 od3 an3 od4 an4 od5 an5 od6 an6 od7 an7 od8 an8 od9 an9 od10 an10 od11 an11 od12 an12 od13 an13 od14 an14 od15 an15 od16 an16 od17 an17 : Option Addr} {sl0 sl1 sl2 sl3 sl4 sl5 sl6 sl7 sl8 sl9 sl10 sl11 sl12 sl13 sl14 sl15 sl16 sl17 : Array (Option Value)} {oc0 kV0 dc0 pm0 cd0 ct0 oc1 kV1 dc1 pm1 cd1 ct1 oc2 kV2 dc2 pm2 cd2 ct2 oc3 kV3 dc3 pm3 cd3 ct3 oc4 kV4 dc4 pm4 cd4 ct4 oc5 kV5 dc5 pm5 cd5 ct5 oc6 kV6 dc6 pm6 cd6 ct6 oc7 kV7 dc7 pm7 cd7 ct7 oc8 kV8 dc8 pm8 cd8 ct8 oc9 kV9 dc9 pm9 cd9 ct9 oc10 kV10 dc10 pm10 cd10 ct10 oc11 kV11 dc11 pm11 cd11 ct11 oc12 kV12 dc12 pm12 cd12 ct12 oc13 kV13 dc13 pm13 cd13 ct13 oc14 kV14 dc14 pm14 cd14 ct14 oc15 kV15 dc15 pm15 cd15 ct15 oc16 kV16 dc16 pm16 ct16 oc17 kV17 dc17 pm17 cd17 ct17 : Value}
    {tk0 tk1 tk2 : Tok}
    (a0 : PySem.W.nsIn K mainGlobals "is_text" = some (some (.ref f0))) (l0 : K.lookup f0 = some ⟨oc0, od0, .func (PySem.W.fnOf "is_text" "is_text" (defArgs sIsText) (defBody sIsText) (defScope sIsText) .none kV0 dc0 pm0 an0 cd0 ct0), sl0⟩) (c0 : PySem.W.codeIn K cd0 "is_text" = true) (k0 : PySem.W.keepIn K (.ref f0) = true)
    (a1 : PySem.W.nsIn K mainGlobals "check_text" = some (some (.ref f1))) (l1 : K.lookup f1 = some ⟨oc1, od1, .func (PySem.W.fnOf "check_text" "check_text" (defArgs sCheck) (defBody sCheck) (defScope sCheck) .none kV1 dc1 pm1 an1 cd1 ct1), sl1⟩) (c1 : PySem.W.codeIn K cd1 "check_text" = true) (k1 : PySem.W.keepIn K (.ref f1) = true)
    (a2 : PySem.W.nsIn K mainGlobals "pairs_in" = some (some (.ref f2))) (l2 : K.lookup f2 = some ⟨oc2, od2, .func (PySem.W.fnOf "pairs_in" "pairs_in" (defArgs sPairsIn) (defBody sPairsIn) (defScope sPairsIn) .none kV2 dc2 pm2 an2 cd2 ct2), sl2⟩) (c2 : PySem.W.codeIn K cd2 "pairs_in" = true) (k2 : PySem.W.keepIn K (.ref f2) = true)
    (a3 : PySem.W.nsIn K mainGlobals "pairs_of" = some (some (.ref f3))) (l3 : K.lookup f3 = some ⟨oc3, od3, .func (PySem.W.fnOf "pairs_of" "pairs_of" (defArgs sPairsOf) (defBody sPairsOf) (defScope sPairsOf) .none kV3 dc3 pm3 an3 cd3 ct3), sl3⟩) (c3 : PySem.W.codeIn K cd3 "pairs_of" = true) (k3 : PySem.W.keepIn K (.ref f3) = true)
    (a4 : PySem.W.nsIn K mainGlobals "pairs_of_all" = some (some (.ref f4))) (l4 : K.lookup f4 = some ⟨oc4, od4, .func (PySem.W.fnOf "pairs_of_all" "pairs_of_all" (defArgs sPairsAll) (defBody sPairsAll) (defScope sPairsAll) .none kV4 dc4 pm4 an4 cd4 ct4), sl4⟩) (c4 : PySem.W.codeIn K cd4 "pairs_of_all" = true) (k4 : PySem.W.keepIn K (.ref f4) = true)
    (a5 : PySem.W.nsIn K mainGlobals "allows" = some (some (.ref f5))) (l5 : K.lookup f5 = some ⟨oc5, od5, .func (PySem.W.fnOf "allows" "allows" (defArgs sAllows) (defBody sAllows) (defScope sAllows) .none kV5 dc5 pm5 an5 cd5 ct5), sl5⟩) (c5 : PySem.W.codeIn K cd5 "allows" = true) (k5 : PySem.W.keepIn K (.ref f5) = true)
    (a6 : PySem.W.nsIn K mainGlobals "_law_pot" = some (some (.ref f6))) (l6 : K.lookup f6 = some ⟨oc6, od6, .func (PySem.W.fnOf "_law_pot" "_law_pot" (defArgs sPot) (defBody sPot) (defScope sPot) .none kV6 dc6 pm6 an6 cd6 ct6), sl6⟩) (c6 : PySem.W.codeIn K cd6 "_law_pot" = true) (k6 : PySem.W.keepIn K (.ref f6) = true)
    (a7 : PySem.W.nsIn K mainGlobals "_law_draw" = some (some (.ref f7))) (l7 : K.lookup f7 = some ⟨oc7, od7, .func (PySem.W.fnOf "_law_draw" "_law_draw" (defArgs sDraw) (defBody sDraw) (defScope sDraw) .none kV7 dc7 pm7 an7 cd7 ct7), sl7⟩) (c7 : PySem.W.codeIn K cd7 "_law_draw" = true) (k7 : PySem.W.keepIn K (.ref f7) = true)
    (a8 : PySem.W.nsIn K mainGlobals "_law_any" = some (some (.ref f8))) (l8 : K.lookup f8 = some ⟨oc8, od8, .func (PySem.W.fnOf "_law_any" "_law_any" (defArgs sAny) (defBody sAny) (defScope sAny) .none kV8 dc8 pm8 an8 cd8 ct8), sl8⟩) (c8 : PySem.W.codeIn K cd8 "_law_any" = true) (k8 : PySem.W.keepIn K (.ref f8) = true)
    (a9 : PySem.W.nsIn K mainGlobals "_law_all_letters" = some (some (.ref f9))) (l9 : K.lookup f9 = some ⟨oc9, od9, .func (PySem.W.fnOf "_law_all_letters" "_law_all_letters" (defArgs sLets) (defBody sLets) (defScope sLets) .none kV9 dc9 pm9 an9 cd9 ct9), sl9⟩) (c9 : PySem.W.codeIn K cd9 "_law_all_letters" = true) (k9 : PySem.W.keepIn K (.ref f9) = true)
    (a10 : PySem.W.nsIn K mainGlobals "_law_text" = some (some (.ref f10))) (l10 : K.lookup f10 = some ⟨oc10, od10, .func (PySem.W.fnOf "_law_text" "_law_text" (defArgs sText) (defBody sText) (defScope sText) .none kV10 dc10 pm10 an10 cd10 ct10), sl10⟩) (c10 : PySem.W.codeIn K cd10 "_law_text" = true) (k10 : PySem.W.keepIn K (.ref f10) = true)
    (a11 : PySem.W.nsIn K mainGlobals "_law_odd" = some (some (.ref f11))) (l11 : K.lookup f11 = some ⟨oc11, od11, .func (PySem.W.fnOf "_law_odd" "_law_odd" (defArgs sOdd) (defBody sOdd) (defScope sOdd) .none kV11 dc11 pm11 an11 cd11 ct11), sl11⟩) (c11 : PySem.W.codeIn K cd11 "_law_odd" = true) (k11 : PySem.W.keepIn K (.ref f11) = true)
    (a12 : PySem.W.nsIn K mainGlobals "_law_is_text" = some (some (.ref f12))) (l12 : K.lookup f12 = some ⟨oc12, od12, .func (PySem.W.fnOf "_law_is_text" "_law_is_text" (defArgs sLIsText) (defBody sLIsText) (defScope sLIsText) .none kV12 dc12 pm12 an12 cd12 ct12), sl12⟩) (c12 : PySem.W.codeIn K cd12 "_law_is_text" = true) (k12 : PySem.W.keepIn K (.ref f12) = true)
    (a13 : PySem.W.nsIn K mainGlobals "_law_pairs" = some (some (.ref f13))) (l13 : K.lookup f13 = some ⟨oc13, od13, .func (PySem.W.fnOf "_law_pairs" "_law_pairs" (defArgs sPairs) (defBody sPairs) (defScope sPairs) .none kV13 dc13 pm13 an13 cd13 ct13), sl13⟩) (c13 : PySem.W.codeIn K cd13 "_law_pairs" = true) (k13 : PySem.W.keepIn K (.ref f13) = true)
    (a14 : PySem.W.nsIn K mainGlobals "_law_met" = some (some (.ref f14))) (l14 : K.lookup f14 = some ⟨oc14, od14, .func (PySem.W.fnOf "_law_met" "_law_met" (defArgs sMet) (defBody sMet) (defScope sMet) .none kV14 dc14 pm14 an14 cd14 ct14), sl14⟩) (c14 : PySem.W.codeIn K cd14 "_law_met" = true) (k14 : PySem.W.keepIn K (.ref f14) = true)
    (a15 : PySem.W.nsIn K mainGlobals "_law_due" = some (some (.ref f15))) (l15 : K.lookup f15 = some ⟨oc15, od15, .func (PySem.W.fnOf "_law_due" "_law_due" (defArgs sDue) (defBody sDue) (defScope sDue) .none kV15 dc15 pm15 an15 cd15 ct15), sl15⟩) (c15 : PySem.W.codeIn K cd15 "_law_due" = true) (k15 : PySem.W.keepIn K (.ref f15) = true)
    {cR T : Addr} {eR : Value} {ddR : Option Addr} {vsR : Array Value} {slR : Array (Option Value)}
    (a16 : PySem.W.nsIn K mainGlobals "_law_right" = some (some (.ref f16))) (l16 : K.lookup f16 = some ⟨oc16, od16, .func (PySem.W.fnOf "_law_right" "_law_right" (defArgs sRight) (defBody sRight) (defScope sRight) .none kV16 dc16 pm16 an16 (.ref cR) ct16), sl16⟩) (c16 : PySem.W.codeIn K (.ref cR) "_law_right" = true) (k16 : PySem.W.keepIn K (.ref f16) = true)
    (r1 : K.lookup cR = some ⟨eR, ddR, .fields vsR, slR⟩) (r2 : vsR[11]? = some (.ref T)) (r3 : K.lookup T = none) (r4 : PySem.W.codeHdIn K cR T = true)
    (a17 : PySem.W.nsIn K mainGlobals "law" = some (some (.ref f17))) (l17 : K.lookup f17 = some ⟨oc17, od17, .func (PySem.W.fnOf "law" "law" (defArgs sLaw) (defBody sLaw) (defScope sLaw) .none kV17 dc17 pm17 an17 cd17 ct17), sl17⟩) (c17 : PySem.W.codeIn K cd17 "law" = true) (k17 : PySem.W.keepIn K (.ref f17) = true)
    (z0 : PySem.W.nsIn K mainGlobals "isinstance" = some none)
    (z1 : PySem.W.nsIn K mainGlobals "str" = some none)
    (z2 : PySem.W.nsIn K mainGlobals "all" = some none)
    (z3 : PySem.W.nsIn K mainGlobals "tuple" = some none)
    (z4 : PySem.W.nsIn K mainGlobals "sorted" = some none)
    (z5 : PySem.W.nsIn K mainGlobals "set" = some none)
    (z6 : PySem.W.nsIn K mainGlobals "int" = some none)
    (z7 : PySem.W.nsIn K mainGlobals "abs" = some none)
    (z8 : PySem.W.nsIn K mainGlobals "len" = some none)
    (z9 : PySem.W.nsIn K mainGlobals "range" = some none)
    (z10 : PySem.W.nsIn K mainGlobals "max" = some none)
    (z11 : PySem.W.nsIn K mainGlobals "min" = some none)
    (z12 : PySem.W.nsIn K mainGlobals "repr" = some none)
    (z13 : PySem.W.nsIn K mainGlobals "zip" = some none)
    (z14 : PySem.W.nsIn K mainGlobals "super" = some none)
    (z15 : PySem.W.nsIn K mainGlobals "ValueError" = some none)
    (v0 : PySem.W.nsIn K mainGlobals "LETTERS" = some (some (.str (Str.ofString " 0123456789_abcdefghijklmnopqrstuvwxyz") tk0)))
    (v1 : PySem.W.nsIn K mainGlobals "BEGIN" = some (some (.str (Str.ofString "^") tk1)))
    (v2 : PySem.W.nsIn K mainGlobals "END" = some (some (.str (Str.ofString "$") tk2)))
    {D S N1 N2 fB cc cda : Addr} {nm q : Str} {NN : Addr} {bs : List Value} {sn : List Str} {sub : List Value} {ab : Bool} {col : Option Bool} {dd : Option Addr} {m0 m1 m2 m3 m5 : Option Value}
    {params : Arguments} {scope : Scope} {dVB kVB dcB pmB ctB ocB clB ccl : Value} {anB odB cld cdd : Option Addr} {osl csl ccs : Array (Option Value)} {vs2 : Array Value} {file : Str} {tf : Tok} {ar : Arg} {p1 p2 p3 p4 p5 p6 q1 q2 q3 q4 : Pos} {pl : Sem Bool}
    (aD : PySem.W.nsIn K mainGlobals "BadText" = some (some (.ref D))) (aS : PySem.W.nsIn K mainGlobals "SiftError" = some (some (.ref S))) (aN1 : PySem.W.nsIn K mainGlobals "NoName" = some (some (.ref N1))) (aN2 : PySem.W.nsIn K mainGlobals "BadQuestion" = some (some (.ref N2)))
    (xL : K.lookup D = some (excClassObj nm q D NN bs [.ref S, .type "ValueError", .type "Exception", .type "BaseException", .type "object"] true sn sub ab col dd m0 m1 m2 m3 m5 "ValueError.__new__"))
    (sa : PySem.W.findIn K (.ref D) "__setattr__" = some (some (.builtin "object.__setattr__"))) (exC : PySem.W.subIn K (.ref D) (.type "BaseException") = some true) (tyC : PySem.W.typeIn K (.ref D) = some (.type "type")) (kC : PySem.W.keepIn K (.ref D) = true)
    (ga : PySem.W.findIn K (.ref D) "__getattribute__" = some (some (.builtin "BaseException.__getattribute__"))) (gg : PySem.W.findIn K (.ref D) "__getattr__" = some none) (hdC : PySem.W.hasDictIn K D = true) (nv : PySem.W.findIn K (.ref D) "value" = some none)
    (ha : PySem.W.findIn K (.ref D) "__class__" = some (some (.builtin "object.__class__"))) (hn : PySem.W.specialIn K (.builtin "object.__class__") "__get__" = some (some (.builtin "getset_descriptor.__get__"))) (ht : PySem.W.takesIn K (.builtin "object.__class__") = some true) (hm : PySem.W.mroIn K D (.type "object") = some true)
    (su : PySem.W.ks_superIn K D D "__init__" = some (some (.builtin "ValueError.__init__"))) (sb : PySem.W.subIn K (.ref D) (.type "ValueError") = some true) (an : PySem.W.nsIn K cStatics "thirdparty.any" = some none) (ow : PySem.W.mroIn K D (.ref D) = some true)
    (e0 : PySem.W.exmOne K (.ref D) (.ref S) = some true) (e1 : PySem.W.kitOne K (.ref D) (.ref D) = some true) (e2 : PySem.W.kitOne K (.ref D) (.type "ValueError") = some true) (e3 : PySem.W.kitAny K (.ref D) [.ref N1, .ref N2] = some false)
    (iB : PySem.W.findIn K (.ref D) "__init__" = some (some (.ref fB))) (tB : PySem.W.typeIn K (.ref fB) = some (.type "function"))
    (lB : K.lookup fB = some ⟨ocB, odB, .func (PySem.W.ksFn "__init__" "BadText.__init__" params [.Expr (.Call (.Attribute (.Call (.Name "super" p1) [] [] p2) "__init__" p3) [.Name "value" p4] [] p5) p6, .Assign [.Attribute (.Name "self" q1) "value" q2] (.Name "value" q3) q4] scope dVB kVB dcB pmB anB (.ref cda) ctB cc), osl⟩)
    (cB : PySem.W.codeIn K (.ref cda) "BadText.__init__" = true) (hcell : K.lookup cc = some ⟨clB, cld, .cell (some (.ref D)), csl⟩) (hcode : K.lookup cda = some ⟨ccl, cdd, .fields vs2, ccs⟩) (hvs : vs2[2]? = some (.str file tf)) (hfile : ((l.prog.main.file : Str) == file) = true)
    (sS : SupS scope)
    (T1 : ∀ L, interactive (PySem.W.ksEnv "BadText.__init__" scope L fB (.ref cda) cc) = false)
    (T2 : ∀ L, swapsWith (.Call (.Attribute (.Call (.Name "super" p1) [] [] p2) "__init__" p3) [.Name "value" p4] [] p5) none p6.line (PySem.W.ksEnv "BadText.__init__" scope L fB (.ref cda) cc) = pure false)
    (T3 : ∀ L, eval (.Call (.Attribute (.Call (.Name "super" p1) [] [] p2) "__init__" p3) [.Name "value" p4] [] p5) (PySem.W.ksEnv "BadText.__init__" scope L fB (.ref cda) cc) = (do
      let ov ← attributeBase (.Call (.Name "super" p1) [] [] p2) "__init__" (PySem.W.ksEnv "BadText.__init__" scope L fB (.ref cda) cc) (eval (.Call (.Name "super" p1) [] [] p2) (PySem.W.ksEnv "BadText.__init__" scope L fB (.ref cda) cc))
      standAt p3.atName
      let (fn, first) ← holding [ov] (getMethod ov "__init__" pl)
      callWith p5 fn first (backTo p5 (starEach [.Name "value" p4] (PySem.W.ksEnv "BadText.__init__" scope L fB (.ref cda) cc))) []))
    (T4 : ∀ L, swapsWith (.Name "value" q3) (some (.Attribute (.Name "self" q1) "value" q2)) q4.line (PySem.W.ksEnv "BadText.__init__" scope L fB (.ref cda) cc) = pure false)
    (htop : (l.prog.main.scope.names.lookup ("super" : Str)).isSome = false) (hp : (params.posonlyargs ++ params.args).head? = some ar) (har : ar.arg = "self")
    (bB : ∀ us : List Value, us.length = 2 → bindArgs (PySem.W.ksFn "__init__" "BadText.__init__" params [.Expr (.Call (.Attribute (.Call (.Name "super" p1) [] [] p2) "__init__" p3) [.Name "value" p4] [] p5) p6, .Assign [.Attribute (.Name "self" q1) "value" q2] (.Name "value" q3) q4] scope dVB kVB dcB pmB anB (.ref cda) ctB cc) ⟨us, []⟩ = pure ((["self", "value"] : List Str).zip us))
    : ∃ (fd fdR : FuncData) (c T fR : Addr) (o : Obj) (e : Value) (dd : Option Addr) (vs : Array Value) (sl : Array (Option Value)), K.lookup T = none ∧ PySem.W.codeHdIn K c T = true ∧ mg "_law_right" = some (.ref fR) ∧ K.lookup fR = some o ∧ o.data = .func fdR ∧ fdR.code = .ref c ∧
      K.lookup c = some ⟨e, dd, .fields vs, sl⟩ ∧ vs[11]? = some (.ref T) ∧ (∀ (s : Shared) (v : Value), BindsTo s fd ⟨[v], []⟩ [("_law_script", v)]) ∧ ∀ base : Heap, K.In base → base.Ns mainGlobals mg → LamX.TabB base mg c T → FnG l.prog w K mg base 8 fa fd ["_law_script"] (spLaw K T) := by
  have e := hfa.symm.trans (PySem.W.mg_of X G a17)
  cases e
  have F0 := fun_mk (st := sIsText) l0 c0 k0
  have b0 := F0.binds (ps := ["value"]) fun _ _ _ _ _ _ us hl => match us, hl with | [_], _ => rfl
  have g0 := PySem.W.mg_of X G a0
  have F1 := fun_mk (st := sCheck) l1 c1 k1
  have b1 := F1.binds (ps := ["value"]) fun _ _ _ _ _ _ us hl => match us, hl with | [_], _ => rfl
  have g1 := PySem.W.mg_of X G a1
  have F2 := fun_mk (st := sPairsIn) l2 c2 k2
  have b2 := F2.binds (ps := ["text"]) fun _ _ _ _ _ _ us hl => match us, hl with | [_], _ => rfl
  have g2 := PySem.W.mg_of X G a2
  have F3 := fun_mk (st := sPairsOf) l3 c3 k3
  have b3 := F3.binds (ps := ["text"]) fun _ _ _ _ _ _ us hl => match us, hl with | [_], _ => rfl
  have g3 := PySem.W.mg_of X G a3
  have F4 := fun_mk (st := sPairsAll) l4 c4 k4
  have b4 := F4.binds (ps := ["texts"]) fun _ _ _ _ _ _ us hl => match us, hl with | [_], _ => rfl
  have g4 := PySem.W.mg_of X G a4
  have F5 := fun_mk (st := sAllows) l5 c5 k5
  have b5 := F5.binds (ps := ["pairs", "text"]) fun _ _ _ _ _ _ us hl => match us, hl with | [_, _], _ => rfl
  have g5 := PySem.W.mg_of X G a5
  have F6 := fun_mk (st := sPot) l6 c6 k6
  have b6 := F6.binds (ps := ["_law_script", "_law_k"]) fun _ _ _ _ _ _ us hl => match us, hl with | [_, _], _ => rfl
  have g6 := PySem.W.mg_of X G a6
  have F7 := fun_mk (st := sDraw) l7 c7 k7
  have b7 := F7.binds (ps := ["_law_pot_here", "_law_many"]) fun _ _ _ _ _ _ us hl => match us, hl with | [_, _], _ => rfl
  have g7 := PySem.W.mg_of X G a7
  have F8 := fun_mk (st := sAny) l8 c8 k8
  have b8 := F8.binds (ps := ["_law_pot_here", "_law_items"]) fun _ _ _ _ _ _ us hl => match us, hl with | [_, _], _ => rfl
  have g8 := PySem.W.mg_of X G a8
  have F9 := fun_mk (st := sLets) l9 c9 k9
  have b9 := F9.binds (ps := []) fun _ _ _ _ _ _ us hl => match us, hl with | [], _ => rfl
  have g9 := PySem.W.mg_of X G a9
  have F10 := fun_mk (st := sText) l10 c10 k10
  have b10 := F10.binds (ps := ["_law_pot_here", "_law_letters", "_law_most"]) fun _ _ _ _ _ _ us hl => match us, hl with | [_, _, _], _ => rfl
  have g10 := PySem.W.mg_of X G a10
  have F11 := fun_mk (st := sOdd) l11 c11 k11
  have b11 := F11.binds (ps := ["_law_pot_here"]) fun _ _ _ _ _ _ us hl => match us, hl with | [_], _ => rfl
  have g11 := PySem.W.mg_of X G a11
  have F12 := fun_mk (st := sLIsText) l12 c12 k12
  have b12 := F12.binds (ps := ["_law_thing"]) fun _ _ _ _ _ _ us hl => match us, hl with | [_], _ => rfl
  have g12 := PySem.W.mg_of X G a12
  have F13 := fun_mk (st := sPairs) l13 c13 k13
  have b13 := F13.binds (ps := ["_law_lots"]) fun _ _ _ _ _ _ us hl => match us, hl with | [_], _ => rfl
  have g13 := PySem.W.mg_of X G a13
  have F14 := fun_mk (st := sMet) l14 c14 k14
  have b14 := F14.binds (ps := ["_law_ask"]) fun _ _ _ _ _ _ us hl => match us, hl with | [_], _ => rfl
  have g14 := PySem.W.mg_of X G a14
  have F15 := fun_mk (st := sDue) l15 c15 k15
  have b15 := F15.binds (ps := ["_law_things", "_law_told"]) fun _ _ _ _ _ _ us hl => match us, hl with | [_, _], _ => rfl
  have g15 := PySem.W.mg_of X G a15
  have F16 := fun_mk (st := sRight) l16 c16 k16
  have b16 := F16.binds (ps := ["_law_pot_here"]) fun _ _ _ _ _ _ us hl => match us, hl with | [_], _ => rfl
  have g16 := PySem.W.mg_of X G a16
  have F17 := fun_mk (st := sLaw) l17 c17 k17
  have g17 := PySem.W.mg_of X G a17
  have m_isinstance := PySem.W.mg_none_of X G z0
  have m_str := PySem.W.mg_none_of X G z1
  have m_all := PySem.W.mg_none_of X G z2
  have m_tuple := PySem.W.mg_none_of X G z3
  have m_sorted := PySem.W.mg_none_of X G z4
  have m_set := PySem.W.mg_none_of X G z5
  have m_int := PySem.W.mg_none_of X G z6
  have m_abs := PySem.W.mg_none_of X G z7
  have m_len := PySem.W.mg_none_of X G z8
  have m_range := PySem.W.mg_none_of X G z9
  have m_max := PySem.W.mg_none_of X G z10
  have m_min := PySem.W.mg_none_of X G z11
  have m_repr := PySem.W.mg_none_of X G z12
  have m_zip := PySem.W.mg_none_of X G z13
  have m_super := PySem.W.mg_none_of X G z14
  have m_ValueError := PySem.W.mg_none_of X G z15
  have c_LETTERS := PySem.W.mg_of X G v0
  have c_BEGIN := PySem.W.mg_of X G v1
  have c_END := PySem.W.mg_of X G v2
  have gD := PySem.W.mg_of X G aD
  have OC : OexC K D := ⟨⟨nm, q, NN, bs, _, sn, sub, ab, col, dd, m0, m1, m2, m3, m5, xL, by rfl⟩, sa, exC, tyC, kC⟩
  have SC : SupC K mg D := ⟨OC, su, sb, an, ow, m_super, nv⟩
  have MC : MetC K mg D S N1 N2 := ⟨⟨ga, gg, exC, hdC, ha, hn, ht, hm⟩, ⟨ga, gg, exC, hdC⟩, nv, PySem.W.mg_of X G aS, gD, PySem.W.mg_of X G aN1, PySem.W.mg_of X G aN2, e0, e1, e2, e3, m_isinstance, m_ValueError⟩
  refine ⟨PySem.W.fnOf "law" "law" (defArgs sLaw) (defBody sLaw) (defScope sLaw) .none kV17 dc17 pm17 an17 cd17 ct17, _, cR, T, _, _, eR, ddR, vsR, slR, r3, r4, g16, l16, rfl, rfl, r1, r2, fun s v => .of_eq rfl, fun base _ _ TB => ?_⟩
  have GB := ok_sup (P := l.prog) (w := w) (base := base) (k := 0) sS SC lB cB hcell hcode hvs hfile pl T1 T2 T3 T4 htop hp har
  have BD : Bad l.prog w K mg base 1 D fB _ := ⟨OC, iB, tB, GB, .all bB, gD⟩
  have GI := ok_isText (P := l.prog) (w := w) (base := base) (k := 1) F0 m_isinstance m_str m_all c_LETTERS
  have GC := ok_check (k := 1) F1 F0 b0 g0 GI BD
  have GP := ok_pairsIn (P := l.prog) (w := w) (base := base) (k := 2) F2 m_zip c_BEGIN c_END
  have GOf := ok_pairsOf (k := 3) F3 F1 b1 g1 GC F2 b2 g2 GP m_tuple m_sorted m_set
  have GAll := ok_pairsAll (k := 3) F4 F1 b1 g1 GC F2 b2 g2 GP m_tuple m_sorted m_set
  have GAlw := ok_allows (k := 3) F5 F1 b1 g1 GC F2 b2 g2 GP m_all
  have GD1 := ok_draw (P := l.prog) (w := w) (base := base) (k := 0) F7 m_int
  have GD2 := ok_draw (P := l.prog) (w := w) (base := base) (k := 1) F7 m_int
  have GA2 := ok_any (k := 0) F8 F7 b7 g7 GD1 m_len
  have GT := ok_text (k := 0) F10 F7 b7 g7 GD2 F8 b8 g8 GA2 m_range
  have GL1 := ok_lets (P := l.prog) (w := w) (K := K) (mg := mg) (base := base) (k := 0) F9
  have GO := ok_odd (k := 2) F11 F8 b8 g8 GA2 m_range
  have GLI := ok_lisText (k := 0) F12 F9 b9 g9 GL1 m_isinstance m_str m_all
  have GPr := ok_pairs (P := l.prog) (w := w) (base := base) (k := 0) F13 m_tuple m_sorted m_set m_range m_len
  have GDu := ok_due (k := 2) F15 F12 b12 g12 GLI
  have GPot := ok_pot (P := l.prog) (w := w) (base := base) (k := 6) F6 m_int m_abs m_len
  have GR := ok_right (k := 4) F16 F8 b8 g8 (GA2.mono (by decide)) F9 b9 g9 (GL1.mono (by decide)) F10 b10 g10 (GT.mono (by decide)) F7 b7 g7 (GD1.mono (by decide)) F11 b11 g11 (GO.mono (by decide)) F13 b13 g13 (GPr.mono (by decide)) F14 b14 g14 MC F15 b15 g15 (GDu.mono (by decide)) F12 b12 g12 (GLI.mono (by decide)) F4 b4 g4 GAll F3 b3 g3 GOf F5 b5 g5 GAlw TB rfl m_range m_repr m_tuple m_len m_all
  exact ok_law (k := 7) F17 F6 b6 g6 GPot F16 b16 g16 GR m_range m_max m_min m_len
end Sf
open PySem PySem.W PyProof.Rows
set_option maxHeartbeats 0 in
theorem PySem.Challenge.cw_siftstore_k02_pairs_of_texts_holds : PySem.Challenge.rw_siftstore_k02_pairs_of_texts.Holds := by
  w_on; o_law; k_head; (case hw => w_witness2)
  k_fill
  refine Sf.walk_GT (l := PySem.Challenge.rw_siftstore_k02_pairs_of_texts) (n := 63) (k := 8) (x := "_law_script") (nR := "_law_right") (sp := fun w T => Sf.spLaw _ T) rfl (by decide) rfl ⟨rfl, by decide, by decide⟩ (by first | rfl | decide +kernel) (fun w h Y => PySem.W.km_in_of Y) ?F (fun _ _ _ a ns hl hT hS => ⟨a, ns, rfl, hS, hl, hT, fun _ => rfl⟩)
  case F =>
    intro w mg fa h KX G hmg
    refine' Sf.all_mk KX G hmg ?a0 ?l0 ?c0 ?k0 ?a1 ?l1 ?c1 ?k1 ?a2 ?l2 ?c2 ?k2 ?a3 ?l3 ?c3 ?k3 ?a4 ?l4 ?c4 ?k4 ?a5 ?l5 ?c5 ?k5 ?a6 ?l6 ?c6 ?k6 ?a7 ?l7 ?c7 ?k7 ?a8 ?l8 ?c8 ?k8 ?a9 ?l9 ?c9 ?k9 ?a10 ?l10 ?c10 ?k10 ?a11 ?l11 ?c11 ?k11 ?a12 ?l12 ?c12 ?k12 ?a13 ?l13 ?c13 ?k13 ?a14 ?l14 ?c14 ?k14 ?a15 ?l15 ?c15 ?k15 ?a16 ?l16 ?c16 ?k16 ?r1 ?r2 ?r3 ?r4 ?a17 ?l17 ?c17 ?k17 ?z0 ?z1 ?z2 ?z3 ?z4 ?z5 ?z6 ?z7 ?z8 ?z9 ?z10 ?z11 ?z12 ?z13 ?z14 ?z15 ?v0 ?v1 ?v2 ?aD ?aS ?aN1 ?aN2 ?xL ?sa ?exC ?tyC ?kC ?ga ?gg ?hdC ?nv ?ha ?hn ?ht ?hm ?su ?sb ?an ?ow ?e0 ?e1 ?e2 ?e3 ?iB ?tB ?lB ?cB ?hcell ?hcode ?hvs ?hfile ?sS ?T1 ?T2 ?T3 ?T4 ?htop ?hp ?har ?bB
    (case a0 => k_is)
    (case l0 => k_is)
    (case c0 => k_is)
    (case k0 => k_is)
    (case a1 => k_is)
    (case l1 => k_is)
    (case c1 => k_is)
    (case k1 => k_is)
    (case a2 => k_is)
    (case l2 => k_is)
    (case c2 => k_is)
    (case k2 => k_is)
    (case a3 => k_is)
    (case l3 => k_is)
    (case c3 => k_is)
    (case k3 => k_is)
    (case a4 => k_is)
    (case l4 => k_is)
    (case c4 => k_is)
    (case k4 => k_is)
    (case a5 => k_is)
    (case l5 => k_is)
    (case c5 => k_is)
    (case k5 => k_is)
    (case a6 => k_is)
    (case l6 => k_is)
    (case c6 => k_is)
    (case k6 => k_is)
    (case a7 => k_is)
    (case l7 => k_is)
    (case c7 => k_is)
    (case k7 => k_is)
    (case a8 => k_is)
    (case l8 => k_is)
    (case c8 => k_is)
    (case k8 => k_is)
    (case a9 => k_is)
    (case l9 => k_is)
    (case c9 => k_is)
    (case k9 => k_is)
    (case a10 => k_is)
    (case l10 => k_is)
    (case c10 => k_is)
    (case k10 => k_is)
    (case a11 => k_is)
    (case l11 => k_is)
    (case c11 => k_is)
    (case k11 => k_is)
    (case a12 => k_is)
    (case l12 => k_is)
    (case c12 => k_is)
    (case k12 => k_is)
    (case a13 => k_is)
    (case l13 => k_is)
    (case c13 => k_is)
    (case k13 => k_is)
    (case a14 => k_is)
    (case l14 => k_is)
    (case c14 => k_is)
    (case k14 => k_is)
    (case a15 => k_is)
    (case l15 => k_is)
    (case c15 => k_is)
    (case k15 => k_is)
    (case a16 => k_is)
    (case l16 => k_is)
    (case c16 => k_is)
    (case k16 => k_is)
    (case r1 => k_is)
    (case r2 => first | exact rfl | k_is)
    (case r3 => first | exact rfl | decide +kernel | k_is)
    (case r4 => first | exact rfl | decide +kernel | k_is)
    (case a17 => k_is)
    (case l17 => k_is)
    (case c17 => k_is)
    (case k17 => k_is)
    (case z0 => k_is)
    (case z1 => k_is)
    (case z2 => k_is)
    (case z3 => k_is)
    (case z4 => k_is)
    (case z5 => k_is)
    (case z6 => k_is)
    (case z7 => k_is)
    (case z8 => k_is)
    (case z9 => k_is)
    (case z10 => k_is)
    (case z11 => k_is)
    (case z12 => k_is)
    (case z13 => k_is)
    (case z14 => k_is)
    (case z15 => k_is)
    (case v0 => k_is)
    (case v1 => k_is)
    (case v2 => k_is)
    (case aD => k_is)
    (case aS => k_is)
    (case aN1 => k_is)
    (case aN2 => k_is)
    (case xL => k_is)
    (case sa => k_is)
    (case exC => k_is)
    (case tyC => k_is)
    (case kC => k_is)
    (case ga => k_is)
    (case gg => k_is)
    (case hdC => k_is)
    (case nv => k_is)
    (case ha => k_is)
    (case hn => k_is)
    (case ht => k_is)
    (case hm => k_is)
    (case su => first | k_is | exact rfl | decide +kernel)
    (case sb => first | k_is | exact rfl | decide +kernel)
    (case an => first | k_is | exact rfl | decide +kernel)
    (case ow => first | k_is | exact rfl | decide +kernel)
    (case e0 => first | k_is | exact rfl | decide +kernel)
    (case e1 => first | k_is | exact rfl | decide +kernel)
    (case e2 => first | k_is | exact rfl | decide +kernel)
    (case e3 => first | k_is | exact rfl | decide +kernel)
    (case iB => first | k_is | exact rfl | decide +kernel)
    (case tB => first | k_is | exact rfl | decide +kernel)
    (case lB => k_is)
    (case cB => k_is)
    (case hcell => k_is)
    (case hcode => k_is)
    (case hvs => exact rfl)
    (case hfile => first | exact rfl | decide +kernel | k_is)
    (case sS => exact ⟨rfl, rfl, rfl, rfl, rfl, rfl, rfl, by decide +kernel⟩)
    (case T1 => exact fun _ => rfl)
    (case T2 => exact fun _ => rfl)
    (case T3 => exact fun _ => rfl)
    (case T4 => exact fun _ => rfl)
    (case htop => first | exact rfl | decide +kernel | k_is)
    (case hp => exact rfl)
    (case har => exact rfl)
    (case bB => exact fun us hl => match us, hl with | [_, _], _ => rfl)
